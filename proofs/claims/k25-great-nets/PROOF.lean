import PyProof.Rows.All
import Wide.All
import OpenK.AllK
import Wide.FinOn
import HandS.ForMost
import HandS.TupAny
import HandS.TupMul
import HandS.TupLen
import HandS.DictComp
import HandS.SortRule
import HandS.SortInts
import HandS.Deep
import HandS.Flow
import HandS.IsInst
import HandS.Style
import HandS.Conv
import HandS.NoneIn
import KE.KDictOf
import KE.KDictKeyed
import HandS.More
import KE.SortData
import HandS.AnyAll
import HandS.SetFor
import HandS.Strs
import PySem.Challenge.RW_laidviews_k25_great_nets
set_option Elab.async false
set_option linter.all false
set_option maxRecDepth 100000
/-! Part A: data, what stands for it, the state of a def's run. -/
namespace M
open PySem L2

abbrev St := L2.St
/-- data, without addresses -/
inductive D where
  | non | bl (b : Bool) | int (i : Int) | str (s : Str)
  | tup (l : List D) | lst (l : List D) | scr (l : List D)
  | dK (l : List (Key × D)) | dT (l : List (List Key × D))
  deriving Inhabited

mutual
inductive R (K : PySem.W.Frag) (G : Hp) : V → D → Prop
  | non : R K G .non .non
  | bl (b : Bool) : R K G (.bl b) (.bl b)
  | int (i : Int) : R K G (.int i) (.int i)
  | str (s : Str) : R K G (.str s) (.str s)
  | tup {a : Addr} {xs : List V} {ds : List D} : G a = some (.tup xs) → xs.length ≤ sizeLine → RL K G xs ds → R K G (.ref a) (.tup ds)
  | lst {a : Addr} {xs : List V} {ds : List D} : G a = some (.lst xs) → xs.length ≤ sizeLine → RL K G xs ds → R K G (.ref a) (.lst ds)
  | scr {a : Addr} {xs : List V} {ds : List D} : SqL K G a xs → xs.length ≤ sizeLine → RL K G xs ds → R K G (.ref a) (.scr ds)
  | dK {a : Addr} {kvs : List (Key × V)} {ds : List (Key × D)} : G a = some (.dK kvs) → kvs.length ≤ sizeLine → kvs.map (·.1) = ds.map (·.1) → RL K G (kvs.map (·.2)) (ds.map (·.2)) → R K G (.ref a) (.dK ds)
  | dT {a : Addr} {kvs : List (List Key × V)} {ds : List (List Key × D)} : G a = some (.dT kvs) → kvs.length ≤ sizeLine → kvs.map (·.1) = ds.map (·.1) → RL K G (kvs.map (·.2)) (ds.map (·.2)) → R K G (.ref a) (.dT ds)
inductive RL (K : PySem.W.Frag) (G : Hp) : List V → List D → Prop
  | nil : RL K G [] []
  | cons {v : V} {vs : List V} {d : D} {ds : List D} : R K G v d → RL K G vs ds → RL K G (v :: vs) (d :: ds)
end

def Ext (G G' : Hp) : Prop := ∀ a o, G a = some o → G' a = some o
theorem Ext.refl (G : Hp) : Ext G G := fun _ _ h => h
theorem Ext.trans {G G1 G2 : Hp} (a : Ext G G1) (b : Ext G1 G2) : Ext G G2 := fun x o h => b x o (a x o h)
theorem Ext.new {G : Hp} {p : Addr} {o : HO} (h : G p = none) : Ext G (upd G p o) := fun a u e => by
  rw [upd_ne (ne_of_none e h)]; exact e
theorem Ext.sql {K : PySem.W.Frag} {G G' : Hp} {a : Addr} {xs : List V} (e : Ext G G') (h : SqL K G a xs) : SqL K G' a xs := by
  rcases h with (h | ⟨o, h⟩) | h
  · exact .inl (.inl (e _ _ h))
  · exact .inl (.inr ⟨o, e _ _ h⟩)
  · exact .inr h

section
variable {K : PySem.W.Frag} {G G' : Hp}
mutual
theorem R.mono (e : Ext G G') : ∀ {v : V} {d : D}, R K G v d → R K G' v d
  | _, _, .non => .non
  | _, _, .bl b => .bl b
  | _, _, .int i => .int i
  | _, _, .str s => .str s
  | _, _, .tup h l r => .tup (e _ _ h) l (RL.mono e r)
  | _, _, .lst h l r => .lst (e _ _ h) l (RL.mono e r)
  | _, _, .scr h l r => .scr (e.sql h) l (RL.mono e r)
  | _, _, .dK h l k r => .dK (e _ _ h) l k (RL.mono e r)
  | _, _, .dT h l k r => .dT (e _ _ h) l k (RL.mono e r)
theorem RL.mono (e : Ext G G') : ∀ {vs : List V} {ds : List D}, RL K G vs ds → RL K G' vs ds
  | _, _, .nil => .nil
  | _, _, .cons h t => .cons (R.mono e h) (RL.mono e t)
end
theorem RL.length : ∀ {vs : List V} {ds : List D}, RL K G vs ds → vs.length = ds.length
  | _, _, .nil => rfl
  | _, _, .cons _ t => by rw [List.length_cons, List.length_cons, RL.length t]
theorem RL.get : ∀ {vs : List V} {ds : List D} {i : Nat} {d : D}, RL K G vs ds → ds[i]? = some d → ∃ v, vs[i]? = some v ∧ R K G v d
  | _, _, _, _, .nil, e => by simp at e
  | _, _, 0, _, .cons h _, e => by simp at e; subst e; exact ⟨_, rfl, h⟩
  | _, _, i + 1, d, .cons _ t, e => by
    obtain ⟨v, h1, h2⟩ := RL.get (i := i) (d := d) t (by simpa using e)
    exact ⟨v, by simpa using h1, h2⟩
theorem RL.get' : ∀ {vs : List V} {ds : List D} {i : Nat} {v : V}, RL K G vs ds → vs[i]? = some v → ∃ d, ds[i]? = some d ∧ R K G v d
  | _, _, _, _, .nil, e => by simp at e
  | _, _, 0, _, .cons h _, e => by simp at e; subst e; exact ⟨_, rfl, h⟩
  | _, _, i + 1, d, .cons _ t, e => by
    obtain ⟨v, h1, h2⟩ := RL.get' (i := i) (v := d) t (by simpa using e)
    exact ⟨v, by simpa using h1, h2⟩
theorem RL.append : ∀ {vs ws : List V} {ds es : List D}, RL K G vs ds → RL K G ws es → RL K G (vs ++ ws) (ds ++ es)
  | _, _, _, _, .nil, s => s
  | _, _, _, _, .cons h t, s => .cons h (RL.append t s)
theorem RL.set : ∀ {vs : List V} {ds : List D} (i : Nat) {v : V} {d : D}, RL K G vs ds → R K G v d → RL K G (vs.set i v) (ds.set i d)
  | _, _, _, _, _, .nil, _ => .nil
  | _, _, 0, _, _, .cons _ t, r => .cons r t
  | _, _, i + 1, _, _, .cons h t, r => .cons h (RL.set i t r)
theorem RL.take : ∀ {vs : List V} {ds : List D} (n : Nat), RL K G vs ds → RL K G (vs.take n) (ds.take n)
  | _, _, 0, _ => .nil
  | _, _, _ + 1, .nil => .nil
  | _, _, n + 1, .cons h t => .cons h (RL.take n t)
theorem RL.drop : ∀ {vs : List V} {ds : List D} (n : Nat), RL K G vs ds → RL K G (vs.drop n) (ds.drop n)
  | _, _, 0, r => r
  | _, _, _ + 1, .nil => .nil
  | _, _, n + 1, .cons _ t => RL.drop n t
theorem RL.reverse {vs : List V} {ds : List D} (h : RL K G vs ds) : RL K G vs.reverse ds.reverse := by
  induction h using RL.rec (motive_1 := fun _ _ _ => True) with
  | nil => exact .nil
  | cons a t _ ih => rw [List.reverse_cons, List.reverse_cons]; exact RL.append ih (.cons a .nil)
  | _ => trivial
theorem RL.rep {vs : List V} {ds : List D} (h : RL K G vs ds) : ∀ k : Nat, RL K G (List.replicate k vs).flatten (List.replicate k ds).flatten
  | 0 => .nil
  | k + 1 => by
    rw [List.replicate_succ, List.replicate_succ, List.flatten_cons, List.flatten_cons]
    exact RL.append h (RL.rep h k)
theorem RL.erase : ∀ {vs : List V} {ds : List D} (i : Nat), RL K G vs ds → RL K G (vs.eraseIdx i) (ds.eraseIdx i)
  | _, _, _, .nil => .nil
  | _, _, 0, .cons _ t => t
  | _, _, i + 1, .cons h t => .cons h (RL.erase i t)
theorem RL.dropLast {vs : List V} {ds : List D} (h : RL K G vs ds) : RL K G vs.dropLast ds.dropLast := by
  rw [List.dropLast_eq_take, List.dropLast_eq_take, h.length]; exact RL.take _ h
end

/-- objects that are dicts -/
def isD : HO → Bool
  | .dK _ => true
  | .dT _ => true
  | _ => false
/-- G is a view of H: dicts of it may be locked in H -/
def Vw (G H : Hp) : Prop := ∀ a o, G a = some o → H a = some o ∨ (isD o = true ∧ ∃ x, H a = some (.frz x o))
theorem Vw.there {G H : Hp} (h : Vw G H) {a : Addr} {o : HO} (e : G a = some o) : H a ≠ none := by
  rcases h a o e with h | ⟨_, x, h⟩ <;> rw [h] <;> simp
theorem Vw.none {G H : Hp} (h : Vw G H) {a : Addr} (e : H a = none) : G a = Option.none := by
  cases q : G a with
  | none => rfl
  | some o => exact absurd e (h.there q)
theorem Vw.tup {G H : Hp} (h : Vw G H) {a : Addr} {xs : List V} (e : G a = some (.tup xs)) : H a = some (.tup xs) := by
  rcases h a _ e with h | ⟨h, _⟩
  · exact h
  · cases h
theorem Vw.lst {G H : Hp} (h : Vw G H) {a : Addr} {xs : List V} (e : G a = some (.lst xs)) : H a = some (.lst xs) := by
  rcases h a _ e with h | ⟨h, _⟩
  · exact h
  · cases h
theorem Vw.rd {G H : Hp} (h : Vw G H) {a : Addr} {o : HO} (e : G a = some o) : Rd H a o := by
  rcases h a _ e with h | ⟨_, x, h⟩
  · exact .inl h
  · exact .inr ⟨x, h⟩
theorem Vw.frz {G H : Hp} (h : Vw G H) {a : Addr} {x : Obj} {o : HO} (e : G a = some (.frz x o)) : H a = some (.frz x o) := by
  rcases h a _ e with h | ⟨h, _⟩
  · exact h
  · cases h
theorem Vw.sql {K : PySem.W.Frag} {G H : Hp} (h : Vw G H) {a : Addr} {xs : List V} (e : SqL K G a xs) : SqL K H a xs := by
  rcases e with (e | ⟨o, e⟩) | e
  · exact .inl (.inl (h.lst e))
  · exact .inl (.inr ⟨o, h.frz e⟩)
  · exact .inr e

/-- a slot of a def's frame: nothing known; data that stay; data at an object of the frame's own; at an object that the caller lent to be changed; at one lent to be read -/
inductive Sl where
  | no | imm (d : D) | own (d : D) | io (d : D) | bor (d : D)
  deriving Inhabited
abbrev Env := List Sl
structure Bs where
  H0 : Hp
  G0 : Hp
  Bo : Nat → Hp
  IO : List (Nat × Addr)

inductive Ow (K : PySem.W.Frag) (G H : Hp) (p : Addr) : D → Prop
  | lst {xs : List V} {ds : List D} : H p = some (.lst xs) → xs.length ≤ sizeLine → RL K G xs ds → Ow K G H p (.lst ds)
  | dK {kvs : List (Key × V)} {ds : List (Key × D)} : H p = some (.dK kvs) → kvs.length ≤ sizeLine → kvs.map (·.1) = ds.map (·.1) → RL K G (kvs.map (·.2)) (ds.map (·.2)) → Ow K G H p (.dK ds)
  | dT {kvs : List (List Key × V)} {ds : List (List Key × D)} : H p = some (.dT kvs) → kvs.length ≤ sizeLine → kvs.map (·.1) = ds.map (·.1) → RL K G (kvs.map (·.2)) (ds.map (·.2)) → Ow K G H p (.dT ds)
section
variable {K : PySem.W.Frag} {G G' H H' : Hp} {p : Addr} {d : D}
theorem Ow.mono (e : Ext G G') (h : Ow K G H p d) : Ow K G' H p d := by
  cases h with
  | lst a l r => exact .lst a l (r.mono e)
  | dK a l k r => exact .dK a l k (r.mono e)
  | dT a l k r => exact .dT a l k (r.mono e)
theorem Ow.at' (e : H' p = H p) (h : Ow K G H p d) : Ow K G H' p d := by
  cases h with
  | lst a l r => exact .lst (e.trans a) l r
  | dK a l k r => exact .dK (e.trans a) l k r
  | dT a l k r => exact .dT (e.trans a) l k r
/-- the object there -/
theorem Ow.obj (h : Ow K G H p d) : ∃ o, H p = some o ∧ Mut (some o) ∧ ∀ G', G' p = some o → Ext G G' → R K G' (.ref p) d := by
  cases h with
  | lst a l r => exact ⟨_, a, trivial, fun G' g e => .lst g l (r.mono e)⟩
  | dK a l k r => exact ⟨_, a, trivial, fun G' g e => .dK g l k (r.mono e)⟩
  | dT a l k r => exact ⟨_, a, trivial, fun G' g e => .dT g l k (r.mono e)⟩
end

/-- the slot i holds an object of the frame's own (or lent) at p -/
def OwnAt (δ : Env) (σ : St) (i : Nat) (p : Addr) : Prop := (∃ d, δ[i]? = some (.own d) ∨ δ[i]? = some (.io d)) ∧ σ[i]? = some (some (.ref p))

def SlOk (K : PySem.W.Frag) (B : Bs) (G H : Hp) (i : Nat) (ov : Option V) : Sl → Prop
  | .no => True
  | .imm d => ∃ v, ov = some v ∧ R K G v d
  | .own d => ∃ p, ov = some (.ref p) ∧ G p = none ∧ Ow K G H p d ∧ B.H0 p = none
  | .io d => ∃ p, ov = some (.ref p) ∧ G p = none ∧ Ow K G H p d ∧ (i, p) ∈ B.IO
  | .bor d => ∃ v, ov = some v ∧ R K (B.Bo i) v d

structure At (K : PySem.W.Frag) (B : Bs) (G : Hp) (δ : Env) (σ : St) (H : Hp) : Prop where
  vw : Vw G H
  g0 : Ext B.G0 G
  keep : ∀ a o, B.H0 a = some o → (∀ i, (i, a) ∉ B.IO) → H a = some o
  dom : ∀ a, B.H0 a ≠ none → H a ≠ none
  leak : ∀ a o, B.H0 a = some o → (∀ xs, o ≠ .tup xs) → B.G0 a = none → G a = none
  iok : ∀ i a, (i, a) ∈ B.IO → B.G0 a = none ∧ B.H0 a ≠ none ∧ (∀ j, B.Bo j a = none) ∧ ∃ o, H a = some o ∧ Mut (some o)
  bo : ∀ j, Vw (B.Bo j) H
  bod : ∀ j a, B.Bo j a ≠ none → B.H0 a ≠ none
  len : δ.length = σ.length
  sl : ∀ i s, δ[i]? = some s → ∃ ov, σ[i]? = some ov ∧ SlOk K B G H i ov s
  apart : ∀ i j p, OwnAt δ σ i p → OwnAt δ σ j p → i = j

section
variable {K : PySem.W.Frag} {B : Bs} {G G' H H' : Hp} {δ : Env} {σ : St} {i : Nat} {p : Addr} {o : HO} {d : D} {v : V}
theorem mut_notup (h : Mut (some o)) : ∀ xs, o ≠ .tup xs := fun xs e => by subst e; exact h
theorem At.imm (h : At K B G δ σ H) (e : δ[i]? = some (.imm d)) : ∃ v, σ[i]? = some (some v) ∧ R K G v d := by
  obtain ⟨ov, h1, v, rfl, r⟩ := h.sl i _ e
  exact ⟨v, h1, r⟩
theorem At.bor (h : At K B G δ σ H) (e : δ[i]? = some (.bor d)) : ∃ v, σ[i]? = some (some v) ∧ R K (B.Bo i) v d := by
  obtain ⟨ov, h1, v, rfl, r⟩ := h.sl i _ e
  exact ⟨v, h1, r⟩
theorem At.own (h : At K B G δ σ H) (e : δ[i]? = some (.own d)) : ∃ p, σ[i]? = some (some (.ref p)) ∧ G p = none ∧ Ow K G H p d ∧ B.H0 p = none := by
  obtain ⟨ov, h1, p, rfl, r⟩ := h.sl i _ e
  exact ⟨p, h1, r⟩
theorem At.io (h : At K B G δ σ H) (e : δ[i]? = some (.io d)) : ∃ p, σ[i]? = some (some (.ref p)) ∧ G p = none ∧ Ow K G H p d ∧ (i, p) ∈ B.IO := by
  obtain ⟨ov, h1, p, rfl, r⟩ := h.sl i _ e
  exact ⟨p, h1, r⟩
/-- own or lent -/
theorem At.ownAt (h : At K B G δ σ H) {j : Nat} (e : OwnAt δ σ j p) : G p = none ∧ ∃ d, Ow K G H p d := by
  obtain ⟨⟨d, e | e⟩, e2⟩ := e
  · obtain ⟨q, h1, h2, h3, _⟩ := h.own e
    rw [h1] at e2; cases e2
    exact ⟨h2, d, h3⟩
  · obtain ⟨q, h1, h2, h3, _⟩ := h.io e
    rw [h1] at e2; cases e2
    exact ⟨h2, d, h3⟩
theorem At.lt (h : At K B G δ σ H) {s : Sl} (e : δ[i]? = some s) : i < σ.length := by
  have := (List.getElem?_eq_some_iff.mp e).1
  rw [← h.len]; exact this
/-- H grows by an object that nobody knows -/
theorem At.alloc (h : At K B G δ σ H) (n : H p = none) : At K B G δ σ (upd H p o) := by
  have ne : ∀ a, H a ≠ none → a ≠ p := fun a q z => q (by rw [z]; exact n)
  have vw : ∀ F, Vw F H → Vw F (upd H p o) := fun F q a u e => by rw [upd_ne (ne a (q.there e))]; exact q a u e
  refine ⟨vw _ h.vw, h.g0, fun a u e z => ?_, fun a e => ?_, h.leak, fun i a e => ?_, fun j => vw _ (h.bo j), h.bod, h.len, fun i s e => ?_, h.apart⟩
  · have q := h.keep a u e z
    rw [upd_ne (ne a (by rw [q]; simp))]; exact q
  · rw [upd_ne (ne a (h.dom a e))]; exact h.dom a e
  · obtain ⟨a1, a2, a3, u, a4, a5⟩ := h.iok i a e
    exact ⟨a1, a2, a3, u, by rw [upd_ne (ne a (by rw [a4]; simp))]; exact a4, a5⟩
  · obtain ⟨ov, h1, h2⟩ := h.sl i s e
    refine ⟨ov, h1, ?_⟩
    cases s with
    | no => trivial
    | imm d => exact h2
    | bor d => exact h2
    | own d =>
      obtain ⟨q, a1, a2, a3, a4⟩ := h2
      obtain ⟨u, b1, _⟩ := a3.obj
      exact ⟨q, a1, a2, a3.at' (upd_ne (ne q (by rw [b1]; simp))), a4⟩
    | io d =>
      obtain ⟨q, a1, a2, a3, a4⟩ := h2
      obtain ⟨u, b1, _⟩ := a3.obj
      exact ⟨q, a1, a2, a3.at' (upd_ne (ne q (by rw [b1]; simp))), a4⟩
theorem At.fresh0 (h : At K B G δ σ H) (n : H p = none) : B.H0 p = none := by
  cases q : B.H0 p with
  | none => rfl
  | some u => exact absurd n (h.dom p (by rw [q]; simp))
theorem At.noOwn (h : At K B G δ σ H) (n : H p = none) : ∀ j, ¬ OwnAt δ σ j p := fun j e => by
  obtain ⟨_, d, w⟩ := h.ownAt e
  obtain ⟨u, b, _⟩ := w.obj
  rw [n] at b; cases b
/-- an object that H has, nobody's own, is told to be fixed -/
theorem At.fix (h : At K B G δ σ H) (e : H p = some o) (g : G p = none) (h0 : B.H0 p = none) (no : ∀ j, ¬ OwnAt δ σ j p) : At K B (upd G p o) δ σ H := by
  have ex : Ext G (upd G p o) := Ext.new g
  refine ⟨fun a u q => ?_, h.g0.trans ex, h.keep, h.dom, fun a u q t z => ?_, h.iok, h.bo, h.bod, h.len, fun i s q => ?_, h.apart⟩
  · by_cases c : a = p
    · subst c; rw [upd_same] at q; cases q; exact .inl e
    · rw [upd_ne c] at q; exact h.vw a u q
  · have c : a ≠ p := fun c => by rw [c, h0] at q; cases q
    rw [upd_ne c]; exact h.leak a u q t z
  · obtain ⟨ov, h1, h2⟩ := h.sl i s q
    refine ⟨ov, h1, ?_⟩
    cases s with
    | no => trivial
    | imm d => obtain ⟨v, a, r⟩ := h2; exact ⟨v, a, r.mono ex⟩
    | bor d => exact h2
    | own d =>
      obtain ⟨b, a1, a2, a3, a4⟩ := h2
      subst a1
      have c : b ≠ p := fun c => by subst c; exact no i ⟨⟨d, .inl q⟩, h1⟩
      exact ⟨b, rfl, by rw [upd_ne c]; exact a2, a3.mono ex, a4⟩
    | io d =>
      obtain ⟨b, a1, a2, a3, a4⟩ := h2
      subst a1
      have c : b ≠ p := fun c => by subst c; exact no i ⟨⟨d, .inr q⟩, h1⟩
      exact ⟨b, rfl, by rw [upd_ne c]; exact a2, a3.mono ex, a4⟩
/-- a new object, told to be fixed -/
theorem At.laid (h : At K B G δ σ H) (n : H p = none) : At K B (upd G p o) δ σ (upd H p o) :=
  (h.alloc n).fix upd_same (h.vw.none n) (h.fresh0 n) (h.noOwn n)
/-- tuples that H has may always be told -/
theorem At.tuple (h : At K B G δ σ H) {xs : List V} (e : H p = some (.tup xs)) : ∃ G', At K B G' δ σ H ∧ Ext G G' ∧ G' p = some (.tup xs) := by
  cases g : G p with
  | some u =>
    have q : u = .tup xs := by
      rcases h.vw p u g with z | ⟨_, x, z⟩
      · rw [e] at z; exact (Option.some.inj z).symm
      · rw [e] at z; cases z
    subst q
    exact ⟨G, h, Ext.refl G, g⟩
  | none =>
    have ex : Ext G (upd G p (.tup xs)) := Ext.new g
    have no : ∀ j, ¬ OwnAt δ σ j p := fun j q => by
      obtain ⟨_, d, w⟩ := h.ownAt q
      obtain ⟨u, b, m, _⟩ := w.obj
      rw [e] at b; cases b; exact m
    refine ⟨upd G p (.tup xs), ⟨fun a u q => ?_, h.g0.trans ex, h.keep, h.dom, fun a u q t z => ?_, h.iok, h.bo, h.bod, h.len, fun i s q => ?_, h.apart⟩, ex, upd_same⟩
    · by_cases c : a = p
      · subst c; rw [upd_same] at q; cases q; exact .inl e
      · rw [upd_ne c] at q; exact h.vw a u q
    · have c : a ≠ p := fun c => by
        subst c
        by_cases io : ∀ i, (i, a) ∉ B.IO
        · have := h.keep a u q io
          rw [e] at this; cases this
          exact t xs rfl
        · have ⟨i, io⟩ : ∃ i, (i, a) ∈ B.IO := Classical.byContradiction fun z => io fun i hi => z ⟨i, hi⟩
          obtain ⟨_, _, _, u', z1, z2⟩ := h.iok i a io
          rw [e] at z1; cases z1; exact z2
      rw [upd_ne c]; exact h.leak a u q t z
    · obtain ⟨ov, h1, h2⟩ := h.sl i s q
      refine ⟨ov, h1, ?_⟩
      cases s with
      | no => trivial
      | imm d => obtain ⟨v, a, r⟩ := h2; exact ⟨v, a, r.mono ex⟩
      | bor d => exact h2
      | own d =>
        obtain ⟨b, a1, a2, a3, a4⟩ := h2
        subst a1
        have c : b ≠ p := fun c => by subst c; exact no i ⟨⟨d, .inl q⟩, h1⟩
        exact ⟨b, rfl, by rw [upd_ne c]; exact a2, a3.mono ex, a4⟩
      | io d =>
        obtain ⟨b, a1, a2, a3, a4⟩ := h2
        subst a1
        have c : b ≠ p := fun c => by subst c; exact no i ⟨⟨d, .inr q⟩, h1⟩
        exact ⟨b, rfl, by rw [upd_ne c]; exact a2, a3.mono ex, a4⟩
theorem get_set {α : Type} {l : List α} {i j : Nat} {x y : α} (h : (l.set i x)[j]? = some y) : (i = j ∧ y = x ∧ i < l.length) ∨ (i ≠ j ∧ l[j]? = some y) := by
  by_cases c : i = j
  · subst c
    by_cases z : i < l.length
    · rw [List.getElem?_set_self z] at h; exact .inl ⟨rfl, (Option.some.inj h).symm, z⟩
    · rw [List.getElem?_eq_none (by rw [List.length_set]; omega)] at h; cases h
  · rw [List.getElem?_set_ne c] at h; exact .inr ⟨c, h⟩
/-- a slot is stored: data that stay -/
theorem At.setImm (h : At K B G δ σ H) (r : R K G v d) (i : Nat) : At K B G (δ.set i (.imm d)) (σ.set i (some v)) H := by
  refine ⟨h.vw, h.g0, h.keep, h.dom, h.leak, h.iok, h.bo, h.bod, by rw [List.length_set, List.length_set]; exact h.len, fun j s e => ?_, fun j k p e1 e2 => ?_⟩
  · rcases get_set e with ⟨rfl, rfl, z⟩ | ⟨c, e⟩
    · exact ⟨some v, List.getElem?_set_self (by rw [← h.len]; exact z), v, rfl, r⟩
    · obtain ⟨ov, h1, h2⟩ := h.sl j s e
      exact ⟨ov, by rw [List.getElem?_set_ne c]; exact h1, h2⟩
  · have back : ∀ j, OwnAt (δ.set i (.imm d)) (σ.set i (some v)) j p → OwnAt δ σ j p := fun j e => by
      obtain ⟨⟨d', e | e⟩, e2⟩ := e
      · rcases get_set e with ⟨_, q, _⟩ | ⟨c, e⟩
        · cases q
        · rw [List.getElem?_set_ne c] at e2; exact ⟨⟨d', .inl e⟩, e2⟩
      · rcases get_set e with ⟨_, q, _⟩ | ⟨c, e⟩
        · cases q
        · rw [List.getElem?_set_ne c] at e2; exact ⟨⟨d', .inr e⟩, e2⟩
    exact h.apart j k p (back j e1) (back k e2)
/-- .. an object of its own -/
theorem At.setOwn (h : At K B G δ σ H) (g : G p = none) (w : Ow K G H p d) (h0 : B.H0 p = none) (no : ∀ j, ¬ OwnAt δ σ j p) (i : Nat) : At K B G (δ.set i (.own d)) (σ.set i (some (.ref p))) H := by
  refine ⟨h.vw, h.g0, h.keep, h.dom, h.leak, h.iok, h.bo, h.bod, by rw [List.length_set, List.length_set]; exact h.len, fun j s e => ?_, fun j k q e1 e2 => ?_⟩
  · rcases get_set e with ⟨rfl, rfl, z⟩ | ⟨c, e⟩
    · exact ⟨some (.ref p), List.getElem?_set_self (by rw [← h.len]; exact z), p, rfl, g, w, h0⟩
    · obtain ⟨ov, h1, h2⟩ := h.sl j s e
      exact ⟨ov, by rw [List.getElem?_set_ne c]; exact h1, h2⟩
  · have back : ∀ j, OwnAt (δ.set i (.own d)) (σ.set i (some (.ref p))) j q → (i = j ∧ q = p) ∨ (i ≠ j ∧ OwnAt δ σ j q) := fun j e => by
      obtain ⟨⟨d', e⟩, e2⟩ := e
      by_cases c : i = j
      · subst c
        rcases get_set e2 with ⟨_, q2, _⟩ | ⟨c, _⟩
        · cases q2; exact .inl ⟨rfl, rfl⟩
        · exact absurd rfl c
      · rw [List.getElem?_set_ne c] at e2
        refine .inr ⟨c, ⟨d', ?_⟩, e2⟩
        rcases e with e | e
        · rw [List.getElem?_set_ne c] at e; exact .inl e
        · rw [List.getElem?_set_ne c] at e; exact .inr e
    rcases back j e1 with ⟨a1, a2⟩ | ⟨a1, a2⟩ <;> rcases back k e2 with ⟨b1, b2⟩ | ⟨b1, b2⟩
    · omega
    · subst a2; exact absurd b2 (no k)
    · subst b2; exact absurd a2 (no j)
    · exact h.apart j k q a2 b2
/-- forgetting -/
theorem At.forget (h : At K B G δ σ H) {δ' : Env} {σ' : St} (hl : δ'.length = σ'.length) (w : ∀ (i : Nat) (s : Sl), δ'[i]? = some s → s = Sl.no ∨ (δ[i]? = some s ∧ σ'[i]? = σ[i]?)) : At K B G δ' σ' H := by
  refine ⟨h.vw, h.g0, h.keep, h.dom, h.leak, h.iok, h.bo, h.bod, hl, fun j s e => ?_, fun j k q e1 e2 => ?_⟩
  · rcases w j s e with rfl | ⟨e1, e2⟩
    · have : j < σ'.length := by rw [← hl]; exact (List.getElem?_eq_some_iff.mp e).1
      exact ⟨σ'[j], List.getElem?_eq_getElem this, trivial⟩
    · obtain ⟨ov, h1, h2⟩ := h.sl j s e1
      exact ⟨ov, e2.trans h1, h2⟩
  · have back : ∀ j, OwnAt δ' σ' j q → OwnAt δ σ j q := fun j e => by
      obtain ⟨⟨d', e | e⟩, e2⟩ := e
      · rcases w j _ e with z | ⟨z1, z2⟩
        · cases z
        · exact ⟨⟨d', .inl z1⟩, z2 ▸ e2⟩
      · rcases w j _ e with z | ⟨z1, z2⟩
        · cases z
        · exact ⟨⟨d', .inr z1⟩, z2 ▸ e2⟩
    exact h.apart j k q (back j e1) (back k e2)
/-- a slot's own object is told to be fixed from now on -/
theorem At.freeze (h : At K B G δ σ H) (e : δ[i]? = some (.own d)) : ∃ G' p, σ[i]? = some (some (.ref p)) ∧ R K G' (.ref p) d ∧ Ext G G' ∧ At K B G' (δ.set i (.imm d)) σ H := by
  obtain ⟨p, h1, h2, h3, h4⟩ := h.own e
  obtain ⟨o, b1, _, b2⟩ := h3.obj
  have ex : Ext G (upd G p o) := Ext.new h2
  have hf : At K B G (δ.set i .no) σ H := h.forget (by rw [List.length_set]; exact h.len) fun j s q => by
    rcases get_set q with ⟨rfl, rfl, _⟩ | ⟨c, q⟩
    · exact .inl rfl
    · exact .inr ⟨q, rfl⟩
  have hg := hf.fix b1 h2 h4 (fun j q => by
    have c : i ≠ j := fun c => by
      subst c
      obtain ⟨⟨d', z | z⟩, _⟩ := q
      · rcases get_set z with ⟨_, y, _⟩ | ⟨y, _⟩
        · cases y
        · exact y rfl
      · rcases get_set z with ⟨_, y, _⟩ | ⟨y, _⟩
        · cases y
        · exact y rfl
    have q' : OwnAt δ σ j p := by
      obtain ⟨⟨d', z⟩, y⟩ := q
      rw [List.getElem?_set_ne c] at z
      exact ⟨⟨d', z⟩, y⟩
    exact c (h.apart i j p ⟨⟨d, .inl e⟩, h1⟩ q'))
  have hr : R K (upd G p o) (.ref p) d := b2 _ upd_same ex
  refine ⟨upd G p o, p, h1, hr, ex, ?_⟩
  have hi := hg.setImm hr i
  rw [List.set_set] at hi
  have : σ.set i (some (.ref p)) = σ := by
    apply List.ext_getElem?
    intro j
    by_cases c : i = j
    · subst c
      rw [List.getElem?_set_self (h.lt e)]; exact h1.symm
    · rw [List.getElem?_set_ne c]
  rw [this] at hi
  exact hi
/-- an own (or lent) object is changed -/
theorem At.change (h : At K B G δ σ H) {d' : D} {s s' : Sl} (e : δ[i]? = some s) (hs : (s = .own d ∧ s' = .own d') ∨ (s = .io d ∧ s' = .io d')) (hp : σ[i]? = some (some (.ref p))) (m : Mut (some o)) (w : Ow K G (upd H p o) p d') :
    At K B G (δ.set i s') σ (upd H p o) := by
  have oa : OwnAt δ σ i p := by
    rcases hs with ⟨rfl, _⟩ | ⟨rfl, _⟩
    · exact ⟨⟨d, .inl e⟩, hp⟩
    · exact ⟨⟨d, .inr e⟩, hp⟩
  obtain ⟨gp, dd, w0⟩ := h.ownAt oa
  obtain ⟨o0, hp0, m0, _⟩ := w0.obj
  have back : ∀ j q, OwnAt (δ.set i s') σ j q → OwnAt δ σ j q := fun j q z => by
    by_cases c : i = j
    · subst c
      obtain ⟨_, z2⟩ := z
      rw [hp] at z2; cases z2; exact oa
    · obtain ⟨⟨d', z⟩, y⟩ := z
      rw [List.getElem?_set_ne c] at z
      exact ⟨⟨d', z⟩, y⟩
  have bop : ∀ j, B.Bo j p = none := fun j => by
    rcases hs with ⟨rfl, _⟩ | ⟨rfl, _⟩
    · obtain ⟨q, h1, _, _, h4⟩ := h.own e
      rw [hp] at h1; cases h1
      cases z : B.Bo j p with
      | none => rfl
      | some u => exact absurd h4 (h.bod j p (by rw [z]; simp))
    · obtain ⟨q, h1, _, _, h4⟩ := h.io e
      rw [hp] at h1; cases h1
      exact (h.iok i p h4).2.2.1 j
  refine ⟨fun a u q => ?_, h.g0, fun a u q z => ?_, fun a q => ?_, h.leak, fun j a q => ?_, fun jj a u q => ?_, h.bod, by rw [List.length_set]; exact h.len, fun j t q => ?_, fun j k q e1 e2 => h.apart j k q (back j q e1) (back k q e2)⟩
  · rw [upd_ne (fun c => by rw [c, gp] at q; cases q)]; exact h.vw a u q
  · have c : a ≠ p := fun c => by
      subst c
      rcases hs with ⟨rfl, _⟩ | ⟨rfl, _⟩
      · obtain ⟨b, h1, _, _, h4⟩ := h.own e
        rw [hp] at h1; cases h1
        rw [h4] at q; cases q
      · obtain ⟨b, h1, _, _, h4⟩ := h.io e
        rw [hp] at h1; cases h1
        exact z i h4
    rw [upd_ne c]; exact h.keep a u q z
  · by_cases c : a = p
    · rw [c, upd_same]; simp
    · rw [upd_ne c]; exact h.dom a q
  · obtain ⟨a1, a2, a3, u, a4, a5⟩ := h.iok j a q
    refine ⟨a1, a2, a3, ?_⟩
    by_cases c : a = p
    · exact ⟨o, by rw [c, upd_same], m⟩
    · exact ⟨u, by rw [upd_ne c]; exact a4, a5⟩
  · rw [upd_ne (fun c => by rw [c, bop] at q; cases q)]; exact h.bo jj a u q
  · rcases get_set q with ⟨rfl, rfl, _⟩ | ⟨c, q⟩
    · refine ⟨some (.ref p), hp, ?_⟩
      rcases hs with ⟨rfl, rfl⟩ | ⟨rfl, rfl⟩
      · obtain ⟨b, h1, _, _, h4⟩ := h.own e
        rw [hp] at h1; cases h1
        exact ⟨p, rfl, gp, w, h4⟩
      · obtain ⟨b, h1, _, _, h4⟩ := h.io e
        rw [hp] at h1; cases h1
        exact ⟨p, rfl, gp, w, h4⟩
    · obtain ⟨ov, h1, h2⟩ := h.sl j t q
      refine ⟨ov, h1, ?_⟩
      cases t with
      | no => trivial
      | imm d => exact h2
      | bor d => exact h2
      | own d =>
        obtain ⟨b, a1, a2, a3, a4⟩ := h2
        subst a1
        have cb : b ≠ p := fun cb => by subst cb; exact c (h.apart i j b oa ⟨⟨d, .inl q⟩, h1⟩)
        exact ⟨b, rfl, a2, a3.at' (upd_ne cb), a4⟩
      | io d =>
        obtain ⟨b, a1, a2, a3, a4⟩ := h2
        subst a1
        have cb : b ≠ p := fun cb => by subst cb; exact c (h.apart i j b oa ⟨⟨d, .inr q⟩, h1⟩)
        exact ⟨b, rfl, a2, a3.at' (upd_ne cb), a4⟩
end
end M

set_option Elab.async false
set_option linter.all false
set_option maxRecDepth 100000
/-! Part B: the mirror's monad, the judgements, the base. -/
namespace M
open PySem L2 PySem.Spec PyProof.Rows

structure Exn where
  cls : Str
  val : D
abbrev Mo (α : Type) := Env → Option (Except Exn α × Env)
def Mo.ret {α : Type} (a : α) : Mo α := fun δ => some (.ok a, δ)
def Mo.bind {α β : Type} (m : Mo α) (k : α → Mo β) : Mo β := fun δ => match m δ with
  | none => none
  | some (.error x, δ') => some (.error x, δ')
  | some (.ok a, δ') => k a δ'
def Mo.lift {α : Type} (o : Option α) : Mo α := fun δ => match o with
  | none => none
  | some a => some (.ok a, δ)
theorem bind_ok {α β : Type} {m : Mo α} {k : α → Mo β} {δ δ1 : Env} {a : α} (h : m δ = some (.ok a, δ1)) : Mo.bind m k δ = k a δ1 := by unfold Mo.bind; rw [h]
theorem lift_some {α : Type} {o : Option α} {δ : Env} {r : Except Exn α × Env} (h : Mo.lift o δ = some r) : ∃ a, o = some a ∧ r = (.ok a, δ) := by
  unfold Mo.lift at h
  cases o with
  | none => cases h
  | some a => exact ⟨a, rfl, (Option.some.inj h).symm⟩

/-- what is wanted where an exception leaves -/
abbrev WK := Exn → Env → St → Hp → Hp → Prop
def W0 : WK := fun _ _ _ _ _ => False

def Post {α : Type} (K : PySem.W.Frag) (W : WK) (B : Bs) (G : Hp) (σ : St) (r : Except Exn α) (δ' : Env) (ok : α → Hp → Hp → Prop) : Prop := match r with
  | .ok a => ∀ G' H', At K B G' δ' σ H' → Ext G G' → ok a G' H'
  | .error x => ∀ G' σ' H', At K B G' δ' σ' H' → Ext G G' → W x δ' σ' G' H'
theorem Post.mono {α : Type} {K : PySem.W.Frag} {W : WK} {B : Bs} {G G1 : Hp} {σ : St} {r : Except Exn α} {δ' : Env} {ok : α → Hp → Hp → Prop} (h : Post K W B G σ r δ' ok) (e : Ext G G1) : Post K W B G1 σ r δ' ok := by
  cases r with
  | ok a => exact fun G' H' a1 e1 => h G' H' a1 (e.trans e1)
  | error x => exact fun G' σ' H' a1 e1 => h G' σ' H' a1 (e.trans e1)

/-- a result of its own: a new object that nobody else has -/
def Fr1 (K : PySem.W.Frag) (B : Bs) (G : Hp) (δ : Env) (σ : St) (H : Hp) (p : Addr) (d : D) : Prop := G p = none ∧ B.H0 p = none ∧ (∀ j, ¬ OwnAt δ σ j p) ∧ Ow K G H p d

def tE (K : PySem.W.Frag) (W : WK) (E : Mo D) : TE := fun σ H Q => ∃ B G δ r δ', At K B G δ σ H ∧ E δ = some (r, δ') ∧ Post K W B G σ r δ' (fun d G' H' => ∀ v, R K G' v d → Q v H')
def tO (K : PySem.W.Frag) (W : WK) (E : Mo D) : TE := fun σ H Q => ∃ B G δ r δ', At K B G δ σ H ∧ E δ = some (r, δ') ∧ Post K W B G σ r δ' (fun d G' H' => ∀ p, Fr1 K B G' δ' σ H' p d → Q (.ref p) H')
def tT (K : PySem.W.Frag) (W : WK) (T : Mo Bool) : TT := fun σ H Q => ∃ B G δ r δ', At K B G δ σ H ∧ T δ = some (r, δ') ∧ Post K W B G σ r δ' (fun b G' H' => Q b H')
/-- an argument: data; a slot's object to be changed; a slot's object to be read -/
inductive Ag where
  | im (d : D) | vr (i : Nat) | vb (i : Nat)
def AgOk (K : PySem.W.Frag) (G : Hp) (σ : St) (v : V) : Ag → Prop
  | .im d => R K G v d
  | .vr i => σ[i]? = some (some v)
  | .vb i => σ[i]? = some (some v)
abbrev AgsOk (K : PySem.W.Frag) (G : Hp) (σ : St) : List V → List Ag → Prop := Paired (AgOk K G σ)
def tA (K : PySem.W.Frag) (W : WK) (A : Mo (List Ag)) : TA := fun σ H Q => ∃ B G δ r δ', At K B G δ σ H ∧ A δ = some (r, δ') ∧ Post K W B G σ r δ' (fun as G' H' => ∀ vs, AgsOk K G' σ vs as → Q vs H')

section
variable (X : Cx) (W : WK)
def DE (e : Expr) (E : Mo D) : Prop := PE X e (tE X.K W E)
def DO (e : Expr) (E : Mo D) : Prop := PE X e (tO X.K W E)
def DT (e : Expr) (T : Mo Bool) : Prop := PT X e (tT X.K W T)
def DW (e : Expr) (T : Mo Bool) : Prop := PW X e (tT X.K W T)
def DA (es : List Expr) (A : Mo (List Ag)) : Prop := PA X es (tA X.K W A)
end

section
variable {K : PySem.W.Frag} {W : WK} {B : Bs} {G G' H H' : Hp} {δ δ' : Env} {σ : St} {α β : Type} {r : Except Exn β} {ok : β → Hp → Hp → Prop}
theorem tE_bind {E : Mo D} {k : D → Mo β} {Q : VK} (a : At K B G δ σ H) (h : Mo.bind E k δ = some (r, δ')) (post : Post K W B G σ r δ' ok)
    (q : ∀ v H1 G1 δ1 d, At K B G1 δ1 σ H1 → Ext G G1 → R K G1 v d → k d δ1 = some (r, δ') → Post K W B G1 σ r δ' ok → Q v H1) : tE K W E σ H Q := by
  unfold Mo.bind at h
  cases e : E δ with
  | none => rw [e] at h; cases h
  | some z =>
    obtain ⟨x, δ1⟩ := z
    rw [e] at h
    cases x with
    | error x => cases h; exact ⟨B, G, δ, .error x, _, a, e, post⟩
    | ok d => exact ⟨B, G, δ, .ok d, δ1, a, e, fun G1 H1 a1 e1 v rv => q v H1 G1 δ1 d a1 e1 rv h (post.mono e1)⟩
theorem tO_bind {E : Mo D} {k : D → Mo β} {Q : VK} (a : At K B G δ σ H) (h : Mo.bind E k δ = some (r, δ')) (post : Post K W B G σ r δ' ok)
    (q : ∀ p H1 G1 δ1 d, At K B G1 δ1 σ H1 → Ext G G1 → Fr1 K B G1 δ1 σ H1 p d → k d δ1 = some (r, δ') → Post K W B G1 σ r δ' ok → Q (.ref p) H1) : tO K W E σ H Q := by
  unfold Mo.bind at h
  cases e : E δ with
  | none => rw [e] at h; cases h
  | some z =>
    obtain ⟨x, δ1⟩ := z
    rw [e] at h
    cases x with
    | error x => cases h; exact ⟨B, G, δ, .error x, _, a, e, post⟩
    | ok d => exact ⟨B, G, δ, .ok d, δ1, a, e, fun G1 H1 a1 e1 v rv => q v H1 G1 δ1 d a1 e1 rv h (post.mono e1)⟩
theorem tT_bind {E : Mo Bool} {k : Bool → Mo β} {Q : Bool → Hp → Prop} (a : At K B G δ σ H) (h : Mo.bind E k δ = some (r, δ')) (post : Post K W B G σ r δ' ok)
    (q : ∀ H1 G1 δ1 d, At K B G1 δ1 σ H1 → Ext G G1 → k d δ1 = some (r, δ') → Post K W B G1 σ r δ' ok → Q d H1) : tT K W E σ H Q := by
  unfold Mo.bind at h
  cases e : E δ with
  | none => rw [e] at h; cases h
  | some z =>
    obtain ⟨x, δ1⟩ := z
    rw [e] at h
    cases x with
    | error x => cases h; exact ⟨B, G, δ, .error x, _, a, e, post⟩
    | ok d => exact ⟨B, G, δ, .ok d, δ1, a, e, fun G1 H1 a1 e1 => q H1 G1 δ1 d a1 e1 h (post.mono e1)⟩
theorem tA_bind {E : Mo (List Ag)} {k : List Ag → Mo β} {Q : List V → Hp → Prop} (a : At K B G δ σ H) (h : Mo.bind E k δ = some (r, δ')) (post : Post K W B G σ r δ' ok)
    (q : ∀ vs H1 G1 δ1 d, At K B G1 δ1 σ H1 → Ext G G1 → AgsOk K G1 σ vs d → k d δ1 = some (r, δ') → Post K W B G1 σ r δ' ok → Q vs H1) : tA K W E σ H Q := by
  unfold Mo.bind at h
  cases e : E δ with
  | none => rw [e] at h; cases h
  | some z =>
    obtain ⟨x, δ1⟩ := z
    rw [e] at h
    cases x with
    | error x => cases h; exact ⟨B, G, δ, .error x, _, a, e, post⟩
    | ok d => exact ⟨B, G, δ, .ok d, δ1, a, e, fun G1 H1 a1 e1 v rv => q v H1 G1 δ1 d a1 e1 rv h (post.mono e1)⟩
end

section
variable {X : Cx} {W : WK} {e a b c : Expr} {pos : Pos} {E Ea Eb Ec : Mo D} {T Ta Tb : Mo Bool}
theorem PE.weak {t t' : TE} (h : PE X e t) (w : ∀ σ H Q, t' σ H Q → t σ H Q) : PE X e t' := ⟨fun pins s σ H Q I q => h.run pins s σ H Q I (w σ H Q q)⟩
theorem PT.weak {t t' : TT} (h : PT X e t) (w : ∀ σ H Q, t' σ H Q → t σ H Q) : PT X e t' := ⟨fun pins s σ H Q I q => h.run pins s σ H Q I (w σ H Q q)⟩
theorem PW.weak {t t' : TT} (h : PW X e t) (w : ∀ σ H Q, t' σ H Q → t σ H Q) : PW X e t' := ⟨fun wh pins s σ H Q I q => h.run wh pins s σ H Q I (w σ H Q q)⟩
theorem PA.weak {es : List Expr} {t t' : TA} (h : PA X es t) (w : ∀ σ H Q, t' σ H Q → t σ H Q) : PA X es t' := ⟨fun po pins s σ H Q I q => h.run po pins s σ H Q I (w σ H Q q)⟩
theorem PS.weak {st : Stmt} {t t' : TS} (h : PS X st t) (w : ∀ D σ H, t' D σ H → t D σ H) : PS X st t' := ⟨fun pins s σ H D I q => h.run pins s σ H D I (w D σ H q)⟩
theorem PSs.weak {st : List Stmt} {t t' : TS} (h : PSs X st t) (w : ∀ D σ H, t' D σ H → t D σ H) : PSs X st t' := ⟨fun pins s σ H D I q => h.run pins s σ H D I (w D σ H q)⟩
theorem PE.or {t u : TE} (h : PE X e t) (h' : PE X e u) : PE X e (fun σ H Q => t σ H Q ∨ u σ H Q) := ⟨fun pins s σ H Q I q => q.elim (h.run pins s σ H Q I) (h'.run pins s σ H Q I)⟩
theorem PS.or {st : Stmt} {t u : TS} (h : PS X st t) (h' : PS X st u) : PS X st (fun D σ H => t D σ H ∨ u D σ H) := ⟨fun pins s σ H D I q => q.elim (h.run pins s σ H D I) (h'.run pins s σ H D I)⟩
theorem PI.or {tg it : Expr} {t u : TI} (h : PI X tg it t) (h' : PI X tg it u) : PI X tg it (fun σ H R => t σ H R ∨ u σ H R) := ⟨fun pins s σ H R I q => q.elim (h.run pins s σ H R I) (h'.run pins s σ H R I)⟩
theorem PG.or {tg : Expr} {t u : TG} (h : PG X tg t) (h' : PG X tg u) : PG X tg (fun v σ H Q => t v σ H Q ∨ u v σ H Q) := ⟨fun pins s σ H v uu Q I rv q => q.elim (h.run pins s σ H v uu Q I rv) (h'.run pins s σ H v uu Q I rv)⟩

/-- a new object as data -/
theorem DO.de (h : DO X W e E) : DE X W e E := PE.weak h fun σ H Q ⟨B, G, δ, r, δ', a, e1, post⟩ => by
  refine ⟨B, G, δ, r, δ', a, e1, ?_⟩
  cases r with
  | error x => exact post
  | ok d =>
    refine fun G' H' a' ex p hp => ?_
    obtain ⟨h1, h2, h3, h4⟩ := hp
    obtain ⟨o, q1, _, q2⟩ := h4.obj
    exact post (upd G' p o) H' (a'.fix q1 h1 h2 h3) (ex.trans (Ext.new h1)) (.ref p) (q2 _ upd_same (Ext.new h1))

/-! ### constants, names -/
def eC (d : D) : Mo D := Mo.ret d
theorem de_c {v : V} {d : D} (h : PE X e (tC v)) (hr : ∀ G, R X.K G v d) : DE X W e (eC d) := PE.weak h fun σ H Q ⟨B, G, δ, r, δ', a, e1, post⟩ => by
  cases e1
  exact post G H a (Ext.refl G) v (hr G)
theorem de_int {i j} : DE X W (.Constant (.int i) j pos) (eC (.int i)) := de_c pe_int fun _ => .int i
theorem de_bl {i j} : DE X W (.Constant (.bool i) j pos) (eC (.bl i)) := de_c pe_bl fun _ => .bl i
theorem de_non {j} : DE X W (.Constant .none j pos) (eC .non) := de_c pe_non fun _ => .non
theorem de_str {x j} : DE X W (.Constant (.str x) j pos) (eC (.str x)) := de_c pe_str fun _ => .str x
/-- a name: what a slot holds; an object of its own is fixed by that -/
def flatD : D → Bool
  | .non => true | .bl _ => true | .int _ => true | .str _ => true
  | _ => false
theorem R.flat {K : PySem.W.Frag} {G G' : Hp} {v : V} {d : D} (h : R K G v d) (f : flatD d = true) : R K G' v d := by
  cases h with
  | non => exact .non
  | bl b => exact .bl b
  | int i => exact .int i
  | str s => exact .str s
  | _ => cases f
def eV (i : Nat) : Mo D := fun δ => match δ[i]? with
  | some (.imm d) => some (.ok d, δ)
  | some (.own d) => some (.ok d, δ.set i (.imm d))
  | some (.bor d) => if flatD d then some (.ok d, δ) else none
  | _ => none
theorem de_v {i : Nat} (h : PE X e (tVar i)) : DE X W e (eV i) := PE.weak h fun σ H Q ⟨B, G, δ, r, δ', a, e1, post⟩ => by
  unfold eV at e1
  split at e1
  · rename_i d h
    cases e1
    obtain ⟨v, h1, h2⟩ := a.imm h
    exact ⟨v, h1, post G H a (Ext.refl G) v h2⟩
  · rename_i d h
    cases e1
    obtain ⟨G', p, h1, h2, h3, h4⟩ := a.freeze h
    exact ⟨.ref p, h1, post G' H h4 h3 _ h2⟩
  · rename_i d h
    split at e1
    · rename_i f
      cases e1
      obtain ⟨v, h1, h2⟩ := a.bor h
      exact ⟨v, h1, post G H a (Ext.refl G) v (h2.flat f)⟩
    · cases e1
  · cases e1

/-! ### operators -/
/-- a rule by values that gives f -/
def Snd2 (K : PySem.W.Frag) (f : D → D → Option D) (r : R2) : Prop := ∀ (B : Bs) (G H : Hp) (δ : Env) (σ : St) (x y : V) (a b d : D) (Q : VK), At K B G δ σ H → R K G x a → R K G y b → f a b = some d →
  (∀ v G' H', At K B G' δ σ H' → Ext G G' → R K G' v d → Q v H') → r x y H Q
def eBin (f : D → D → Option D) (A B : Mo D) : Mo D := A.bind fun x => B.bind fun y => Mo.lift (f x y)
theorem de_tOp {f : D → D → Option D} {r : R2} (hf : Snd2 X.K f r) (h : PE X e (tOp r (tE X.K W Ea) (tE X.K W Eb))) : DE X W e (eBin f Ea Eb) := PE.weak h fun σ H Q ⟨B, G, δ, r', δ', a, e1, post⟩ => by
  refine tE_bind a e1 post fun v H1 G1 δ1 d a1 x1 r1 e2 post => ?_
  refine tE_bind a1 e2 post fun w H2 G2 δ2 d2 a2 x2 r2 e3 post => ?_
  obtain ⟨z, hz, hr⟩ := lift_some e3
  cases hr
  exact hf B G2 H2 δ' σ v w d d2 z Q a2 (r1.mono x2) r2 hz fun v G' H' a' x' r' => post G' H' a' x' v r'
theorem de_bin {op : Operator} {f : D → D → Option D} {r : R2} (ho : OpR X (binaryOp op) r) (hf : Snd2 X.K f r) (ha : DE X W a Ea) (hb : DE X W b Eb) : DE X W (.BinOp a op b pos) (eBin f Ea Eb) := de_tOp hf (pe_op ho ha hb)
theorem de_cmp {op : CmpOp} {f : D → D → Option D} {r : R2} (ho : OpR X (compareOp op) r) (hf : Snd2 X.K f r) (ha : DE X W a Ea) (hb : DE X W b Eb) (hm : behindInMarks op b = false) : DE X W (.Compare a [op] [b] pos) (eBin f Ea Eb) := de_tOp hf (pe_cmpR ho ha hb hm)
/-- the same, its value a new object of its own -/
def Snd2O (K : PySem.W.Frag) (f : D → D → Option D) (r : R2) : Prop := ∀ (B : Bs) (G H : Hp) (δ : Env) (σ : St) (x y : V) (a b d : D) (Q : VK), At K B G δ σ H → R K G x a → R K G y b → f a b = some d →
  (∀ p H', At K B G δ σ H' → Fr1 K B G δ σ H' p d → Q (.ref p) H') → r x y H Q
theorem do_tOp {f : D → D → Option D} {r : R2} (hf : Snd2O X.K f r) (h : PE X e (tOp r (tE X.K W Ea) (tE X.K W Eb))) : DO X W e (eBin f Ea Eb) := PE.weak h fun σ H Q ⟨B, G, δ, r', δ', a, e1, post⟩ => by
  refine tE_bind a e1 post fun v H1 G1 δ1 d a1 x1 r1 e2 post => ?_
  refine tE_bind a1 e2 post fun w H2 G2 δ2 d2 a2 x2 r2 e3 post => ?_
  obtain ⟨z, hz, hr⟩ := lift_some e3
  cases hr
  exact hf B G2 H2 δ' σ v w d d2 z Q a2 (r1.mono x2) r2 hz fun p H3 a3 w3 => post G2 H3 a3 (Ext.refl _) p w3
/-- an object just laid -/
theorem At.own1 {K : PySem.W.Frag} {B : Bs} {G H : Hp} {δ : Env} {σ : St} {p : Addr} {o : HO} {d : D} (a : At K B G δ σ H) (n : H p = none) (w : Ow K G (upd H p o) p d) : At K B G δ σ (upd H p o) ∧ Fr1 K B G δ σ (upd H p o) p d :=
  ⟨a.alloc n, a.vw.none n, a.fresh0 n, a.noOwn n, w⟩

/-! ### tests -/
def dTru : D → Option Bool
  | .non => some false
  | .bl b => some b
  | .int i => some (i != 0)
  | .str y => if y.length ≤ sizeLine then some ((y.length : Int) != 0) else none
  | .tup l => some (!l.isEmpty)
  | .lst l => some (!l.isEmpty)
  | .scr l => some (!l.isEmpty)
  | .dK l => some (!l.isEmpty)
  | .dT l => some (!l.isEmpty)
def eTru (E : Mo D) : Mo Bool := E.bind fun d => Mo.lift (dTru d)
theorem truthy_dictH {prog : Program} {w : World} {κ : Type} [DecidableEq κ] {knd : HeapKind prog w κ} {A : Around} {s : Shared} {E : Value → Shared → Prop} {d : Addr} {xs : List (κ × Addr × Value)} {Q : Bool → Shared → Prop} (hd : (d == sysModules) = false) (hm : s.heap.DictOfH knd d xs) (hfit : (xs.length : Int) < 2 ^ 63)
    (h : Q (!xs.isEmpty) { s with toks := s.toks + 1 + 1 }) : wpAny (model prog w) A (truthy (.ref d)) Q E s := by
  have hne : ((xs.length : Int) != 0) = !xs.isEmpty := by cases xs <;> simp <;> omega
  have key : wpAny (model prog w) A (runValue (.builtin "len" ⟨[.ref d], []⟩)) (fun r s' => r = .int xs.length (s.toks + 1) ∧ Q (!xs.isEmpty) s') E s := by
    refine wpAny_runValue (codeAny_builtin entry_len ?_)
    rw [Around.under_plainId plain_len _]
    exact wpAny_mono (wpAny_len_body_dictH (Q := fun r s' => r = .int xs.length (s.toks + 1) ∧ Q (!xs.isEmpty) s') hd hm hfit ⟨rfl, h⟩)
      (fun fin s' h' => by obtain ⟨r, rfl, hq⟩ := h'; exact hq) fun _ _ e => e
  unfold truthy
  first
    | refine wpAny_bind (wpAny_callSpecial?_none (name := Str.ofString "__bool__") hm.typeIs noBool_dict ?_)
    | refine wpAny_bind (wpAny_pure (wpAny_bind (wpAny_callSpecial?_none (name := Str.ofString "__bool__") hm.typeIs noBool_dict ?_)))
  first
    | refine wpAny_bind (wpAny_specialOf (name := Str.ofString "__len__") hm.typeIs F.slot_dict_len.lookup ?_)
    | refine wpAny_bind (wpAny_pure (wpAny_bind (wpAny_specialOf (name := Str.ofString "__len__") hm.typeIs F.slot_dict_len.lookup ?_)))
  first
    | exact wpAny_bind (wpAny_mono key (fun r s' h' => by obtain ⟨rfl, hq⟩ := h'; exact wpAny_pure (hne ▸ hq)) fun _ _ e => e)
    | exact wpAny_bind (wpAny_pure (wpAny_bind (wpAny_mono key (fun r s' h' => by obtain ⟨rfl, hq⟩ := h'; exact wpAny_pure (hne ▸ hq)) fun _ _ e => e)))
theorem isEmpty_len {α β : Type} {l : List α} {m : List β} (h : l.length = m.length) : l.isEmpty = m.isEmpty := by
  cases l <;> cases m <;> first | rfl | (simp at h)
theorem tru_all : TruR X (fun x H Q => ∃ B G δ σ d k, At X.K B G δ σ H ∧ R X.K G x d ∧ dTru d = some k ∧ Q k H) := by
  intro pins s σ H x v Q I rx h
  obtain ⟨B, G, δ, σ', d, k, a, r, hk, q⟩ := h
  cases r with
  | non => cases hk; exact tru_ok pins s σ H _ v Q I rx ⟨_, rfl, q⟩
  | bl b => cases hk; exact tru_ok pins s σ H _ v Q I rx ⟨_, rfl, q⟩
  | int i => cases hk; exact tru_ok pins s σ H _ v Q I rx ⟨_, rfl, q⟩
  | str y =>
    have hk : (if y.length ≤ sizeLine then some ((y.length : Int) != 0) else none) = some k := hk
    split at hk
    · rename_i hl
      cases hk; exact tru_ok pins s σ H _ v Q I rx ⟨_, ⟨hl, rfl⟩, q⟩
    · cases hk
  | tup h1 h2 h3 =>
    cases hk
    exact tru_ok pins s σ H _ v Q I rx ⟨_, Or.inr (Or.inl ⟨_, SqT.of (a.vw.tup h1), by rw [isEmpty_len h3.length]⟩), q⟩
  | lst h1 h2 h3 =>
    cases hk
    exact tru_ok pins s σ H _ v Q I rx ⟨_, Or.inl ⟨_, SqL.of (a.vw.lst h1), by rw [isEmpty_len h3.length]⟩, q⟩
  | scr h1 h2 h3 =>
    cases hk
    exact tru_ok pins s σ H _ v Q I rx ⟨_, Or.inl ⟨_, a.vw.sql h1, by rw [isEmpty_len h3.length]⟩, q⟩
  | dK h1 h2 h3 h4 =>
    cases hk
    cases rx
    have hl := congrArg List.length h3
    rw [List.length_map, List.length_map] at hl
    exact d_truth I (a.vw.rd h1) fun s' I' => ⟨H, I', by rw [isEmpty_len hl]; exact q⟩
  | dT h1 h2 h3 h4 =>
    cases hk
    cases rx
    have hl := congrArg List.length h3
    rw [List.length_map, List.length_map] at hl
    obtain ⟨z, hd, ys, rel, dd⟩ := dt_rd I.hok (a.vw.rd h1)
    have hl2 := Paired.length rel
    refine truthy_dictH hd dd (by rw [← hl2]; rw [sizeLine_eq] at z; omega) ⟨H, I.tok _, ?_⟩
    rw [isEmpty_len (hl2.symm.trans hl)]; exact q
theorem dt_tru (ha : DE X W a Ea) (he : ∀ whole, isTrue a X.env whole = (do let v ← whole; standAt a.pos; holding [v] (truthy v)) := by intro _; rfl) : DT X W a (eTru Ea) := by
  refine PT.weak (t := fun σ H Q => tE X.K W Ea σ H fun x H' => ∃ B G δ σ' d k, At X.K B G δ σ' H' ∧ R X.K G x d ∧ dTru d = some k ∧ Q k H') ⟨fun pins s σ H Q I h => ?_⟩ fun σ H Q ⟨B, G, δ, r', δ', at', e1, post⟩ => ?_
  · exact isTrue_plain (thn (ha.run pins s σ H _ I h) fun v s1 ⟨x, H1, I1, r1, q1⟩ => tru_all pins s1 σ H1 x v Q I1 r1 q1) (he _)
  · refine tE_bind at' e1 post fun v H1 G1 δ1 d a1 x1 r1 e2 post => ?_
    obtain ⟨z, hz, hr⟩ := lift_some e2
    cases hr
    exact ⟨B, G1, δ', σ, d, z, a1, r1, hz, post G1 H1 a1 (Ext.refl _)⟩
def tAndM (A B : Mo Bool) : Mo Bool := A.bind fun a => if a = true then B else Mo.ret false
def tOrM (A B : Mo Bool) : Mo Bool := A.bind fun a => if a = true then Mo.ret true else B
def tNotM (A : Mo Bool) : Mo Bool := A.bind fun a => Mo.ret (!a)
theorem dw_and1 (ha : DT X W a Ta) : DW X W (.BoolOp .And [a] pos) Ta := pw_and1 ha
theorem dw_or1 (ha : DT X W a Ta) : DW X W (.BoolOp .Or [a] pos) Ta := pw_or1 ha
theorem tT_of {K : PySem.W.Frag} {B : Bs} {G : Hp} {δ δ' : Env} {σ : St} {H : Hp} {r : Except Exn Bool} {Q : Bool → Hp → Prop} (a : At K B G δ σ H) (e : T δ = some (r, δ')) (post : Post K W B G σ r δ' (fun b G' H' => Q b H')) : tT K W T σ H Q := ⟨B, G, δ, r, δ', a, e, post⟩
theorem tE_of {K : PySem.W.Frag} {B : Bs} {G : Hp} {δ δ' : Env} {σ : St} {H : Hp} {r : Except Exn D} {Q : VK} (a : At K B G δ σ H) (e : E δ = some (r, δ')) (post : Post K W B G σ r δ' (fun d G' H' => ∀ v, R K G' v d → Q v H')) : tE K W E σ H Q := ⟨B, G, δ, r, δ', a, e, post⟩
theorem dw_and {rest : List Expr} (ha : DT X W a Ta) (hb : DW X W (.BoolOp .And (b :: rest) pos) Tb) : DW X W (.BoolOp .And (a :: b :: rest) pos) (tAndM Ta Tb) := PW.weak (pw_and ha hb) fun σ H Q ⟨B, G, δ, r', δ', at', e1, post⟩ => by
  refine tT_bind at' e1 post fun H1 G1 δ1 d a1 x1 e2 post => ?_
  cases d with
  | true => rw [if_pos rfl] at e2 ⊢; exact tT_of a1 e2 post
  | false => rw [if_neg Bool.false_ne_true] at e2 ⊢; cases e2; exact post G1 H1 a1 (Ext.refl _)
theorem dw_or {rest : List Expr} (ha : DT X W a Ta) (hb : DW X W (.BoolOp .Or (b :: rest) pos) Tb) : DW X W (.BoolOp .Or (a :: b :: rest) pos) (tOrM Ta Tb) := PW.weak (pw_or ha hb) fun σ H Q ⟨B, G, δ, r', δ', at', e1, post⟩ => by
  refine tT_bind at' e1 post fun H1 G1 δ1 d a1 x1 e2 post => ?_
  cases d with
  | true => rw [if_pos rfl] at e2 ⊢; cases e2; exact post G1 H1 a1 (Ext.refl _)
  | false => rw [if_neg Bool.false_ne_true] at e2 ⊢; exact tT_of a1 e2 post
theorem dw_t (h : DW X W a Ta) : DT X W a Ta := PW.pt h
theorem dt_not (ha : DT X W a Ta) : DT X W (.UnaryOp .Not a pos) (tNotM Ta) := PT.weak (pt_not ha) fun σ H Q ⟨B, G, δ, r', δ', at', e1, post⟩ => by
  refine tT_bind at' e1 post fun H1 G1 δ1 d a1 x1 e2 post => ?_
  cases e2; exact post G1 H1 a1 (Ext.refl _)
/-- a bool as a test, without asking for its truth -/
def dBl : D → Option Bool
  | .bl b => some b
  | _ => none
def eB (E : Mo D) : Mo Bool := E.bind fun d => Mo.lift (dBl d)
theorem dBl_some {d : D} {b : Bool} (h : dBl d = some b) : d = .bl b := by
  cases d <;> first | (cases h; rfl) | cases h
theorem dt_val (ha : DE X W a Ea) (he : ∀ whole, isTrue a X.env whole = (do let v ← whole; standAt a.pos; holding [v] (truthy v)) := by intro _; rfl) : DT X W a (eB Ea) := PT.weak (pt_val ha he) fun σ H Q ⟨B, G, δ, r', δ', at', e1, post⟩ => by
  refine tE_bind at' e1 post fun v H1 G1 δ1 d a1 x1 r1 e2 post => ?_
  obtain ⟨z, hz, hr⟩ := lift_some e2
  cases hr
  obtain rfl := dBl_some hz
  cases r1
  exact ⟨z, rfl, post G1 H1 a1 (Ext.refl _)⟩
/-- and, or, not of bools as values -/
def eAnd (A B : Mo D) : Mo D := A.bind fun x => (Mo.lift (dBl x)).bind fun b => if b = true then B else Mo.ret (.bl false)
def eOr (A B : Mo D) : Mo D := A.bind fun x => (Mo.lift (dBl x)).bind fun b => if b = true then Mo.ret (.bl true) else B
def eNot (A : Mo D) : Mo D := A.bind fun x => (Mo.lift (dBl x)).bind fun b => Mo.ret (.bl (!b))
theorem liftB {β : Type} {x : D} {k : Bool → Mo β} {δ : Env} {r : Except Exn β × Env} (h : ((Mo.lift (dBl x)).bind k) δ = some r) : ∃ b, x = .bl b ∧ k b δ = some r := by
  unfold Mo.bind Mo.lift at h
  cases e : dBl x with
  | none => rw [e] at h; cases h
  | some b => rw [e] at h; exact ⟨b, dBl_some e, h⟩
theorem de_one {op} (h : DE X W a Ea) : DE X W (.BoolOp op [a] pos) Ea := pe_one h
theorem de_and {rest : List Expr} (ha : DE X W a Ea) (hb : DE X W (.BoolOp .And (b :: rest) pos) Eb) : DE X W (.BoolOp .And (a :: b :: rest) pos) (eAnd Ea Eb) := PE.weak (pe_and ha hb) fun σ H Q ⟨B, G, δ, r', δ', at', e1, post⟩ => by
  refine tE_bind at' e1 post fun v H1 G1 δ1 d a1 x1 r1 e2 post => ?_
  obtain ⟨z, rfl, e3⟩ := liftB e2
  cases r1
  refine ⟨z, rfl, ?_⟩
  cases z with
  | true => rw [if_pos rfl] at e3 ⊢; exact tE_of a1 e3 post
  | false => rw [if_neg Bool.false_ne_true] at e3 ⊢; cases e3; exact post G1 H1 a1 (Ext.refl _) _ (.bl false)
theorem de_or {rest : List Expr} (ha : DE X W a Ea) (hb : DE X W (.BoolOp .Or (b :: rest) pos) Eb) : DE X W (.BoolOp .Or (a :: b :: rest) pos) (eOr Ea Eb) := PE.weak (pe_or ha hb) fun σ H Q ⟨B, G, δ, r', δ', at', e1, post⟩ => by
  refine tE_bind at' e1 post fun v H1 G1 δ1 d a1 x1 r1 e2 post => ?_
  obtain ⟨z, rfl, e3⟩ := liftB e2
  cases r1
  refine ⟨z, rfl, ?_⟩
  cases z with
  | true => rw [if_pos rfl] at e3 ⊢; cases e3; exact post G1 H1 a1 (Ext.refl _) _ (.bl true)
  | false => rw [if_neg Bool.false_ne_true] at e3 ⊢; exact tE_of a1 e3 post
theorem de_not (ha : DE X W a Ea) : DE X W (.UnaryOp .Not a pos) (eNot Ea) := PE.weak (pe_not ha) fun σ H Q ⟨B, G, δ, r', δ', at', e1, post⟩ => by
  refine tE_bind at' e1 post fun v H1 G1 δ1 d a1 x1 r1 e2 post => ?_
  obtain ⟨z, rfl, e3⟩ := liftB e2
  cases r1
  cases e3
  exact ⟨z, rfl, post G1 H1 a1 (Ext.refl _) _ (.bl _)⟩
/-- not e, by the truth of e (a list, a dict ..) -/
def eIf (T : Mo Bool) (A B : Mo D) : Mo D := T.bind fun b => if b = true then A else B
theorem de_if (hc : DT X W c T) (ha : DE X W a Ea) (hb : DE X W b Eb) : DE X W (.IfExp c a b pos) (eIf T Ea Eb) := PE.weak (pe_ifExp hc ha hb) fun σ H Q ⟨B, G, δ, r', δ', at', e1, post⟩ => by
  refine tT_bind at' e1 post fun H1 G1 δ1 d a1 x1 e2 post => ?_
  cases d with
  | true => rw [if_pos rfl] at e2 ⊢; exact tE_of a1 e2 post
  | false => rw [if_neg Bool.false_ne_true] at e2 ⊢; exact tE_of a1 e2 post
end

/-! ### arguments, displays -/
section
variable {X : Cx} {W : WK} {e : Expr} {es : List Expr} {pos : Pos} {E : Mo D} {A : Mo (List Ag)}
def aNil : Mo (List Ag) := Mo.ret []
def aCons (E : Mo D) (A : Mo (List Ag)) : Mo (List Ag) := E.bind fun d => A.bind fun as => Mo.ret (.im d :: as)
def aVr (i : Nat) (A : Mo (List Ag)) : Mo (List Ag) := fun δ => match δ[i]? with
  | some (.own _) => (A.bind fun as => Mo.ret (.vr i :: as)) δ
  | some (.io _) => (A.bind fun as => Mo.ret (.vr i :: as)) δ
  | _ => none
def aVb (i : Nat) (A : Mo (List Ag)) : Mo (List Ag) := fun δ => match δ[i]? with
  | some (.own _) => (A.bind fun as => Mo.ret (.vb i :: as)) δ
  | some (.io _) => (A.bind fun as => Mo.ret (.vb i :: as)) δ
  | some (.imm _) => (A.bind fun as => Mo.ret (.vb i :: as)) δ
  | some (.bor _) => (A.bind fun as => Mo.ret (.vb i :: as)) δ
  | _ => none
theorem AgOk.mono {K : PySem.W.Frag} {G G' : Hp} {σ : St} (e : Ext G G') : ∀ {v : V} {a : Ag}, AgOk K G σ v a → AgOk K G' σ v a
  | _, .im _, h => R.mono e h
  | _, .vr _, h => h
  | _, .vb _, h => h
theorem AgsOk.mono {K : PySem.W.Frag} {G G' : Hp} {σ : St} (e : Ext G G') {vs : List V} {as : List Ag} (h : AgsOk K G σ vs as) : AgsOk K G' σ vs as := Paired.mapP h fun _ _ => AgOk.mono e
theorem da_nil : DA X W [] aNil := PA.weak pa_nil fun σ H Q ⟨B, G, δ, r, δ', a, e1, post⟩ => by
  cases e1
  exact post G H a (Ext.refl _) _ .nil
theorem da_cons (ha : DE X W e E) (hr : DA X W es A) (hs : starEach (e :: es) X.env = (false, eval e X.env) :: starEach es X.env := by rfl) : DA X W (e :: es) (aCons E A) := PA.weak (pa_cons ha hr hs) fun σ H Q ⟨B, G, δ, r, δ', a, e1, post⟩ => by
  refine tE_bind a e1 post fun v H1 G1 δ1 d a1 x1 r1 e2 post => ?_
  refine tA_bind a1 e2 post fun vs H2 G2 δ2 ds a2 x2 r2 e3 post => ?_
  cases e3
  exact post G2 H2 a2 (Ext.refl _) _ (.cons (R.mono x2 r1) r2)
/-- the argument at slot i: the slot must hold something -/
theorem da_vr {i : Nat} (h : PE X e (tVar i)) (hr : DA X W es A) (hs : starEach (e :: es) X.env = (false, eval e X.env) :: starEach es X.env := by rfl) : DA X W (e :: es) (aVr i A) := PA.weak (pa_cons h hr hs) fun σ H Q ⟨B, G, δ, r, δ', a, e1, post⟩ => by
  unfold aVr at e1
  split at e1
  · rename_i d h
    obtain ⟨p, h1, _⟩ := a.own h
    refine ⟨_, h1, ?_⟩
    refine tA_bind a e1 post fun vs H2 G2 δ2 ds a2 x2 r2 e3 post => ?_
    cases e3
    exact post G2 H2 a2 (Ext.refl _) _ (.cons h1 r2)
  · rename_i d h
    obtain ⟨p, h1, _⟩ := a.io h
    refine ⟨_, h1, ?_⟩
    refine tA_bind a e1 post fun vs H2 G2 δ2 ds a2 x2 r2 e3 post => ?_
    cases e3
    exact post G2 H2 a2 (Ext.refl _) _ (.cons h1 r2)
  · cases e1
theorem da_vb {i : Nat} (h : PE X e (tVar i)) (hr : DA X W es A) (hs : starEach (e :: es) X.env = (false, eval e X.env) :: starEach es X.env := by rfl) : DA X W (e :: es) (aVb i A) := PA.weak (pa_cons h hr hs) fun σ H Q ⟨B, G, δ, r, δ', a, e1, post⟩ => by
  have fin : ∀ v, σ[i]? = some (some v) → (A.bind fun as => Mo.ret (.vb i :: as)) δ = some (r, δ') → tVar i σ H fun x H1 => tA X.K W A σ H1 fun xs H2 => Q (x :: xs) H2 := fun v h1 e1 => by
    refine ⟨_, h1, ?_⟩
    refine tA_bind a e1 post fun vs H2 G2 δ2 ds a2 x2 r2 e3 post => ?_
    cases e3
    exact post G2 H2 a2 (Ext.refl _) _ (.cons h1 r2)
  unfold aVb at e1
  split at e1
  · rename_i d h
    obtain ⟨p, h1, _⟩ := a.own h
    exact fin _ h1 e1
  · rename_i d h
    obtain ⟨p, h1, _⟩ := a.io h
    exact fin _ h1 e1
  · rename_i d h
    obtain ⟨p, h1, _⟩ := a.imm h
    exact fin _ h1 e1
  · rename_i d h
    obtain ⟨p, h1, _⟩ := a.bor h
    exact fin _ h1 e1
  · cases e1
/-- arguments that are data -/
def imms : List Ag → Option (List D)
  | [] => some []
  | .im d :: as => (imms as).map (d :: ·)
  | _ :: _ => none
theorem imms_ok {K : PySem.W.Frag} {G : Hp} {σ : St} : ∀ {as : List Ag} {vs : List V} {ds : List D}, AgsOk K G σ vs as → imms as = some ds → RL K G vs ds
  | _, _, _, .nil, e => by cases e; exact .nil
  | .im d :: as, _, _, .cons h t, e => by
    unfold imms at e
    cases q : imms as with
    | none => rw [q] at e; cases e
    | some ds => rw [q] at e; cases e; exact .cons h (imms_ok t q)
  | .vr i :: as, _, _, .cons h t, e => by cases e
  | .vb i :: as, _, _, .cons h t, e => by cases e
def eTup (A : Mo (List Ag)) : Mo D := A.bind fun as => Mo.lift ((imms as).bind fun ds => if ds.length ≤ 1000 then some (.tup ds) else none)
def eLst (A : Mo (List Ag)) : Mo D := A.bind fun as => Mo.lift ((imms as).bind fun ds => if ds.length ≤ 1000 then some (.lst ds) else none)
theorem small_line {n : Nat} (h : n ≤ 1000) : n ≤ sizeLine := Nat.le_of_lt (small1000 h)
theorem de_tup {x1} (h : DA X W es A) : DE X W (.Tuple es x1 pos) (eTup A) := PE.weak (pe_tup h) fun σ H Q ⟨B, G, δ, r, δ', a, e1, post⟩ => by
  refine tA_bind a e1 post fun vs H1 G1 δ1 as a1 x1 r1 e2 post => ?_
  obtain ⟨z, hz, hr⟩ := lift_some e2
  cases hr
  cases q : imms as with
  | none => rw [q] at hz; cases hz
  | some ds =>
    rw [q] at hz
    have r2 := imms_ok r1 q
    rw [Option.bind_some] at hz
    split at hz
    · rename_i hl
      cases hz
      have hv : vs.length ≤ sizeLine := by rw [r2.length]; exact small_line hl
      exact ⟨hv, fun p hp => post (upd G1 p (.tup vs)) _ (a1.laid hp) (Ext.new (a1.vw.none hp)) _ (.tup upd_same hv (r2.mono (Ext.new (a1.vw.none hp))))⟩
    · cases hz
theorem do_lst (h : DA X W es A) : DO X W (.List es pos) (eLst A) := PE.weak (pe_lst h) fun σ H Q ⟨B, G, δ, r, δ', a, e1, post⟩ => by
  refine tA_bind a e1 post fun vs H1 G1 δ1 as a1 x1 r1 e2 post => ?_
  obtain ⟨z, hz, hr⟩ := lift_some e2
  cases hr
  cases q : imms as with
  | none => rw [q] at hz; cases hz
  | some ds =>
    rw [q] at hz
    have r2 := imms_ok r1 q
    rw [Option.bind_some] at hz
    split at hz
    · rename_i hl
      cases hz
      have hv : vs.length ≤ sizeLine := by rw [r2.length]; exact small_line hl
      refine ⟨hv, fun p hp => ?_⟩
      obtain ⟨b1, b2⟩ := a1.own1 (p := p) (o := .lst vs) hp (Ow.lst upd_same hv r2)
      exact post G1 _ b1 (Ext.refl _) p b2
    · cases hz
end
end M

set_option Elab.async false
set_option linter.all false
set_option maxRecDepth 100000
/-! Part C: statements, targets, loops. -/
namespace M
open PySem L2 PySem.Spec PyProof.Rows

inductive Out where
  | nx | bk | ct | rt (d : D) | rtO (d : D)

def PostS (K : PySem.W.Frag) (W : WK) (B : Bs) (G : Hp) (Dn : Ends) (r : Except Exn Out) (δ' : Env) : Prop := match r with
  | .error x => ∀ G' σ' H', At K B G' δ' σ' H' → Ext G G' → W x δ' σ' G' H'
  | .ok .nx => ∀ G' σ' H', At K B G' δ' σ' H' → Ext G G' → Dn.nx σ' H'
  | .ok .bk => ∀ G' σ' H', At K B G' δ' σ' H' → Ext G G' → Dn.bk σ' H'
  | .ok .ct => ∀ G' σ' H', At K B G' δ' σ' H' → Ext G G' → Dn.ct σ' H'
  | .ok (.rt d) => ∀ G' σ' H', At K B G' δ' σ' H' → Ext G G' → ∀ v, R K G' v d → Dn.rt v H'
  | .ok (.rtO d) => ∀ G' σ' H', At K B G' δ' σ' H' → Ext G G' → ∀ p, Fr1 K B G' δ' σ' H' p d → Dn.rt (.ref p) H'
theorem PostS.mono {K : PySem.W.Frag} {W : WK} {B : Bs} {G G1 : Hp} {Dn : Ends} {r : Except Exn Out} {δ' : Env} (h : PostS K W B G Dn r δ') (e : Ext G G1) : PostS K W B G1 Dn r δ' := by
  cases r with
  | error x => exact fun G' σ' H' a1 e1 => h G' σ' H' a1 (e.trans e1)
  | ok o => cases o <;> exact fun G' σ' H' a1 e1 => h G' σ' H' a1 (e.trans e1)
def tS (K : PySem.W.Frag) (W : WK) (S : Mo Out) : TS := fun Dn σ H => ∃ B G δ r δ', At K B G δ σ H ∧ S δ = some (r, δ') ∧ PostS K W B G Dn r δ'
/-- what a target does with data -/
def OnlyAt (sl : List Nat) (σ σ' : St) : Prop := σ'.length = σ.length ∧ ∀ j, j ∉ sl → σ'[j]? = σ[j]?
def tG (K : PySem.W.Frag) (sl : List Nat) (T : D → Mo Unit) : TG := fun v σ H Q => ∃ B G δ d δ', At K B G δ σ H ∧ R K G v d ∧ T d δ = some (.ok (), δ') ∧ ∀ σ', At K B G δ' σ' H → OnlyAt sl σ σ' → Q σ' H
def tGs (K : PySem.W.Frag) (sl : List Nat) (Ts : List D → Mo Unit) : TGs := fun vs σ H Q => ∃ B G δ ds δ', At K B G δ σ H ∧ RL K G vs ds ∧ Ts ds δ = some (.ok (), δ') ∧ ∀ σ', At K B G δ' σ' H → OnlyAt sl σ σ' → Q σ' H
section
variable (X : Cx) (W : WK)
def DS (st : Stmt) (S : Mo Out) : Prop := PS X st (tS X.K W S)
def DSs (st : List Stmt) (S : Mo Out) : Prop := PSs X st (tS X.K W S)
def DG (tg : Expr) (sl : List Nat) (T : D → Mo Unit) : Prop := PG X tg (tG X.K sl T)
def DGs (tgs : List Expr) (sl : List Nat) (T : List D → Mo Unit) : Prop := PGs X tgs (tGs X.K sl T)
end

section
variable {X : Cx} {W : WK} {st : Stmt} {rest : List Stmt} {e c tg : Expr} {pos : Pos} {E : Mo D} {T : Mo Bool} {S S' : Mo Out}
theorem tS_of {K : PySem.W.Frag} {B : Bs} {G : Hp} {δ δ' : Env} {σ : St} {H : Hp} {r : Except Exn Out} {Dn : Ends} (a : At K B G δ σ H) (e : S δ = some (r, δ')) (post : PostS K W B G Dn r δ') : tS K W S Dn σ H := ⟨B, G, δ, r, δ', a, e, post⟩
def sNx : Mo Out := Mo.ret .nx
def sSeq (a b : Mo Out) : Mo Out := fun δ => match a δ with
  | some (.ok .nx, δ') => b δ'
  | r => r
theorem dss_nil : DSs X W [] sNx := PSs.weak pss_nil fun Dn σ H ⟨B, G, δ, r, δ', a, e1, post⟩ => by
  cases e1; exact post G σ H a (Ext.refl _)
theorem dss_one (h : DS X W st S) : DSs X W [st] S := pss_one h
theorem dss_cons (h : DS X W st S) (h' : DSs X W rest S') : DSs X W (st :: rest) (sSeq S S') := PSs.weak (pss_cons h h') fun Dn σ H ⟨B, G, δ, r, δ', a, e1, post⟩ => by
  unfold sSeq at e1
  cases q : S δ with
  | none => rw [q] at e1; cases e1
  | some z =>
    obtain ⟨x, δ1⟩ := z
    rw [q] at e1
    cases x with
    | error x => cases e1; exact ⟨B, G, δ, .error x, _, a, q, post⟩
    | ok o =>
      cases o with
      | nx => exact ⟨B, G, δ, .ok .nx, δ1, a, q, fun G1 σ1 H1 a1 x1 => tS_of a1 e1 (post.mono x1)⟩
      | bk => cases e1; exact ⟨B, G, δ, .ok .bk, _, a, q, post⟩
      | ct => cases e1; exact ⟨B, G, δ, .ok .ct, _, a, q, post⟩
      | rt d => cases e1; exact ⟨B, G, δ, .ok (.rt d), _, a, q, post⟩
      | rtO d => cases e1; exact ⟨B, G, δ, .ok (.rtO d), _, a, q, post⟩
/-- from an expression's ends to a statement's -/
theorem tE_bindS {K : PySem.W.Frag} {B : Bs} {G H : Hp} {δ δ' : Env} {σ : St} {r : Except Exn Out} {Dn : Ends} {k : D → Mo Out} {Q : VK} (a : At K B G δ σ H) (h : Mo.bind E k δ = some (r, δ')) (post : PostS K W B G Dn r δ')
    (q : ∀ v H1 G1 δ1 d, At K B G1 δ1 σ H1 → Ext G G1 → R K G1 v d → k d δ1 = some (r, δ') → PostS K W B G1 Dn r δ' → Q v H1) : tE K W E σ H Q := by
  unfold Mo.bind at h
  cases e : E δ with
  | none => rw [e] at h; cases h
  | some z =>
    obtain ⟨x, δ1⟩ := z
    rw [e] at h
    cases x with
    | error x => cases h; exact ⟨B, G, δ, .error x, _, a, e, post⟩
    | ok d => exact ⟨B, G, δ, .ok d, δ1, a, e, fun G1 H1 a1 e1 v rv => q v H1 G1 δ1 d a1 e1 rv h (post.mono e1)⟩
theorem tO_bindS {K : PySem.W.Frag} {B : Bs} {G H : Hp} {δ δ' : Env} {σ : St} {r : Except Exn Out} {Dn : Ends} {k : D → Mo Out} {Q : VK} (a : At K B G δ σ H) (h : Mo.bind E k δ = some (r, δ')) (post : PostS K W B G Dn r δ')
    (q : ∀ p H1 G1 δ1 d, At K B G1 δ1 σ H1 → Ext G G1 → Fr1 K B G1 δ1 σ H1 p d → k d δ1 = some (r, δ') → PostS K W B G1 Dn r δ' → Q (.ref p) H1) : tO K W E σ H Q := by
  unfold Mo.bind at h
  cases e : E δ with
  | none => rw [e] at h; cases h
  | some z =>
    obtain ⟨x, δ1⟩ := z
    rw [e] at h
    cases x with
    | error x => cases h; exact ⟨B, G, δ, .error x, _, a, e, post⟩
    | ok d => exact ⟨B, G, δ, .ok d, δ1, a, e, fun G1 H1 a1 e1 v rv => q v H1 G1 δ1 d a1 e1 rv h (post.mono e1)⟩
theorem tT_bindS {K : PySem.W.Frag} {B : Bs} {G H : Hp} {δ δ' : Env} {σ : St} {r : Except Exn Out} {Dn : Ends} {k : Bool → Mo Out} {Q : Bool → Hp → Prop} (a : At K B G δ σ H) (h : Mo.bind T k δ = some (r, δ')) (post : PostS K W B G Dn r δ')
    (q : ∀ H1 G1 δ1 d, At K B G1 δ1 σ H1 → Ext G G1 → k d δ1 = some (r, δ') → PostS K W B G1 Dn r δ' → Q d H1) : tT K W T σ H Q := by
  unfold Mo.bind at h
  cases e : T δ with
  | none => rw [e] at h; cases h
  | some z =>
    obtain ⟨x, δ1⟩ := z
    rw [e] at h
    cases x with
    | error x => cases h; exact ⟨B, G, δ, .error x, _, a, e, post⟩
    | ok d => exact ⟨B, G, δ, .ok d, δ1, a, e, fun G1 H1 a1 e1 => q H1 G1 δ1 d a1 e1 h (post.mono e1)⟩
def sPass : Mo Out := Mo.ret .nx
def sBreak : Mo Out := Mo.ret .bk
def sCont : Mo Out := Mo.ret .ct
theorem ds_pass : DS X W (.Pass pos) sPass := PS.weak ps_pass fun Dn σ H ⟨B, G, δ, r, δ', a, e1, post⟩ => by
  cases e1; exact post G σ H a (Ext.refl _)
theorem ds_break : DS X W (.Break pos) sBreak := PS.weak ps_break fun Dn σ H ⟨B, G, δ, r, δ', a, e1, post⟩ => by
  cases e1; exact post G σ H a (Ext.refl _)
theorem ds_cont : DS X W (.Continue pos) sCont := PS.weak ps_continue fun Dn σ H ⟨B, G, δ, r, δ', a, e1, post⟩ => by
  cases e1; exact post G σ H a (Ext.refl _)
def sDrop (E : Mo D) : Mo Out := E.bind fun _ => Mo.ret .nx
theorem ds_expr (he : DE X W e E) (hs : swapsWith e none pos.line X.env = pure false := by rfl) : DS X W (.Expr e pos) (sDrop E) := PS.weak (ps_expr he hs) fun Dn σ H ⟨B, G, δ, r, δ', a, e1, post⟩ => by
  refine tE_bindS a e1 post fun v H1 G1 δ1 d a1 x1 r1 e2 post => ?_
  cases e2; exact post G1 σ H1 a1 (Ext.refl _)
def sRet (E : Mo D) : Mo Out := E.bind fun d => Mo.ret (.rt d)
def sRetO (E : Mo D) : Mo Out := E.bind fun d => Mo.ret (.rtO d)
theorem ds_ret (he : DE X W e E) : DS X W (.Return (some e) pos) (sRet E) := PS.weak (ps_ret he) fun Dn σ H ⟨B, G, δ, r, δ', a, e1, post⟩ => by
  refine tE_bindS a e1 post fun v H1 G1 δ1 d a1 x1 r1 e2 post => ?_
  cases e2; exact post G1 σ H1 a1 (Ext.refl _) v r1
theorem ds_retO (he : DO X W e E) : DS X W (.Return (some e) pos) (sRetO E) := PS.weak (ps_ret he) fun Dn σ H ⟨B, G, δ, r, δ', a, e1, post⟩ => by
  refine tO_bindS a e1 post fun v H1 G1 δ1 d a1 x1 r1 e2 post => ?_
  cases e2; exact post G1 σ H1 a1 (Ext.refl _) v r1
theorem ds_retN : DS X W (.Return none pos) (Mo.ret (.rt .non)) := PS.weak ps_retN fun Dn σ H ⟨B, G, δ, r, δ', a, e1, post⟩ => by
  cases e1; exact post G σ H a (Ext.refl _) _ .non
/-- return of a slot's own object: the slot gives it away -/
def eGive (i : Nat) : Mo D := fun δ => match δ[i]? with
  | some (.own d) => some (.ok d, δ.set i .no)
  | _ => none
theorem At.give {K : PySem.W.Frag} {B : Bs} {G H : Hp} {δ : Env} {σ : St} {i : Nat} {d : D} (h : At K B G δ σ H) (e : δ[i]? = some (.own d)) : ∃ p, σ[i]? = some (some (.ref p)) ∧ At K B G (δ.set i .no) σ H ∧ Fr1 K B G (δ.set i .no) σ H p d := by
  obtain ⟨p, h1, h2, h3, h4⟩ := h.own e
  refine ⟨p, h1, h.forget (by rw [List.length_set]; exact h.len) fun j s q => ?_, h2, h4, fun j q => ?_, h3⟩
  · rcases get_set q with ⟨_, rfl, _⟩ | ⟨_, q⟩
    · exact .inl rfl
    · exact .inr ⟨q, rfl⟩
  · have c : i ≠ j := fun c => by
      subst c
      obtain ⟨⟨d', z | z⟩, _⟩ := q
      · rcases get_set z with ⟨_, y, _⟩ | ⟨y, _⟩
        · cases y
        · exact y rfl
      · rcases get_set z with ⟨_, y, _⟩ | ⟨y, _⟩
        · cases y
        · exact y rfl
    have q' : OwnAt δ σ j p := by
      obtain ⟨⟨d', z⟩, y⟩ := q
      rw [List.getElem?_set_ne c] at z
      exact ⟨⟨d', z⟩, y⟩
    exact c (h.apart i j p ⟨⟨d, .inl e⟩, h1⟩ q')
theorem do_give {i : Nat} (h : PE X e (tVar i)) : DO X W e (eGive i) := PE.weak h fun σ H Q ⟨B, G, δ, r, δ', a, e1, post⟩ => by
  unfold eGive at e1
  split at e1
  · rename_i d h
    cases e1
    obtain ⟨p, h1, h2, h3⟩ := a.give h
    exact ⟨_, h1, post G H h2 (Ext.refl _) p h3⟩
  · cases e1
def sIf (T : Mo Bool) (a b : Mo Out) : Mo Out := T.bind fun k => if k = true then a else b
theorem ds_if {a b : List Stmt} (hc : DT X W c T) (ha : DSs X W a S) (hb : DSs X W b S') : DS X W (.If c a b pos) (sIf T S S') := PS.weak (ps_if hc ha hb) fun Dn σ H ⟨B, G, δ, r, δ', a, e1, post⟩ => by
  refine tT_bindS a e1 post fun H1 G1 δ1 d a1 x1 e2 post => ?_
  cases d with
  | true => rw [if_pos rfl] at e2 ⊢; exact tS_of a1 e2 post
  | false => rw [if_neg Bool.false_ne_true] at e2 ⊢; exact tS_of a1 e2 post

/-! ### targets, assignments -/
def gN (i : Nat) (d : D) : Mo Unit := fun δ => if i < δ.length then some (.ok (), δ.set i (.imm d)) else none
theorem dg_name {i : Nat} {x : Str} (hN : X.N.Nodup) (hi : X.N[i]? = some x) (hx : Loc X.env.scope x) (hf : X.fn x = true ∨ X.env.scope.names.lookup x = some .local := by first | exact .inl rfl | exact .inr rfl | assumption) : DG X (.Name x pos) [i] (gN i) :=
  let h := pg_name (X := X) (pos := pos) hN hi hx hf
  ⟨fun pins s σ H v u Q I rv q => h.run pins s σ H v u Q I rv (by
    obtain ⟨B, G, δ, d, δ', a, r, e1, k⟩ := q
    unfold gN at e1
    split at e1
    · cases e1
      exact k _ (a.setImm r i) ⟨List.length_set, fun j hj => List.getElem?_set_ne (fun c => hj (by rw [c]; exact List.mem_singleton_self _))⟩
    · cases e1)⟩
def gNil : List D → Mo Unit
  | [] => Mo.ret ()
  | _ => fun _ => none
def gCons (T : D → Mo Unit) (Ts : List D → Mo Unit) : List D → Mo Unit
  | d :: ds => (T d).bind fun _ => Ts ds
  | [] => fun _ => none
theorem dgs_nil : DGs X [] [] gNil :=
  ⟨fun pins s σ H vs us Q I rv q => pgs_nil.run pins s σ H vs us Q I rv (by
    obtain ⟨B, G, δ, ds, δ', a, r, e1, k⟩ := q
    cases r with
    | nil => cases e1; exact ⟨rfl, k _ a ⟨rfl, fun _ _ => rfl⟩⟩
    | cons _ _ => cases e1)⟩
theorem dgs_cons {es : List Expr} {sl sl' : List Nat} {T : D → Mo Unit} {Ts : List D → Mo Unit} (h1 : DG X e sl T) (h2 : DGs X es sl' Ts) (hs : (assignEach (e :: es) X.env).map (·.2) = assign e X.env :: (assignEach es X.env).map (·.2) := by rfl) : DGs X (e :: es) (sl ++ sl') (gCons T Ts) :=
  ⟨fun pins s σ H vs us Q I rv q => (pgs_cons h1 h2 hs).run pins s σ H vs us Q I rv (by
    obtain ⟨B, G, δ, ds, δ', a, r, e1, k⟩ := q
    cases r with
    | nil => cases e1
    | cons r0 r1 =>
      rename_i v vs d ds
      have e1 : Mo.bind (T d) (fun _ => Ts ds) δ = some (.ok (), δ') := e1
      unfold Mo.bind at e1
      cases q : T d δ with
      | none => rw [q] at e1; cases e1
      | some z =>
        obtain ⟨x, δ1⟩ := z
        rw [q] at e1
        cases x with
        | error x => cases e1
        | ok x => exact ⟨v, vs, rfl, B, G, δ, d, δ1, a, r0, q, fun σ1 a1 o1 => ⟨B, G, δ1, ds, δ', a1, r1, e1, fun σ2 a2 o2 => k σ2 a2 ⟨o2.1.trans o1.1, fun j hj => (o2.2 j fun c => hj (List.mem_append_right _ c)).trans (o1.2 j fun c => hj (List.mem_append_left _ c))⟩⟩⟩)⟩
/-- (a, b, ..) = a tuple or a list of that length -/
def gT (n : Nat) (Ts : List D → Mo Unit) : D → Mo Unit
  | .tup ds => if ds.length = n then Ts ds else fun _ => none
  | .lst ds => if ds.length = n then Ts ds else fun _ => none
  | _ => fun _ => none
theorem dg_tup {es : List Expr} {k : Nat} {sl : List Nat} {Ts : List D → Mo Unit} {n : Nat} (hc : X.calm = true) (h : DGs X es sl Ts) (hn : (assignEach es X.env).length = n := by rfl) (hst : (assignEach es X.env).findIdx? (·.1) = none := by rfl) : DG X (.Tuple es k pos) sl (gT n Ts) :=
  let h1 := PG.or (pg_tup (pos := pos) (k := k) hc h hn hst) (pg_unl (pos := pos) (k := k) hc h hn hst)
  ⟨fun pins s σ H v u Q I rv q => h1.run pins s σ H v u Q I rv (by
    obtain ⟨B, G, δ, d, δ', a, r, e1, k⟩ := q
    cases r with
    | tup g l rl =>
      rename_i p xs ds
      have e1 : (if ds.length = n then Ts ds else fun _ => none) δ = some (.ok (), δ') := e1
      by_cases q : ds.length = n
      · rw [if_pos q] at e1
        exact .inl ⟨p, xs, rfl, SqT.of (a.vw.tup g), rl.length.trans q, B, G, δ, ds, δ', a, rl, e1, k⟩
      · rw [if_neg q] at e1; cases e1
    | lst g l rl =>
      rename_i p xs ds
      have e1 : (if ds.length = n then Ts ds else fun _ => none) δ = some (.ok (), δ') := e1
      by_cases q : ds.length = n
      · rw [if_pos q] at e1
        exact .inr ⟨p, xs, rfl, SqL.of (a.vw.lst g), rl.length.trans q, B, G, δ, ds, δ', a, rl, e1, k⟩
      · rw [if_neg q] at e1; cases e1
    | _ => cases e1)⟩
/-- target = value -/
def sAsg (T : D → Mo Unit) (E : Mo D) : Mo Out := E.bind fun d => (T d).bind fun _ => Mo.ret .nx
theorem unit_bind {T : Mo Unit} {δ δ' : Env} {r : Except Exn Out} (h : Mo.bind T (fun _ => Mo.ret Out.nx) δ = some (r, δ')) : (T δ = some (.ok (), δ') ∧ r = .ok .nx) ∨ ∃ x, T δ = some (.error x, δ') ∧ r = .error x := by
  unfold Mo.bind at h
  cases q : T δ with
  | none => rw [q] at h; cases h
  | some z =>
    obtain ⟨x, δ1⟩ := z
    rw [q] at h
    cases x with
    | error x => cases h; exact .inr ⟨x, rfl, rfl⟩
    | ok x => cases h; exact .inl ⟨rfl, rfl⟩
/-- a target that never raises -/
def Calm (T : D → Mo Unit) : Prop := ∀ d δ x δ', T d δ ≠ some (.error x, δ')
theorem calm_N {i : Nat} : Calm (gN i) := fun d δ x δ' h => by
  unfold gN at h; split at h <;> cases h
theorem tAsg_ok {K : PySem.W.Frag} {sl : List Nat} {T : D → Mo Unit} (hT : Calm T) {Dn : Ends} {σ : St} {H : Hp} (q : tS K W (sAsg T E) Dn σ H) : tAsg (tE K W E) (tG K sl T) Dn σ H := by
  obtain ⟨B, G, δ, r, δ', a, e1, post⟩ := q
  refine tE_bindS a e1 post fun v H1 G1 δ1 d a1 x1 r1 e2 post => ?_
  rcases unit_bind e2 with ⟨q, rfl⟩ | ⟨x, q, rfl⟩
  · exact ⟨B, G1, δ1, d, δ', a1, r1, q, fun σ' a' _ => post G1 σ' H1 a' (Ext.refl _)⟩
  · exact absurd q (hT _ _ _ _)
theorem ds_asg {sl : List Nat} {T : D → Mo Unit} (hT : Calm T) (he : DE X W e E) (hg : DG X tg sl T) (hs : swapsWithSole [tg] e pos.line X.env = pure false := by rfl) (hw : swappedStores [tg] e X.env = pure none := by rfl)
    (h1 : (assignEach [tg] X.env).map (·.2) = [assign tg X.env] := by rfl) : DS X W (.Assign [tg] e pos) (sAsg T E) := PS.weak (ps_asg he hg hs hw h1) fun Dn σ H q => tAsg_ok hT q
theorem ds_set {i : Nat} {x : Str} {pos' : Pos} (hN : X.N.Nodup) (hi : X.N[i]? = some x) (hx : Loc X.env.scope x) (he : DE X W e E) (hs : swapsWith e (some (.Name x pos')) pos.line X.env = pure false := by rfl) (hf : X.fn x = true ∨ X.env.scope.names.lookup x = some .local := by first | exact .inl rfl | exact .inr rfl | assumption) :
    DS X W (.Assign [.Name x pos'] e pos) (sAsg (gN i) E) := PS.weak (ps_set hN hi hx he hs hf) fun Dn σ H ⟨B, G, δ, r, δ', a, e1, post⟩ => by
  refine tE_bindS a e1 post fun v H1 G1 δ1 d a1 x1 r1 e2 post => ?_
  rcases unit_bind e2 with ⟨q, rfl⟩ | ⟨x, q, rfl⟩
  · unfold gN at q
    split at q
    · cases q
      exact post G1 _ H1 (a1.setImm r1 i) (Ext.refl _)
    · cases q
  · exact absurd q (calm_N _ _ _ _)
/-- name = a new object, kept as the frame's own -/
def gO (i : Nat) (d : D) : Mo Unit := fun δ => if i < δ.length then some (.ok (), δ.set i (.own d)) else none
def sAsgO (i : Nat) (E : Mo D) : Mo Out := E.bind fun d => (gO i d).bind fun _ => Mo.ret .nx
theorem ds_setO {i : Nat} {x : Str} {pos' : Pos} (hN : X.N.Nodup) (hi : X.N[i]? = some x) (hx : Loc X.env.scope x) (he : DO X W e E) (hs : swapsWith e (some (.Name x pos')) pos.line X.env = pure false := by rfl) (hf : X.fn x = true ∨ X.env.scope.names.lookup x = some .local := by first | exact .inl rfl | exact .inr rfl | assumption) :
    DS X W (.Assign [.Name x pos'] e pos) (sAsgO i E) := PS.weak (ps_set hN hi hx he hs hf) fun Dn σ H ⟨B, G, δ, r, δ', a, e1, post⟩ => by
  refine tO_bindS a e1 post fun v H1 G1 δ1 d a1 x1 r1 e2 post => ?_
  obtain ⟨w1, w2, w3, w4⟩ := r1
  rcases unit_bind e2 with ⟨q, rfl⟩ | ⟨x, q, rfl⟩
  · unfold gO at q
    split at q
    · cases q
      exact post G1 _ H1 (a1.setOwn w1 w4 w2 w3 i) (Ext.refl _)
    · cases q
  · unfold gO at q; split at q <;> cases q
end

/-! ### what a loop walks -/
/-- the iterator J yields the data ds, one by one, whatever else is laid meanwhile -/
def BLe (B B' : Bs) : Prop := Ext B.H0 B'.H0 ∧ B'.IO = B.IO
theorem BLe.refl (B : Bs) : BLe B B := ⟨Ext.refl _, rfl⟩
def Yl (K : PySem.W.Frag) (B : Bs) (J : It) (G : Hp) (ds : List D) : Prop := ∀ (B' : Bs) (G2 H : Hp) (δ : Env) (σ : St), BLe B B' → At K B' G2 δ σ H → Ext G G2 → ∀ i : Nat,
  (∀ d, ds[i]? = some d → J.go i H ∧ ∀ x H', J.yld i H x H' → H' = H ∧ ∃ G3, At K B' G3 δ σ H ∧ Ext G2 G3 ∧ R K G3 x d) ∧ (ds.length ≤ i → J.stop i H)
def tI (K : PySem.W.Frag) (W : WK) (I : Mo (List D)) : TI := fun σ H R' => ∃ B G δ r δ', At K B G δ σ H ∧ I δ = some (r, δ') ∧ Post K W B G σ r δ' (fun ds G' H' => ∀ J, Yl K B J G' ds → R' J H')
section
variable (X : Cx) (W : WK)
def DI (tg e : Expr) (I : Mo (List D)) : Prop := PI X tg e (tI X.K W I)
end
section
variable {X : Cx} {W : WK} {e c tg : Expr} {pos : Pos} {E : Mo D} {T : Mo Bool} {S S' : Mo Out}
theorem yl_list {K : PySem.W.Frag} {B : Bs} {G : Hp} {a : Addr} {xs : List V} {ds : List D} (h : SqL K G a xs) (r : RL K G xs ds) : Yl K B (Itl K a) G ds := fun B' G2 H δ σ _ at' ex i => by
  have hq : SqL K H a xs := at'.vw.sql (ex.sql h)
  refine ⟨fun d hd => ?_, fun hl => ⟨xs, hq, by rw [r.length]; exact hl⟩⟩
  obtain ⟨x, h1, h2⟩ := r.get hd
  refine ⟨⟨xs, x, hq, h1⟩, fun y H' ⟨e1, e2⟩ => ⟨e1, G2, at', Ext.refl _, ?_⟩⟩
  have := e2 xs hq
  rw [h1] at this; cases this
  exact h2.mono ex
theorem yl_tup {K : PySem.W.Frag} {B : Bs} {G : Hp} {a : Addr} {xs : List V} {ds : List D} (h : G a = some (.tup xs)) (r : RL K G xs ds) : Yl K B (Itt K a) G ds := fun B' G2 H δ σ _ at' ex i => by
  have hq : SqT K H a xs := SqT.of (at'.vw.tup (ex _ _ h))
  refine ⟨fun d hd => ?_, fun hl => ⟨xs, hq, by rw [r.length]; exact hl⟩⟩
  obtain ⟨x, h1, h2⟩ := r.get hd
  refine ⟨⟨xs, x, hq, h1⟩, fun y H' ⟨e1, e2⟩ => ⟨e1, G2, at', Ext.refl _, ?_⟩⟩
  have := e2 xs hq
  rw [h1] at this; cases this
  exact h2.mono ex
def rgD (lo : Int) (n : Nat) : List D := (List.range n).map fun i => D.int (lo + (i : Nat))
theorem yl_rng {K : PySem.W.Frag} {B : Bs} {G : Hp} {lo : Int} {n : Nat} : Yl K B (Itr lo n) G (rgD lo n) := fun B' G2 H δ σ _ at' ex i => by
  refine ⟨fun d hd => ?_, fun hl => by unfold rgD at hl; rw [List.length_map, List.length_range] at hl; exact hl⟩
  unfold rgD at hd
  rw [List.getElem?_map] at hd
  by_cases c : i < n
  · rw [List.getElem?_range c] at hd
    cases hd
    exact ⟨c, fun y H' ⟨e1, e2⟩ => ⟨e1, G2, at', Ext.refl _, by rw [e2]; exact .int _⟩⟩
  · rw [List.getElem?_eq_none (by rw [List.length_range]; omega)] at hd; cases hd
def stD (x : Str) : List D := x.cps.toList.map fun c => D.str ⟨#[c]⟩
theorem yl_str {K : PySem.W.Frag} {B : Bs} {G : Hp} {x : Str} : Yl K B (Its x) G (stD x) := fun B' G2 H δ σ _ at' ex i => by
  refine ⟨fun d hd => ?_, fun hl => by unfold stD at hl; rw [List.length_map, Array.length_toList] at hl; exact hl⟩
  unfold stD at hd
  rw [List.getElem?_map] at hd
  cases q : x.cps.toList[i]? with
  | none => rw [q] at hd; cases hd
  | some c =>
    rw [q] at hd; cases hd
    have hc := (List.getElem?_eq_some_iff.mp q).1
    rw [Array.length_toList] at hc
    refine ⟨hc, fun y H' ⟨e1, c', e2, e3⟩ => ⟨e1, G2, at', Ext.refl _, ?_⟩⟩
    rw [Array.getElem?_toList] at q
    rw [q] at e2; cases e2
    rw [e3]; exact .str _
/-- over a list, a tuple, a text -/
def itD : D → Option (List D)
  | .lst l => some l
  | .scr l => some l
  | .tup l => some l
  | .str x => some (stD x)
  | _ => none
def iOf (E : Mo D) : Mo (List D) := E.bind fun d => Mo.lift (itD d)
theorem di_of (h : DE X W e E) : DI X W tg e (iOf E) :=
  let h1 := PI.or (PI.or (pi_list (tg := tg) h) (pi_tup (tg := tg) h)) (pi_str (tg := tg) h)
  ⟨fun pins s σ H R' I ⟨B, G, δ, r, δ', a, e1, post⟩ => h1.run pins s σ H R' I (by
    -- which of the three: by what the expression gives
    unfold iOf Mo.bind at e1
    cases q : E δ with
    | none => rw [q] at e1; cases e1
    | some z =>
      obtain ⟨x, δ1⟩ := z
      rw [q] at e1
      cases x with
      | error x => cases e1; exact .inl (.inl ⟨B, G, δ, .error x, _, a, q, post⟩)
      | ok d =>
        obtain ⟨ds, hz, hr⟩ := lift_some e1
        cases hr
        cases d with
        | lst l =>
          cases hz
          refine .inl (.inl ⟨B, G, δ, .ok (.lst _), _, a, q, fun G1 H1 a1 x1 v rv => ?_⟩)
          cases rv with
          | lst g hl rl => exact ⟨_, rfl, ⟨_, SqL.of (a1.vw.lst g)⟩, post G1 H1 a1 x1 _ (yl_list (SqL.of g) rl)⟩
        | scr l =>
          cases hz
          refine .inl (.inl ⟨B, G, δ, .ok (.scr _), _, a, q, fun G1 H1 a1 x1 v rv => ?_⟩)
          cases rv with
          | scr g hl rl => exact ⟨_, rfl, ⟨_, a1.vw.sql g⟩, post G1 H1 a1 x1 _ (yl_list g rl)⟩
        | tup l =>
          cases hz
          refine .inl (.inr ⟨B, G, δ, .ok (.tup _), _, a, q, fun G1 H1 a1 x1 v rv => ?_⟩)
          cases rv with
          | tup g hl rl => exact ⟨_, rfl, ⟨_, SqT.of (a1.vw.tup g)⟩, post G1 H1 a1 x1 _ (yl_tup g rl)⟩
        | str x =>
          cases hz
          refine .inr ⟨B, G, δ, .ok (.str x), _, a, q, fun G1 H1 a1 x1 v rv => ?_⟩
          cases rv with
          | str => exact ⟨_, rfl, post G1 H1 a1 x1 _ yl_str⟩
        | _ => cases hz)⟩
/-- over range(n), range(a, b) -/
def rg1 : List D → Option (List D)
  | [.int j] => if j ≤ 16777216 ∧ -16777216 ≤ j then some (rgD 0 j.toNat) else none
  | _ => none
def rg2 : List D → Option (List D)
  | [.int i, .int j] => if (-16777216 ≤ i ∧ i ≤ 16777216) ∧ (-16777216 ≤ j ∧ j ≤ 16777216) ∧ j - i ≤ 16777216 then some (rgD i (j - i).toNat) else none
  | _ => none
def iRg (f : List D → Option (List D)) (A : Mo (List Ag)) : Mo (List D) := A.bind fun as => Mo.lift ((imms as).bind f)
theorem di_rg1 {a : Expr} {A : Mo (List Ag)} {p pos : Pos} (hg : Gl X "range") (hm : X.mg "range" = none) (ha : DA X W [a] A) (hs : starEach [a] X.env = [(false, eval a X.env)] := by rfl) : DI X W tg (.Call (.Name "range" p) [a] [] pos) (iRg rg1 A) :=
  let h1 := pi_range1 (tg := tg) (pos := pos) (p := p) hg hm ha hs
  ⟨fun pins s σ H R' I ⟨B, G, δ, r, δ', a, e1, post⟩ => h1.run pins s σ H R' I (by
    refine tA_bind a e1 post fun vs H1 G1 δ1 as a1 x1 r1 e2 post => ?_
    obtain ⟨z, hz, hr⟩ := lift_some e2
    cases hr
    cases q : imms as with
    | none => rw [q] at hz; cases hz
    | some ds =>
      rw [q] at hz
      have r2 := imms_ok r1 q
      unfold rg1 at hz
      rw [Option.bind_some] at hz
      split at hz
      · split at hz
        · rename_i j hj
          cases hz
          cases r2 with
          | cons ra rb =>
            cases ra; cases rb
            exact ⟨j, rfl, by omega, by omega, post G1 H1 a1 (Ext.refl _) _ yl_rng⟩
        · cases hz
      · cases hz)⟩
theorem di_rg2 {a b : Expr} {A : Mo (List Ag)} {p pos : Pos} (hg : Gl X "range") (hm : X.mg "range" = none) (ha : DA X W [a, b] A) (hs : starEach [a, b] X.env = [(false, eval a X.env), (false, eval b X.env)] := by rfl) (hs2 : starEach [b] X.env = [(false, eval b X.env)] := by rfl) : DI X W tg (.Call (.Name "range" p) [a, b] [] pos) (iRg rg2 A) :=
  let h1 := pi_range2 (tg := tg) (pos := pos) (p := p) hg hm ha hs hs2
  ⟨fun pins s σ H R' I ⟨B, G, δ, r, δ', a, e1, post⟩ => h1.run pins s σ H R' I (by
    refine tA_bind a e1 post fun vs H1 G1 δ1 as a1 x1 r1 e2 post => ?_
    obtain ⟨z, hz, hr⟩ := lift_some e2
    cases hr
    cases q : imms as with
    | none => rw [q] at hz; cases hz
    | some ds =>
      rw [q] at hz
      have r2 := imms_ok r1 q
      unfold rg2 at hz
      rw [Option.bind_some] at hz
      split at hz
      · split at hz
        · rename_i i j hj
          cases hz
          cases r2 with
          | cons ra rb =>
            cases ra
            cases rb with
            | cons rb rc =>
              cases rb; cases rc
              exact ⟨i, j, rfl, by omega, post G1 H1 a1 (Ext.refl _) _ yl_rng⟩
        · cases hz
      · cases hz)⟩

/-! ### for -/
def forM (T : D → Mo Unit) (S : Mo Out) : List D → Mo Out
  | [] => Mo.ret .nx
  | d :: ds => (T d).bind fun _ => fun δ => match S δ with
    | some (.ok .nx, δ') => forM T S ds δ'
    | some (.ok .ct, δ') => forM T S ds δ'
    | some (.ok .bk, δ') => some (.ok .nx, δ')
    | r => r
def sFor (I : Mo (List D)) (T : D → Mo Unit) (S : Mo Out) : Mo Out := I.bind fun ds => forM T S ds
theorem tI_bindS {K : PySem.W.Frag} {B : Bs} {G H : Hp} {δ δ' : Env} {σ : St} {r : Except Exn Out} {Dn : Ends} {I : Mo (List D)} {k : List D → Mo Out} {Q : It → Hp → Prop} (a : At K B G δ σ H) (h : Mo.bind I k δ = some (r, δ')) (post : PostS K W B G Dn r δ')
    (q : ∀ J H1 G1 δ1 d, At K B G1 δ1 σ H1 → Ext G G1 → Yl K B J G1 d → k d δ1 = some (r, δ') → PostS K W B G1 Dn r δ' → Q J H1) : tI K W I σ H Q := by
  unfold Mo.bind at h
  cases e : I δ with
  | none => rw [e] at h; cases h
  | some z =>
    obtain ⟨x, δ1⟩ := z
    rw [e] at h
    cases x with
    | error x => cases h; exact ⟨B, G, δ, .error x, _, a, e, post⟩
    | ok d => exact ⟨B, G, δ, .ok d, δ1, a, e, fun G1 H1 a1 e1 J rv => q J H1 G1 δ1 d a1 e1 rv h (post.mono e1)⟩
theorem tFor_ok {K : PySem.W.Frag} {I : Mo (List D)} {sl : List Nat} {T : D → Mo Unit} (hT : Calm T) {Dn : Ends} {σ : St} {H : Hp} (q : tS K W (sFor I T S) Dn σ H) : tFor (tI K W I) (tG K sl T) (tS K W S) Dn σ H := by
  obtain ⟨B, G, δ, r, δ', a, e1, post⟩ := q
  refine tI_bindS a e1 post fun J H1 G1 δ1 ds a1 x1 yl e2 post => ?_
  refine ⟨fun i m σ2 H2 => m + i = ds.length ∧ ∃ G2 δ2, At K B G2 δ2 σ2 H2 ∧ Ext G1 G2 ∧ forM T S (ds.drop i) δ2 = some (r, δ'), ⟨ds.length, by omega, G1, δ1, a1, Ext.refl _, e2⟩, ?_⟩
  rintro i m σ2 H2 ⟨hm, G2, δ2, a2, x2, e3⟩
  obtain ⟨y1, y2⟩ := yl B G2 H2 δ2 σ2 (BLe.refl B) a2 x2 i
  by_cases hi : ds.length ≤ i
  · refine .inl ⟨y2 hi, ?_⟩
    rw [List.drop_eq_nil_of_le hi] at e3
    cases e3
    exact post G2 σ2 H2 a2 x2
  · have hlt : i < ds.length := by omega
    obtain ⟨g1, g2⟩ := y1 ds[i] (List.getElem?_eq_getElem hlt)
    rw [List.drop_eq_getElem_cons hlt] at e3
    refine .inr ⟨g1, fun σ' H' => ∃ m', m' < m ∧ (m' + (i + 1) = ds.length ∧ ∃ G2 δ2, At K B G2 δ2 σ' H' ∧ Ext G1 G2 ∧ forM T S (ds.drop (i + 1)) δ2 = some (r, δ')), fun σ' H' z => z, fun x H' hy => ?_⟩
    obtain ⟨rfl, G3, a3, x3, r3⟩ := g2 x H' hy
    unfold forM Mo.bind at e3
    cases q : T ds[i] δ2 with
    | none => rw [q] at e3; cases e3
    | some z =>
      obtain ⟨u, δ3⟩ := z
      rw [q] at e3
      cases u with
      | error u => exact absurd q (hT _ _ _ _)
      | ok u =>
        refine ⟨B, G3, δ2, ds[i], δ3, a3, r3, q, fun σ4 a4 _ => ?_⟩
        cases q2 : S δ3 with
        | none => simp only [q2] at e3; cases e3
        | some z =>
          obtain ⟨u, δ4⟩ := z
          simp only [q2] at e3
          have x13 := x2.trans x3
          cases u with
          | error u => cases e3; exact ⟨B, G3, δ3, .error u, _, a4, q2, post.mono x13⟩
          | ok o =>
            cases o with
            | nx => exact ⟨B, G3, δ3, .ok .nx, δ4, a4, q2, fun G5 σ5 H5 a5 x5 => ⟨m - 1, by omega, by omega, G5, δ4, a5, x13.trans x5, e3⟩⟩
            | ct => exact ⟨B, G3, δ3, .ok .ct, δ4, a4, q2, fun G5 σ5 H5 a5 x5 => ⟨m - 1, by omega, by omega, G5, δ4, a5, x13.trans x5, e3⟩⟩
            | bk => cases e3; exact ⟨B, G3, δ3, .ok .bk, _, a4, q2, fun G5 σ5 H5 a5 x5 => post G5 σ5 H5 a5 (x13.trans x5)⟩
            | rt d => cases e3; exact ⟨B, G3, δ3, .ok (.rt d), _, a4, q2, post.mono x13⟩
            | rtO d => cases e3; exact ⟨B, G3, δ3, .ok (.rtO d), _, a4, q2, post.mono x13⟩
theorem ds_for {iter : Expr} {body : List Stmt} {I : Mo (List D)} {sl : List Nat} {T : D → Mo Unit} (hp : PassesOwn (model X.prog X.w) X.A X.env X.xe) (hc : X.calm = true) (hT : Calm T) (hi : DI X W tg iter I) (hg : DG X tg sl T) (hb : DSs X W body S)
    (hs : ∀ x, foldedSetIterable iter X.env x = pure x := by intro _; rfl) : DS X W (.For tg iter body [] pos) (sFor I T S) := PS.weak (ps_for hp hc hi hg hb hs) fun Dn σ H q => tFor_ok hT q
theorem calm_nil : ∀ ds δ x δ', gNil ds δ ≠ some (.error x, δ') := fun ds δ x δ' h => by cases ds <;> cases h
theorem calm_cons {T : D → Mo Unit} {Ts : List D → Mo Unit} (h1 : Calm T) (h2 : ∀ ds δ x δ', Ts ds δ ≠ some (.error x, δ')) : ∀ ds δ x δ', gCons T Ts ds δ ≠ some (.error x, δ') := fun ds δ x δ' h => by
  cases ds with
  | nil => cases h
  | cons d ds =>
    have h : Mo.bind (T d) (fun _ => Ts ds) δ = some (.error x, δ') := h
    unfold Mo.bind at h
    cases q : T d δ with
    | none => rw [q] at h; cases h
    | some z =>
      obtain ⟨u, δ1⟩ := z
      rw [q] at h
      cases u with
      | error u => exact h1 _ _ _ _ q
      | ok u => exact h2 _ _ _ _ h
theorem calm_T {n : Nat} {Ts : List D → Mo Unit} (h2 : ∀ ds δ x δ', Ts ds δ ≠ some (.error x, δ')) : Calm (gT n Ts) := fun d δ x δ' h => by
  cases d with
  | tup ds =>
    have h : (if ds.length = n then Ts ds else fun _ => none) δ = some (.error x, δ') := h
    split at h
    · exact h2 _ _ _ _ h
    · cases h
  | lst ds =>
    have h : (if ds.length = n then Ts ds else fun _ => none) δ = some (.error x, δ') := h
    split at h
    · exact h2 _ _ _ _ h
    · cases h
  | _ => cases h

/-! ### while -/
def whileF (c : Mo Bool) (b : Mo Out) : Nat → Mo Out
  | 0 => fun _ => none
  | n + 1 => c.bind fun k => if k = true then (fun δ => match b δ with
    | some (.ok .nx, δ') => whileF c b n δ'
    | some (.ok .ct, δ') => whileF c b n δ'
    | some (.ok .bk, δ') => some (.ok .nx, δ')
    | r => r) else Mo.ret .nx
/-- the loop by as many turns as it takes -/
noncomputable def sWhile (c : Mo Bool) (b : Mo Out) : Mo Out := fun δ => by
  classical exact if h : ∃ n, (whileF c b n δ).isSome = true then whileF c b h.choose δ else none
theorem tWhile_ok {K : PySem.W.Frag} {Dn : Ends} {σ : St} {H : Hp} (q : tS K W (sWhile T S) Dn σ H) : tWhile (tT K W T) (tS K W S) Dn σ H := by
  obtain ⟨B, G, δ, r, δ', a, e1, post⟩ := q
  have e1 : ∃ n, whileF T S n δ = some (r, δ') := by
    unfold sWhile at e1
    split at e1
    · rename_i h; exact ⟨_, e1⟩
    · cases e1
  obtain ⟨n, e1⟩ := e1
  refine ⟨fun m σ2 H2 => ∃ G2 δ2, At K B G2 δ2 σ2 H2 ∧ Ext G G2 ∧ whileF T S m δ2 = some (r, δ'), ⟨n, G, δ, a, Ext.refl _, e1⟩, ?_⟩
  rintro m σ2 H2 ⟨G2, δ2, a2, x2, e2⟩
  cases m with
  | zero => cases e2
  | succ m =>
    unfold whileF at e2
    refine tT_bindS (Dn := Dn) a2 e2 (post.mono x2) fun H3 G3 δ3 k a3 x3 e3 post => ?_
    cases k with
    | false => rw [if_neg Bool.false_ne_true] at e3 ⊢; cases e3; exact post G3 σ2 H3 a3 (Ext.refl _)
    | true =>
      rw [if_pos rfl] at e3 ⊢
      refine ⟨fun σ' H' => ∃ m', m' < m + 1 ∧ ∃ G2 δ2, At K B G2 δ2 σ' H' ∧ Ext G G2 ∧ whileF T S m' δ2 = some (r, δ'), fun σ' H' z => z, ?_⟩
      have x13 := x2.trans x3
      cases q2 : S δ3 with
      | none => simp only [q2] at e3; cases e3
      | some z =>
        obtain ⟨u, δ4⟩ := z
        simp only [q2] at e3
        cases u with
        | error u => cases e3; exact ⟨B, G3, δ3, .error u, _, a3, q2, post⟩
        | ok o =>
          cases o with
          | nx => exact ⟨B, G3, δ3, .ok .nx, δ4, a3, q2, fun G5 σ5 H5 a5 x5 => ⟨m, by omega, G5, δ4, a5, x13.trans x5, e3⟩⟩
          | ct => exact ⟨B, G3, δ3, .ok .ct, δ4, a3, q2, fun G5 σ5 H5 a5 x5 => ⟨m, by omega, G5, δ4, a5, x13.trans x5, e3⟩⟩
          | bk => cases e3; exact ⟨B, G3, δ3, .ok .bk, _, a3, q2, post⟩
          | rt d => cases e3; exact ⟨B, G3, δ3, .ok (.rt d), _, a3, q2, post⟩
          | rtO d => cases e3; exact ⟨B, G3, δ3, .ok (.rtO d), _, a3, q2, post⟩
theorem ds_while {body : List Stmt} (hp : PassesOwn (model X.prog X.w) X.A X.env X.xe) (hc : DT X W c T) (hb : DSs X W body S) : DS X W (.While c body [] pos) (sWhile T S) := PS.weak (ps_while hp hc hb) fun Dn σ H q => tWhile_ok q
theorem whileF_mono {c : Mo Bool} {b : Mo Out} : ∀ {n m : Nat} {δ : Env} {r : Except Exn Out × Env}, whileF c b n δ = some r → n ≤ m → whileF c b m δ = some r
  | 0, _, _, _, h, _ => by cases h
  | n + 1, m, δ, r, h, l => by
    obtain ⟨k, rfl⟩ : ∃ k, m = k + 1 := ⟨m - 1, by omega⟩
    unfold whileF Mo.bind at h ⊢
    cases q : c δ with
    | none => rw [q] at h; cases h
    | some z =>
      obtain ⟨x, δ1⟩ := z
      rw [q] at h
      cases x with
      | error x => exact h
      | ok t =>
        cases t with
        | false => exact h
        | true =>
          simp only [if_true] at h ⊢
          cases q2 : b δ1 with
          | none => simp only [q2] at h; cases h
          | some z =>
            obtain ⟨u, δ4⟩ := z
            simp only [q2] at h
            cases u with
            | error u => exact h
            | ok o => cases o <;> first | exact whileF_mono h (by omega) | exact h
theorem sWhile_of {c : Mo Bool} {b : Mo Out} {n : Nat} {δ : Env} {r : Except Exn Out × Env} (h : whileF c b n δ = some r) : sWhile c b δ = some r := by
  have ex : ∃ n, (whileF c b n δ).isSome = true := ⟨n, by rw [h]; rfl⟩
  unfold sWhile
  rw [dif_pos ex]
  have h2 := ex.choose_spec
  cases q : whileF c b ex.choose δ with
  | none => rw [q] at h2; cases h2
  | some z =>
    have h3 := whileF_mono h (Nat.le_max_left n ex.choose)
    have h4 := whileF_mono q (Nat.le_max_right n ex.choose)
    rw [h3] at h4; exact h4.symm
end
end M

set_option Elab.async false
set_option linter.all false
set_option maxRecDepth 100000
/-! Part D: calls of own defs. -/
namespace M
open PySem L2 PySem.Spec PyProof.Rows

def argSl (δ : Env) : Ag → Option Sl
  | .im d => some (.imm d)
  | .vr i => match δ[i]? with
    | some (.own d) => some (.io d)
    | some (.io d) => some (.io d)
    | _ => none
  | .vb i => match δ[i]? with
    | some (.own d) => some (.bor d)
    | some (.io d) => some (.bor d)
    | some (.imm d) => some (.bor d)
    | some (.bor d) => some (.bor d)
    | _ => none
def argSls (δ : Env) : List Ag → Option Env
  | [] => some []
  | a :: as => match argSl δ a with
    | none => none
    | some s => match argSls δ as with
      | none => none
      | some ss => some (s :: ss)
def vrs : List Ag → List Nat
  | [] => []
  | .vr i :: as => i :: vrs as
  | _ :: as => vrs as
def vbs : List Ag → List Nat
  | [] => []
  | .vb i :: as => i :: vbs as
  | _ :: as => vbs as
def backs : List Ag → Env → Env → Option Env
  | [], _, δ => some δ
  | .vr i :: as, .io d :: δc, δ => match δ[i]? with
    | some (.own _) => backs as δc (δ.set i (.own d))
    | some (.io _) => backs as δc (δ.set i (.io d))
    | _ => none
  | .vr _ :: _, _, _ => none
  | .im _ :: as, _ :: δc, δ => backs as δc δ
  | .vb _ :: as, _ :: δc, δ => backs as δc δ
  | _ :: _, [], _ => none
def callM (m : Mo D) (as : List Ag) : Mo D := fun δ => match argSls δ as with
  | none => none
  | some δc => if (vrs as).Nodup ∧ (∀ i ∈ vbs as, i ∉ vrs as) then match m δc with
      | none => none
      | some (r, δc') => match backs as δc' δ with
        | none => none
        | some δ' => some (r, δ')
    else none

theorem argSl_vr {δ : Env} {i : Nat} {s : Sl} (h : argSl δ (.vr i) = some s) : ∃ d, s = .io d ∧ (δ[i]? = some (.own d) ∨ δ[i]? = some (.io d)) := by
  have h : (match δ[i]? with
    | some (.own d) => some (Sl.io d)
    | some (.io d) => some (Sl.io d)
    | _ => none) = some s := h
  split at h
  · rename_i d q; cases h; exact ⟨d, rfl, .inl q⟩
  · rename_i d q; cases h; exact ⟨d, rfl, .inr q⟩
  · cases h
theorem argSl_vb {δ : Env} {i : Nat} {s : Sl} (h : argSl δ (.vb i) = some s) : ∃ d, s = .bor d ∧ (δ[i]? = some (.own d) ∨ δ[i]? = some (.io d) ∨ δ[i]? = some (.imm d) ∨ δ[i]? = some (.bor d)) := by
  have h : (match δ[i]? with
    | some (.own d) => some (Sl.bor d)
    | some (.io d) => some (Sl.bor d)
    | some (.imm d) => some (Sl.bor d)
    | some (.bor d) => some (Sl.bor d)
    | _ => none) = some s := h
  split at h
  · rename_i d q; cases h; exact ⟨d, rfl, .inl q⟩
  · rename_i d q; cases h; exact ⟨d, rfl, .inr (.inl q)⟩
  · rename_i d q; cases h; exact ⟨d, rfl, .inr (.inr (.inl q))⟩
  · rename_i d q; cases h; exact ⟨d, rfl, .inr (.inr (.inr q))⟩
  · cases h
theorem argSls_len {δ : Env} : ∀ {as : List Ag} {δc : Env}, argSls δ as = some δc → δc.length = as.length
  | [], _, h => by cases h; rfl
  | a :: as, δc, h => by
    unfold argSls at h
    cases q : argSl δ a with
    | none => rw [q] at h; cases h
    | some s =>
      rw [q] at h
      cases q2 : argSls δ as with
      | none => simp only [q2] at h; cases h
      | some ss => simp only [q2] at h; cases h; rw [List.length_cons, List.length_cons, argSls_len q2]
theorem argSls_get {δ : Env} : ∀ {as : List Ag} {δc : Env}, argSls δ as = some δc → ∀ {k : Nat} {s : Sl}, δc[k]? = some s → ∃ a, as[k]? = some a ∧ argSl δ a = some s
  | [], _, h, k, s, e => by cases h; simp at e
  | a :: as, δc, h, k, s, e => by
    unfold argSls at h
    cases q : argSl δ a with
    | none => rw [q] at h; cases h
    | some s0 =>
      rw [q] at h
      cases q2 : argSls δ as with
      | none => simp only [q2] at h; cases h
      | some ss =>
        simp only [q2] at h; cases h
        cases k with
        | zero => simp at e; subst e; exact ⟨a, rfl, q⟩
        | succ k =>
          obtain ⟨b, h1, h2⟩ := argSls_get q2 (k := k) (s := s) (by simpa using e)
          exact ⟨b, by simpa using h1, h2⟩
theorem argSls_get' {δ : Env} : ∀ {as : List Ag} {δc : Env}, argSls δ as = some δc → ∀ {k : Nat} {a : Ag}, as[k]? = some a → ∃ s, δc[k]? = some s ∧ argSl δ a = some s := fun {as δc} h k a e => by
  have hl := argSls_len h
  have hk := (List.getElem?_eq_some_iff.mp e).1
  have hk2 : k < δc.length := by omega
  obtain ⟨b, h1, h2⟩ := argSls_get h (List.getElem?_eq_getElem hk2)
  rw [e] at h1; cases h1
  exact ⟨_, List.getElem?_eq_getElem hk2, h2⟩
theorem vrs_mem : ∀ {as : List Ag} {i : Nat}, i ∈ vrs as ↔ ∃ k : Nat, as[k]? = some (.vr i)
  | [], i => by simp [vrs]
  | .vr j :: as, i => by
    unfold vrs
    rw [List.mem_cons, vrs_mem]
    refine ⟨fun h => ?_, fun ⟨k, h⟩ => ?_⟩
    · rcases h with rfl | ⟨k, h⟩
      · exact ⟨0, rfl⟩
      · exact ⟨k + 1, by simpa using h⟩
    · cases k with
      | zero => simp at h; exact .inl h.symm
      | succ k => exact .inr ⟨k, by simpa using h⟩
  | .im d :: as, i => by
    unfold vrs
    rw [vrs_mem]
    refine ⟨fun ⟨k, h⟩ => ⟨k + 1, by simpa using h⟩, fun ⟨k, h⟩ => ?_⟩
    cases k with
    | zero => simp at h
    | succ k => exact ⟨k, by simpa using h⟩
  | .vb j :: as, i => by
    unfold vrs
    rw [vrs_mem]
    refine ⟨fun ⟨k, h⟩ => ⟨k + 1, by simpa using h⟩, fun ⟨k, h⟩ => ?_⟩
    cases k with
    | zero => simp at h
    | succ k => exact ⟨k, by simpa using h⟩
theorem vbs_mem : ∀ {as : List Ag} {i k : Nat}, as[k]? = some (.vb i) → i ∈ vbs as
  | [], i, k, h => by simp at h
  | .vb j :: as, i, k, h => by
    unfold vbs
    cases k with
    | zero => simp at h; rw [h]; exact List.mem_cons_self
    | succ k => exact List.mem_cons_of_mem _ (vbs_mem (k := k) (by simpa using h))
  | .im d :: as, i, k, h => by
    unfold vbs
    cases k with
    | zero => simp at h
    | succ k => exact vbs_mem (k := k) (by simpa using h)
  | .vr j :: as, i, k, h => by
    unfold vbs
    cases k with
    | zero => simp at h
    | succ k => exact vbs_mem (k := k) (by simpa using h)
theorem vrs_inj : ∀ {as : List Ag} {i k l : Nat}, (vrs as).Nodup → as[k]? = some (.vr i) → as[l]? = some (.vr i) → k = l
  | [], i, k, l, _, h, _ => by simp at h
  | a :: as, i, k, l, nd, h1, h2 => by
    have nd' : (vrs as).Nodup := by
      cases a <;> unfold vrs at nd <;> first | exact nd | exact (List.nodup_cons.mp nd).2
    cases k with
    | zero =>
      cases l with
      | zero => rfl
      | succ l =>
        simp at h1; subst h1
        unfold vrs at nd
        exact absurd (vrs_mem.mpr ⟨l, by simpa using h2⟩) (List.nodup_cons.mp nd).1
    | succ k =>
      cases l with
      | zero =>
        simp at h2; subst h2
        unfold vrs at nd
        exact absurd (vrs_mem.mpr ⟨k, by simpa using h1⟩) (List.nodup_cons.mp nd).1
      | succ l =>
        have := vrs_inj (as := as) (i := i) (k := k) (l := l) nd' (by simpa using h1) (by simpa using h2)
        rw [this]
theorem backs_len : ∀ {as : List Ag} {δc δ δ' : Env}, backs as δc δ = some δ' → δ'.length = δ.length
  | [], _, _, _, h => by cases h; rfl
  | .vr i :: as, [], _, _, h => by cases h
  | .vr i :: as, .no :: _, _, _, h => by cases h
  | .vr i :: as, .imm _ :: _, _, _, h => by cases h
  | .vr i :: as, .own _ :: _, _, _, h => by cases h
  | .vr i :: as, .bor _ :: _, _, _, h => by cases h
  | .vr i :: as, .io d :: δc, δ, δ', h => by
    unfold backs at h
    split at h
    · rw [backs_len h, List.length_set]
    · rw [backs_len h, List.length_set]
    · cases h
  | .im _ :: as, [], _, _, h => by cases h
  | .im _ :: as, _ :: δc, δ, δ', h => by unfold backs at h; exact backs_len h
  | .vb _ :: as, [], _, _, h => by cases h
  | .vb _ :: as, _ :: δc, δ, δ', h => by unfold backs at h; exact backs_len h
/-- what a slot is behind the call -/
def BackAt (as : List Ag) (δc δ : Env) (j : Nat) (s : Sl) : Prop := (j ∉ vrs as ∧ δ[j]? = some s) ∨
  ∃ (k : Nat) (d : D), as[k]? = some (.vr j) ∧ δc[k]? = some (.io d) ∧ ((∃ d0, δ[j]? = some (.own d0) ∧ s = .own d) ∨ ∃ d0, δ[j]? = some (.io d0) ∧ s = .io d)
theorem BackAt.step {a : Ag} {as : List Ag} {s0 : Sl} {δc δ : Env} {j : Nat} {s : Sl} (ha : ∀ i, a ≠ .vr i) (h : BackAt as δc δ j s) : BackAt (a :: as) (s0 :: δc) δ j s := by
  rcases h with ⟨h1, h2⟩ | ⟨k, d, h1, h2, h3⟩
  · refine .inl ⟨fun q => ?_, h2⟩
    obtain ⟨k, q⟩ := vrs_mem.mp q
    cases k with
    | zero => simp at q; exact ha _ q
    | succ k => exact h1 (vrs_mem.mpr ⟨k, by simpa using q⟩)
  · exact .inr ⟨k + 1, d, by simpa using h1, by simpa using h2, h3⟩
theorem backs_get : ∀ {as : List Ag} {δc δ δ' : Env}, (vrs as).Nodup → backs as δc δ = some δ' → ∀ {j : Nat} {s : Sl}, δ'[j]? = some s → BackAt as δc δ j s
  | [], _, _, _, _, h, j, s, e => by cases h; exact .inl ⟨by simp [vrs], e⟩
  | .vr i :: as, [], _, _, _, h, _, _, _ => by cases h
  | .vr i :: as, .no :: _, _, _, _, h, _, _, _ => by cases h
  | .vr i :: as, .imm _ :: _, _, _, _, h, _, _, _ => by cases h
  | .vr i :: as, .own _ :: _, _, _, _, h, _, _, _ => by cases h
  | .vr i :: as, .bor _ :: _, _, _, _, h, _, _, _ => by cases h
  | .vr i :: as, .io d :: δc, δ, δ', nd, h, j, s, e => by
    unfold vrs at nd
    obtain ⟨n1, n2⟩ := List.nodup_cons.mp nd
    have go : ∀ s0, (s0 = .own d ∧ (∃ d0, δ[i]? = some (.own d0)) ∨ s0 = .io d ∧ ∃ d0, δ[i]? = some (.io d0)) → backs as δc (δ.set i s0) = some δ' → BackAt (.vr i :: as) (.io d :: δc) δ j s := fun s0 hs0 h => by
      have ih := backs_get n2 h e
      by_cases c : i = j
      · subst c
        rcases ih with ⟨h1, h2⟩ | ⟨k, d', h1, _⟩
        · rcases get_set h2 with ⟨_, rfl, _⟩ | ⟨z, _⟩
          · refine .inr ⟨0, d, rfl, rfl, ?_⟩
            rcases hs0 with ⟨rfl, d0, q⟩ | ⟨rfl, d0, q⟩
            · exact .inl ⟨d0, q, rfl⟩
            · exact .inr ⟨d0, q, rfl⟩
          · exact absurd rfl z
        · exact absurd (vrs_mem.mpr ⟨k, h1⟩) n1
      · rcases ih with ⟨h1, h2⟩ | ⟨k, d', h1, h2, h3⟩
        · rw [List.getElem?_set_ne c] at h2
          refine .inl ⟨fun q => ?_, h2⟩
          unfold vrs at q
          rcases List.mem_cons.mp q with q | q
          · exact c q.symm
          · exact h1 q
        · rw [List.getElem?_set_ne c] at h3
          exact .inr ⟨k + 1, d', by simpa using h1, by simpa using h2, h3⟩
    unfold backs at h
    split at h
    · rename_i d0 q; exact go _ (.inl ⟨rfl, d0, q⟩) h
    · rename_i d0 q; exact go _ (.inr ⟨rfl, d0, q⟩) h
    · cases h
  | .im _ :: as, [], _, _, _, h, _, _, _ => by cases h
  | .im _ :: as, _ :: δc, δ, δ', nd, h, j, s, e => by
    unfold backs at h
    have nd : (vrs as).Nodup := nd
    exact (backs_get (as := as) nd h e).step (fun i q => by cases q)
  | .vb _ :: as, [], _, _, _, h, _, _, _ => by cases h
  | .vb _ :: as, _ :: δc, δ, δ', nd, h, j, s, e => by
    unfold backs at h
    have nd : (vrs as).Nodup := nd
    exact (backs_get (as := as) nd h e).step (fun i q => by cases q)

/-- the lent objects by the argument's place -/
def ioList (as : List Ag) (vs : List V) : List (Nat × Addr) := (List.range as.length).filterMap fun (k : Nat) => match as[k]?, vs[k]? with
  | some (.vr _), some (.ref p) => some (k, p)
  | _, _ => none
theorem ioList_mem {as : List Ag} {vs : List V} {k : Nat} {p : Addr} : (k, p) ∈ ioList as vs ↔ ∃ i, as[k]? = some (.vr i) ∧ vs[k]? = some (.ref p) := by
  unfold ioList
  rw [List.mem_filterMap]
  constructor
  · rintro ⟨m, _, h⟩
    split at h
    · rename_i i q h1 h2
      cases h
      exact ⟨i, h1, h2⟩
    · cases h
  · rintro ⟨i, h1, h2⟩
    refine ⟨k, List.mem_range.mpr (List.getElem?_eq_some_iff.mp h1).1, ?_⟩
    rw [h1, h2]
section
variable {K : PySem.W.Frag} {B : Bs} {G G' H H' : Hp} {δ δ' δc δc' : Env} {σ : St} {as : List Ag} {vs : List V}
theorem ags_get {k : Nat} {a : Ag} (h : AgsOk K G σ vs as) (e : as[k]? = some a) : ∃ v, vs[k]? = some v ∧ AgOk K G σ v a := by
  induction h generalizing k with
  | nil => simp at e
  | cons h t ih =>
    cases k with
    | zero => simp at e; subst e; exact ⟨_, rfl, h⟩
    | succ k => obtain ⟨v, h1, h2⟩ := ih (k := k) (by simpa using e); exact ⟨v, by simpa using h1, h2⟩
theorem ags_len (h : AgsOk K G σ vs as) : vs.length = as.length := Paired.length h
/-- a lent slot -/
theorem vr_own (a : At K B G δ σ H) (hδ : argSls δ as = some δc) {k i : Nat} (e : as[k]? = some (.vr i)) : ∃ p, OwnAt δ σ i p ∧ (∀ j, B.Bo j p = none) ∧ (B.H0 p = none ∨ (i, p) ∈ B.IO) ∧ ∃ d, δc[k]? = some (.io d) ∧ Ow K G H p d ∧ G p = none := by
  obtain ⟨s, h1, h2⟩ := argSls_get' hδ e
  obtain ⟨d, rfl, q | q⟩ := argSl_vr h2
  · obtain ⟨p, q1, q2, q3, q4⟩ := a.own q
    refine ⟨p, ⟨⟨d, .inl q⟩, q1⟩, fun j => ?_, .inl q4, d, h1, q3, q2⟩
    cases z : B.Bo j p with
    | none => rfl
    | some u => exact absurd q4 (a.bod j p (by rw [z]; simp))
  · obtain ⟨p, q1, q2, q3, q4⟩ := a.io q
    exact ⟨p, ⟨⟨d, .inr q⟩, q1⟩, (a.iok i p q4).2.2.1, .inr q4, d, h1, q3, q2⟩
theorem io_slot (a : At K B G δ σ H) (g : AgsOk K G σ vs as) (hδ : argSls δ as = some δc) {k : Nat} {p : Addr} (e : (k, p) ∈ ioList as vs) : ∃ i, as[k]? = some (.vr i) ∧ OwnAt δ σ i p ∧ (∀ j, B.Bo j p = none) ∧ (B.H0 p = none ∨ (i, p) ∈ B.IO) := by
  obtain ⟨i, h1, h2⟩ := ioList_mem.mp e
  obtain ⟨q, h3, h4, h5, d, _⟩ := vr_own a hδ h1
  obtain ⟨v, h6, h7⟩ := ags_get g h1
  have h7 : σ[i]? = some (some v) := h7
  rw [h2] at h6; cases h6
  have := h3.2
  rw [h7] at this; cases this
  exact ⟨i, h1, h3, h4, h5⟩
/-- what a borrowed argument is read by -/
theorem bo_one (a : At K B G δ σ H) (g : AgsOk K G σ vs as) (hδ : argSls δ as = some δc) (nb : ∀ i ∈ vbs as, i ∉ vrs as) (k : Nat) :
    ∃ Bk : Hp, Vw Bk H ∧ (∀ j p, (j, p) ∈ ioList as vs → Bk p = none) ∧ ∀ d, δc[k]? = some (.bor d) → ∃ v, vs[k]? = some v ∧ R K Bk v d := by
  have ioG : ∀ j p, (j, p) ∈ ioList as vs → G p = none := fun j p e => by
    obtain ⟨i, _, h3, _⟩ := io_slot a g hδ e
    exact (a.ownAt h3).1
  by_cases c : ∃ d, δc[k]? = some (.bor d)
  · obtain ⟨d, hd⟩ := c
    obtain ⟨x, h1, h2⟩ := argSls_get hδ hd
    have key : (∃ v Bk, vs[k]? = some v ∧ Vw Bk H ∧ (∀ j p, (j, p) ∈ ioList as vs → Bk p = none) ∧ R K Bk v d) → ∃ Bk : Hp, Vw Bk H ∧ (∀ j p, (j, p) ∈ ioList as vs → Bk p = none) ∧ ∀ d, δc[k]? = some (.bor d) → ∃ v, vs[k]? = some v ∧ R K Bk v d := fun ⟨v, Bk, z1, z2, z3, z4⟩ => ⟨Bk, z2, z3, fun d' e => by rw [hd] at e; cases e; exact ⟨v, z1, z4⟩⟩
    refine key ?_
    cases x with
    | im d' => cases h2
    | vr i => obtain ⟨_, q, _⟩ := argSl_vr h2; cases q
    | vb i =>
      obtain ⟨v, h3, h4⟩ := ags_get g h1
      have h4 : σ[i]? = some (some v) := h4
      have own : ∀ p, v = .ref p → OwnAt δ σ i p → Ow K G H p d → G p = none → ∃ v Bk, vs[k]? = some v ∧ Vw Bk H ∧ (∀ j p, (j, p) ∈ ioList as vs → Bk p = none) ∧ R K Bk v d := fun p hv ho w gp => by
        obtain ⟨o, b1, _, b2⟩ := w.obj
        refine ⟨v, upd G p o, h3, fun b u e => ?_, fun j q e => ?_, by rw [hv]; exact b2 _ upd_same (Ext.new gp)⟩
        · by_cases z : b = p
          · subst z; rw [upd_same] at e; cases e; exact .inl b1
          · rw [upd_ne z] at e; exact a.vw b u e
        · have z : q ≠ p := fun z => by
            subst z
            obtain ⟨l, y1, y2, _⟩ := io_slot a g hδ e
            have := a.apart i l q ho y2
            subst this
            exact nb i (vbs_mem h1) (vrs_mem.mpr ⟨j, y1⟩)
          rw [upd_ne z]; exact ioG j q e
      obtain ⟨d', q', q⟩ := argSl_vb h2
      cases q'
      rcases q with q | q | q | q
      · obtain ⟨p, q1, q2, q3, _⟩ := a.own q
        have q5 : v = .ref p := by rw [h4] at q1; cases q1; rfl
        exact own p q5 ⟨⟨_, .inl q⟩, q1⟩ q3 q2
      · obtain ⟨p, q1, q2, q3, _⟩ := a.io q
        have q5 : v = .ref p := by rw [h4] at q1; cases q1; rfl
        exact own p q5 ⟨⟨_, .inr q⟩, q1⟩ q3 q2
      · obtain ⟨u, q1, q2⟩ := a.imm q
        rw [h4] at q1; cases q1
        exact ⟨_, G, h3, a.vw, ioG, q2⟩
      · obtain ⟨u, q1, q2⟩ := a.bor q
        rw [h4] at q1; cases q1
        exact ⟨_, B.Bo i, h3, a.bo i, fun j p e => by
          obtain ⟨l, _, _, y, _⟩ := io_slot a g hδ e
          exact y i, q2⟩
  · exact ⟨fun _ => none, fun _ _ e => (by cases e), fun _ _ _ => rfl, fun d e => absurd ⟨d, e⟩ c⟩
theorem call_enter (a : At K B G δ σ H) (g : AgsOk K G σ vs as) (hδ : argSls δ as = some δc) (nd : (vrs as).Nodup) (nb : ∀ i ∈ vbs as, i ∉ vrs as) :
    ∃ Bc : Bs, Bc.H0 = H ∧ Bc.G0 = G ∧ Bc.IO = ioList as vs ∧ At K Bc G δc (vs.map some) H := by
  obtain ⟨Bo, hBo⟩ := Classical.axiomOfChoice (bo_one a g hδ nb)
  refine ⟨⟨H, G, Bo, ioList as vs⟩, rfl, rfl, rfl, ⟨a.vw, Ext.refl G, fun _ _ e _ => e, fun _ e => e, fun _ _ _ _ e => e, fun k p e => ?_, fun j => (hBo j).1, fun j b e => ?_, ?_, fun k s e => ?_, fun k l p e1 e2 => ?_⟩⟩
  · obtain ⟨i, h1, h2, h3, h4⟩ := io_slot a g hδ e
    obtain ⟨g1, d, w⟩ := a.ownAt h2
    obtain ⟨o, b1, m, _⟩ := w.obj
    exact ⟨g1, by show H p ≠ none; rw [b1]; simp, fun j => (hBo j).2.1 k p e, o, b1, m⟩
  · cases z : Bo j b with
    | none => exact absurd z e
    | some u => exact (hBo j).1.there z
  · rw [List.length_map, argSls_len hδ, ags_len g]
  · obtain ⟨x, h1, h2⟩ := argSls_get hδ e
    obtain ⟨v, h3, h4⟩ := ags_get g h1
    refine ⟨some v, by rw [List.getElem?_map, h3]; rfl, ?_⟩
    cases x with
    | im d => cases h2; exact ⟨v, rfl, h4⟩
    | vr i =>
      obtain ⟨p, q1, q2, q3, d, q4, q5, q6⟩ := vr_own a hδ h1
      rw [e] at q4; cases q4
      have h4 : σ[i]? = some (some v) := h4
      have := q1.2
      rw [h4] at this; cases this
      exact ⟨p, rfl, q6, q5, ioList_mem.mpr ⟨i, h1, h3⟩⟩
    | vb i =>
      obtain ⟨d, rfl, _⟩ := argSl_vb h2
      obtain ⟨u, z1, z2⟩ := (hBo k).2.2 d e
      rw [h3] at z1; cases z1
      exact ⟨v, rfl, z2⟩
  · have lent : ∀ k, OwnAt δc (vs.map some) k p → ∃ i, as[k]? = some (.vr i) ∧ OwnAt δ σ i p := fun k z => by
      obtain ⟨⟨d, z1⟩, z2⟩ := z
      have hs : ∃ s, δc[k]? = some s ∧ (s = .own d ∨ s = .io d) := by
        rcases z1 with z1 | z1
        · exact ⟨_, z1, .inl rfl⟩
        · exact ⟨_, z1, .inr rfl⟩
      obtain ⟨s, y1, y2⟩ := hs
      obtain ⟨x, h1, h2⟩ := argSls_get hδ y1
      cases x with
      | im d => cases h2; rcases y2 with y2 | y2 <;> cases y2
      | vb i => obtain ⟨_, rfl, _⟩ := argSl_vb h2; rcases y2 with y2 | y2 <;> cases y2
      | vr i =>
        obtain ⟨q, q1, _⟩ := vr_own a hδ h1
        obtain ⟨v, h3, h4⟩ := ags_get g h1
        have h4 : σ[i]? = some (some v) := h4
        rw [List.getElem?_map, h3] at z2
        have z2 : v = .ref p := Option.some.inj (Option.some.inj z2)
        subst z2
        exact ⟨i, h1, ⟨q1.1, h4⟩⟩
    obtain ⟨i, x1, x2⟩ := lent k e1
    obtain ⟨j, y1, y2⟩ := lent l e2
    have := a.apart i j p x2 y2
    subst this
    exact vrs_inj nd x1 y1
theorem call_leave {Bc : Bs} (a : At K B G δ σ H) (g : AgsOk K G σ vs as) (hδ : argSls δ as = some δc) (nd : (vrs as).Nodup) (e1 : Bc.H0 = H) (e2 : Bc.G0 = G) (e3 : Bc.IO = ioList as vs)
    (ac : At K Bc G' δc' (vs.map some) H') (hb : backs as δc' δ = some δ') : At K B G' δ' σ H' := by
  have ex : Ext G G' := by rw [← e2]; exact ac.g0
  have noIO : ∀ p, (∀ j, ¬ OwnAt δ σ j p) → ∀ k, (k, p) ∉ Bc.IO := fun p h k z => by
    rw [e3] at z
    obtain ⟨i, _, h2, _⟩ := io_slot a g hδ z
    exact h i h2
  have kp : ∀ p o, H p = some o → (∀ k, (k, p) ∉ Bc.IO) → H' p = some o := fun p o z n => ac.keep p o (by rw [e1]; exact z) n
  have gNone : ∀ p o, H p = some o → (∀ xs, o ≠ .tup xs) → G p = none → G' p = none := fun p o z t n => ac.leak p o (by rw [e1]; exact z) t (by rw [e2]; exact n)
  have noOf : ∀ p, (B.H0 p ≠ none ∧ ∀ i, (i, p) ∉ B.IO) → ∀ k, (k, p) ∉ Bc.IO := fun p h k z => by
    rw [e3] at z
    obtain ⟨i, _, _, _, h4⟩ := io_slot a g hδ z
    rcases h4 with h4 | h4
    · exact h.1 h4
    · exact h.2 i h4
  refine ⟨ac.vw, a.g0.trans ex, fun p o z n => ?_, fun p z => ?_, fun p o z t n => ?_, fun i p z => ?_, fun j p o z => ?_, a.bod, ?_, fun j s z => ?_, fun i j p z1 z2 => ?_⟩
  · exact kp p o (a.keep p o z n) (noOf p ⟨by rw [z]; simp, n⟩)
  · have := a.dom p z
    exact ac.dom p (by rw [e1]; exact this)
  · have gp := a.leak p o z t n
    by_cases io : ∀ i, (i, p) ∉ B.IO
    · exact gNone p o (a.keep p o z io) t gp
    · have ⟨i, io⟩ : ∃ i, (i, p) ∈ B.IO := Classical.byContradiction fun q => io fun i hi => q ⟨i, hi⟩
      obtain ⟨_, _, _, u, z1, z2⟩ := a.iok i p io
      exact gNone p u z1 (mut_notup z2) gp
  · obtain ⟨a1, a2, a3, u, a4, a5⟩ := a.iok i p z
    refine ⟨a1, a2, a3, ?_⟩
    by_cases io : ∀ k, (k, p) ∉ Bc.IO
    · exact ⟨u, kp p u a4 io, a5⟩
    · have ⟨k, io⟩ : ∃ i, (i, p) ∈ Bc.IO := Classical.byContradiction fun q => io fun i hi => q ⟨i, hi⟩
      obtain ⟨_, _, _, v, z1, z2⟩ := ac.iok k p io
      exact ⟨v, z1, z2⟩
  · have nio : ∀ k, (k, p) ∉ Bc.IO := fun k y => by
      rw [e3] at y
      obtain ⟨_, _, _, h3, _⟩ := io_slot a g hδ y
      rw [h3 j] at z; cases z
    rcases a.bo j p o z with q | ⟨q1, x, q⟩
    · exact .inl (kp p o q nio)
    · exact .inr ⟨q1, x, kp p _ q nio⟩
  · rw [backs_len hb]; exact a.len
  · rcases backs_get nd hb z with ⟨h1, h2⟩ | ⟨k, d, h1, h2, h3⟩
    · obtain ⟨ov, q1, q2⟩ := a.sl j s h2
      refine ⟨ov, q1, ?_⟩
      have own : ∀ p, OwnAt δ σ j p → ∀ k, (k, p) ∉ Bc.IO := fun p h k y => by
        rw [e3] at y
        obtain ⟨i, y1, y2, _⟩ := io_slot a g hδ y
        have := a.apart j i p h y2
        subst this
        exact h1 (vrs_mem.mpr ⟨k, y1⟩)
      cases s with
      | no => trivial
      | imm d => obtain ⟨v, r1, r2⟩ := q2; exact ⟨v, r1, r2.mono ex⟩
      | bor d => exact q2
      | own d =>
        obtain ⟨p, r1, r2, r3, r4⟩ := q2
        subst r1
        obtain ⟨o, b1, m, _⟩ := r3.obj
        have hk := kp p o b1 (own p ⟨⟨d, .inl h2⟩, q1⟩)
        exact ⟨p, rfl, gNone p o b1 (mut_notup m) r2, (r3.mono ex).at' (hk.trans b1.symm), r4⟩
      | io d =>
        obtain ⟨p, r1, r2, r3, r4⟩ := q2
        subst r1
        obtain ⟨o, b1, m, _⟩ := r3.obj
        have hk := kp p o b1 (own p ⟨⟨d, .inr h2⟩, q1⟩)
        exact ⟨p, rfl, gNone p o b1 (mut_notup m) r2, (r3.mono ex).at' (hk.trans b1.symm), r4⟩
    · obtain ⟨p, q1, q2, q3, q4⟩ := ac.io h2
      obtain ⟨v, h5, h6⟩ := ags_get g h1
      have h6 : σ[j]? = some (some v) := h6
      rw [List.getElem?_map, h5] at q1
      have q1 : v = .ref p := Option.some.inj (Option.some.inj q1)
      subst q1
      refine ⟨some (.ref p), h6, ?_⟩
      rcases h3 with ⟨d0, y1, rfl⟩ | ⟨d0, y1, rfl⟩
      · obtain ⟨p', r1, _, _, r4⟩ := a.own y1
        rw [h6] at r1; cases r1
        exact ⟨p, rfl, q2, q3, r4⟩
      · obtain ⟨p', r1, _, _, r4⟩ := a.io y1
        rw [h6] at r1; cases r1
        exact ⟨p, rfl, q2, q3, r4⟩
  · have back : ∀ j, OwnAt δ' σ j p → OwnAt δ σ j p := fun j y => by
      obtain ⟨⟨d, y1⟩, y2⟩ := y
      have hs : ∃ s, δ'[j]? = some s ∧ (s = .own d ∨ s = .io d) := by
        rcases y1 with y1 | y1
        · exact ⟨_, y1, .inl rfl⟩
        · exact ⟨_, y1, .inr rfl⟩
      obtain ⟨s, x1, x2⟩ := hs
      rcases backs_get nd hb x1 with ⟨_, h2⟩ | ⟨k, d', _, _, h3⟩
      · rcases x2 with rfl | rfl
        · exact ⟨⟨d, .inl h2⟩, y2⟩
        · exact ⟨⟨d, .inr h2⟩, y2⟩
      · rcases h3 with ⟨d0, y1, _⟩ | ⟨d0, y1, _⟩
        · exact ⟨⟨d0, .inl y1⟩, y2⟩
        · exact ⟨⟨d0, .inr y1⟩, y2⟩
    exact a.apart i j p (back i z1) (back j z2)
end

/-! ### promises -/
/-- the table of the own exceptions: class, field -/
abbrev XT := Str → Option (Addr × Str)
/-- an exception on its way: its class, its own dict's one field -/
def WE (tab : XT) (K : PySem.W.Frag) (E : XK) : WK := fun x _ _ G H => ∀ C f v d, tab x.cls = some (C, f) → R K G v x.val → H d = none → E (.ref C) (some d) (upd H d (.xd [(f, v)]))
def PostF (K : PySem.W.Frag) (W : WK) (B : Bs) (G : Hp) (σ : St) (ro : Bool) (r : Except Exn D) (δ' : Env) (Q : VK) : Prop := match r with
  | .ok d => ∀ G' H', At K B G' δ' σ H' → Ext G G' → if ro = true then ∀ p, Fr1 K B G' δ' σ H' p d → Q (.ref p) H' else ∀ v, R K G' v d → Q v H'
  | .error x => ∀ G' H', At K B G' δ' σ H' → Ext G G' → W x δ' σ G' H'
/-- a def's promise: it does what the mirror m does -/
def spM (Wf : XK → WK) (K : PySem.W.Frag) (n : Nat) (ro : Bool) (m : Mo D) : Sp := fun vs H Q E => vs.length = n ∧ ∃ B G δ r δ', (∀ k p, (k, p) ∈ B.IO → vs[k]? = some (.ref p)) ∧ At K B G δ (vs.map some) H ∧ m δ = some (r, δ') ∧ PostF K (Wf E) B G (vs.map some) ro r δ' Q
/-- the lent slots among the parameters -/
def keepIo : Sl → Sl
  | .io d => .io d
  | _ => .no
def ios : Nat → Env → Env
  | 0, _ => []
  | n + 1, s :: δ => keepIo s :: ios n δ
  | n + 1, [] => .no :: ios n []
theorem ios_len : ∀ (n : Nat) (δ : Env), (ios n δ).length = n
  | 0, _ => rfl
  | n + 1, s :: δ => by unfold ios; rw [List.length_cons, ios_len]
  | n + 1, [] => by unfold ios; rw [List.length_cons, ios_len]
theorem ios_get : ∀ {n : Nat} {δ : Env} {j : Nat} {s : Sl}, (ios n δ)[j]? = some s → s = .no ∨ ∃ d, s = .io d ∧ δ[j]? = some (.io d)
  | 0, _, _, _, e => by simp [ios] at e
  | n + 1, s0 :: δ, 0, s, e => by
    unfold ios at e
    simp at e; subst e
    cases s0 with
    | io d => exact .inr ⟨d, rfl, rfl⟩
    | _ => exact .inl rfl
  | n + 1, s0 :: δ, j + 1, s, e => by
    unfold ios at e
    have := ios_get (n := n) (δ := δ) (j := j) (s := s) (by simpa using e)
    simpa using this
  | n + 1, [], 0, s, e => by unfold ios at e; simp at e; exact .inl e.symm
  | n + 1, [], j + 1, s, e => by
    unfold ios at e
    have := ios_get (n := n) (δ := []) (j := j) (s := s) (by simpa using e)
    rcases this with h | ⟨d, _, h⟩
    · exact .inl h
    · simp at h
/-- a def's mirror by its body's: N names, n parameters -/
def fnM (N n : Nat) (body : Mo Out) : Mo D := fun δ => match body (δ ++ List.replicate (N - n) .no) with
  | some (.ok (.rt d), δ') => some (.ok d, ios n δ')
  | some (.ok (.rtO d), δ') => some (.ok d, ios n δ')
  | some (.ok .nx, δ') => some (.ok .non, ios n δ')
  | some (.error x, δ') => some (.error x, ios n δ')
  | _ => none
def fnO (N n : Nat) (body : Mo Out) : Mo D := fun δ => match body (δ ++ List.replicate (N - n) .no) with
  | some (.ok (.rtO d), δ') => some (.ok d, ios n δ')
  | some (.error x, δ') => some (.error x, ios n δ')
  | _ => none
section
variable {K : PySem.W.Frag} {B : Bs} {G G' H H' : Hp} {δ δ' : Env} {σ σ' : St} {vs : List V} {n N : Nat}
theorem At.start (a : At K B G δ (vs.map some) H) (m : Nat) : At K B G (δ ++ List.replicate m .no) (vs.map some ++ List.replicate m none) H := by
  have hl : δ.length = vs.length := by rw [a.len, List.length_map]
  have back : ∀ {j : Nat} {s : Sl}, (δ ++ List.replicate m .no)[j]? = some s → s = .no ∨ (δ[j]? = some s ∧ (vs.map some ++ List.replicate m none)[j]? = (vs.map some)[j]?) := fun {j s} e => by
    by_cases c : j < δ.length
    · rw [List.getElem?_append_left c] at e
      exact .inr ⟨e, List.getElem?_append_left (by rw [List.length_map]; omega)⟩
    · rw [List.getElem?_append_right (by omega)] at e
      have := List.mem_of_getElem? e
      exact .inl (List.eq_of_mem_replicate this)
  exact a.forget (by rw [List.length_append, List.length_append, List.length_replicate, List.length_replicate, List.length_map, hl]) fun j s e => back e
/-- the frame is left: its lent slots, at the values that were handed in -/
theorem ios_slot (hio : ∀ k p, (k, p) ∈ B.IO → vs[k]? = some (.ref p)) (a : At K B G' δ' σ' H') : ∀ (j : Nat) (s : Sl), (ios n δ')[j]? = some s → s = .no ∨ ∃ d, s = .io d ∧ δ'[j]? = some (.io d) ∧ ∃ p, (vs.map some)[j]? = some (some (.ref p)) ∧ σ'[j]? = some (some (.ref p)) := fun j s e => by
  rcases ios_get e with rfl | ⟨d, rfl, q⟩
  · exact .inl rfl
  · obtain ⟨p, q1, _, _, q4⟩ := a.io q
    exact .inr ⟨d, rfl, q, p, by rw [List.getElem?_map, hio j p q4]; rfl, q1⟩
theorem ios_back (hio : ∀ k p, (k, p) ∈ B.IO → vs[k]? = some (.ref p)) (a : At K B G' δ' σ' H') {j : Nat} {p : Addr} (z : OwnAt (ios n δ') (vs.map some) j p) : OwnAt δ' σ' j p := by
  obtain ⟨⟨d, z1⟩, z2⟩ := z
  have hs : ∃ s, (ios n δ')[j]? = some s ∧ (s = .own d ∨ s = .io d) := by
    rcases z1 with z1 | z1
    · exact ⟨_, z1, .inl rfl⟩
    · exact ⟨_, z1, .inr rfl⟩
  obtain ⟨s, y1, y2⟩ := hs
  rcases ios_slot hio a j s y1 with rfl | ⟨d', rfl, q, p', q1, q2⟩
  · rcases y2 with y2 | y2 <;> cases y2
  · rw [q1] at z2; cases z2
    exact ⟨⟨d', .inr q⟩, q2⟩
theorem At.leave (hn : vs.length = n) (hio : ∀ k p, (k, p) ∈ B.IO → vs[k]? = some (.ref p)) (a : At K B G' δ' σ' H') : At K B G' (ios n δ') (vs.map some) H' := by
  refine ⟨a.vw, a.g0, a.keep, a.dom, a.leak, a.iok, a.bo, a.bod, ?_, fun j s e => ?_, fun i j p e1 e2 => a.apart i j p (ios_back hio a e1) (ios_back hio a e2)⟩
  · rw [ios_len, List.length_map, hn]
  · rcases ios_slot hio a j s e with rfl | ⟨d, rfl, q, p, q1, q2⟩
    · have := (List.getElem?_eq_some_iff.mp e).1
      rw [ios_len] at this
      have hj : j < (vs.map some).length := by rw [List.length_map]; omega
      exact ⟨_, List.getElem?_eq_getElem hj, trivial⟩
    · obtain ⟨p', r1, r2, r3, r4⟩ := a.io q
      rw [q2] at r1; cases r1
      exact ⟨_, q1, p, rfl, r2, r3, r4⟩
end

/-! ### a call -/
section
variable {X : Cx} {W : WK} {e : Expr} {es : List Expr} {A : Mo (List Ag)} {CX : CXT} {k n : Nat} {f : Addr} {fd : FuncData} {ps : List Str} {ds : List Value} {x : Str} {p pos : Pos} {m : Mo D}
def eCall (m : Mo D) (A : Mo (List Ag)) : Mo D := A.bind fun as => callM m as
/-- default values: data -/
theorem call_ok {K : PySem.W.Frag} {Wf : XK → WK} {E : XK} {B : Bs} {G : Hp} {δ δ' : Env} {σ : St} {H : Hp} {as : List Ag} {vs : List V} {r : Except Exn D} {ro : Bool} {Q : VK} (hW : Wf E = W) (hW2 : ∀ x δ σ δ2 σ2 G H, W x δ σ G H → W x δ2 σ2 G H) (a : At K B G δ σ H) (g : AgsOk K G σ vs as) (h : callM m as δ = some (r, δ'))
    (post : match r with
      | .ok d => ∀ G' H', At K B G' δ' σ H' → Ext G G' → if ro = true then ∀ p, Fr1 K B G' δ' σ H' p d → Q (.ref p) H' else ∀ v, R K G' v d → Q v H'
      | .error x => ∀ G' H', At K B G' δ' σ H' → Ext G G' → W x δ' σ G' H')
    (hn : as.length = n) : spM Wf K n ro m vs H Q E := by
  unfold callM at h
  cases q : argSls δ as with
  | none => rw [q] at h; cases h
  | some δc =>
    rw [q] at h
    simp only [] at h
    split at h
    · rename_i c
      obtain ⟨nd, nb⟩ := c
      cases q2 : m δc with
      | none => rw [q2] at h; cases h
      | some z =>
        obtain ⟨r', δc'⟩ := z
        rw [q2] at h
        simp only [] at h
        cases q3 : backs as δc' δ with
        | none => rw [q3] at h; cases h
        | some δ2 =>
          rw [q3] at h
          cases h
          obtain ⟨Bc, e1, e2, e3, ac⟩ := call_enter a g q nd nb
          refine ⟨by rw [ags_len g]; exact hn, Bc, G, δc, r, δc', fun k p z => by rw [e3] at z; obtain ⟨_, _, y⟩ := ioList_mem.mp z; exact y, ac, q2, ?_⟩
          have lv : ∀ {G' H'}, At K Bc G' δc' (vs.map some) H' → At K B G' δ' σ H' := fun a' => call_leave a g q nd e1 e2 e3 a' q3
          cases r with
          | error y =>
            intro G' H' a' x'
            rw [hW]
            exact hW2 _ _ _ _ _ _ _ (post G' H' (lv a') x')
          | ok d =>
            intro G' H' a' x'
            have pp := post G' H' (lv a') x'
            cases ro with
            | false => rw [if_neg Bool.false_ne_true] at pp ⊢; exact pp
            | true =>
              rw [if_pos rfl] at pp ⊢
              rintro p ⟨w1, w2, w3, w4⟩
              have hp0 : H p = none := by rw [← e1]; exact w2
              refine pp p ⟨w1, a.fresh0 hp0, fun j z => ?_, w4⟩
              -- a slot's own object was there ahead of the call
              have : OwnAt δ σ j p := by
                obtain ⟨⟨d', z1⟩, z2⟩ := z
                have hs : ∃ s, δ'[j]? = some s ∧ (s = .own d' ∨ s = .io d') := by
                  rcases z1 with z1 | z1
                  · exact ⟨_, z1, .inl rfl⟩
                  · exact ⟨_, z1, .inr rfl⟩
                obtain ⟨s, y1, y2⟩ := hs
                rcases backs_get nd q3 y1 with ⟨_, h2⟩ | ⟨k, d'', _, _, h3⟩
                · rcases y2 with rfl | rfl
                  · exact ⟨⟨_, .inl h2⟩, z2⟩
                  · exact ⟨⟨_, .inr h2⟩, z2⟩
                · rcases h3 with ⟨d0, y1, _⟩ | ⟨d0, y1, _⟩
                  · exact ⟨⟨d0, .inl y1⟩, z2⟩
                  · exact ⟨⟨d0, .inr y1⟩, z2⟩
              exact a.noOwn hp0 j this
    · cases h
theorem callM_len {as : List Ag} {δ : Env} {r : Except Exn D × Env} (h : callM m as δ = some r) : ∃ δc, argSls δ as = some δc := by
  unfold callM at h
  cases q : argSls δ as with
  | none => rw [q] at h; cases h
  | some δc => exact ⟨δc, rfl⟩
/-- the arguments' number -/
def ALen (A : Mo (List Ag)) (n : Nat) : Prop := ∀ δ as δ', A δ = some (.ok as, δ') → as.length = n
theorem alen_nil : ALen aNil 0 := fun δ as δ' h => by cases h; rfl
theorem bind_okD {α β : Type} {m : Mo α} {k : α → Mo β} {δ δ' : Env} {b : β} (h : Mo.bind m k δ = some (.ok b, δ')) : ∃ a δ1, m δ = some (.ok a, δ1) ∧ k a δ1 = some (.ok b, δ') := by
  unfold Mo.bind at h
  cases q : m δ with
  | none => rw [q] at h; cases h
  | some z =>
    obtain ⟨u, δ1⟩ := z
    rw [q] at h
    cases u with
    | error u => cases h
    | ok u => exact ⟨u, δ1, rfl, h⟩
theorem alen_cons {E : Mo D} (h : ALen A n) : ALen (aCons E A) (n + 1) := fun δ as δ' q => by
  obtain ⟨d, δ1, _, q⟩ := bind_okD q
  obtain ⟨ds, δ2, q1, q⟩ := bind_okD q
  cases q
  rw [List.length_cons, h _ _ _ q1]
theorem alen_vr {i : Nat} (h : ALen A n) : ALen (aVr i A) (n + 1) := fun δ as δ' q => by
  unfold aVr at q
  split at q
  · obtain ⟨ds, δ2, q1, q⟩ := bind_okD q
    cases q
    rw [List.length_cons, h _ _ _ q1]
  · obtain ⟨ds, δ2, q1, q⟩ := bind_okD q
    cases q
    rw [List.length_cons, h _ _ _ q1]
  · cases q
theorem alen_vb {i : Nat} (h : ALen A n) : ALen (aVb i A) (n + 1) := fun δ as δ' q => by
  unfold aVb at q
  split at q
  all_goals first
    | cases q; done
    | (obtain ⟨ds, δ2, q1, q⟩ := bind_okD q
       cases q
       rw [List.length_cons, h _ _ _ q1])
theorem tA_bind' {K : PySem.W.Frag} {B : Bs} {G H : Hp} {δ δ' : Env} {σ : St} {β : Type} {r : Except Exn β} {ok : β → Hp → Hp → Prop} {kk : List Ag → Mo β} {Q : List V → Hp → Prop} (a : At K B G δ σ H) (h : Mo.bind A kk δ = some (r, δ')) (post : Post K W B G σ r δ' ok)
    (q : ∀ vs H1 G1 δ1 d, A δ = some (.ok d, δ1) → At K B G1 δ1 σ H1 → Ext G G1 → AgsOk K G1 σ vs d → kk d δ1 = some (r, δ') → Post K W B G1 σ r δ' ok → Q vs H1) : tA K W A σ H Q := by
  unfold Mo.bind at h
  cases e : A δ with
  | none => rw [e] at h; cases h
  | some z =>
    obtain ⟨x, δ1⟩ := z
    rw [e] at h
    cases x with
    | error x => cases h; exact ⟨B, G, δ, .error x, _, a, e, post⟩
    | ok d => exact ⟨B, G, δ, .ok d, δ1, a, e, fun G1 H1 a1 e1 v rv => q v H1 G1 δ1 d e a1 e1 rv h (post.mono e1)⟩
theorem tCall_ok {K : PySem.W.Frag} {Wf : XK → WK} {E : XK} (hW : Wf E = W) (hW2 : ∀ x δ σ δ2 σ2 G H, W x δ σ G H → W x δ2 σ2 G H) (hl : ALen A n) {σ : St} {H : Hp} {Q : VK} (q : tE K W (eCall m A) σ H Q) : tCall (spM Wf K n false m) [] E (tA K W A) σ H Q := by
  obtain ⟨B, G, δ, r, δ', a, e1, post⟩ := q
  refine tA_bind' a e1 post fun vs H1 G1 δ1 as ea a1 x1 r1 e2 post => ?_
  show spM Wf K n false m (vs ++ []) H1 Q E
  rw [List.append_nil]
  refine call_ok hW hW2 a1 r1 e2 ?_ (hl _ _ _ ea)
  cases r with
  | ok d => exact fun G' H' a' x' => by rw [if_neg Bool.false_ne_true]; exact fun v rv => post G' H' a' x' v rv
  | error x => exact fun G' H' a' x' => post G' σ H' a' x'
theorem tCallO_ok {K : PySem.W.Frag} {Wf : XK → WK} {E : XK} (hW : Wf E = W) (hW2 : ∀ x δ σ δ2 σ2 G H, W x δ σ G H → W x δ2 σ2 G H) (hl : ALen A n) {σ : St} {H : Hp} {Q : VK} (q : tO K W (eCall m A) σ H Q) : tCall (spM Wf K n true m) [] E (tA K W A) σ H Q := by
  obtain ⟨B, G, δ, r, δ', a, e1, post⟩ := q
  refine tA_bind' a e1 post fun vs H1 G1 δ1 as ea a1 x1 r1 e2 post => ?_
  show spM Wf K n true m (vs ++ []) H1 Q E
  rw [List.append_nil]
  refine call_ok hW hW2 a1 r1 e2 ?_ (hl _ _ _ ea)
  cases r with
  | ok d => exact fun G' H' a' x' => by rw [if_pos rfl]; exact fun v rv => post G' H' a' x' v rv
  | error x => exact fun G' H' a' x' => post G' σ H' a' x'
/-- no exception: the promise's fourth letter does not matter -/
def Wn : XK → WK := fun _ => W0
theorem de_call (F : FnOk X.prog X.w X.K X.mg X.base CX0 k f fd ps (spM Wn X.K n false m)) (hr : Room k X.A) (hg : Gl X x) (hm : X.mg x = some (.ref f)) (hk : PySem.W.keepIn X.K (.ref f) = true) (hb : Binds X.K fd ps []) (hl : ALen A n)
    (ha : DA X W0 (e :: es) A) (hdb : (x == ("__debug__" : Str)) = false := by decide) (he : starEach (e :: es) X.env = (false, eval e X.env) :: starEach es X.env := by rfl) (hpl : (backTo pos (starEach es X.env)).any (·.1) = false := by rfl) :
    DE X W0 (.Call (.Name x p) (e :: es) [] pos) (eCall m A) := PE.weak (pe_call (E := E0) F hr hg hm hk hb .nil pass0 ha hdb he hpl) fun σ H Q q => tCall_ok rfl (fun _ _ _ _ _ _ _ h => h) hl q
theorem do_call (F : FnOk X.prog X.w X.K X.mg X.base CX0 k f fd ps (spM Wn X.K n true m)) (hr : Room k X.A) (hg : Gl X x) (hm : X.mg x = some (.ref f)) (hk : PySem.W.keepIn X.K (.ref f) = true) (hb : Binds X.K fd ps []) (hl : ALen A n)
    (ha : DA X W0 (e :: es) A) (hdb : (x == ("__debug__" : Str)) = false := by decide) (he : starEach (e :: es) X.env = (false, eval e X.env) :: starEach es X.env := by rfl) (hpl : (backTo pos (starEach es X.env)).any (·.1) = false := by rfl) :
    DO X W0 (.Call (.Name x p) (e :: es) [] pos) (eCall m A) := PE.weak (pe_call (E := E0) F hr hg hm hk hb .nil pass0 ha hdb he hpl) fun σ H Q q => tCallO_ok rfl (fun _ _ _ _ _ _ _ h => h) hl q
end
/-! ### a def's body -/
theorem fn_len {Wf : XK → WK} {K : PySem.W.Frag} {n : Nat} {ro : Bool} {m : Mo D} {ps : List Str} (hn : ps.length = n) : ∀ vs H Q E, spM Wf K n ro m vs H Q E → vs.length = ps.length := fun _ _ _ _ h => h.1.trans hn.symm
theorem body_ok {Wf : XK → WK} {K : PySem.W.Frag} {n : Nat} {N : List Str} {body : Mo Out} {vs : List V} {H : Hp} {Q : VK} {E : XK} (hW2 : ∀ x δ σ δ2 σ2 G H, Wf E x δ σ G H → Wf E x δ2 σ2 G H) (h : spM Wf K n false (fnM N.length n body) vs H Q E) :
    tS K (Wf E) body { nx := fun _ H' => Q .non H', rt := Q } (L2.start N vs) H := by
  obtain ⟨hl, B, G, δ, r, δ', hio, a, hm, post⟩ := h
  unfold fnM at hm
  have a1 := a.start (N.length - n)
  have hs : L2.start N vs = vs.map some ++ List.replicate (N.length - n) none := by unfold L2.start; rw [hl]
  rw [hs]
  cases q : body (δ ++ List.replicate (N.length - n) .no) with
  | none => simp only [q] at hm; cases hm
  | some z =>
    obtain ⟨u, δ0⟩ := z
    simp only [q] at hm
    refine ⟨B, G, _, u, δ0, a1, q, ?_⟩
    cases u with
    | error x =>
      cases hm
      exact fun G' σ' H' a' x' => hW2 _ _ _ _ _ _ _ (post G' H' (a'.leave hl hio) x')
    | ok o =>
      cases o with
      | nx =>
        cases hm
        exact fun G' σ' H' a' x' => by
          have p := post G' H' (a'.leave hl hio) x'
          rw [if_neg Bool.false_ne_true] at p
          exact p _ .non
      | bk => cases hm
      | ct => cases hm
      | rt d =>
        cases hm
        exact fun G' σ' H' a' x' v rv => by
          have p := post G' H' (a'.leave hl hio) x'
          rw [if_neg Bool.false_ne_true] at p
          exact p v rv
      | rtO d =>
        cases hm
        refine fun G' σ' H' a' x' p hp => ?_
        obtain ⟨h1, h2, h3, h4⟩ := hp
        obtain ⟨ob, q1, _, q2⟩ := h4.obj
        have pp := post (upd G' p ob) H' ((a'.fix q1 h1 h2 h3).leave hl hio) (x'.trans (Ext.new h1))
        rw [if_neg Bool.false_ne_true] at pp
        exact pp _ (q2 _ upd_same (Ext.new h1))
theorem body_okO {Wf : XK → WK} {K : PySem.W.Frag} {n : Nat} {N : List Str} {body : Mo Out} {vs : List V} {H : Hp} {Q : VK} {E : XK} (hW2 : ∀ x δ σ δ2 σ2 G H, Wf E x δ σ G H → Wf E x δ2 σ2 G H) (h : spM Wf K n true (fnO N.length n body) vs H Q E) :
    tS K (Wf E) body { nx := fun _ H' => Q .non H', rt := Q } (L2.start N vs) H := by
  obtain ⟨hl, B, G, δ, r, δ', hio, a, hm, post⟩ := h
  unfold fnO at hm
  have a1 := a.start (N.length - n)
  have hs : L2.start N vs = vs.map some ++ List.replicate (N.length - n) none := by unfold L2.start; rw [hl]
  rw [hs]
  cases q : body (δ ++ List.replicate (N.length - n) .no) with
  | none => simp only [q] at hm; cases hm
  | some z =>
    obtain ⟨u, δ0⟩ := z
    simp only [q] at hm
    refine ⟨B, G, _, u, δ0, a1, q, ?_⟩
    cases u with
    | error x =>
      cases hm
      exact fun G' σ' H' a' x' => hW2 _ _ _ _ _ _ _ (post G' H' (a'.leave hl hio) x')
    | ok o =>
      cases o with
      | nx => cases hm
      | bk => cases hm
      | ct => cases hm
      | rt d => cases hm
      | rtO d =>
        cases hm
        refine fun G' σ' H' a' x' p hp => ?_
        have pp := post G' H' (a'.leave hl hio) x'
        rw [if_pos rfl] at pp
        exact pp p ⟨hp.1, hp.2.1, fun j z => hp.2.2.1 j (ios_back hio a' z), hp.2.2.2⟩
section
variable {P : Program} {w : World} {K : PySem.W.Frag} {mg : Str → Option Value} {base : Heap} {x qual : Str} {st : Stmt} {f : Addr} {fd : FuncData} {N ps : List Str} {k n : Nat} {body : Mo Out}
theorem fn_ok (F : Fun K x qual st f fd) (S : FnScope N ps (defScope st)) (hn : ps.length = n)
    (hb : ∀ (cdv : Value) (A : Around) (outer : List PySem.Env) (s : Shared) (H : Hp) (E : XK), Room k (A.deeper (envOfC qual (defScope st) s.heap.objs.size f cdv)) → DSs (cxOf CX0 P w K mg base N qual (defScope st) f cdv A outer s H E).nox W0 (defBody st) body) :
    FnOk P w K mg base CX0 (k + 1) f fd ps (spM Wn K n false (fnM N.length n body)) :=
  F.ok S (fn_len hn) fun cdv A outer s H vs Q E hr h => ⟨tS K W0 body, hb cdv A outer s H E hr, body_ok (E := E) (fun _ _ _ _ _ _ _ h => h) h⟩
theorem fn_okO (F : Fun K x qual st f fd) (S : FnScope N ps (defScope st)) (hn : ps.length = n)
    (hb : ∀ (cdv : Value) (A : Around) (outer : List PySem.Env) (s : Shared) (H : Hp) (E : XK), Room k (A.deeper (envOfC qual (defScope st) s.heap.objs.size f cdv)) → DSs (cxOf CX0 P w K mg base N qual (defScope st) f cdv A outer s H E).nox W0 (defBody st) body) :
    FnOk P w K mg base CX0 (k + 1) f fd ps (spM Wn K n true (fnO N.length n body)) :=
  F.ok S (fn_len hn) fun cdv A outer s H vs Q E hr h => ⟨tS K W0 body, hb cdv A outer s H E hr, body_okO (E := E) (fun _ _ _ _ _ _ _ h => h) h⟩
/-- the law: from the script to True -/
theorem law_sp {m : Mo D} {H : Hp} {a : Addr} {ns : List Int} (on : Only H) (hS : SqL K H a (ns.map V.int)) (hl : ns.length ≤ 63) (h : m [.imm (.scr (ns.map D.int))] = some (.ok (.bl true), [.no])) : spM Wn K 1 false m [.ref a] H (fun v _ => v = .bl true) fun _ _ _ => False := by
  refine ⟨rfl, ⟨H, H, fun _ _ => none, []⟩, H, [.imm (.scr (ns.map D.int))], .ok (.bl true), [.no], (fun k p z => by cases z), ⟨fun b o e => .inl e, Ext.refl _, fun _ _ e _ => e, fun _ e => e, fun _ _ _ _ e => e, fun _ _ e => (by cases e), fun _ _ _ e => (by cases e), fun _ _ e => absurd rfl e, rfl, fun i s e => ?_, fun i j p e1 _ => ?_⟩, h, fun G' H' a' x' => ?_⟩
  · cases i with
    | zero =>
      simp at e; subst e
      refine ⟨some (.ref a), rfl, .ref a, rfl, .scr hS ?_ ?_⟩
      · rw [List.length_map]; exact Nat.le_trans hl (by decide)
      · clear hS h hl
        induction ns with
        | nil => exact .nil
        | cons n ns ih => exact .cons (.int n) ih
    | succ i => simp at e
  · obtain ⟨⟨d, e | e⟩, _⟩ := e1
    · cases i with
      | zero => simp at e
      | succ i => simp at e
    · cases i with
      | zero => simp at e
      | succ i => simp at e
  · rw [if_neg Bool.false_ne_true]
    intro v rv
    cases rv
    rfl
end
end M

set_option Elab.async false
set_option linter.all false
set_option maxRecDepth 100000
/-! Part E: dicts as data; comprehensions. -/
namespace M
open PySem L2 PySem.Spec PyProof.Rows

/-! ### tables -/
section
variable {κ α : Type} [DecidableEq κ]
def lookA (l : List (κ × α)) (k : κ) : Option α := (l.find? fun kv => decide (kv.1 = k)).map (·.2)
def putA (l : List (κ × α)) (k : κ) (v : α) : List (κ × α) := if (l.any fun kv => decide (kv.1 = k)) = true then l.map (fun kv => if kv.1 = k then (kv.1, v) else kv) else l ++ [(k, v)]
def dropA (l : List (κ × α)) (k : κ) : List (κ × α) := l.filter fun kv => decide (kv.1 ≠ k)
variable {K : PySem.W.Frag} {G G' : Hp}
abbrev KVP (K : PySem.W.Frag) (G : Hp) : List (κ × V) → List (κ × D) → Prop := Paired fun p q => p.1 = q.1 ∧ R K G p.2 q.2
theorem kvp_of : ∀ {kvs : List (κ × V)} {ds : List (κ × D)}, kvs.map (·.1) = ds.map (·.1) → RL K G (kvs.map (·.2)) (ds.map (·.2)) → KVP K G kvs ds
  | [], [], _, _ => .nil
  | [], _ :: _, h, _ => by cases h
  | _ :: _, [], h, _ => by cases h
  | p :: kvs, q :: ds, h, r => by
    cases r with
    | cons r0 r1 =>
      have h1 : p.1 = q.1 := (List.cons.inj h).1
      exact .cons ⟨h1, r0⟩ (kvp_of (List.cons.inj h).2 r1)
theorem kvp_keys {kvs : List (κ × V)} {ds : List (κ × D)} (h : KVP K G kvs ds) : kvs.map (·.1) = ds.map (·.1) := by
  induction h with
  | nil => rfl
  | cons h _ ih => rw [List.map_cons, List.map_cons, h.1, ih]
theorem kvp_vals {kvs : List (κ × V)} {ds : List (κ × D)} (h : KVP K G kvs ds) : RL K G (kvs.map (·.2)) (ds.map (·.2)) := by
  induction h with
  | nil => exact .nil
  | cons h _ ih => exact .cons h.2 ih
theorem kvp_any {kvs : List (κ × V)} {ds : List (κ × D)} (h : KVP K G kvs ds) (k : κ) : (kvs.any fun kv => decide (kv.1 = k)) = (ds.any fun kv => decide (kv.1 = k)) := by
  induction h with
  | nil => rfl
  | cons h _ ih => rw [List.any_cons, List.any_cons, h.1, ih]
theorem kvp_look {kvs : List (κ × V)} {ds : List (κ × D)} (h : KVP K G kvs ds) (k : κ) : (∃ v d, valV kvs k = some v ∧ lookA ds k = some d ∧ R K G v d) ∨ (valV kvs k = none ∧ lookA ds k = none) := by
  induction h with
  | nil => exact .inr ⟨rfl, rfl⟩
  | cons h t ih =>
    rename_i p q kvs ds
    unfold valV lookA at ih ⊢
    rw [List.find?_cons, List.find?_cons, h.1]
    by_cases c : q.1 = k
    · rw [decide_eq_true c]
      exact .inl ⟨_, _, rfl, rfl, h.2⟩
    · rw [decide_eq_false c]
      exact ih
theorem kvp_map {f : κ × V → κ × V} {g : κ × D → κ × D} {kvs : List (κ × V)} {ds : List (κ × D)} (h : KVP K G kvs ds) (hf : ∀ p q, p.1 = q.1 → R K G p.2 q.2 → (f p).1 = (g q).1 ∧ R K G (f p).2 (g q).2) : KVP K G (kvs.map f) (ds.map g) := by
  induction h with
  | nil => exact .nil
  | cons h _ ih => exact .cons (hf _ _ h.1 h.2) ih
theorem kvp_append {kvs kvs' : List (κ × V)} {ds ds' : List (κ × D)} (h : KVP K G kvs ds) (h' : KVP K G kvs' ds') : KVP K G (kvs ++ kvs') (ds ++ ds') := by
  induction h with
  | nil => exact h'
  | cons h _ ih => exact .cons h ih
theorem kvp_put {kvs : List (κ × V)} {ds : List (κ × D)} (h : KVP K G kvs ds) (k : κ) {v : V} {d : D} (r : R K G v d) : KVP K G (putK kvs k v) (putA ds k d) := by
  unfold putK putA
  rw [kvp_any h k]
  split
  · refine kvp_map h fun p q e r' => ?_
    rw [e]
    split
    · exact ⟨rfl, r⟩
    · exact ⟨e, r'⟩
  · exact kvp_append h (.cons ⟨rfl, r⟩ .nil)
theorem kvp_drop {kvs : List (κ × V)} {ds : List (κ × D)} (h : KVP K G kvs ds) (k : κ) : KVP K G (dropK kvs k) (dropA ds k) := by
  unfold dropK dropA
  induction h with
  | nil => exact .nil
  | cons h _ ih =>
    rw [List.filter_cons, List.filter_cons, h.1]
    split
    · exact .cons h ih
    · exact ih
theorem putA_len (l : List (κ × α)) (k : κ) (v : α) : (putA l k v).length ≤ l.length + 1 := by
  unfold putA
  split
  · rw [List.length_map]; omega
  · rw [List.length_append]; exact Nat.le_refl _
theorem dropA_len (l : List (κ × α)) (k : κ) : (dropA l k).length ≤ l.length := List.length_filter_le _ _
end
def keyK : D → Option Key
  | .int i => some (.inl i)
  | .str s => some (.inr s)
  | _ => none
def keysK : List D → Option (List Key)
  | [] => some []
  | d :: ds => match keyK d with
    | none => none
    | some k => match keysK ds with
      | none => none
      | some ks => some (k :: ks)
section
variable {K : PySem.W.Frag} {G G' H : Hp}
theorem keyK_ok {v : V} {d : D} {k : Key} (r : R K G v d) (h : keyK d = some k) : v = kV k := by
  cases r <;> cases h <;> rfl
theorem keysK_ok : ∀ {vs : List V} {ds : List D} {k : List Key}, RL K G vs ds → keysK ds = some k → vs = k.map kV
  | _, _, _, .nil, h => by cases h; rfl
  | _, d :: ds, _, .cons r t, h => by
    unfold keysK at h
    cases q : keyK d with
    | none => rw [q] at h; cases h
    | some k =>
      rw [q] at h
      simp only [] at h
      cases q2 : keysK ds with
      | none => rw [q2] at h; cases h
      | some ks => rw [q2] at h; cases h; rw [keyK_ok r q, keysK_ok t q2, List.map_cons]
/-- a key as data -/
def kD : Key → D
  | .inl i => .int i
  | .inr s => .str s
theorem kD_ok (k : Key) : R K G (kV k) (kD k) := by cases k <;> constructor
theorem kDs_ok : ∀ ks : List Key, RL K G (ks.map kV) (ks.map kD)
  | [] => .nil
  | k :: ks => .cons (kD_ok k) (kDs_ok ks)
end
/-- what a dict holds at a key; the key no key: none -/
def dGet : D → D → Option (Option D)
  | .dK l, k => (keyK k).map fun k => lookA l k
  | .dT l, .tup ks => (keysK ks).map fun k => lookA l k
  | _, _ => none
def dPut : D → D → D → Option D
  | .dK l, k, v => (keyK k).bind fun k => if l.length < sizeLine then some (.dK (putA l k v)) else none
  | .dT l, .tup ks, v => (keysK ks).bind fun k => if l.length < sizeLine then some (.dT (putA l k v)) else none
  | _, _, _ => none
section
variable {K : PySem.W.Frag} {B : Bs} {G H : Hp} {δ : Env} {σ : St}
/-- a look-up by rule DGet -/
theorem dGet_ok {x y : V} {d k : D} {o : Option D} (vw : Vw G H) (rx : R K G x d) (ry : R K G y k) (h : dGet d k = some o) : ∃ a o', x = .ref a ∧ DGet H a y o' ∧ ((∃ v d, o' = some v ∧ o = some d ∧ R K G v d) ∨ (o' = none ∧ o = none)) := by
  cases rx with
  | dK g l hk r =>
    rename_i a kvs ds
    have h : (keyK k).map (fun k => lookA ds k) = some o := h
    cases q : keyK k with
    | none => rw [q] at h; cases h
    | some kk =>
      rw [q] at h; cases h
      refine ⟨a, valV kvs kk, rfl, .inl ⟨kvs, kk, vw.rd g, keyK_ok ry q, rfl⟩, ?_⟩
      rcases kvp_look (kvp_of hk r) kk with ⟨v, d, h1, h2, h3⟩ | ⟨h1, h2⟩
      · exact .inl ⟨v, d, h1, h2, h3⟩
      · exact .inr ⟨h1, h2⟩
  | dT g l hk r =>
    rename_i a kvs ds
    cases ry with
    | tup g2 l2 r2 =>
      rename_i b xs ks
      have h : (keysK ks).map (fun k => lookA ds k) = some o := h
      cases q : keysK ks with
      | none => rw [q] at h; cases h
      | some kk =>
        rw [q] at h; cases h
        have hx := keysK_ok r2 q
        subst hx
        refine ⟨a, valV kvs kk, rfl, .inr ⟨kvs, kk, b, vw.rd g, rfl, vw.tup g2, rfl⟩, ?_⟩
        rcases kvp_look (kvp_of hk r) kk with ⟨v, d, h1, h2, h3⟩ | ⟨h1, h2⟩
        · exact .inl ⟨v, d, h1, h2, h3⟩
        · exact .inr ⟨h1, h2⟩
    | _ => cases h
  | _ => cases h
/-- the own object p is stored into -/
theorem dPut_ok {p : Addr} {y v : V} {d k e d' : D} (vw : Vw G H) (w : Ow K G H p d) (ry : R K G y k) (rv : R K G v e) (h : dPut d k e = some d') : ∃ o, DPut H p y v (upd H p o) ∧ Mut (some o) ∧ Ow K G (upd H p o) p d' := by
  cases w with
  | lst => cases h
  | dK hp l hk r =>
    rename_i kvs ds
    have h : ((keyK k).bind fun k => if ds.length < sizeLine then some (D.dK (putA ds k e)) else none) = some d' := h
    cases q : keyK k with
    | none => rw [q] at h; cases h
    | some kk =>
      rw [q, Option.bind_some] at h
      split at h
      · rename_i hl
        cases h
        have kp := kvp_put (kvp_of hk r) kk rv
        have hlen := congrArg List.length hk
        rw [List.length_map, List.length_map] at hlen
        have := length_putK kvs kk v
        exact ⟨.dK (putK kvs kk v), .inl ⟨kvs, kk, hp, keyK_ok ry q, by omega, rfl⟩, trivial, .dK upd_same (by omega) (kvp_keys kp) (kvp_vals kp)⟩
      · cases h
  | dT hp l hk r =>
    rename_i kvs ds
    cases ry with
    | tup g2 l2 r2 =>
      rename_i b xs ks
      have h : ((keysK ks).bind fun k => if ds.length < sizeLine then some (D.dT (putA ds k e)) else none) = some d' := h
      cases q : keysK ks with
      | none => rw [q] at h; cases h
      | some kk =>
        rw [q, Option.bind_some] at h
        split at h
        · rename_i hl
          cases h
          have hx := keysK_ok r2 q
          subst hx
          have kp := kvp_put (kvp_of hk r) kk rv
          have hlen := congrArg List.length hk
          rw [List.length_map, List.length_map] at hlen
          have := length_putK kvs kk v
          exact ⟨.dT (putK kvs kk v), .inr ⟨kvs, kk, b, hp, rfl, vw.tup g2, by omega, rfl⟩, trivial, .dT upd_same (by omega) (kvp_keys kp) (kvp_vals kp)⟩
        · cases h
    | _ => cases h
end

/-! ### an object under construction stands beside -/
def Bs.add (B : Bs) (D : Addr) (o : HO) : Bs := { B with H0 := upd B.H0 D o }
def Out1 (B : Bs) (D : Addr) : Prop := B.H0 D = none ∧ B.G0 D = none ∧ (∀ j, B.Bo j D = none) ∧ ∀ i, (i, D) ∉ B.IO
section
variable {K : PySem.W.Frag} {B : Bs} {G G' H H' : Hp} {δ δ' : Env} {σ σ' : St} {D1 : Addr} {o o' : HO}
theorem At.out1 (a : At K B G δ σ H) (h0 : B.H0 D1 = none) (g : G D1 = none) : Out1 B D1 := by
  refine ⟨h0, ?_, fun j => ?_, fun i e => (a.iok i D1 e).2.1 h0⟩
  · cases z : B.G0 D1 with
    | none => rfl
    | some u => rw [a.g0 D1 u z] at g; cases g
  · cases z : B.Bo j D1 with
    | none => rfl
    | some u => exact absurd h0 (a.bod j D1 (by rw [z]; simp))
theorem At.add (a : At K B G δ σ H) (h : H D1 = some o) (g : G D1 = none) (no : ∀ j, ¬ OwnAt δ σ j D1) : At K (B.add D1 o) G δ σ H := by
  refine ⟨a.vw, a.g0, fun b u e z => ?_, fun b e => ?_, fun b u e t z => ?_, fun i b e => ?_, a.bo, fun j b e => ?_, a.len, fun i s e => ?_, a.apart⟩
  · by_cases c : b = D1
    · subst c; have e : upd B.H0 b o b = some u := e; rw [upd_same] at e; cases e; exact h
    · have e : upd B.H0 D1 o b = some u := e; rw [upd_ne c] at e; exact a.keep b u e z
  · by_cases c : b = D1
    · rw [c, h]; simp
    · have e : upd B.H0 D1 o b ≠ none := e; rw [upd_ne c] at e; exact a.dom b e
  · by_cases c : b = D1
    · rw [c]; exact g
    · have e : upd B.H0 D1 o b = some u := e; rw [upd_ne c] at e; exact a.leak b u e t z
  · obtain ⟨a1, a2, a3, a4⟩ := a.iok i b e
    refine ⟨a1, ?_, a3, a4⟩
    show upd B.H0 D1 o b ≠ none
    by_cases c : b = D1
    · rw [c, upd_same]; simp
    · rw [upd_ne c]; exact a2
  · show upd B.H0 D1 o b ≠ none
    by_cases c : b = D1
    · rw [c, upd_same]; simp
    · rw [upd_ne c]; exact a.bod j b e
  · obtain ⟨ov, h1, h2⟩ := a.sl i s e
    refine ⟨ov, h1, ?_⟩
    cases s with
    | own d =>
      obtain ⟨p, q1, q2, q3, q4⟩ := h2
      subst q1
      have c : p ≠ D1 := fun c => by subst c; exact no i ⟨⟨d, .inl e⟩, h1⟩
      exact ⟨p, rfl, q2, q3, by show upd B.H0 D1 o p = none; rw [upd_ne c]; exact q4⟩
    | _ => exact h2
theorem At.drop (a : At K (B.add D1 o) G δ σ H) (b : Out1 B D1) (t : ∀ xs, o ≠ .tup xs) : H D1 = some o ∧ G D1 = none ∧ (∀ j, ¬ OwnAt δ σ j D1) ∧ ∀ o', At K B G δ σ (upd H D1 o') := by
  obtain ⟨b1, b2, b3, b4⟩ := b
  have hD : H D1 = some o := a.keep D1 o upd_same b4
  have gD : G D1 = none := a.leak D1 o upd_same t b2
  have no : ∀ j, ¬ OwnAt δ σ j D1 := fun j z => by
    obtain ⟨⟨d, e | e⟩, z2⟩ := z
    · obtain ⟨p, q1, _, _, q4⟩ := a.own e
      rw [q1] at z2; cases z2
      have q4 : upd B.H0 D1 o D1 = none := q4
      rw [upd_same] at q4; cases q4
    · obtain ⟨p, q1, _, _, q4⟩ := a.io e
      rw [q1] at z2; cases z2
      exact b4 j q4
  refine ⟨hD, gD, no, fun o' => ⟨fun c u e => ?_, a.g0, fun c u e z => ?_, fun c e => ?_, fun c u e t z => ?_, fun i c e => ?_, fun j c u e => ?_, fun j c e => ?_, a.len, fun i s e => ?_, a.apart⟩⟩
  · rw [upd_ne (fun q => by rw [q, gD] at e; cases e)]; exact a.vw c u e
  · have n : c ≠ D1 := fun q => by rw [q, b1] at e; cases e
    rw [upd_ne n]; exact a.keep c u (by show upd B.H0 D1 o c = some u; rw [upd_ne n]; exact e) z
  · by_cases n : c = D1
    · rw [n, upd_same]; simp
    · rw [upd_ne n]; exact a.dom c (by show upd B.H0 D1 o c ≠ none; rw [upd_ne n]; exact e)
  · have n : c ≠ D1 := fun q => by rw [q, b1] at e; cases e
    exact a.leak c u (by show upd B.H0 D1 o c = some u; rw [upd_ne n]; exact e) t z
  · obtain ⟨a1, a2, a3, u, a4, a5⟩ := a.iok i c e
    have n : c ≠ D1 := fun q => by rw [q] at e; exact b4 i e
    have a2 : upd B.H0 D1 o c ≠ none := a2
    rw [upd_ne n] at a2
    exact ⟨a1, a2, a3, u, by rw [upd_ne n]; exact a4, a5⟩
  · have n : c ≠ D1 := fun q => by rw [q, b3 j] at e; cases e
    rw [upd_ne n]; exact a.bo j c u e
  · have n : c ≠ D1 := fun q => by rw [q] at e; exact e (b3 j)
    have := a.bod j c e
    have this : upd B.H0 D1 o c ≠ none := this
    rw [upd_ne n] at this; exact this
  · obtain ⟨ov, h1, h2⟩ := a.sl i s e
    refine ⟨ov, h1, ?_⟩
    cases s with
    | no => trivial
    | imm d => exact h2
    | bor d => exact h2
    | own d =>
      obtain ⟨p, q1, q2, q3, q4⟩ := h2
      subst q1
      have c : p ≠ D1 := fun c => by subst c; exact no i ⟨⟨d, .inl e⟩, h1⟩
      have q4 : upd B.H0 D1 o p = none := q4
      rw [upd_ne c] at q4
      exact ⟨p, rfl, q2, q3.at' (upd_ne c), q4⟩
    | io d =>
      obtain ⟨p, q1, q2, q3, q4⟩ := h2
      subst q1
      have c : p ≠ D1 := fun c => by subst c; exact no i ⟨⟨d, .inr e⟩, h1⟩
      exact ⟨p, rfl, q2, q3.at' (upd_ne c), q4⟩
theorem BLe.add (h : B.H0 D1 = none) : BLe B (B.add D1 o) := ⟨Ext.new h, rfl⟩
/-- own slots of a comprehension are forgotten -/
def wipeE (δ : Env) : List Nat → Env
  | [] => δ
  | v :: vs => (wipeE δ vs).set v .no
theorem wipeE_len (δ : Env) : ∀ vs, (wipeE δ vs).length = δ.length
  | [] => rfl
  | v :: vs => by unfold wipeE; rw [List.length_set, wipeE_len]
theorem wipeE_get : ∀ {vs : List Nat} {j : Nat} {s : Sl}, (wipeE δ vs)[j]? = some s → s = .no ∨ (j ∉ vs ∧ δ[j]? = some s)
  | [], j, s, e => .inr ⟨by simp, e⟩
  | v :: vs, j, s, e => by
    unfold wipeE at e
    rcases get_set e with ⟨_, rfl, _⟩ | ⟨c, e⟩
    · exact .inl rfl
    · rcases wipeE_get e with h | ⟨h1, h2⟩
      · exact .inl h
      · exact .inr ⟨fun q => (List.mem_cons.mp q).elim (fun q => c q.symm) h1, h2⟩
theorem wipe_at : ∀ {vs : List Nat} (j : Nat), (wipe σ vs)[j]? = if j ∈ vs ∧ j < σ.length then some none else σ[j]?
  | [], j => by rw [if_neg (fun h => by cases h.1)]; rfl
  | v :: vs, j => by
    unfold wipe
    by_cases c : v = j
    · subst c
      by_cases z : v < σ.length
      · rw [List.getElem?_set_self (by rw [wipe_length]; exact z), if_pos ⟨List.mem_cons_self, z⟩]
      · rw [List.getElem?_eq_none (by rw [List.length_set, wipe_length]; omega), if_neg (fun h => z h.2), List.getElem?_eq_none (by omega)]
    · rw [List.getElem?_set_ne c, wipe_at j]
      have : (j ∈ v :: vs ∧ j < σ.length) ↔ (j ∈ vs ∧ j < σ.length) := by
        rw [List.mem_cons]
        exact ⟨fun ⟨h, z⟩ => ⟨h.elim (fun q => absurd q.symm c) id, z⟩, fun ⟨h, z⟩ => ⟨.inr h, z⟩⟩
      by_cases z : j ∈ vs ∧ j < σ.length
      · rw [if_pos z, if_pos (this.mpr z)]
      · rw [if_neg z, if_neg (fun q => z (this.mp q))]
theorem wipe_out {vs : List Nat} {j : Nat} (h : j ∉ vs) : (wipe σ vs)[j]? = σ[j]? := by rw [wipe_at, if_neg (fun q => h q.1)]
theorem wipe_eq {vs : List Nat} (hl : σ'.length = σ.length) (h : ∀ j, j ∉ vs → σ'[j]? = (wipe σ vs)[j]?) : wipe σ' vs = wipe σ vs := by
  apply List.ext_getElem?
  intro j
  by_cases c : j ∈ vs
  · rw [wipe_at, wipe_at, hl]
    by_cases z : j < σ.length
    · rw [if_pos ⟨c, z⟩, if_pos ⟨c, z⟩]
    · rw [if_neg (fun q => z q.2), if_neg (fun q => z q.2), List.getElem?_eq_none (by omega), List.getElem?_eq_none (by omega)]
  · rw [wipe_out c, h j c]
theorem At.wipe (a : At K B G δ σ H) (vs : List Nat) : At K B G (wipeE δ vs) (L2.wipe σ vs) H := a.forget (by rw [wipeE_len, wipe_length]; exact a.len) fun j s e => by
  rcases wipeE_get e with h | ⟨h1, h2⟩
  · exact .inl h
  · exact .inr ⟨h2, wipe_out h1⟩
/-- behind a turn: the slots of the comprehension's own names forgotten again -/
theorem At.wipe' {vs : List Nat} (a : At K B G δ σ' H) (hw : L2.wipe σ' vs = L2.wipe σ vs) : At K B G (wipeE δ vs) (L2.wipe σ vs) H := by rw [← hw]; exact a.wipe vs
theorem At.unwipe {vs : List Nat} (a : At K B G δ (L2.wipe σ vs) H) (hn : ∀ j ∈ vs, ∀ s, δ[j]? = some s → s = .no) : At K B G δ σ H := a.forget (by rw [a.len, wipe_length]) fun j s e => by
  by_cases c : j ∈ vs
  · exact .inl (hn j c s e)
  · exact .inr ⟨e, (wipe_out c).symm⟩
theorem wipeE_no {vs : List Nat} : ∀ j ∈ vs, ∀ s, (wipeE δ vs)[j]? = some s → s = .no := fun j hj s e => by
  rcases wipeE_get e with h | ⟨h, _⟩
  · exact h
  · exact absurd hj h
end

/-! ### list comprehensions -/
def lcM (T : D → Mo Unit) (C : Mo Bool) (E : Mo D) (vs : List Nat) : List D → List D → Mo D
  | [], acc => fun δ => some (.ok (.lst acc), δ)
  | d :: ds, acc => fun δ => match T d δ with
    | some (.ok (), δ1) => match C δ1 with
      | some (.ok true, δ2) => match E δ2 with
        | some (.ok x, δ3) => lcM T C E vs ds (acc ++ [x]) (wipeE δ3 vs)
        | _ => none
      | some (.ok false, δ2) => lcM T C E vs ds acc (wipeE δ2 vs)
      | _ => none
    | _ => none
def eLc (I : Mo (List D)) (T : D → Mo Unit) (C : Mo Bool) (E : Mo D) (vs : List Nat) : Mo D := I.bind fun ds => fun δ => if ds.length ≤ sizeLine then lcM T C E vs ds [] (wipeE δ vs) else none
section
variable {K : PySem.W.Frag} {W : WK} {B : Bs} {G H : Hp} {δ δ' : Env} {σ : St} {β : Type} {r : Except Exn β} {ok : β → Hp → Hp → Prop}
theorem tI_bind {E : Mo (List D)} {k : List D → Mo β} {Q : It → Hp → Prop} (a : At K B G δ σ H) (h : Mo.bind E k δ = some (r, δ')) (post : Post K W B G σ r δ' ok)
    (q : ∀ J H1 G1 δ1 d, At K B G1 δ1 σ H1 → Ext G G1 → Yl K B J G1 d → k d δ1 = some (r, δ') → Post K W B G1 σ r δ' ok → Q J H1) : tI K W E σ H Q := by
  unfold Mo.bind at h
  cases e : E δ with
  | none => rw [e] at h; cases h
  | some z =>
    obtain ⟨x, δ1⟩ := z
    rw [e] at h
    cases x with
    | error x => cases h; exact ⟨B, G, δ, .error x, _, a, e, post⟩
    | ok d => exact ⟨B, G, δ, .ok d, δ1, a, e, fun G1 H1 a1 e1 v rv => q v H1 G1 δ1 d a1 e1 rv h (post.mono e1)⟩
end
section
variable {K : PySem.W.Frag} {W : WK} {I : Mo (List D)} {sl vs : List Nat} {T : D → Mo Unit} {C : Mo Bool} {E Ek : Mo D} {σ : St} {H : Hp} {Q : VK}
theorem lst_notup {xs : List V} : ∀ ys, HO.lst xs ≠ .tup ys := fun ys e => by cases e
theorem tLc_ok (hsl : ∀ j ∈ sl, j ∈ vs) (q : tO K W (eLc I T C E vs) σ H Q) : tLc (tI K W I) (tG K sl T) (tT K W0 C) (tE K W0 E) vs σ H Q := by
  obtain ⟨B, G, δ, r, δ', a, e1, post⟩ := q
  refine tI_bind a e1 post fun J H1 G1 δ1 ds a1 x1 yl e2 post D1 hD => ?_
  split at e2
  · rename_i hlen
    have b0 := a1.fresh0 hD
    have ot := a1.out1 b0 (a1.vw.none hD)
    refine ⟨fun i m H2 => m + i = ds.length ∧ ∃ G2 δ2 acc xs, At K B G2 δ2 (wipe σ vs) H2 ∧ Ext G1 G2 ∧ H2 D1 = some (.lst xs) ∧ RL K G2 xs acc ∧ xs.length ≤ i ∧ G2 D1 = none ∧ (∀ j, ¬ OwnAt δ2 (wipe σ vs) j D1) ∧ (∀ j ∈ vs, ∀ s, δ2[j]? = some s → s = .no) ∧ lcM T C E vs (ds.drop i) acc δ2 = some (r, δ'),
      ⟨ds.length, by omega, G1, wipeE δ1 vs, [], [], (a1.alloc hD).wipe vs, Ext.refl _, upd_same, .nil, Nat.zero_le _, a1.vw.none hD, (a1.wipe vs).noOwn hD, wipeE_no, e2⟩, ?_⟩
    rintro i m H2 ⟨hm, G2, δ2, acc, xs, a2, x2, hx, rx, hxl, g2, no2, hno, e3⟩
    by_cases hi : ds.length ≤ i
    · refine .inl ⟨(yl B G2 H2 δ2 _ (BLe.refl B) a2 x2 i).2 hi, ?_⟩
      rw [List.drop_eq_nil_of_le hi] at e3
      cases e3
      have a3 := a2.unwipe hno
      refine post G2 H2 a3 x2 D1 ⟨g2, b0, fun j z => ?_, .lst hx (by omega) rx⟩
      obtain ⟨⟨d, z1⟩, z2⟩ := z
      by_cases c : j ∈ vs
      · rcases z1 with z1 | z1
        · cases hno j c _ z1
        · cases hno j c _ z1
      · exact no2 j ⟨⟨d, z1⟩, by rw [wipe_out c]; exact z2⟩
    · have hlt : i < ds.length := by omega
      have a2' := a2.add hx g2 no2
      obtain ⟨y1, _⟩ := yl (B.add D1 (.lst xs)) G2 H2 δ2 _ (BLe.add b0) a2' x2 i
      obtain ⟨gg1, gg2⟩ := y1 ds[i] (List.getElem?_eq_getElem hlt)
      rw [List.drop_eq_getElem_cons hlt] at e3
      refine .inr ⟨gg1, fun H' => ∃ m', m' < m ∧ (m' + (i + 1) = ds.length ∧ ∃ G2 δ2 acc xs, At K B G2 δ2 (wipe σ vs) H' ∧ Ext G1 G2 ∧ H' D1 = some (.lst xs) ∧ RL K G2 xs acc ∧ xs.length ≤ i + 1 ∧ G2 D1 = none ∧ (∀ j, ¬ OwnAt δ2 (wipe σ vs) j D1) ∧ (∀ j ∈ vs, ∀ s, δ2[j]? = some s → s = .no) ∧ lcM T C E vs (ds.drop (i + 1)) acc δ2 = some (r, δ')), fun H' z => z, fun x H' hy => ?_⟩
      obtain ⟨rfl, G3, a3, x3, r3⟩ := gg2 x H' hy
      unfold lcM at e3
      cases q : T ds[i] δ2 with
      | none => simp only [q] at e3; cases e3
      | some z =>
        obtain ⟨u, δ3⟩ := z
        cases u with
        | error u => simp only [q] at e3; cases e3
        | ok u =>
          simp only [q] at e3
          refine ⟨B.add D1 (.lst xs), G3, δ2, ds[i], δ3, a3, r3, q, fun σ4 a4 oa => ?_⟩
          have hw : wipe σ4 vs = wipe σ vs := wipe_eq (oa.1.trans (wipe_length _ _)) fun j hj => oa.2 j fun c => hj (hsl j c)
          refine ⟨hw, ?_⟩
          -- the turn's end
          have fin : ∀ {G5 H5 δ5 ys acc'}, At K (B.add D1 (.lst xs)) G5 δ5 σ4 H5 → Ext G3 G5 → RL K G5 ys acc' → ys.length ≤ i + 1 → lcM T C E vs (ds.drop (i + 1)) acc' (wipeE δ5 vs) = some (r, δ') → ∃ m', m' < m ∧ (m' + (i + 1) = ds.length ∧ ∃ G2 δ2 acc xs, At K B G2 δ2 (wipe σ vs) (upd H5 D1 (.lst ys)) ∧ Ext G1 G2 ∧ (upd H5 D1 (.lst ys)) D1 = some (.lst xs) ∧ RL K G2 xs acc ∧ xs.length ≤ i + 1 ∧ G2 D1 = none ∧ (∀ j, ¬ OwnAt δ2 (wipe σ vs) j D1) ∧ (∀ j ∈ vs, ∀ s, δ2[j]? = some s → s = .no) ∧ lcM T C E vs (ds.drop (i + 1)) acc δ2 = some (r, δ')) := fun {G5 H5 δ5 ys acc'} a5 x5 r5 l5 e5 => by
            obtain ⟨h1, h2, h3, h4⟩ := (a5.wipe' hw).drop ot lst_notup
            exact ⟨m - 1, by omega, by omega, G5, wipeE δ5 vs, acc', ys, h4 _, (x2.trans x3).trans x5, upd_same, r5, l5, h2, h3, wipeE_no, e5⟩
          cases qc : C δ3 with
          | none => simp only [qc] at e3; cases e3
          | some z =>
            obtain ⟨u, δ4⟩ := z
            cases u with
            | error u => simp only [qc] at e3; cases e3
            | ok b =>
              refine ⟨_, G3, δ3, .ok b, δ4, a4, qc, fun G4 H4 a5 x5 => ?_⟩
              cases b with
              | false =>
                simp only [qc] at e3
                rw [if_neg Bool.false_ne_true]
                have f := fin a5 x5 (rx.mono ((x3).trans x5)) (by omega) e3
                have hk := (a5.drop ot lst_notup).1
                have : upd H4 D1 (.lst xs) = H4 := by
                  funext b; by_cases c : b = D1
                  · subst c; rw [upd_same, hk]
                  · rw [upd_ne c]
                rw [this] at f; exact f
              | true =>
                simp only [qc] at e3
                rw [if_pos rfl]
                cases qe : E δ4 with
                | none => simp only [qe] at e3; cases e3
                | some z =>
                  obtain ⟨u, δ5⟩ := z
                  cases u with
                  | error u => simp only [qe] at e3; cases e3
                  | ok xd =>
                    simp only [qe] at e3
                    refine ⟨_, G4, δ4, .ok xd, δ5, a5, qe, fun G6 H6 a6 x6 v rv => ?_⟩
                    refine ⟨xs, (a6.drop ot lst_notup).1, by omega, ?_⟩
                    exact fin a6 (x5.trans x6) (.append (rx.mono ((x3.trans x5).trans x6)) (.cons rv .nil)) (by rw [List.length_append]; show xs.length + 1 ≤ i + 1; omega) e3
  · cases e2
end
section
variable {X : Cx} {W : WK} {elt tg iter : Expr} {ifs : List Expr} {scope : Scope} {own : List (Str × Nat)} {pos : Pos} {I : Mo (List D)} {sl : List Nat} {T : D → Mo Unit} {C : Mo Bool} {E : Mo D}
def DTs (X : Cx) (W : WK) (ifs : List Expr) (C : Mo Bool) : Prop := PTs X ifs (tT X.K W C)
def tYesM : Mo Bool := Mo.ret true
theorem dts_nil {X : Cx} {W : WK} : DTs X W [] tYesM := ⟨fun pins s σ H Q I ⟨B, G, δ, r, δ', a, e1, post⟩ => pts_nil.run pins s σ H Q I (by cases e1; exact post G H a (Ext.refl _))⟩
theorem dts_one {X : Cx} {W : WK} {c : Expr} {C : Mo Bool} (h : DT X W c C) : DTs X W [c] C := pts_one h
theorem do_lc (hc : X.calm = true) (hN : X.N.Nodup) (hi : DI X W tg iter I) (ok : BlkOk X.N X.env.scope scope own) (hsl : ∀ j ∈ sl, j ∈ own.map (·.2))
    (hg : ∀ (s : Shared) (H : Hp) (Ca : Addr) (cl : List (Str × Addr)) (fp : List Addr), DG (X.blk s H scope (compEnvC scope cl Ca X.env) fp) tg sl T) (ht : ∀ (s : Shared) (H : Hp) (Ca : Addr) (cl : List (Str × Addr)) (fp : List Addr), DTs (X.blk s H scope (compEnvC scope cl Ca X.env) fp) W0 ifs C)
    (he : ∀ (s : Shared) (H : Hp) (Ca : Addr) (cl : List (Str × Addr)) (fp : List Addr), DE (X.blk s H scope (compEnvC scope cl Ca X.env) fp) W0 elt E) (hs : ∀ x, foldedSetIterable iter X.env x = pure x := by intro _; rfl) :
    DO X W (.ListComp elt [⟨tg, iter, ifs, 0⟩] scope pos) (eLc I T C E (own.map (·.2))) := PE.weak (pe_lc (g := tG X.K sl T) (tt := tT X.K W0 C) (te := tE X.K W0 E) hc hN hi ok hg ht he hs) fun σ H Q q => tLc_ok hsl q
theorem tAsgO_ok {K : PySem.W.Frag} {t : TE} {i : Nat} {Dn : Ends} {σ : St} {H : Hp} (ht : ∀ Q, tO K W E σ H Q → t σ H Q) (q : tS K W (sAsgO i E) Dn σ H) : tAsg t (gName i) Dn σ H := by
  obtain ⟨B, G, δ, r, δ', a, e1, post⟩ := q
  refine ht _ (tO_bindS a e1 post fun v H1 G1 δ1 d a1 x1 r1 e2 post => ?_)
  obtain ⟨w1, w2, w3, w4⟩ := r1
  rcases unit_bind e2 with ⟨q, rfl⟩ | ⟨x, q, rfl⟩
  · unfold gO at q
    split at q
    · cases q
      exact post G1 _ H1 (a1.setOwn w1 w4 w2 w3 i) (Ext.refl _)
    · cases q
  · unfold gO at q; split at q <;> cases q
theorem ds_setLcO {i : Nat} {y : Str} {py spos : Pos} (hc : X.calm = true) (hN : X.N.Nodup) (hy : X.N[i]? = some y) (hyl : X.env.scope.names.lookup y = some .local)
    (hsw : swapsWith (.ListComp elt [⟨tg, iter, ifs, 0⟩] scope pos) (some (.Name y py)) spos.line X.env = pure true) (hi : DI X W tg iter I) (ok : BlkOk X.N X.env.scope scope own) (hsl : ∀ j ∈ sl, j ∈ own.map (·.2))
    (hg : ∀ (s : Shared) (H : Hp) (Ca : Addr) (cl : List (Str × Addr)) (fp : List Addr), DG (X.blk s H scope (compEnvC scope cl Ca X.env) fp) tg sl T) (ht : ∀ (s : Shared) (H : Hp) (Ca : Addr) (cl : List (Str × Addr)) (fp : List Addr), DTs (X.blk s H scope (compEnvC scope cl Ca X.env) fp) W0 ifs C)
    (he : ∀ (s : Shared) (H : Hp) (Ca : Addr) (cl : List (Str × Addr)) (fp : List Addr), DE (X.blk s H scope (compEnvC scope cl Ca X.env) fp) W0 elt E) (hs : ∀ x, foldedSetIterable iter X.env x = pure x := by intro _; rfl) :
    DS X W (.Assign [.Name y py] (.ListComp elt [⟨tg, iter, ifs, 0⟩] scope pos) spos) (sAsgO i (eLc I T C E (own.map (·.2)))) := PS.weak (ps_setLc (g := tG X.K sl T) (tt := tT X.K W0 C) (te := tE X.K W0 E) hc hN hy hyl hsw hi ok hg ht he hs) fun Dn σ H q => tAsgO_ok (fun Q z => tLc_ok hsl z) q
end
end M

set_option Elab.async false
set_option linter.all false
set_option maxRecDepth 100000
/-! Part F: operators, subscripts, built-ins, changes of own objects. -/
namespace M
open PySem L2 PySem.Spec PyProof.Rows

section
variable {X : Cx} {W : WK} {e a b c : Expr} {pos : Pos} {E Ea Eb Ec : Mo D}
/-! ### arithmetic -/
def dAdd : D → D → Option D
  | .int i, .int j => some (.int (i + j))
  | .str x, .str y => if x.length + y.length ≤ sizeLine then some (.str (x ++ y)) else none
  | .lst x, .lst y => if x.length + y.length ≤ sizeLine then some (.lst (x ++ y)) else none
  | .tup x, .tup y => if x.length + y.length ≤ sizeLine then some (.tup (x ++ y)) else none
  | _, _ => none
def dAddL : D → D → Option D
  | .lst x, .lst y => if x.length + y.length ≤ sizeLine then some (.lst (x ++ y)) else none
  | _, _ => none
theorem sndO_cat : Snd2O X.K dAddL rCat := fun B G H δ σ x y a b d Q at' rx ry h k => by
  cases rx with
  | lst g l r =>
    cases ry with
    | lst g2 l2 r2 =>
      rename_i p xs ds q ys es
      have h : (if ds.length + es.length ≤ sizeLine then some (D.lst (ds ++ es)) else none) = some d := h
      split at h
      · rename_i hl
        cases h
        rw [← r.length, ← r2.length] at hl
        refine ⟨p, q, xs, ys, rfl, rfl, at'.vw.lst g, at'.vw.lst g2, hl, fun z hz => ?_⟩
        obtain ⟨b1, b2⟩ := at'.own1 (p := z) (o := .lst (xs ++ ys)) hz (.lst upd_same (by rw [List.length_append]; exact hl) (r.append r2))
        exact k z _ b1 b2
      · cases h
    | _ => cases h
  | _ => cases h
theorem do_cat (ha : DE X W a Ea) (hb : DE X W b Eb) : DO X W (.BinOp a .Add b pos) (eBin dAddL Ea Eb) := do_tOp sndO_cat (pe_op op_cat ha hb)
abbrev rAddA (K : PySem.W.Frag) : R2 := fun x y H Q => (rI0 (fun i j => .int (i + j)) x y H Q ∨ (∃ i j, x = .str i ∧ y = .str j ∧ i.length + j.length ≤ sizeLine ∧ Q (.str (i ++ j)) H)) ∨ (rCat x y H Q ∨ rCatA K x y H Q)
theorem op_addA : OpR X (binaryOp .Add) (rAddA X.K) := OpR.or (OpR.or op_add op_add_str) (OpR.or op_cat op_catA)
theorem snd_add : Snd2 X.K dAdd (rAddA X.K) := fun B G H δ σ x y a b d Q at' rx ry h k => by
  cases rx with
  | int i =>
    cases ry with
    | int j => cases h; exact .inl (.inl ⟨i, j, rfl, rfl, k _ G H at' (Ext.refl _) (.int _)⟩)
    | _ => cases h
  | str i =>
    cases ry with
    | str j =>
      have h : (if i.length + j.length ≤ sizeLine then some (D.str (i ++ j)) else none) = some d := h
      split at h
      · rename_i hl; cases h; exact .inl (.inr ⟨i, j, rfl, rfl, hl, k _ G H at' (Ext.refl _) (.str _)⟩)
      · cases h
    | _ => cases h
  | lst g l r =>
    cases ry with
    | lst g2 l2 r2 =>
      rename_i p xs ds q ys es
      have h : (if ds.length + es.length ≤ sizeLine then some (D.lst (ds ++ es)) else none) = some d := h
      split at h
      · rename_i hl
        cases h
        rw [← r.length, ← r2.length] at hl
        refine .inr (.inl ⟨p, q, xs, ys, rfl, rfl, at'.vw.lst g, at'.vw.lst g2, hl, fun z hz => ?_⟩)
        have ex := Ext.new (o := .lst (xs ++ ys)) (at'.vw.none hz)
        exact k _ _ _ (at'.laid hz) ex (.lst upd_same (by rw [List.length_append]; exact hl) ((r.append r2).mono ex))
      · cases h
    | _ => cases h
  | tup g l r =>
    cases ry with
    | tup g2 l2 r2 =>
      rename_i p xs ds q ys es
      have h : (if ds.length + es.length ≤ sizeLine then some (D.tup (ds ++ es)) else none) = some d := h
      split at h
      · rename_i hl
        cases h
        rw [← r.length, ← r2.length] at hl
        refine .inr (.inr ⟨p, q, xs, ys, rfl, rfl, SqT.of (at'.vw.tup g), SqT.of (at'.vw.tup g2), hl, fun hx => ?_, fun hx hy => ?_, fun hx hy z hz => ?_⟩)
        · subst hx
          cases r
          exact k _ G H at' (Ext.refl _) (.tup g2 l2 r2)
        · subst hy
          cases r2
          exact k _ G H at' (Ext.refl _) (by rw [List.append_nil]; exact .tup g l r)
        · have ex := Ext.new (o := .tup (xs ++ ys)) (at'.vw.none hz)
          exact k _ _ _ (at'.laid hz) ex (.tup upd_same (by rw [List.length_append]; exact hl) ((r.append r2).mono ex))
      · cases h
    | _ => cases h
  | _ => cases h
theorem de_add (ha : DE X W a Ea) (hb : DE X W b Eb) : DE X W (.BinOp a .Add b pos) (eBin dAdd Ea Eb) := de_bin op_addA snd_add ha hb
/-- two ints under a condition -/
def dInt (C : Int → Int → Bool) (f : Int → Int → Int) : D → D → Option D
  | .int i, .int j => if C i j = true then some (.int (f i j)) else none
  | _, _ => none
theorem snd_int {C : Int → Int → Bool} {P : Int → Int → Prop} {f g : Int → Int → Int} (hC : ∀ i j, C i j = true → P i j ∧ g i j = f i j) : Snd2 X.K (dInt C f) (rI P fun i j => .int (g i j)) := fun B G H δ σ x y a b d Q at' rx ry h k => by
  cases rx with
  | int i =>
    cases ry with
    | int j =>
      have h : (if C i j = true then some (D.int (f i j)) else none) = some d := h
      split at h
      · rename_i hl; cases h
        obtain ⟨h1, h2⟩ := hC i j hl
        exact ⟨i, j, rfl, rfl, h1, by show Q (V.int (g i j)) H; rw [h2]; exact k _ G H at' (Ext.refl _) (.int _)⟩
      · cases h
    | _ => cases h
  | _ => cases h
def dSub : D → D → Option D
  | .int i, .int j => some (.int (i - j))
  | _, _ => none
theorem snd_sub : Snd2 X.K dSub (rI0 fun i j => .int (i - j)) := fun B G H δ σ x y a b d Q at' rx ry h k => by
  cases rx with
  | int i =>
    cases ry with
    | int j => cases h; exact ⟨i, j, rfl, rfl, k _ G H at' (Ext.refl _) (.int _)⟩
    | _ => cases h
  | _ => cases h
theorem de_sub (ha : DE X W a Ea) (hb : DE X W b Eb) : DE X W (.BinOp a .Sub b pos) (eBin dSub Ea Eb) := de_bin op_sub snd_sub ha hb
def cMul (i j : Int) : Bool := (decide (-18446744073709551616 < i) && decide (i < 18446744073709551616)) || (decide (-18446744073709551616 < j) && decide (j < 18446744073709551616))
def dMulI : D → D → Option D := dInt cMul (· * ·)
theorem cMul_ok (i j : Int) (h : cMul i j = true) : CMul i j := by
  unfold cMul at h
  unfold CMul
  simp only [Bool.or_eq_true, Bool.and_eq_true, decide_eq_true_eq] at h
  omega
def cMod (_ j : Int) : Bool := decide (0 < j)
def dMod : D → D → Option D := dInt cMod (· % ·)
theorem de_mod (ha : DE X W a Ea) (hb : DE X W b Eb) : DE X W (.BinOp a .Mod b pos) (eBin dMod Ea Eb) := de_bin op_mod (snd_int (C := cMod) fun i j h => ⟨of_decide_eq_true h, rfl⟩) ha hb
def cDiv (_ j : Int) : Bool := decide (0 < j) && decide (j < 1073741824)
def dDiv : D → D → Option D := dInt cDiv (· / ·)
theorem de_div (ha : DE X W a Ea) (hb : DE X W b Eb) : DE X W (.BinOp a .FloorDiv b pos) (eBin dDiv Ea Eb) := de_bin op_fdiv (snd_int (C := cDiv) fun i j h => ⟨by unfold cDiv at h; simp only [Bool.and_eq_true, decide_eq_true_eq] at h; exact h, rfl⟩) ha hb
def cShl (i j : Int) : Bool := (decide (0 ≤ j) && decide (j ≤ 1000)) && decide (i = 1)
def dShl : D → D → Option D := dInt cShl (fun i j => i * 2 ^ j.toNat)
theorem de_shl (ha : DE X W a Ea) (hb : DE X W b Eb) : DE X W (.BinOp a .LShift b pos) (eBin dShl Ea Eb) := de_bin op_shl (snd_int (C := cShl) fun i j h => ⟨by
  unfold cShl at h; simp only [Bool.and_eq_true, decide_eq_true_eq] at h
  obtain ⟨⟨h1, h2⟩, rfl⟩ := h
  exact ⟨h1, by omega, by decide⟩, rfl⟩) ha hb
/-- a product: ints; a list or a tuple, some times -/
def dMul : D → D → Option D
  | .int i, .int j => dMulI (.int i) (.int j)
  | .lst x, .int k => if 0 ≤ k ∧ k ≤ 16777216 ∧ x.length * k.toNat ≤ sizeLine then some (.lst (List.replicate k.toNat x).flatten) else none
  | .tup x, .int k => if x ≠ [] ∧ 2 ≤ k ∧ k ≤ 1000 ∧ x.length ≤ 1000 then some (.tup (List.replicate k.toNat x).flatten) else none
  | _, _ => none
theorem flat_len {α : Type} (k : Nat) (x : List α) : (List.replicate k x).flatten.length = x.length * k := by
  rw [List.length_flatten, List.map_replicate, List.sum_replicate_nat, Nat.mul_comm]
theorem snd_mul : Snd2 X.K dMul (fun x y H Q => rI CMul (fun i j => .int (i * j)) x y H Q ∨ (rRep x y H Q ∨ rRepT X.K x y H Q)) := fun B G H δ σ x y a b d Q at' rx ry h k => by
  cases ry with
  | int j =>
    cases rx with
    | int i => exact .inl (snd_int (X := X) (C := cMul) (P := CMul) (f := (· * ·)) (g := (· * ·)) (fun i j h => ⟨cMul_ok i j h, rfl⟩) B G H δ σ _ _ _ _ d Q at' (.int i) (.int j) h k)
    | lst g l r =>
      rename_i p xs ds
      have h : (if 0 ≤ j ∧ j ≤ 16777216 ∧ ds.length * j.toNat ≤ sizeLine then some (D.lst (List.replicate j.toNat ds).flatten) else none) = some d := h
      split at h
      · rename_i hl
        cases h
        obtain ⟨h1, h2, h3⟩ := hl
        rw [← r.length] at h3
        refine .inr (.inl ⟨p, j, xs, rfl, rfl, at'.vw.lst g, by omega, by omega, h3, fun z hz => ?_⟩)
        have ex := Ext.new (o := .lst (List.replicate j.toNat xs).flatten) (at'.vw.none hz)
        exact k _ _ _ (at'.laid hz) ex (.lst upd_same (by rw [flat_len]; exact h3) ((r.rep _).mono ex))
      · cases h
    | tup g l r =>
      rename_i p xs ds
      have h : (if ds ≠ [] ∧ 2 ≤ j ∧ j ≤ 1000 ∧ ds.length ≤ 1000 then some (D.tup (List.replicate j.toNat ds).flatten) else none) = some d := h
      split at h
      · rename_i hl
        cases h
        obtain ⟨h0, h1, h2, h3⟩ := hl
        rw [← r.length] at h3
        have hne : xs ≠ [] := fun z => by subst z; cases r; exact h0 rfl
        have hz : xs.length * j.toNat ≤ 1000 * 1000 := Nat.mul_le_mul h3 (by omega)
        refine .inr (.inr ⟨p, j, xs, rfl, rfl, SqT.of (at'.vw.tup g), hne, h1, h2, h3, fun z hz' => ?_⟩)
        have ex := Ext.new (o := .tup (List.replicate j.toNat xs).flatten) (at'.vw.none hz')
        exact k _ _ _ (at'.laid hz') ex (.tup upd_same (by rw [flat_len, sizeLine_eq]; omega) ((r.rep _).mono ex))
      · cases h
    | _ => cases h
  | _ => cases rx <;> cases h
theorem de_mul (ha : DE X W a Ea) (hb : DE X W b Eb) : DE X W (.BinOp a .Mult b pos) (eBin dMul Ea Eb) := de_bin (OpR.or op_mul (OpR.or op_rep op_repT)) snd_mul ha hb
def dMulL : D → D → Option D
  | .lst x, .int k => if 0 ≤ k ∧ k ≤ 16777216 ∧ x.length * k.toNat ≤ sizeLine then some (.lst (List.replicate k.toNat x).flatten) else none
  | _, _ => none
theorem sndO_rep : Snd2O X.K dMulL rRep := fun B G H δ σ x y a b d Q at' rx ry h k => by
  cases ry with
  | int j =>
    cases rx with
    | lst g l r =>
      rename_i p xs ds
      have h : (if 0 ≤ j ∧ j ≤ 16777216 ∧ ds.length * j.toNat ≤ sizeLine then some (D.lst (List.replicate j.toNat ds).flatten) else none) = some d := h
      split at h
      · rename_i hl
        cases h
        obtain ⟨h1, h2, h3⟩ := hl
        rw [← r.length] at h3
        refine ⟨p, j, xs, rfl, rfl, at'.vw.lst g, by omega, by omega, h3, fun z hz => ?_⟩
        obtain ⟨b1, b2⟩ := at'.own1 (p := z) (o := .lst (List.replicate j.toNat xs).flatten) hz (.lst upd_same (by rw [flat_len]; exact h3) (r.rep _))
        exact k z _ b1 b2
      · cases h
    | _ => cases h
  | _ => cases rx <;> cases h
theorem do_rep (ha : DE X W a Ea) (hb : DE X W b Eb) : DO X W (.BinOp a .Mult b pos) (eBin dMulL Ea Eb) := do_tOp sndO_rep (pe_op op_rep ha hb)
/-- one-place operations -/
def eUn (f : D → Option D) (A : Mo D) : Mo D := A.bind fun x => Mo.lift (f x)
def Snd1 (K : PySem.W.Frag) (f : D → Option D) (r : V → Hp → VK → Prop) : Prop := ∀ (B : Bs) (G H : Hp) (δ : Env) (σ : St) (x : V) (a d : D) (Q : VK), At K B G δ σ H → R K G x a → f a = some d →
  (∀ v G' H', At K B G' δ σ H' → Ext G G' → R K G' v d → Q v H') → r x H Q
def dNeg : D → Option D
  | .int i => some (.int (-i))
  | _ => none
theorem de_neg (ha : DE X W a Ea) : DE X W (.UnaryOp .USub a pos) (eUn dNeg Ea) := PE.weak (pe_un un_neg ha) fun σ H Q ⟨B, G, δ, r, δ', at', e1, post⟩ => by
  refine tE_bind at' e1 post fun v H1 G1 δ1 d a1 x1 r1 e2 post => ?_
  obtain ⟨z, hz, hr⟩ := lift_some e2
  cases hr
  cases r1 with
  | int i => cases hz; exact ⟨i, rfl, post G1 H1 a1 (Ext.refl _) _ (.int _)⟩
  | _ => cases hz

/-! ### order -/
def dCmp (pI : Int → Int → Bool) (pS : List Nat → List Nat → Bool) : D → D → Option D
  | .int i, .int j => some (.bl (pI i j))
  | .str i, .str j => some (.bl (pS i.cps.toList j.cps.toList))
  | _, _ => none
theorem snd_cmp {pI : Int → Int → Bool} {pS : List Nat → List Nat → Bool} {r : R2} (h1 : ∀ i j H Q, Q (.bl (pI i j)) H → r (.int i) (.int j) H Q) (h2 : ∀ i j H Q, Q (.bl (pS i.cps.toList j.cps.toList)) H → r (.str i) (.str j) H Q) : Snd2 X.K (dCmp pI pS) r := fun B G H δ σ x y a b d Q at' rx ry h k => by
  cases rx with
  | int i =>
    cases ry with
    | int j => cases h; exact h1 _ _ _ _ (k _ G H at' (Ext.refl _) (.bl _))
    | _ => cases h
  | str i =>
    cases ry with
    | str j => cases h; exact h2 _ _ _ _ (k _ G H at' (Ext.refl _) (.bl _))
    | _ => cases h
  | _ => cases h
abbrev rCmp (pI : Int → Int → Bool) (pS : List Nat → List Nat → Bool) : R2 := fun x y H Q => rI0 (fun i j => .bl (pI i j)) x y H Q ∨ ∃ i j, x = .str i ∧ y = .str j ∧ Q (.bl (pS i.cps.toList j.cps.toList)) H
theorem snd_cmp' {pI : Int → Int → Bool} {pS : List Nat → List Nat → Bool} : Snd2 X.K (dCmp pI pS) (rCmp pI pS) := snd_cmp (fun i j H Q q => .inl ⟨i, j, rfl, rfl, q⟩) (fun i j H Q q => .inr ⟨i, j, rfl, rfl, q⟩)
def dLt := dCmp (fun i j => decide (i < j)) (fun i j => decide (i < j))
def dLe := dCmp (fun i j => decide (i ≤ j)) (fun i j => !decide (j < i))
def dGt := dCmp (fun i j => decide (j < i)) (fun i j => decide (j < i))
def dGe := dCmp (fun i j => decide (j ≤ i)) (fun i j => !decide (i < j))
theorem opc_lt : OpR X (compareOp .Lt) (rCmp (fun i j => decide (i < j)) (fun i j => decide (i < j))) := OpR.or op_lt op_lt_str
theorem opc_le : OpR X (compareOp .LtE) (rCmp (fun i j => decide (i ≤ j)) (fun i j => !decide (j < i))) := OpR.or op_le op_le_str
theorem opc_gt : OpR X (compareOp .Gt) (rCmp (fun i j => decide (j < i)) (fun i j => decide (j < i))) := OpR.or op_gt op_gt_str
theorem opc_ge : OpR X (compareOp .GtE) (rCmp (fun i j => decide (j ≤ i)) (fun i j => !decide (i < j))) := OpR.or op_ge op_ge_str
theorem de_lt (ha : DE X W a Ea) (hb : DE X W b Eb) : DE X W (.Compare a [.Lt] [b] pos) (eBin dLt Ea Eb) := de_cmp opc_lt snd_cmp' ha hb (nomark _)
theorem de_le (ha : DE X W a Ea) (hb : DE X W b Eb) : DE X W (.Compare a [.LtE] [b] pos) (eBin dLe Ea Eb) := de_cmp opc_le snd_cmp' ha hb (nomark _)
theorem de_gt (ha : DE X W a Ea) (hb : DE X W b Eb) : DE X W (.Compare a [.Gt] [b] pos) (eBin dGt Ea Eb) := de_cmp opc_gt snd_cmp' ha hb (nomark _)
theorem de_ge (ha : DE X W a Ea) (hb : DE X W b Eb) : DE X W (.Compare a [.GtE] [b] pos) (eBin dGe Ea Eb) := de_cmp opc_ge snd_cmp' ha hb (nomark _)
/-- a op b op' c -/
def eChain (f g : D → D → Option D) (A B C : Mo D) : Mo D := A.bind fun x => B.bind fun y => (Mo.lift ((f x y).bind dBl)).bind fun k => if k = true then C.bind fun z => Mo.lift (g y z) else Mo.ret (.bl false)
theorem de_chain {op op' : CmpOp} {f g : D → D → Option D} {r r' : R2} (ho : OpR X (compareOp op) r) (ho' : OpR X (compareOp op') r') (hf : Snd2 X.K f r) (hg : Snd2 X.K g r') (ha : DE X W a Ea) (hb : DE X W b Eb) (hc : DE X W c Ec)
    (hm : lastMarks [op, op'] [b, c] = false := by with_unfolding_all rfl) : DE X W (.Compare a [op, op'] [b, c] pos) (eChain f g Ea Eb Ec) := PE.weak (pe_chain ho ho' ha hb hc hm) fun σ H Q ⟨B, G, δ, r1, δ', at', e1, post⟩ => by
  refine tE_bind at' e1 post fun v H1 G1 δ1 d a1 x1 r1 e2 post => ?_
  refine tE_bind a1 e2 post fun w H2 G2 δ2 d2 a2 x2 r2 e3 post => ?_
  unfold Mo.bind Mo.lift at e3
  cases q : (f d d2).bind dBl with
  | none => rw [q] at e3; cases e3
  | some k =>
    rw [q] at e3
    simp only [] at e3
    cases q2 : f d d2 with
    | none => rw [q2] at q; cases q
    | some z =>
      rw [q2, Option.bind_some] at q
      obtain rfl := dBl_some q
      refine hf B G2 H2 δ2 σ v w d d2 _ _ a2 (r1.mono x2) r2 q2 fun v3 G3 H3 a3 x3 r3 => ?_
      cases r3
      refine ⟨k, rfl, ?_⟩
      cases k with
      | false => rw [if_neg Bool.false_ne_true] at e3 ⊢; cases e3; exact (post.mono x3) G3 H3 a3 (Ext.refl _) _ (.bl _)
      | true =>
        rw [if_pos rfl] at e3 ⊢
        refine tE_bind (k := fun z => Mo.lift (g d2 z)) a3 e3 (post.mono x3) fun u H4 G4 δ4 d4 a4 x4 r4 e4 post => ?_
        obtain ⟨z, hz, hr⟩ := lift_some e4
        cases hr
        exact hg B G4 H4 δ' σ w u d2 d4 z Q a4 (r2.mono (x3.trans x4)) r4 hz fun v G' H' a' x' r' => post G' H' a' x' v r'
/-! ### is None, is True -/
def dIsN : D → D → Option D
  | .non, .non => some (.bl true)
  | _, .non => some (.bl false)
  | .bl i, .bl j => some (.bl (i == j))
  | .non, .bl _ => some (.bl false)
  | .int _, .bl _ => some (.bl false)
  | .str _, .bl _ => some (.bl false)
  | _, _ => none
end

/-! ### what is seen of a value -/
inductive Sh (K : PySem.W.Frag) (G H : Hp) : V → D → Prop
  | lst {a : Addr} {xs : List V} {ds : List D} : H a = some (.lst xs) → xs.length ≤ sizeLine → RL K G xs ds → Sh K G H (.ref a) (.lst ds)
  | scr {a : Addr} {xs : List V} {ds : List D} : SqL K H a xs → xs.length ≤ sizeLine → RL K G xs ds → Sh K G H (.ref a) (.scr ds)
  | tup {a : Addr} {xs : List V} {ds : List D} : H a = some (.tup xs) → xs.length ≤ sizeLine → RL K G xs ds → Sh K G H (.ref a) (.tup ds)
  | dK {a : Addr} {kvs : List (Key × V)} {ds : List (Key × D)} : Rd H a (.dK kvs) → kvs.length ≤ sizeLine → KVP K G kvs ds → Sh K G H (.ref a) (.dK ds)
  | dT {a : Addr} {kvs : List (List Key × V)} {ds : List (List Key × D)} : Rd H a (.dT kvs) → kvs.length ≤ sizeLine → KVP K G kvs ds → Sh K G H (.ref a) (.dT ds)
  | flat {v : V} {d : D} : R K G v d → flatD d = true → Sh K G H v d
section
variable {K : PySem.W.Frag} {B : Bs} {G G' H : Hp} {δ : Env} {σ : St} {i : Nat}
theorem R.sh (vw : Vw G H) {v : V} {d : D} (r : R K G v d) : Sh K G H v d := by
  cases r with
  | tup g l r => exact .tup (vw.tup g) l r
  | lst g l r => exact .lst (vw.lst g) l r
  | scr g l r => exact .scr (vw.sql g) l r
  | dK g l k r => exact .dK (vw.rd g) l (kvp_of k r)
  | dT g l k r => exact .dT (vw.rd g) l (kvp_of k r)
  | non => exact .flat .non rfl
  | bl b => exact .flat (.bl b) rfl
  | int i => exact .flat (.int i) rfl
  | str s => exact .flat (.str s) rfl
theorem Ow.sh {p : Addr} {d : D} (w : Ow K G H p d) : Sh K G H (.ref p) d := by
  cases w with
  | lst g l r => exact .lst g l r
  | dK g l k r => exact .dK (.inl g) l (kvp_of k r)
  | dT g l k r => exact .dT (.inl g) l (kvp_of k r)
/-- a slot's content, seen -/
def slD : Sl → Option D
  | .imm d => some d
  | .own d => some d
  | .io d => some d
  | .bor d => some d
  | .no => none
def isBor : Sl → Bool
  | .bor _ => true
  | _ => false
theorem At.see (a : At K B G δ σ H) {s : Sl} {d : D} (e : δ[i]? = some s) (hd : slD s = some d) : ∃ v Gc, σ[i]? = some (some v) ∧ Sh K Gc H v d ∧ Vw Gc H ∧ (isBor s = false → Gc = G) := by
  cases s with
  | no => cases hd
  | imm d' => cases hd; obtain ⟨v, h1, h2⟩ := a.imm e; exact ⟨v, G, h1, h2.sh a.vw, a.vw, fun _ => rfl⟩
  | own d' => cases hd; obtain ⟨p, h1, _, h2, _⟩ := a.own e; exact ⟨_, G, h1, h2.sh, a.vw, fun _ => rfl⟩
  | io d' => cases hd; obtain ⟨p, h1, _, h2, _⟩ := a.io e; exact ⟨_, G, h1, h2.sh, a.vw, fun _ => rfl⟩
  | bor d' => cases hd; obtain ⟨v, h1, h2⟩ := a.bor e; exact ⟨v, _, h1, h2.sh (a.bo i), a.bo i, fun h => by cases h⟩
end

/-! ### subscripts -/
def dIx : D → D → Option D
  | .lst l, .int i => atI l i
  | .scr l, .int i => atI l i
  | .tup l, .int i => atI l i
  | .str s, .int i => if s.length ≤ sizeLine then (atI s.cps.toList i).map fun c => .str ⟨#[c]⟩ else none
  | .dK l, k => (dGet (.dK l) k).bind id
  | .dT l, k => (dGet (.dT l) k).bind id
  | _, _ => none
def isDct : D → Bool
  | .dK _ => true
  | .dT _ => true
  | _ => false
section
variable {K : PySem.W.Frag} {B : Bs} {G G' H : Hp} {δ : Env} {σ : St} {i : Nat}
theorem atI_rl {xs : List V} {ds : List D} {i : Int} {d : D} (r : RL K G xs ds) (h : atI ds i = some d) : ∃ v, atI xs i = some v ∧ R K G v d := by
  unfold atI at h ⊢
  rw [r.length]
  cases q : ixN ds.length i with
  | none => rw [q] at h; cases h
  | some j => rw [q] at h; exact r.get h
/-- look-up in a dict that is seen -/
theorem sh_get {x y : V} {d k : D} {o : Option D} {G2 : Hp} (vw : Vw G2 H) (rx : Sh K G H x d) (ry : R K G2 y k) (h : dGet d k = some o) : ∃ a o', x = .ref a ∧ IsD H a ∧ DGet H a y o' ∧ ((∃ v d, o' = some v ∧ o = some d ∧ R K G v d) ∨ (o' = none ∧ o = none)) := by
  cases rx with
  | dK g l kp =>
    rename_i a kvs ds
    have h : (keyK k).map (fun k => lookA ds k) = some o := h
    cases q : keyK k with
    | none => rw [q] at h; cases h
    | some kk =>
      rw [q] at h; cases h
      refine ⟨a, valV kvs kk, rfl, .inl ⟨kvs, g⟩, .inl ⟨kvs, kk, g, keyK_ok ry q, rfl⟩, ?_⟩
      rcases kvp_look kp kk with ⟨v, d, h1, h2, h3⟩ | ⟨h1, h2⟩
      · exact .inl ⟨v, d, h1, h2, h3⟩
      · exact .inr ⟨h1, h2⟩
  | dT g l kp =>
    rename_i a kvs ds
    cases ry with
    | tup g2 l2 r2 =>
      rename_i b xs ks
      have h : (keysK ks).map (fun k => lookA ds k) = some o := h
      cases q : keysK ks with
      | none => rw [q] at h; cases h
      | some kk =>
        rw [q] at h; cases h
        have hx := keysK_ok r2 q
        subst hx
        refine ⟨a, valV kvs kk, rfl, .inr ⟨kvs, g⟩, .inr ⟨kvs, kk, b, g, rfl, vw.tup g2, rfl⟩, ?_⟩
        rcases kvp_look kp kk with ⟨v, d, h1, h2, h3⟩ | ⟨h1, h2⟩
        · exact .inl ⟨v, d, h1, h2, h3⟩
        · exact .inr ⟨h1, h2⟩
    | _ => cases h
  | flat r f => cases r <;> first | cases h | cases f
  | _ => cases h
theorem join_some {o : Option (Option D)} {d : D} (h : o.bind id = some d) : o = some (some d) := by
  cases o with
  | none => cases h
  | some o => cases o <;> cases h; rfl
/-- the rule for a subscript -/
theorem sh_ix {x y : V} {d k z : D} {G2 : Hp} {Q : VK} (vw : Vw G2 H) (rx : Sh K G H x d) (ry : R K G2 y k) (h : dIx d k = some z) (q : ∀ v, R K G v z → Q v H) :
    (isDct d = false → rIx K x y H Q) ∧ (isDct d = true → ∃ a v, x = .ref a ∧ DGet H a y (some v) ∧ Q v H) := by
  have dct : isDct d = true → ∃ a v, x = .ref a ∧ DGet H a y (some v) ∧ Q v H := fun hd => by
    have h' : (dGet d k).bind id = some z := by cases d <;> first | exact h | cases hd
    obtain ⟨a, o', e1, _, e2, e3⟩ := sh_get vw rx ry (join_some h')
    rcases e3 with ⟨v, d, rfl, e, r⟩ | ⟨_, e⟩
    · cases e; exact ⟨a, v, e1, e2, q v r⟩
    · cases e
  refine ⟨fun hd => ?_, dct⟩
  cases rx with
  | lst g l r =>
    cases ry with
    | int i => obtain ⟨v, h1, h2⟩ := atI_rl r h; exact .inl ⟨_, _, i, v, rfl, rfl, SqL.of g, h1, q v h2⟩
    | _ => cases h
  | scr g l r =>
    cases ry with
    | int i => obtain ⟨v, h1, h2⟩ := atI_rl r h; exact .inl ⟨_, _, i, v, rfl, rfl, g, h1, q v h2⟩
    | _ => cases h
  | tup g l r =>
    cases ry with
    | int i => obtain ⟨v, h1, h2⟩ := atI_rl r h; exact .inr (.inl ⟨_, _, i, v, rfl, rfl, SqT.of g, h1, q v h2⟩)
    | _ => cases h
  | dK => cases hd
  | dT => cases hd
  | flat r f =>
    cases r with
    | str s =>
      cases ry with
      | int i =>
        have h : (if s.length ≤ sizeLine then (atI s.cps.toList i).map fun c => D.str ⟨#[c]⟩ else none) = some z := h
        split at h
        · rename_i hl
          cases q2 : atI s.cps.toList i with
          | none => rw [q2] at h; cases h
          | some c => rw [q2] at h; cases h; exact .inr (.inr ⟨s, i, c, rfl, rfl, hl, q2, q _ (.str _)⟩)
        · cases h
      | _ => cases h
    | _ => first | (cases f; done) | (cases h; done)
end
def eIx (A B : Mo D) : Mo D := A.bind fun x => B.bind fun y => Mo.lift (dIx x y)
def slotDct (δ : Env) (i : Nat) : Option Bool := match δ[i]? with
  | some s => (slD s).map isDct
  | none => none
/-- x[e], x a slot: what stands there behind e -/
def ixSl (i : Nat) (k : Bool) (y : D) : Mo D := fun δ => match δ[i]? with
    | some (.imm d) => if isDct d = k then Mo.lift (dIx d y) δ else none
    | some (.own d) => if isDct d = k then Mo.lift (dIx d y) δ else none
    | some (.io d) => if isDct d = k then Mo.lift (dIx d y) δ else none
    | some (.bor d) => if isDct d = k then (match dIx d y with
      | some z => if flatD z = true then some (.ok z, δ) else none
      | none => none) else none
    | _ => none
def eIxV (i : Nat) (B : Mo D) : Mo D := fun δ => match slotDct δ i with
  | some k => (B.bind fun y => ixSl i k y) δ
  | none => none
section
variable {X : Cx} {W : WK} {e a b : Expr} {pos : Pos} {E Ea Eb : Mo D}
theorem slotDct_ok {K : PySem.W.Frag} {B : Bs} {G H : Hp} {δ : Env} {σ : St} {i : Nat} {k : Bool} (at' : At K B G δ σ H) (h : slotDct δ i = some k) : ∃ v, σ[i]? = some (some v) := by
  unfold slotDct at h
  cases q : δ[i]? with
  | none => rw [q] at h; cases h
  | some s =>
    rw [q] at h
    cases q2 : slD s with
    | none => simp only [q2] at h; cases h
    | some d => obtain ⟨v, _, h1, _⟩ := at'.see q q2; exact ⟨v, h1⟩
theorem bind_error {α β : Type} {m : Mo α} {k : α → Mo β} {δ δ1 : Env} {x : Exn} (h : m δ = some (.error x, δ1)) : Mo.bind m k δ = some (.error x, δ1) := by unfold Mo.bind; rw [h]
theorem de_ix (hu : X.A.units + 1 < cLine) (ha : DE X W a Ea) (hb : DE X W b Eb) (h1 : PlainIx b := by intro _ _; rfl) (h2 : NoSl b := by intro _ _; rfl) : DE X W (.Subscript a b pos) (eIx Ea Eb) :=
  PE.weak (PE.or (pe_ix ix_seq ha hb h1) (pe_dget hu ha hb h2)) fun σ H Q ⟨B, G, δ, r, δ', at', e1, post⟩ => by
  unfold eIx at e1
  cases q : Ea δ with
  | none => unfold Mo.bind at e1; rw [q] at e1; cases e1
  | some z =>
    obtain ⟨x, δ1⟩ := z
    cases x with
    | error x => rw [bind_error q] at e1; cases e1; exact .inl ⟨B, G, δ, .error x, _, at', q, post⟩
    | ok d =>
      rw [bind_ok q] at e1
      cases hd : isDct d with
      | false =>
        refine .inl ⟨B, G, δ, .ok d, δ1, at', q, fun G1 H1 a1 x1 v rv => ?_⟩
        refine tE_bind a1 e1 (post.mono x1) fun w H2 G2 δ2 d2 a2 x2 r2 e3 post => ?_
        obtain ⟨z, hz, hr⟩ := lift_some e3
        cases hr
        exact (sh_ix a2.vw ((rv.mono x2).sh a2.vw) r2 hz fun v rv => post G2 H2 a2 (Ext.refl _) v rv).1 hd
      | true =>
        refine .inr ⟨B, G, δ, .ok d, δ1, at', q, fun G1 H1 a1 x1 v rv => ?_⟩
        refine tE_bind a1 e1 (post.mono x1) fun w H2 G2 δ2 d2 a2 x2 r2 e3 post => ?_
        obtain ⟨z, hz, hr⟩ := lift_some e3
        cases hr
        exact (sh_ix a2.vw ((rv.mono x2).sh a2.vw) r2 hz fun v rv => post G2 H2 a2 (Ext.refl _) v rv).2 hd
/-- behind the index, the slot's content -/
theorem ixV_ok {K : PySem.W.Frag} {B : Bs} {G H : Hp} {δ δ' : Env} {σ : St} {i : Nat} {y : V} {k : D} {kb : Bool} {r : Except Exn D} {Q : VK} (at' : At K B G δ σ H) (ry : R K G y k)
    (h : ixSl i kb k δ = some (r, δ')) (post : Post K W B G σ r δ' (fun d G' H' => ∀ v, R K G' v d → Q v H')) :
    ∃ v, σ[i]? = some (some v) ∧ (kb = false → rIx K v y H Q) ∧ (kb = true → ∃ a u, v = .ref a ∧ DGet H a y (some u) ∧ Q u H) := by
  have go : ∀ (s : Sl) (d : D), δ[i]? = some s → slD s = some d → isBor s = false → (if isDct d = kb then Mo.lift (dIx d k) δ else none) = some (r, δ') → ∃ v, σ[i]? = some (some v) ∧ (kb = false → rIx K v y H Q) ∧ (kb = true → ∃ a u, v = .ref a ∧ DGet H a y (some u) ∧ Q u H) := fun s d e1 e2 e3 e4 => by
    obtain ⟨v, Gc, h1, h2, h3, h4⟩ := at'.see e1 e2
    obtain rfl := h4 e3
    split at e4
    · rename_i c
      subst c
      obtain ⟨z, hz, hr⟩ := lift_some e4
      cases hr
      exact ⟨v, h1, sh_ix (Q := Q) at'.vw h2 ry hz fun v rv => post _ H at' (Ext.refl _) v rv⟩
    · cases e4
  unfold ixSl at h
  split at h
  · rename_i d q; exact go _ d q rfl rfl h
  · rename_i d q; exact go _ d q rfl rfl h
  · rename_i d q; exact go _ d q rfl rfl h
  · rename_i d q
    obtain ⟨v, Gc, h1, h2, h3, _⟩ := at'.see q rfl
    split at h
    · rename_i c
      subst c
      cases q2 : dIx d k with
      | none => rw [q2] at h; cases h
      | some z =>
        rw [q2] at h
        simp only [] at h
        split at h
        · rename_i f
          cases h
          exact ⟨v, h1, sh_ix (Q := Q) at'.vw h2 ry q2 fun v rv => post G H at' (Ext.refl _) v (rv.flat f)⟩
        · cases h
    · cases h
  · cases h
theorem de_ixV {i : Nat} (hu : X.A.units + 1 < cLine) (ha : PE X a (tVar i)) (hb : DE X W b Eb) (h1 : PlainIx b := by intro _ _; rfl) (h2 : NoSl b := by intro _ _; rfl) : DE X W (.Subscript a b pos) (eIxV i Eb) :=
  PE.weak (PE.or (pe_ix ix_seq ha hb h1) (pe_dget hu ha hb h2)) fun σ H Q ⟨B, G, δ, r, δ', at', e1, post⟩ => by
  unfold eIxV at e1
  split at e1
  · rename_i kb hs
    obtain ⟨v, hv⟩ := slotDct_ok at' hs
    cases kb with
    | false =>
      refine .inl ⟨v, hv, ?_⟩
      refine tE_bind at' e1 post fun w H2 G2 δ2 d2 a2 x2 r2 e3 post => ?_
      obtain ⟨v', k1, k2, _⟩ := ixV_ok a2 r2 e3 post
      rw [hv] at k1; cases k1
      exact k2 rfl
    | true =>
      refine .inr ⟨v, hv, ?_⟩
      refine tE_bind at' e1 post fun w H2 G2 δ2 d2 a2 x2 r2 e3 post => ?_
      obtain ⟨v', k1, _, k2⟩ := ixV_ok a2 r2 e3 post
      rw [hv] at k1; cases k1
      exact k2 rfl
  · cases e1

/-! ### len, in -/
def dLen : D → Option D
  | .lst l => some (.int l.length)
  | .scr l => some (.int l.length)
  | .tup l => some (.int l.length)
  | .dK l => some (.int l.length)
  | .dT l => some (.int l.length)
  | .str s => if s.length ≤ sizeLine then some (.int s.length) else none
  | _ => none
theorem sh_len {K : PySem.W.Frag} {G H : Hp} {x : V} {d z : D} (rx : Sh K G H x d) (h : dLen d = some z) : ∃ n : Nat, z = .int n ∧ (LenV K x H n ∨ (∃ a kvs, x = .ref a ∧ Rd H a (.dK kvs) ∧ n = kvs.length) ∨ ∃ a kvs, x = .ref a ∧ Rd H a (.dT kvs) ∧ n = kvs.length) := by
  cases rx with
  | lst g l r => cases h; exact ⟨_, rfl, .inl (.inl ⟨_, SqL.of g, r.length.symm⟩)⟩
  | scr g l r => cases h; exact ⟨_, rfl, .inl (.inl ⟨_, g, r.length.symm⟩)⟩
  | tup g l r => cases h; exact ⟨_, rfl, .inl (.inr ⟨_, SqT.of g, r.length.symm⟩)⟩
  | dK g l r => cases h; exact ⟨_, rfl, .inr (.inl ⟨_, _, rfl, g, (Paired.length r).symm⟩)⟩
  | dT g l r => cases h; exact ⟨_, rfl, .inr (.inr ⟨_, _, rfl, g, (Paired.length r).symm⟩)⟩
  | flat r f =>
    cases r with
    | str s =>
      have h : (if s.length ≤ sizeLine then some (D.int s.length) else none) = some z := h
      split at h
      · rename_i hl; cases h; exact ⟨_, rfl, .inl ⟨hl, rfl⟩⟩
      · cases h
    | _ => first | (cases f; done) | (cases h; done)
def rLenA (K : PySem.W.Frag) : List V → Hp → VK → Prop := fun xs H Q => ∃ x n, xs = [x] ∧ (LenV K x H n ∨ (∃ a kvs, x = .ref a ∧ Rd H a (.dK kvs) ∧ n = kvs.length) ∨ ∃ a kvs, x = .ref a ∧ Rd H a (.dT kvs) ∧ n = kvs.length) ∧ Q (.int (n : Nat)) H
theorem call_lenA : CallR X (.builtin "len") (rLenA X.K) := by
  intro pins s σ H xs us Q I rv h
  obtain ⟨x, n, rfl, h, q⟩ := h
  rcases h with h | ⟨a, kvs, rfl, h, rfl⟩ | ⟨a, kvs, rfl, h, rfl⟩
  · exact call_len pins s σ H _ us Q I rv ⟨x, n, rfl, h, q⟩
  · obtain ⟨u, rfl, rx⟩ := vals1 rv
    obtain rfl : u = .ref a := rx
    exact d_len I h fun t s' I' => ⟨.int kvs.length, H, I', ⟨t, rfl⟩, q⟩
  · obtain ⟨u, rfl, rx⟩ := vals1 rv
    obtain rfl : u = .ref a := rx
    obtain ⟨z, hd, ys, rel, dd⟩ := dt_rd I.hok h
    have hl : kvs.length = ys.length := Paired.length rel
    refine call_len_dictH hd dd (by rw [← hl]; rw [sizeLine_eq] at z; omega) ?_
    rw [← hl]
    exact ⟨.int ((kvs.length : Nat) : Int), H, I.tok _, ⟨_, rfl⟩, q⟩
end
section
variable {X : Cx} {W : WK} {e a b : Expr} {pos p : Pos} {x : Str} {es : List Expr} {E Ea Eb : Mo D} {A : Mo (List Ag)}
/-- a built-in function of data -/
def eF (f : List D → Option D) (A : Mo (List Ag)) : Mo D := A.bind fun as => Mo.lift ((imms as).bind f)
def SndF (K : PySem.W.Frag) (f : List D → Option D) (r : List V → Hp → VK → Prop) : Prop := ∀ (B : Bs) (G H : Hp) (δ : Env) (σ : St) (xs : List V) (as : List D) (d : D) (Q : VK), At K B G δ σ H → RL K G xs as → f as = some d →
  (∀ v G' H', At K B G' δ σ H' → Ext G G' → R K G' v d → Q v H') → r xs H Q
def SndFO (K : PySem.W.Frag) (f : List D → Option D) (r : List V → Hp → VK → Prop) : Prop := ∀ (B : Bs) (G H : Hp) (δ : Env) (σ : St) (xs : List V) (as : List D) (d : D) (Q : VK), At K B G δ σ H → RL K G xs as → f as = some d →
  (∀ p G' H', At K B G' δ σ H' → Ext G G' → Fr1 K B G' δ σ H' p d → Q (.ref p) H') → r xs H Q
theorem eF_some {f : List D → Option D} {as : List Ag} {δ δ' : Env} {r : Except Exn D} (h : Mo.lift ((imms as).bind f) δ = some (r, δ')) : ∃ ds d, imms as = some ds ∧ f ds = some d ∧ r = .ok d ∧ δ' = δ := by
  obtain ⟨z, hz, hr⟩ := lift_some h
  cases hr
  cases q : imms as with
  | none => rw [q] at hz; cases hz
  | some ds => rw [q] at hz; exact ⟨ds, z, rfl, hz, rfl, rfl⟩
theorem de_tCB {f : List D → Option D} {r : List V → Hp → VK → Prop} (hf : SndF X.K f r) (h : PE X e (tCB r (tA X.K W A))) : DE X W e (eF f A) := PE.weak h fun σ H Q ⟨B, G, δ, r', δ', at', e1, post⟩ => by
  refine tA_bind at' e1 post fun vs H1 G1 δ1 as a1 x1 r1 e2 post => ?_
  obtain ⟨ds, d, h1, h2, rfl, rfl⟩ := eF_some e2
  exact hf B G1 H1 δ' σ vs ds d Q a1 (imms_ok r1 h1) h2 fun v G' H' a' x' rv => post G' H' a' x' v rv
theorem do_tCB {f : List D → Option D} {r : List V → Hp → VK → Prop} (hf : SndFO X.K f r) (h : PE X e (tCB r (tA X.K W A))) : DO X W e (eF f A) := PE.weak h fun σ H Q ⟨B, G, δ, r', δ', at', e1, post⟩ => by
  refine tA_bind at' e1 post fun vs H1 G1 δ1 as a1 x1 r1 e2 post => ?_
  obtain ⟨ds, d, h1, h2, rfl, rfl⟩ := eF_some e2
  exact hf B G1 H1 δ' σ vs ds d Q a1 (imms_ok r1 h1) h2 fun v G' H' a' x' rv => post G' H' a' x' v rv
def fLen : List D → Option D
  | [d] => dLen d
  | _ => none
theorem snd_len : SndF X.K fLen (rLenA X.K) := fun B G H δ σ xs as d Q at' rx h k => by
  cases rx with
  | nil => cases h
  | cons r0 r1 =>
    cases r1 with
    | cons _ _ => cases h
    | nil =>
      obtain ⟨n, rfl, h2⟩ := sh_len (r0.sh at'.vw) h
      exact ⟨_, n, rfl, h2, k _ G H at' (Ext.refl _) (.int _)⟩
theorem de_len (hg : Gl X x) (hm : X.mg x = none) (hv : bootBuiltins x = some (.builtin "len")) (ha : DA X W (e :: es) A) (hn : x ≠ "__name__" := by decide) (hdb : (x == ("__debug__" : Str)) = false := by decide)
    (he : starEach (e :: es) X.env = (false, eval e X.env) :: starEach es X.env := by rfl) (hpl : (backTo pos (starEach es X.env)).any (·.1) = false := by rfl) : DE X W (.Call (.Name x p) (e :: es) [] pos) (eF fLen A) :=
  de_tCB snd_len (pe_callB call_lenA hg hm hv ha hn hdb he hpl)
/-- len(x), x a slot that keeps its object -/
def eLenV (i : Nat) : Mo D := fun δ => match δ[i]? with
  | some s => (slD s).bind dLen |>.map fun d => (.ok d, δ)
  | none => none
theorem de_lenV {i : Nat} (hg : Gl X x) (hm : X.mg x = none) (hv : bootBuiltins x = some (.builtin "len")) (ha : PA X [e] (tCons (tVar i) tNil)) (hn : x ≠ "__name__" := by decide) (hdb : (x == ("__debug__" : Str)) = false := by decide)
    (he : starEach [e] X.env = (false, eval e X.env) :: starEach [] X.env := by rfl) (hpl : (backTo pos (starEach [] X.env)).any (·.1) = false := by rfl) : DE X W (.Call (.Name x p) [e] [] pos) (eLenV i) :=
  PE.weak (pe_callB call_lenA hg hm hv ha hn hdb he hpl) fun σ H Q ⟨B, G, δ, r', δ', at', e1, post⟩ => by
  unfold eLenV at e1
  cases q : δ[i]? with
  | none => rw [q] at e1; cases e1
  | some s =>
    rw [q] at e1
    cases q2 : slD s with
    | none => simp only [q2] at e1; cases e1
    | some d =>
      simp only [q2, Option.bind_some] at e1
      cases q3 : dLen d with
      | none => rw [q3] at e1; cases e1
      | some z =>
        rw [q3] at e1; cases e1
        obtain ⟨v, Gc, h1, h2, _⟩ := at'.see q q2
        obtain ⟨n, rfl, h3⟩ := sh_len h2 q3
        exact ⟨v, h1, v, n, rfl, h3, post G H at' (Ext.refl _) _ (.int _)⟩
end
end M

set_option Elab.async false
set_option linter.all false
set_option maxRecDepth 100000
/-! Part G: equality, in, is; changes of own objects; built-ins. -/
namespace M
open PySem L2 PySem.Spec PyProof.Rows

/-! ### data as the library's plain data -/
mutual
def toPy : D → PyData
  | .non => .none
  | .bl b => .bool b
  | .int i => .int i
  | .str s => .str s
  | .tup l => .tuple (toPys l)
  | .lst l => .list (toPys l)
  | .scr l => .list (toPys l)
  | .dK _ => .dict []
  | .dT _ => .dict []
def toPys : List D → List PyData
  | [] => []
  | d :: ds => toPy d :: toPys ds
end
section
variable {K : PySem.W.Frag} {G H : Hp}
mutual
theorem R.dp (vw : Vw G H) : ∀ {v : V} {d : D}, R K G v d → (toPy d).canLay0 = true → Dp K H v (toPy d)
  | _, _, .non, _ => .non
  | _, _, .bl b, _ => .bl b
  | _, _, .int i, _ => .int i
  | _, _, .str s, _ => .str s
  | _, _, .tup g l r, h => .tup (SqT.of (vw.tup g)) (RL.dp vw r (by simpa [toPy, PyData.canLay0] using h))
  | _, _, .lst g l r, h => .lst (SqL.of (vw.lst g)) (RL.dp vw r (by simpa [toPy, PyData.canLay0] using h))
  | _, _, .scr g l r, h => .lst (vw.sql g) (RL.dp vw r (by simpa [toPy, PyData.canLay0] using h))
  | _, _, .dK _ _ _ _, h => by simp [toPy, PyData.canLay0] at h
  | _, _, .dT _ _ _ _, h => by simp [toPy, PyData.canLay0] at h
theorem RL.dp (vw : Vw G H) : ∀ {vs : List V} {ds : List D}, RL K G vs ds → PyData.canLayAll0 (toPys ds) = true → DpAll K H vs (toPys ds)
  | _, _, .nil, _ => .nil
  | _, _, .cons r t, h => by
    simp only [toPys, PyData.canLayAll0, Bool.and_eq_true] at h
    exact .cons (R.dp vw r h.1) (RL.dp vw t h.2)
end
end
def shp (d : D) : Bool := SeqAt.shaped (toPy d)
theorem shp_dp {K : PySem.W.Frag} {G H : Hp} (vw : Vw G H) {v : V} {d : D} (r : R K G v d) (h : shp d = true) : Dp K H v (toPy d) := r.dp vw (SeqAt.canLay_of_shaped h)
/-- == where neither is a dict -/
def dEq (a b : D) : Option D := if shp a = true ∧ shp b = true then some (.bl (PyData.eqv (toPy a) (toPy b))) else none
def dNe (a b : D) : Option D := if shp a = true ∧ shp b = true then some (.bl (!PyData.eqv (toPy a) (toPy b))) else none
section
variable {X : Cx} {W : WK} {e a b c : Expr} {pos : Pos} {E Ea Eb Ec : Mo D}
theorem snd_eq : Snd2 X.K dEq (rEqD X.K) := fun B G H δ σ x y a b d Q at' rx ry h k => by
  unfold dEq at h
  split at h
  · rename_i q; cases h
    exact ⟨_, _, shp_dp at'.vw rx q.1, shp_dp at'.vw ry q.2, q.1, q.2, k _ G H at' (Ext.refl _) (.bl _)⟩
  · cases h
theorem snd_ne : Snd2 X.K dNe (rNeD X.K) := fun B G H δ σ x y a b d Q at' rx ry h k => by
  unfold dNe at h
  split at h
  · rename_i q; cases h
    exact ⟨_, _, shp_dp at'.vw rx q.1, shp_dp at'.vw ry q.2, q.1, q.2, k _ G H at' (Ext.refl _) (.bl _)⟩
  · cases h
theorem de_eq (hu : X.A.units + 64 < cLine) (ha : DE X W a Ea) (hb : DE X W b Eb) : DE X W (.Compare a [.Eq] [b] pos) (eBin dEq Ea Eb) := de_cmp (op_eqD hu) snd_eq ha hb (nomark _)
theorem de_ne (hu : X.A.units + 64 < cLine) (ha : DE X W a Ea) (hb : DE X W b Eb) : DE X W (.Compare a [.NotEq] [b] pos) (eBin dNe Ea Eb) := de_cmp (op_neD hu) snd_ne ha hb (nomark _)

/-! ### in -/
def hasPy (x : D) (l : List D) : Bool := (toPys l).any fun z => PyData.eqv z (toPy x)
/-- == of flat data -/
def eqF : D → D → Bool
  | .non, .non => true
  | .bl a, .bl b => a == b
  | .bl a, .int b => (if a then 1 else 0) == b
  | .int a, .bl b => a == (if b then 1 else 0)
  | .int a, .int b => a == b
  | .str a, .str b => a == b
  | _, _ => false
def hasF (x : D) (l : List D) : Bool := l.any fun y => eqF y x
def dIn (neg : Bool) : D → D → Option D
  | x, .lst l => if shp x = true ∧ shp (.lst l) = true then some (.bl (if neg then !hasPy x l else hasPy x l)) else none
  | x, .scr l => if shp x = true ∧ shp (.scr l) = true then some (.bl (if neg then !hasPy x l else hasPy x l)) else none
  | x, .tup l => if flatD x = true ∧ l.all flatD = true then some (.bl (if neg then !hasF x l else hasF x l)) else none
  | .non, .dK _ => some (.bl neg)
  | x, .dK l => (dGet (.dK l) x).map fun o => .bl (if neg then !o.isSome else o.isSome)
  | x, .dT l => (dGet (.dT l) x).map fun o => .bl (if neg then !o.isSome else o.isSome)
  | _, _ => none
def rDIn (neg : Bool) : R2 := fun y x H Q => ∃ a o, x = .ref a ∧ DGet H a y o ∧ Q (.bl (if neg then !o.isSome else o.isSome)) H
def rNIn (neg : Bool) : R2 := fun y x H Q => ∃ a kvs, x = .ref a ∧ y = .non ∧ Rd H a (.dK kvs) ∧ Q (.bl neg) H
theorem opd_in (hu : X.A.units + 1 < cLine) : OpR X (compareOp .In) (rDIn false) := fun pins s σ H y x u v Q I ry rx h => by
  obtain ⟨a, o, rfl, g, q⟩ := h
  cases rx
  exact d_in hu I g ry fun s' I' => ⟨.bl o.isSome, H, I', rfl, q⟩
theorem opd_notin (hu : X.A.units + 1 < cLine) : OpR X (compareOp .NotIn) (rDIn true) := fun pins s σ H y x u v Q I ry rx h => by
  obtain ⟨a, o, rfl, g, q⟩ := h
  cases rx
  exact d_notIn hu I g ry fun s' I' => ⟨.bl (!o.isSome), H, I', rfl, q⟩
theorem opn_in : OpR X (compareOp .In) (rNIn false) := fun pins s σ H y x u v Q I ry rx h => by
  obtain ⟨a, kvs, rfl, rfl, g, q⟩ := h
  cases rx; cases ry
  exact d_inNone I g fun s' I' => ⟨.bl false, H, I', rfl, q⟩
theorem opn_notin : OpR X (compareOp .NotIn) (rNIn true) := fun pins s σ H y x u v Q I ry rx h => by
  obtain ⟨a, kvs, rfl, rfl, g, q⟩ := h
  cases rx; cases ry
  exact d_notInNone I g fun s' I' => ⟨.bl true, H, I', rfl, q⟩
theorem flat_V {K : PySem.W.Frag} {G : Hp} {v : V} {d : D} (r : R K G v d) (f : flatD d = true) : flatV v = true := by
  cases r <;> first | rfl | (cases f; done)
theorem flat_Vs {K : PySem.W.Frag} {G : Hp} : ∀ {vs : List V} {ds : List D}, RL K G vs ds → ds.all flatD = true → vs.all flatV = true
  | _, _, .nil, _ => rfl
  | _, _, .cons r t, h => by
    rw [List.all_cons, Bool.and_eq_true] at h
    rw [List.all_cons, flat_V r h.1, flat_Vs t h.2]; rfl
theorem eqF_V {K : PySem.W.Frag} {G : Hp} {v w : V} {d e : D} (r : R K G v d) (s : R K G w e) (f : flatD d = true) (g : flatD e = true) : eqV v w = eqF d e := by
  cases r <;> first | (cases f; done) | (cases s <;> first | rfl | (cases g; done))
theorem hasF_V {K : PySem.W.Frag} {G : Hp} {w : V} {e : D} (s : R K G w e) (g : flatD e = true) : ∀ {vs : List V} {ds : List D}, RL K G vs ds → ds.all flatD = true → inV w vs = hasF e ds
  | _, _, .nil, _ => rfl
  | _, _, .cons r t, h => by
    rw [List.all_cons, Bool.and_eq_true] at h
    unfold inV hasF
    rw [List.any_cons, List.any_cons, eqF_V r s h.1 g]
    have := hasF_V s g t h.2
    unfold inV hasF at this
    rw [this]
abbrev rInA (K : PySem.W.Frag) (neg : Bool) : R2 := fun x y H Q => ((if neg then rNotInD K else rInD K) x y H Q ∨ rIn K neg x y H Q) ∨ (rDIn neg x y H Q ∨ rNIn neg x y H Q)
theorem opA_in (hu : X.A.units + 65 < cLine) : OpR X (compareOp .In) (rInA X.K false) := OpR.or (OpR.or (op_inD hu) op_in_seq) (OpR.or (opd_in (by omega)) opn_in)
theorem opA_notin (hu : X.A.units + 65 < cLine) : OpR X (compareOp .NotIn) (rInA X.K true) := OpR.or (OpR.or (op_notInD hu) op_notIn_seq) (OpR.or (opd_notin (by omega)) opn_notin)
/-- the container seen -/
theorem sh_in {K : PySem.W.Frag} {G Gc H : Hp} {neg : Bool} {x y : V} {d c z : D} {Q : VK} (vw : Vw G H) (vc : Vw Gc H) (rx : R K G x d) (ry : Sh K Gc H y c) (h : dIn neg d c = some z) (q : ∀ b, z = .bl b → Q (.bl b) H) : rInA K neg x y H Q := by
  have dct : ∀ o, dGet c d = some o → z = .bl (if neg then !o.isSome else o.isSome) → rInA K neg x y H Q := fun o h1 h2 => by
    obtain ⟨a, o', e1, _, e2, e3⟩ := sh_get vw ry rx h1
    have ho : o'.isSome = o.isSome := by
      rcases e3 with ⟨v, d, rfl, rfl, _⟩ | ⟨rfl, rfl⟩ <;> rfl
    exact .inr (.inl ⟨a, o', e1, e2, by rw [ho]; exact q _ h2⟩)
  cases ry with
  | lst g l r =>
    rename_i a xs ds
    have h : (if shp d = true ∧ shp (.lst ds) = true then some (D.bl (if neg then !hasPy d ds else hasPy d ds)) else none) = some z := h
    split at h
    · rename_i c; cases h
      have d2 : Dp K H (.ref a) (.list (toPys ds)) := .lst (SqL.of g) (r.dp vc (by have := SeqAt.canLay_of_shaped c.2; simpa [toPy, PyData.canLay0] using this))
      refine .inl (.inl ?_)
      cases neg
      · exact ⟨_, _, shp_dp vw rx c.1, d2, c.1, c.2, q _ rfl⟩
      · exact ⟨_, _, shp_dp vw rx c.1, d2, c.1, c.2, q _ rfl⟩
    · cases h
  | scr g l r =>
    rename_i a xs ds
    have h : (if shp d = true ∧ shp (.scr ds) = true then some (D.bl (if neg then !hasPy d ds else hasPy d ds)) else none) = some z := h
    split at h
    · rename_i c; cases h
      have d2 : Dp K H (.ref a) (.list (toPys ds)) := .lst g (r.dp vc (by have := SeqAt.canLay_of_shaped c.2; simpa [toPy, PyData.canLay0] using this))
      refine .inl (.inl ?_)
      cases neg
      · exact ⟨_, _, shp_dp vw rx c.1, d2, c.1, c.2, q _ rfl⟩
      · exact ⟨_, _, shp_dp vw rx c.1, d2, c.1, c.2, q _ rfl⟩
    · cases h
  | tup g l r =>
    rename_i a xs ds
    have h : (if flatD d = true ∧ ds.all flatD = true then some (D.bl (if neg then !hasF d ds else hasF d ds)) else none) = some z := h
    split at h
    · rename_i c; cases h
      refine .inl (.inr ⟨a, xs, rfl, .inr (SqT.of g), flat_V rx c.1, flat_Vs r c.2, ?_⟩)
      rw [hasF_V (rx.flat c.1) c.1 r c.2]
      exact q _ rfl
    · cases h
  | dK g l r =>
    rename_i a kvs ds
    by_cases hn : d = .non
    · subst hn; cases h
      cases rx
      exact .inr (.inr ⟨a, kvs, rfl, rfl, g, q _ rfl⟩)
    · have h' : ((dGet (.dK ds) d).map fun o => D.bl (if neg then !o.isSome else o.isSome)) = some z := by
        cases d <;> first | exact absurd rfl hn | exact h
      cases q2 : dGet (.dK ds) d with
      | none => rw [q2] at h'; cases h'
      | some o => rw [q2] at h'; cases h'; exact dct o q2 rfl
  | dT g l r =>
    rename_i a kvs ds
    have h' : ((dGet (.dT ds) d).map fun o => D.bl (if neg then !o.isSome else o.isSome)) = some z := by
      cases d <;> exact h
    cases q2 : dGet (.dT ds) d with
    | none => rw [q2] at h'; cases h'
    | some o => rw [q2] at h'; cases h'; exact dct o q2 rfl
  | flat r f =>
    cases r with
    | _ => first | (cases f; done) | (cases d <;> cases h)
theorem snd_in {neg : Bool} : Snd2 X.K (dIn neg) (rInA X.K neg) := fun B G H δ σ x y a b d Q at' rx ry h k =>
  sh_in at'.vw at'.vw rx (ry.sh at'.vw) h fun b hb => by subst hb; exact k _ G H at' (Ext.refl _) (.bl _)
theorem de_in (hu : X.A.units + 65 < cLine) (ha : DE X W a Ea) (hb : DE X W b Eb) (hm : behindInMarks .In b = false := by rfl) : DE X W (.Compare a [.In] [b] pos) (eBin (dIn false) Ea Eb) := de_cmp (opA_in hu) snd_in ha hb hm
theorem de_notin (hu : X.A.units + 65 < cLine) (ha : DE X W a Ea) (hb : DE X W b Eb) (hm : behindInMarks .NotIn b = false := by rfl) : DE X W (.Compare a [.NotIn] [b] pos) (eBin (dIn true) Ea Eb) := de_cmp (opA_notin hu) snd_in ha hb hm
/-- e in x, x a slot that keeps its object -/
def eInV (neg : Bool) (A : Mo D) (i : Nat) : Mo D := A.bind fun x => fun δ => match δ[i]? with
  | some s => ((slD s).bind fun c => dIn neg x c).map fun d => (.ok d, δ)
  | none => none
theorem inV_ok {neg : Bool} {i : Nat} (h : PE X e (tOp (rInA X.K neg) (tE X.K W Ea) (tVar i))) : DE X W e (eInV neg Ea i) := PE.weak h fun σ H Q ⟨B, G, δ, r', δ', at', e1, post⟩ => by
  refine tE_bind at' e1 post fun v H1 G1 δ1 d a1 x1 r1 e2 post => ?_
  cases q : δ1[i]? with
  | none => simp only [q] at e2; cases e2
  | some s =>
    simp only [q] at e2
    cases q2 : slD s with
    | none => rw [q2] at e2; cases e2
    | some c =>
      rw [q2, Option.bind_some] at e2
      cases q3 : dIn neg d c with
      | none => rw [q3] at e2; cases e2
      | some z =>
        rw [q3] at e2; cases e2
        obtain ⟨u, Gc, h1, h2, h3, _⟩ := a1.see q q2
        exact ⟨u, h1, sh_in a1.vw h3 r1 h2 q3 fun b hb => by subst hb; exact post G1 H1 a1 (Ext.refl _) _ (.bl _)⟩
theorem de_inV {i : Nat} (hu : X.A.units + 65 < cLine) (ha : DE X W a Ea) (hb : PE X b (tVar i)) (hm : behindInMarks .In b = false := by rfl) : DE X W (.Compare a [.In] [b] pos) (eInV false Ea i) := inV_ok (pe_cmpR (opA_in hu) ha hb hm)
theorem de_notinV {i : Nat} (hu : X.A.units + 65 < cLine) (ha : DE X W a Ea) (hb : PE X b (tVar i)) (hm : behindInMarks .NotIn b = false := by rfl) : DE X W (.Compare a [.NotIn] [b] pos) (eInV true Ea i) := inV_ok (pe_cmpR (opA_notin hu) ha hb hm)

/-! ### is None -/
def dIs (neg : Bool) : D → D → Option D
  | .non, .non => some (.bl (!neg))
  | _, .non => some (.bl neg)
  | _, _ => none
def rIsN (neg : Bool) : R2 := fun x y H Q => y = .non ∧ Q (.bl (if neg then !decide (x = .non) else decide (x = .non))) H
theorem snd_is {neg : Bool} : Snd2 X.K (dIs neg) (rIsN neg) := fun B G H δ σ x y a b d Q at' rx ry h k => by
  cases ry with
  | non =>
    refine ⟨rfl, ?_⟩
    cases rx with
    | non => cases h; have := k (.bl (!neg)) G H at' (Ext.refl _) (.bl _); cases neg <;> exact this
    | _ => cases h; have := k (.bl neg) G H at' (Ext.refl _) (.bl _); cases neg <;> exact this
  | _ => cases rx <;> cases h
theorem de_isN (ha : DE X W a Ea) (hb : DE X W b Eb) : DE X W (.Compare a [.Is] [b] pos) (eBin (dIs false) Ea Eb) := de_cmp (r := rIsN false) op_isN snd_is ha hb (nomark _)
theorem de_notN (ha : DE X W a Ea) (hb : DE X W b Eb) : DE X W (.Compare a [.IsNot] [b] pos) (eBin (dIs true) Ea Eb) := de_cmp (r := rIsN true) op_notN snd_is ha hb (nomark _)
end

/-! ### an own object is changed -/
def chM (i : Nat) (f : D → Option D) : Mo Unit := fun δ => match δ[i]? with
  | some (.own d) => (f d).map fun d' => (.ok (), δ.set i (.own d'))
  | some (.io d) => (f d).map fun d' => (.ok (), δ.set i (.io d'))
  | _ => none
theorem chM_ok {K : PySem.W.Frag} {B : Bs} {G H : Hp} {δ δ' : Env} {σ : St} {i : Nat} {f : D → Option D} {u : Except Exn Unit} (a : At K B G δ σ H) (h : chM i f δ = some (u, δ')) :
    u = .ok () ∧ ∃ p d d', σ[i]? = some (some (.ref p)) ∧ Ow K G H p d ∧ f d = some d' ∧ ∀ o, Mut (some o) → Ow K G (upd H p o) p d' → At K B G δ' σ (upd H p o) := by
  unfold chM at h
  split at h
  · rename_i d q
    cases q2 : f d with
    | none => rw [q2] at h; cases h
    | some d' =>
      rw [q2] at h; cases h
      obtain ⟨p, h1, h2, h3, h4⟩ := a.own q
      exact ⟨rfl, p, d, d', h1, h3, q2, fun o m w => a.change q (.inl ⟨rfl, rfl⟩) h1 m w⟩
  · rename_i d q
    cases q2 : f d with
    | none => rw [q2] at h; cases h
    | some d' =>
      rw [q2] at h; cases h
      obtain ⟨p, h1, h2, h3, h4⟩ := a.io q
      exact ⟨rfl, p, d, d', h1, h3, q2, fun o m w => a.change q (.inr ⟨rfl, rfl⟩) h1 m w⟩
  · cases h
def isSet (δ : Env) (i : Nat) : Bool := match δ[i]? with
  | some (.own _) => true
  | some (.io _) => true
  | _ => false
theorem isSet_ok {K : PySem.W.Frag} {B : Bs} {G H : Hp} {δ : Env} {σ : St} {i : Nat} (a : At K B G δ σ H) (h : isSet δ i = true) : ∃ p d, σ[i]? = some (some (.ref p)) ∧ Ow K G H p d := by
  unfold isSet at h
  split at h
  · rename_i d q; obtain ⟨p, h1, _, h3, _⟩ := a.own q; exact ⟨p, d, h1, h3⟩
  · rename_i d q; obtain ⟨p, h1, _, h3, _⟩ := a.io q; exact ⟨p, d, h1, h3⟩
  · cases h
def dAppend (x : D) : D → Option D
  | .lst l => if l.length < sizeLine then some (.lst (l ++ [x])) else none
  | _ => none
/-- x.append(e) -/
def isLst (δ : Env) (i : Nat) : Bool := match δ[i]? with
  | some (.own (.lst _)) => true
  | some (.io (.lst _)) => true
  | _ => false
theorem isLst_ok {K : PySem.W.Frag} {B : Bs} {G H : Hp} {δ : Env} {σ : St} {i : Nat} (a : At K B G δ σ H) (h : isLst δ i = true) : ∃ p xs, σ[i]? = some (some (.ref p)) ∧ H p = some (.lst xs) := by
  unfold isLst at h
  split at h
  · rename_i d q; obtain ⟨p, h1, _, h3, _⟩ := a.own q; cases h3 with | lst g l r => exact ⟨p, _, h1, g⟩
  · rename_i d q; obtain ⟨p, h1, _, h3, _⟩ := a.io q; cases h3 with | lst g l r => exact ⟨p, _, h1, g⟩
  · cases h
def sApp (i : Nat) (E : Mo D) : Mo Out := fun δ => if isLst δ i = true then (E.bind fun x => (chM i (dAppend x)).bind fun _ => Mo.ret .nx) δ else none
section
variable {X : Cx} {W : WK} {o e a b c : Expr} {pos apos cpos : Pos} {E Ea Eb Ec : Mo D}
theorem ds_app {i : Nat} (ho : PE X o (tVar i)) (he : DE X W e E) (hs : starEach [e] X.env = (false, eval e X.env) :: starEach [] X.env := by rfl)
    (hbase : attributeBase o "append" X.env (eval o X.env) = eval o X.env := by rfl)
    (hfew : ((backTo cpos (starEach [e] X.env)).all (fun x => !x.1) && (backToKw cpos (keywordEach [] X.env)).all (fun x => x.1.isSome)
      && decide (([e] : List Expr).length + ([] : List Keyword).length + (if ([] : List Keyword).isEmpty then 0 else 1) < 30)) = true := by rfl)
    (hline : (apos.endLine == cpos.line) = true := by rfl) (hplain : (backTo cpos (starEach [] X.env)).any (·.1) = false := by rfl)
    (hsw : swapsWith (.Call (.Attribute o "append" apos) [e] [] cpos) none pos.line X.env = pure false := by rfl) :
    DS X W (.Expr (.Call (.Attribute o "append" apos) [e] [] cpos) pos) (sApp i E) :=
  PS.weak (ps_expr (pe_bm PySem.F.plainAttrs_list PySem.F.slot_list_append PySem.F.type_list_append mt_append ho (pa_cons he pa_nil hs) hbase hfew hline hs hplain) hsw) fun Dn σ H ⟨B, G, δ, r, δ', at', e1, post⟩ => by
  unfold sApp at e1
  split at e1
  · rename_i hi
    obtain ⟨p, xs, hp, hx⟩ := isLst_ok at' hi
    refine ⟨_, hp, .inl ⟨rfl, xs, SqL.of hx⟩, ?_⟩
    refine tE_bindS at' e1 post fun v H1 G1 δ1 d a1 x1 r1 e2 post => ?_
    rcases unit_bind e2 with ⟨q, rfl⟩ | ⟨x, q, rfl⟩
    · obtain ⟨_, p', dd, d', h1, h2, h3, h4⟩ := chM_ok a1 q
      rw [hp] at h1; cases h1
      cases h2 with
      | lst g l rl =>
        rename_i ys ds
        have h3 : (if ds.length < sizeLine then some (D.lst (ds ++ [d])) else none) = some d' := h3
        split at h3
        · rename_i hl
          cases h3
          rw [← rl.length] at hl
          refine ⟨p, ys, v, rfl, rfl, g, hl, ?_⟩
          exact post G1 σ _ (h4 (.lst (ys ++ [v])) trivial (.lst upd_same (by rw [List.length_append]; exact hl) (rl.append (.cons r1 .nil)))) (Ext.refl _)
        · cases h3
      | dK => cases h3
      | dT => cases h3
    · have := (chM_ok a1 q).1; cases this
  · cases e1
/-- o[e] = v -/
def dSet (k v : D) : D → Option D
  | .lst l => match k with
    | .int i => (ixN l.length i).map fun j => .lst (l.set j v)
    | _ => none
  | .dK l => dPut (.dK l) k v
  | .dT l => dPut (.dT l) k v
  | _ => none
def sSet (i : Nat) (Ek Ev : Mo D) : Mo Out := Ev.bind fun v => fun δ => if isSet δ i = true then (Ek.bind fun k => (chM i (dSet k v)).bind fun _ => Mo.ret .nx) δ else none
abbrev rSetA : TSet := fun o i v H Q => rSetL o i v H Q ∨ ∃ a H', o = .ref a ∧ DPut H a i v H' ∧ Q H'
theorem set_all (hu : X.A.units + 1 < cLine) : PSet X rSetA := fun pins s σ H o i v ov iv u Q I ro ri rv h => by
  rcases h with h | ⟨a, H', rfl, g, q⟩
  · exact set_list pins s σ H o i v ov iv u Q I ro ri rv h
  · cases ro
    exact d_setItem hu I g ri rv fun s' I' => ⟨H', I', q⟩
theorem tE_bindS' {K : PySem.W.Frag} {B : Bs} {G H : Hp} {δ δ' : Env} {σ : St} {r : Except Exn Out} {Dn : Ends} {k : D → Mo Out} {Q : VK} (a : At K B G δ σ H) (h : Mo.bind E k δ = some (r, δ')) (post : PostS K W B G Dn r δ')
    (q : ∀ v H1 G1 δ1 d, At K B G1 δ1 σ H1 → Ext G G1 → R K G1 v d → k d δ1 = some (r, δ') → PostS K W B G1 Dn r δ' → Q v H1) : tE K W E σ H Q := tE_bindS a h post q
theorem ds_sub {i : Nat} {pos' : Pos} (hu : X.A.units + 1 < cLine) (ho : PE X o (tVar i)) (hk : DE X W a Ea) (hv : DE X W b Eb) (hs : swapsWithSole [.Subscript o a pos'] b pos.line X.env = pure false := by rfl) (hw : swappedStores [.Subscript o a pos'] b X.env = pure none := by rfl)
    (h1 : (assignEach [.Subscript o a pos'] X.env).map (·.2) = [assign (.Subscript o a pos') X.env] := by rfl)
    (ha : ∀ v, assign (.Subscript o a pos') X.env v = (do
      let ov ← holding [v] (eval o X.env)
      let iv ← holding [v, ov] (eval a X.env)
      standAt pos'
      holding [v, ov, iv] (setItem ov iv v)
      release [v, ov, iv] []) := by intro _; rfl) :
    DS X W (.Assign [.Subscript o a pos'] b pos) (sSet i Ea Eb) := PS.weak (ps_asg hv (pg_sub ho hk (set_all hu) ha) hs hw h1) fun Dn σ H ⟨B, G, δ, r, δ', at', e1, post⟩ => by
  refine tE_bindS at' e1 post fun v H1 G1 δ1 vd a1 x1 r1 e2 post => ?_
  split at e2
  · rename_i hi
    obtain ⟨p, d0, hp, _⟩ := isSet_ok a1 hi
    refine ⟨_, hp, ?_⟩
    refine tE_bindS a1 e2 post fun y H2 G2 δ2 kd a2 x2 r2 e3 post => ?_
    rcases unit_bind e3 with ⟨q, rfl⟩ | ⟨x, q, rfl⟩
    · obtain ⟨_, p', dd, d', h1, h2, h3, h4⟩ := chM_ok a2 q
      rw [hp] at h1; cases h1
      have rv := r1.mono x2
      have dct : dPut dd kd vd = some d' → rSetA (.ref p) y v H2 fun H3 => Dn.nx σ H3 := fun hh => by
        obtain ⟨o1, g1, g2, g3⟩ := dPut_ok a2.vw h2 r2 rv hh
        exact .inr ⟨p, _, rfl, g1, post G2 σ _ (h4 o1 g2 g3) (Ext.refl _)⟩
      cases h2 with
      | lst g l rl =>
        rename_i ys ds
        cases r2 with
        | int j =>
          have h3 : (ixN ds.length j).map (fun m => D.lst (ds.set m vd)) = some d' := h3
          cases q2 : ixN ds.length j with
          | none => rw [q2] at h3; cases h3
          | some m =>
            rw [q2] at h3; cases h3
            refine .inl ⟨p, ys, j, m, rfl, rfl, g, by rw [rl.length]; exact q2, ?_⟩
            exact post G2 σ _ (h4 (.lst (ys.set m v)) trivial (.lst upd_same (by rw [List.length_set]; exact l) (rl.set m rv))) (Ext.refl _)
        | _ => cases h3
      | dK => exact dct h3
      | dT => exact dct h3
    · have := (chM_ok a2 q).1; cases this
  · cases e2
end

/-! ### built-ins -/
section
variable {X : Cx} {W : WK} {e a b c : Expr} {pos p : Pos} {x : Str} {es : List Expr} {E Ea Eb Ec : Mo D} {A : Mo (List Ag)}
def fAbs : List D → Option D
  | [.int i] => some (.int (if i < 0 then -i else i))
  | _ => none
theorem rl1 {K : PySem.W.Frag} {G : Hp} {xs : List V} {d : D} (h : RL K G xs [d]) : ∃ v, xs = [v] ∧ R K G v d := by
  cases h with
  | cons r t => cases t; exact ⟨_, rfl, r⟩
theorem rl2 {K : PySem.W.Frag} {G : Hp} {xs : List V} {d e : D} (h : RL K G xs [d, e]) : ∃ v w, xs = [v, w] ∧ R K G v d ∧ R K G w e := by
  cases h with
  | cons r t => obtain ⟨w, rfl, r2⟩ := rl1 t; exact ⟨_, _, rfl, r, r2⟩
theorem r_int {K : PySem.W.Frag} {G : Hp} {v : V} {i : Int} (h : R K G v (.int i)) : v = .int i := by cases h; rfl
theorem r_bl {K : PySem.W.Frag} {G : Hp} {v : V} {i : Bool} (h : R K G v (.bl i)) : v = .bl i := by cases h; rfl
theorem r_str {K : PySem.W.Frag} {G : Hp} {v : V} {i : Str} (h : R K G v (.str i)) : v = .str i := by cases h; rfl
theorem snd_abs : SndF X.K fAbs (fun xs H Q => ∃ i, xs = [.int i] ∧ Q (.int (if i < 0 then -i else i)) H) := fun B G H δ σ xs as d Q at' rx h k => by
  unfold fAbs at h
  split at h
  · cases h
    obtain ⟨v, rfl, r⟩ := rl1 rx
    rw [r_int r]
    exact ⟨_, rfl, k _ G H at' (Ext.refl _) (.int _)⟩
  · cases h
theorem de_abs (hg : Gl X x) (hm : X.mg x = none) (hv : bootBuiltins x = some (.builtin "abs")) (ha : DA X W (e :: es) A) (hn : x ≠ "__name__" := by decide) (hdb : (x == ("__debug__" : Str)) = false := by decide)
    (he : starEach (e :: es) X.env = (false, eval e X.env) :: starEach es X.env := by rfl) (hpl : (backTo pos (starEach es X.env)).any (·.1) = false := by rfl) : DE X W (.Call (.Name x p) (e :: es) [] pos) (eF fAbs A) :=
  de_tCB snd_abs (pe_callB call_abs hg hm hv ha hn hdb he hpl)
def fInt : List D → Option D
  | [.int i] => some (.int i)
  | [.bl k] => some (.int (if k then 1 else 0))
  | _ => none
theorem snd_fint : SndF X.K fInt (fun xs H Q => (∃ i, xs = [.int i] ∧ Q (.int i) H) ∨ ∃ k, xs = [.bl k] ∧ Q (.int (if k then 1 else 0)) H) := fun B G H δ σ xs as d Q at' rx h k => by
  unfold fInt at h
  split at h
  · cases h
    obtain ⟨v, rfl, r⟩ := rl1 rx
    rw [r_int r]
    exact .inl ⟨_, rfl, k _ G H at' (Ext.refl _) (.int _)⟩
  · cases h
    obtain ⟨v, rfl, r⟩ := rl1 rx
    rw [r_bl r]
    exact .inr ⟨_, rfl, k _ G H at' (Ext.refl _) (.int _)⟩
  · cases h
theorem de_int1 (hg : Gl X x) (hm : X.mg x = none) (hv : bootBuiltins x = some (.type "int")) (ha : DA X W (e :: es) A) (hn : x ≠ "__name__" := by decide) (hdb : (x == ("__debug__" : Str)) = false := by decide)
    (he : starEach (e :: es) X.env = (false, eval e X.env) :: starEach es X.env := by rfl) (hpl : (backTo pos (starEach es X.env)).any (·.1) = false := by rfl) : DE X W (.Call (.Name x p) (e :: es) [] pos) (eF fInt A) :=
  de_tCB snd_fint (pe_callTy call_int1 hg hm hv ha hn hdb he hpl)
def fMax2 : List D → Option D
  | [.int i, .int j] => some (.int (if j > i then j else i))
  | _ => none
def fMin2 : List D → Option D
  | [.int i, .int j] => some (.int (if j < i then j else i))
  | _ => none
theorem snd_max2 : SndF X.K fMax2 (fun xs H Q => ∃ i j, xs = [.int i, .int j] ∧ Q (.int (if j > i then j else i)) H) := fun B G H δ σ xs as d Q at' rx h k => by
  unfold fMax2 at h
  split at h
  · cases h
    obtain ⟨v, w, rfl, r, r2⟩ := rl2 rx
    rw [r_int r, r_int r2]
    exact ⟨_, _, rfl, k _ G H at' (Ext.refl _) (.int _)⟩
  · cases h
theorem snd_min2 : SndF X.K fMin2 (fun xs H Q => ∃ i j, xs = [.int i, .int j] ∧ Q (.int (if j < i then j else i)) H) := fun B G H δ σ xs as d Q at' rx h k => by
  unfold fMin2 at h
  split at h
  · cases h
    obtain ⟨v, w, rfl, r, r2⟩ := rl2 rx
    rw [r_int r, r_int r2]
    exact ⟨_, _, rfl, k _ G H at' (Ext.refl _) (.int _)⟩
  · cases h
theorem de_max2 (hc : X.calm = true) (hg : Gl X x) (hm : X.mg x = none) (hv : bootBuiltins x = some (.builtin "max")) (ha : DA X W (e :: es) A) (hn : x ≠ "__name__" := by decide) (hdb : (x == ("__debug__" : Str)) = false := by decide)
    (he : starEach (e :: es) X.env = (false, eval e X.env) :: starEach es X.env := by rfl) (hpl : (backTo pos (starEach es X.env)).any (·.1) = false := by rfl) : DE X W (.Call (.Name x p) (e :: es) [] pos) (eF fMax2 A) :=
  de_tCB snd_max2 (pe_callB (call_max2 hc) hg hm hv ha hn hdb he hpl)
theorem de_min2 (hc : X.calm = true) (hg : Gl X x) (hm : X.mg x = none) (hv : bootBuiltins x = some (.builtin "min")) (ha : DA X W (e :: es) A) (hn : x ≠ "__name__" := by decide) (hdb : (x == ("__debug__" : Str)) = false := by decide)
    (he : starEach (e :: es) X.env = (false, eval e X.env) :: starEach es X.env := by rfl) (hpl : (backTo pos (starEach es X.env)).any (·.1) = false := by rfl) : DE X W (.Call (.Name x p) (e :: es) [] pos) (eF fMin2 A) :=
  de_tCB snd_min2 (pe_callB (call_min2 hc) hg hm hv ha hn hdb he hpl)
end
end M

set_option Elab.async false
set_option linter.all false
set_option maxRecDepth 100000
/-! Part H: copies of lists and dicts. -/
namespace M
open PySem L2 PySem.Spec PyProof.Rows

section
variable {prog : Program} {w : World} {κ : Type} [DecidableEq κ] {knd : HeapKind prog w κ} {A : Around} {E : Value → Shared → Prop} {s : Shared}
/-- dict(d), the keys tuples whose hashes differ -/
theorem dict_of_H {o : Addr} {xs : List (κ × Addr × Value)} {Q : Value → Shared → Prop} (room : knd.room A.in1.in1) (lo : (o == sysModules) = false) (ho : s.heap.DictOfH knd o xs) (hz : xs.length ≤ sizeLine)
    (st : knd.Stays) (hap : (xs.map fun x => knd.hash x.1).Nodup)
    (h : ∀ h', h'.DictOfH knd s.heap.objs.size xs → (∀ b u, s.heap.get? b = some u → h'.get? b = some u) → Q (.ref s.heap.objs.size) { s with heap := h' }) :
    wpAny (model prog w) A (call (.type "dict") [.ref o]) Q E s := by
  refine callType_codes (Q₁ := fun v t => v = .ref s.heap.objs.size ∧ t = { s with heap := s.heap.push { cls := .type "dict", data := .dict #[] } }) F.kt_called_dict (F.kt_typeCall_dict_1 _) F.entry_dict_init (kt_code_dict_new _ ⟨rfl, rfl⟩) ?_
  rintro v t ⟨rfl, rfl⟩
  have kp : ∀ b u, s.heap.get? b = some u → (s.heap.push { cls := .type "dict", data := .dict #[] }).get? b = some u := fun b u e => Heap.get?_push_of_some _ e
  have e0 : (s.heap.push { cls := .type "dict", data := .dict #[] }).DictOfH knd s.heap.objs.size [] := Heap.DictOfH.new s.heap
  have e1 : (s.heap.push { cls := .type "dict", data := .dict #[] }).DictOfH knd o xs := by
    obtain ⟨x, es, ep, a1, a2, a3, a4, a5, a6⟩ := ho
    exact ⟨x, es, ep, kp _ _ a1, a2, a3, a4, fun z hz' => st.all _ (fun b u _ e => kp b u e) _ _ (a5 z hz'), a6⟩
  have hne : s.heap.objs.size ≠ o := by
    obtain ⟨x, es, ep, a1, _⟩ := ho
    exact fun e => absurd (Heap.lt_size a1) (by rw [e]; exact Nat.lt_irrefl _)
  refine ⟨e0.typeIs, F.args_dict_init_2 _ _, ?_⟩
  unfold Builtin.«dict.__init__»
  refine wpAny_bind ?_
  unfold Builtin.Dict.selfAndRest
  refine wpAny_bind (wpAny_notOrdered_dict e0.typeIs ?_)
  show wpAny _ _ (pure (s.heap.objs.size, [Value.ref o])) _ _ _
  refine wpAny_pure ?_
  refine updateFrom_dictH .none room hne lo e0 e1 (.inr ⟨keyed_apart st e1, hap⟩) (by simpa using hz) fun h' g1 g2 g3 => ?_
  rw [storedAllH_nil_of_nodup _ e1.nodup] at g1
  refine ⟨rfl, h h' g1 fun b u e => ?_⟩
  rw [g3.2 b (Nat.ne_of_lt (Heap.lt_size e))]
  exact kp b u e
end

/-! ### dict(d), list(d) -/
def ikHash (ks : List Key) : Int := reduceHash (Builtin.Tuple.tupleHashOf (ks.map fun k => match k with
  | .inl i => hashInt i
  | .inr _ => 0))
def intKey (ks : List Key) : Bool := ks.all fun k => match k with
  | .inl _ => true
  | .inr _ => false
theorem ikHash_eq {P : Program} {w : World} : ∀ {ks : List Key}, intKey ks = true → tupleKeyHash (mixKind P w) ks = ikHash ks := fun {ks} h => by
  unfold tupleKeyHash ikHash
  congr 2
  apply List.map_congr_left
  intro k hk
  have := List.all_eq_true.mp h k hk
  cases k with
  | inl i => rfl
  | inr s => cases this
/-- the keys' hashes differ: what a copy of such a dict asks -/
def apart (ks : List (List Key)) : Prop := (∀ k ∈ ks, intKey k = true) ∧ (ks.map ikHash).Nodup
section
variable {X : Cx} {W : WK} {e a b c : Expr} {pos p : Pos} {x : Str} {es : List Expr} {E Ea Eb Ec : Mo D} {A : Mo (List Ag)}
def rDictA : List V → Hp → VK → Prop := fun xs H Q => (∃ a kvs, xs = [.ref a] ∧ Rd H a (.dK kvs) ∧ ∀ q, H q = none → Q (.ref q) (upd H q (.dK kvs))) ∨
  ∃ a kvs, xs = [.ref a] ∧ Rd H a (.dT kvs) ∧ apart (kvs.map (·.1)) ∧ ∀ q, H q = none → Q (.ref q) (upd H q (.dT kvs))
theorem call_dictA (hu : X.A.units + 4 < cLine) : CallR X (.type "dict") rDictA := fun pins s σ H xs us Q I rv h => by
  rcases h with ⟨a, kvs, rfl, hd, q⟩ | ⟨a, kvs, rfl, hd, ⟨h1, h2⟩, q⟩
  · obtain ⟨u, rfl, rx⟩ := vals1 rv
    obtain rfl : u = .ref a := rx
    exact d_copyOf I hd fun p s' hp I' => ⟨.ref p, _, I', rfl, q p hp⟩
  · obtain ⟨u, rfl, rx⟩ := vals1 rv
    obtain rfl : u = .ref a := rx
    obtain ⟨z, lo, ys, rel, dd⟩ := dt_rd I.hok hd
    have hl : kvs.length = ys.length := Paired.length rel
    have hk : ys.map (·.1) = kvs.map (·.1) := by
      clear q h1 h2 dd hl hd z
      induction rel with
      | nil => rfl
      | cons h _ ih => rw [List.map_cons, List.map_cons, ih, h.1]
    have hap : (ys.map fun x => (tupleKind (mixKind X.prog X.w)).hash x.1).Nodup := by
      have e : (ys.map fun x => (tupleKind (mixKind X.prog X.w)).hash x.1) = (kvs.map (·.1)).map ikHash := by
        rw [← hk, List.map_map]
        apply List.map_congr_left
        intro y hy
        have : y.1 ∈ kvs.map (·.1) := by rw [← hk]; exact List.mem_map.mpr ⟨y, hy, rfl⟩
        exact ikHash_eq (h1 _ this)
      rw [e]; exact h2
    refine dict_of_H (by show X.A.units + 1 + 1 < cLine; omega) lo dd (by rw [← hl]; exact z) tupleKind_stays hap fun h' g1 g2 => ?_
    obtain ⟨o, es, ep, a1, a2, a3, a4, a5, a6⟩ := g1
    refine ⟨.ref s.heap.objs.size, _, I.laid (t' := s.toks) (o := .dT kvs) g2 (Nat.le_refl _) ?_, rfl, q _ (I.hok.fresh (Nat.le_refl _))⟩
    refine ⟨z, beq_eq_false_iff_ne.mpr (Ne.symm (Nat.ne_of_lt I.big)), ys, rel.keeps fun b xs hb => ?_, o, es, ep, a1, a2, a3, a4, a6⟩
    rw [upd_ne (ne_of_none hb (I.hok.fresh (Nat.le_refl _)))]; exact hb
open Classical in
noncomputable def fDict : List D → Option D
  | [.dK l] => some (.dK l)
  | [.dT l] => if apart (l.map (·.1)) then some (.dT l) else none
  | _ => none
theorem snd_dict : SndFO X.K fDict rDictA := fun B G H δ σ xs as d Q at' rx h k => by
  unfold fDict at h
  split at h
  · cases h
    obtain ⟨v, rfl, r⟩ := rl1 rx
    cases r with
    | dK g l hk r =>
      refine .inl ⟨_, _, rfl, at'.vw.rd g, fun q hq => ?_⟩
      obtain ⟨b1, b2⟩ := at'.own1 (p := q) (o := .dK _) hq (.dK upd_same l hk r)
      exact k q _ _ b1 (Ext.refl _) b2
  · rename_i l
    split at h
    · rename_i ap
      cases h
      obtain ⟨v, rfl, r⟩ := rl1 rx
      cases r with
      | dT g l hk r =>
        refine .inr ⟨_, _, rfl, at'.vw.rd g, by rw [hk]; exact ap, fun q hq => ?_⟩
        obtain ⟨b1, b2⟩ := at'.own1 (p := q) (o := .dT _) hq (.dT upd_same l hk r)
        exact k q _ _ b1 (Ext.refl _) b2
    · cases h
  · cases h
theorem do_dict (hu : X.A.units + 4 < cLine) (hg : Gl X x) (hm : X.mg x = none) (hv : bootBuiltins x = some (.type "dict")) (ha : DA X W (e :: es) A) (hn : x ≠ "__name__" := by decide) (hdb : (x == ("__debug__" : Str)) = false := by decide)
    (he : starEach (e :: es) X.env = (false, eval e X.env) :: starEach es X.env := by rfl) (hpl : (backTo pos (starEach es X.env)).any (·.1) = false := by rfl) : DO X W (.Call (.Name x p) (e :: es) [] pos) (eF fDict A) :=
  do_tCB snd_dict (pe_callTy (call_dictA hu) hg hm hv ha hn hdb he hpl)

/-! ### list(x), tuple(x) -/
def fList : List D → Option D
  | [.lst l] => some (.lst l)
  | [.scr l] => some (.lst l)
  | [.tup l] => some (.lst l)
  | _ => none
def rListA (K : PySem.W.Frag) : List V → Hp → VK → Prop := fun xs H Q => (∃ p ys, xs = [.ref p] ∧ (SqL K H p ys ∨ SqT K H p ys) ∧ ∀ l, H l = none → Q (.ref l) (upd H l (.lst ys))) ∨
  ∃ d kvs, xs = [V.ref d] ∧ Rd H d (.dT kvs) ∧ ∀ p bs, H p = none → IsKeys H kvs bs → Q (.ref p) (upd H p (.lst (bs.map V.ref)))
theorem call_listA (hc : X.calm = true) : CallR X (.type "list") (rListA X.K) := fun pins s σ H xs us Q I rv h => by
  rcases h with h | h
  · exact call_list_of pins s σ H xs us Q I rv h
  · exact call_list_dT hc pins s σ H xs us Q I rv h
theorem keys_rl {K : PySem.W.Frag} {B : Bs} {H : Hp} {δ : Env} {σ : St} : ∀ {kvs : List (List Key × V)} {bs : List Addr}, IsKeys H kvs bs → kvs.length ≤ sizeLine → (∀ p ∈ kvs, p.1.length ≤ sizeLine) → ∀ {G : Hp}, At K B G δ σ H → ∃ G', At K B G' δ σ H ∧ Ext G G' ∧ RL K G' (bs.map V.ref) (kvs.map fun p => .tup (p.1.map kD))
  | _, _, .nil, _, _, G, a => ⟨G, a, Ext.refl _, .nil⟩
  | p :: kvs, b :: bs, .cons h t, hl, hk, G, a => by
    obtain ⟨G1, a1, x1, g1⟩ := a.tuple h
    obtain ⟨G2, a2, x2, r2⟩ := keys_rl t (by rw [List.length_cons] at hl; omega) (fun q hq => hk q (List.mem_cons_of_mem _ hq)) a1
    refine ⟨G2, a2, x1.trans x2, ?_⟩
    rw [List.map_cons, List.map_cons]
    exact .cons (.tup (x2 _ _ g1) (by rw [List.length_map]; exact hk p List.mem_cons_self) (kDs_ok _)) r2
/-- keys are short -/
def shortK (ks : List (List Key)) : Bool := ks.all fun k => decide (k.length ≤ 1000)
def fList' : List D → Option D
  | [.dT l] => if shortK (l.map (·.1)) = true then some (.lst (l.map fun p => .tup (p.1.map kD))) else none
  | as => fList as
theorem snd_list : SndFO X.K fList' (rListA X.K) := fun B G H δ σ xs as d Q at' rx h k => by
  have seq : ∀ v l, (∃ a ys, v = V.ref a ∧ (SqL X.K H a ys ∨ SqT X.K H a ys) ∧ ys.length ≤ sizeLine ∧ RL X.K G ys l) → d = .lst l → xs = [v] → rListA X.K xs H Q := fun v l hh hd hx => by
    obtain ⟨a, ys, rfl, h1, h2, h3⟩ := hh
    subst hd hx
    refine .inl ⟨a, ys, rfl, h1, fun q hq => ?_⟩
    obtain ⟨b1, b2⟩ := at'.own1 (p := q) (o := .lst _) hq (.lst upd_same h2 h3)
    exact k q _ _ b1 (Ext.refl _) b2
  unfold fList' at h
  split at h
  · rename_i l
    split at h
    · rename_i hs
      cases h
      obtain ⟨v, rfl, r⟩ := rl1 rx
      cases r with
      | dT g hl hk r =>
        rename_i a kvs
        refine .inr ⟨a, kvs, rfl, at'.vw.rd g, fun q bs hq hb => ?_⟩
        have hlen := congrArg List.length hk
        rw [List.length_map, List.length_map] at hlen
        obtain ⟨G2, a2, x2, r2⟩ := keys_rl hb hl (fun p hp => by
          have : p.1 ∈ l.map (·.1) := by rw [← hk]; exact List.mem_map.mpr ⟨p, hp, rfl⟩
          exact small_line (of_decide_eq_true (List.all_eq_true.mp hs p.1 this))) at'
        have e : (kvs.map fun p => D.tup (p.1.map kD)) = l.map fun p => D.tup (p.1.map kD) := by
          have : ∀ m : List (List Key × V), (m.map fun p => D.tup (p.1.map kD)) = (m.map (·.1)).map fun k => D.tup (k.map kD) := fun m => by rw [List.map_map]; rfl
          rw [this, hk, List.map_map]; rfl
        rw [e] at r2
        obtain ⟨b1, b2⟩ := a2.own1 (p := q) (o := .lst (bs.map V.ref)) hq (.lst upd_same (by rw [r2.length, List.length_map]; omega) r2)
        exact k q _ _ b1 x2 b2
    · cases h
  · unfold fList at h
    split at h
    · cases h
      obtain ⟨v, rfl, r⟩ := rl1 rx
      cases r with
      | lst g l r => exact seq _ _ ⟨_, _, rfl, .inl (SqL.of (at'.vw.lst g)), l, r⟩ rfl rfl
    · cases h
      obtain ⟨v, rfl, r⟩ := rl1 rx
      cases r with
      | scr g l r => exact seq _ _ ⟨_, _, rfl, .inl (at'.vw.sql g), l, r⟩ rfl rfl
    · cases h
      obtain ⟨v, rfl, r⟩ := rl1 rx
      cases r with
      | tup g l r => exact seq _ _ ⟨_, _, rfl, .inr (SqT.of (at'.vw.tup g)), l, r⟩ rfl rfl
    · cases h
theorem do_list (hc : X.calm = true) (hg : Gl X x) (hm : X.mg x = none) (hv : bootBuiltins x = some (.type "list")) (ha : DA X W (e :: es) A) (hn : x ≠ "__name__" := by decide) (hdb : (x == ("__debug__" : Str)) = false := by decide)
    (he : starEach (e :: es) X.env = (false, eval e X.env) :: starEach es X.env := by rfl) (hpl : (backTo pos (starEach es X.env)).any (·.1) = false := by rfl) : DO X W (.Call (.Name x p) (e :: es) [] pos) (eF fList' A) :=
  do_tCB snd_list (pe_callTy (call_listA hc) hg hm hv ha hn hdb he hpl)
def fTuple : List D → Option D
  | [.lst l] => some (.tup l)
  | [.tup l] => some (.tup l)
  | _ => none
theorem snd_tuple : SndF X.K fTuple (fun xs H Q => ∃ p ys, xs = [.ref p] ∧ ((SqL X.K H p ys ∧ ∀ l, H l = none → Q (.ref l) (upd H l (.tup ys))) ∨ (SqT X.K H p ys ∧ Q (.ref p) H))) := fun B G H δ σ xs as d Q at' rx h k => by
  unfold fTuple at h
  split at h
  · cases h
    obtain ⟨v, rfl, r⟩ := rl1 rx
    cases r with
    | lst g l r =>
      rename_i a xs
      refine ⟨_, _, rfl, .inl ⟨SqL.of (at'.vw.lst g), fun q hq => ?_⟩⟩
      have ex := Ext.new (o := .tup xs) (at'.vw.none hq)
      exact k _ _ _ (at'.laid hq) ex (.tup upd_same l (r.mono ex))
  · cases h
    obtain ⟨v, rfl, r⟩ := rl1 rx
    cases r with
    | tup g l r => exact ⟨_, _, rfl, .inr ⟨SqT.of (at'.vw.tup g), k _ G H at' (Ext.refl _) (.tup g l r)⟩⟩
  · cases h
theorem de_tuple (hg : Gl X x) (hm : X.mg x = none) (hv : bootBuiltins x = some (.type "tuple")) (ha : DA X W (e :: es) A) (hn : x ≠ "__name__" := by decide) (hdb : (x == ("__debug__" : Str)) = false := by decide)
    (he : starEach (e :: es) X.env = (false, eval e X.env) :: starEach es X.env := by rfl) (hpl : (backTo pos (starEach es X.env)).any (·.1) = false := by rfl) : DE X W (.Call (.Name x p) (e :: es) [] pos) (eF fTuple A) :=
  de_tCB snd_tuple (pe_callTy call_tuple_of hg hm hv ha hn hdb he hpl)

/-! ### sums, least, any, all, sorted -/
def intsD : List D → Option (List Int)
  | [] => some []
  | .int i :: l => (intsD l).map (i :: ·)
  | _ => none
theorem intsD_ok {K : PySem.W.Frag} {G : Hp} : ∀ {xs : List V} {l : List D} {ns : List Int}, RL K G xs l → intsD l = some ns → xs = ns.map V.int
  | _, _, _, .nil, h => by cases h; rfl
  | _, d :: l, _, .cons r t, h => by
    cases r with
    | int i =>
      unfold intsD at h
      cases q : intsD l with
      | none => rw [q] at h; cases h
      | some ns => rw [q] at h; cases h; rw [intsD_ok t q]; rfl
    | _ => cases h
theorem rl_ints {K : PySem.W.Frag} {G : Hp} : ∀ ns : List Int, RL K G (ns.map V.int) (ns.map D.int)
  | [] => .nil
  | n :: ns => .cons (.int n) (rl_ints ns)
/-- the list of ints that a value is -/
def lstInts : List D → Option (List Int)
  | [.lst l] => intsD l
  | _ => none
theorem lstInts_ok {K : PySem.W.Frag} {G H : Hp} {xs : List V} {as : List D} {ns : List Int} (vw : Vw G H) (rx : RL K G xs as) (h : lstInts as = some ns) : ∃ a, xs = [.ref a] ∧ SqL K H a (ns.map V.int) ∧ ns.length ≤ sizeLine := by
  unfold lstInts at h
  split at h
  · obtain ⟨v, rfl, r⟩ := rl1 rx
    cases r with
    | lst g l r =>
      have := intsD_ok r h
      subst this
      exact ⟨_, rfl, SqL.of (vw.lst g), by simpa using l⟩
  · cases h
def fSum (as : List D) : Option D := (lstInts as).map fun ns => .int ns.sum
theorem snd_sum : SndF X.K fSum (rSum X.K) := fun B G H δ σ xs as d Q at' rx h k => by
  unfold fSum at h
  cases q : lstInts as with
  | none => rw [q] at h; cases h
  | some ns =>
    rw [q] at h; cases h
    obtain ⟨a, rfl, h1, _⟩ := lstInts_ok at'.vw rx q
    exact ⟨a, ns, rfl, h1, k _ G H at' (Ext.refl _) (.int _)⟩
theorem de_sum (hc : X.calm = true) (hg : Gl X x) (hm : X.mg x = none) (hv : bootBuiltins x = some (.builtin "sum")) (ha : DA X W (e :: es) A) (hn : x ≠ "__name__" := by decide) (hdb : (x == ("__debug__" : Str)) = false := by decide)
    (he : starEach (e :: es) X.env = (false, eval e X.env) :: starEach es X.env := by rfl) (hpl : (backTo pos (starEach es X.env)).any (·.1) = false := by rfl) : DE X W (.Call (.Name x p) (e :: es) [] pos) (eF fSum A) :=
  de_tCB snd_sum (pe_callB (cr_sum hc) hg hm hv ha hn hdb he hpl)
def minL : List Int → Option Int
  | [] => none
  | n :: ns => some (ns.foldl min n)
def maxL : List Int → Option Int
  | [] => none
  | n :: ns => some (ns.foldl max n)
theorem foldl_min : ∀ (ns : List Int) (n : Int), (ns.foldl min n = n ∨ ns.foldl min n ∈ ns) ∧ ns.foldl min n ≤ n ∧ ∀ y ∈ ns, ns.foldl min n ≤ y
  | [], n => ⟨.inl rfl, Int.le_refl _, fun y h => by cases h⟩
  | m :: ns, n => by
    obtain ⟨h1, h2, h3⟩ := foldl_min ns (min n m)
    rw [List.foldl_cons]
    refine ⟨?_, by omega, fun y hy => ?_⟩
    · rcases h1 with h1 | h1
      · rw [h1]
        by_cases c : n ≤ m
        · exact .inl (by omega)
        · exact .inr (by rw [show min n m = m by omega]; exact List.mem_cons_self)
      · exact .inr (List.mem_cons_of_mem _ h1)
    · rcases List.mem_cons.mp hy with rfl | hy
      · omega
      · exact h3 y hy
theorem foldl_max : ∀ (ns : List Int) (n : Int), (ns.foldl max n = n ∨ ns.foldl max n ∈ ns) ∧ n ≤ ns.foldl max n ∧ ∀ y ∈ ns, y ≤ ns.foldl max n
  | [], n => ⟨.inl rfl, Int.le_refl _, fun y h => by cases h⟩
  | m :: ns, n => by
    obtain ⟨h1, h2, h3⟩ := foldl_max ns (max n m)
    rw [List.foldl_cons]
    refine ⟨?_, by omega, fun y hy => ?_⟩
    · rcases h1 with h1 | h1
      · rw [h1]
        by_cases c : m ≤ n
        · exact .inl (by omega)
        · exact .inr (by rw [show max n m = m by omega]; exact List.mem_cons_self)
      · exact .inr (List.mem_cons_of_mem _ h1)
    · rcases List.mem_cons.mp hy with rfl | hy
      · omega
      · exact h3 y hy
theorem minL_ok {ns : List Int} {m m' : Int} (h : minL ns = some m) (h1 : m' ∈ ns) (h2 : ∀ y ∈ ns, m' ≤ y) : m' = m := by
  cases ns with
  | nil => cases h
  | cons n ns =>
    cases h
    obtain ⟨a, b, c⟩ := foldl_min ns n
    have : m' ≤ ns.foldl min n := by
      rcases a with a | a
      · rw [a]; exact h2 _ List.mem_cons_self
      · exact h2 _ (List.mem_cons_of_mem _ a)
    have : ns.foldl min n ≤ m' := by
      rcases List.mem_cons.mp h1 with rfl | h1
      · exact b
      · exact c _ h1
    omega
theorem maxL_ok {ns : List Int} {m m' : Int} (h : maxL ns = some m) (h1 : m' ∈ ns) (h2 : ∀ y ∈ ns, y ≤ m') : m' = m := by
  cases ns with
  | nil => cases h
  | cons n ns =>
    cases h
    obtain ⟨a, b, c⟩ := foldl_max ns n
    have : ns.foldl max n ≤ m' := by
      rcases a with a | a
      · rw [a]; exact h2 _ List.mem_cons_self
      · exact h2 _ (List.mem_cons_of_mem _ a)
    have : m' ≤ ns.foldl max n := by
      rcases List.mem_cons.mp h1 with rfl | h1
      · exact b
      · exact c _ h1
    omega
theorem minL_some {ns : List Int} {m : Int} (h : minL ns = some m) : 0 < ns.length := by cases ns <;> first | cases h; done | simp
theorem maxL_some {ns : List Int} {m : Int} (h : maxL ns = some m) : 0 < ns.length := by cases ns <;> first | cases h; done | simp
def fMin (as : List D) : Option D := ((lstInts as).bind minL).map .int
def fMax (as : List D) : Option D := ((lstInts as).bind maxL).map .int
theorem snd_min : SndF X.K fMin (rMin X.K) := fun B G H δ σ xs as d Q at' rx h k => by
  unfold fMin at h
  cases q : lstInts as with
  | none => rw [q] at h; cases h
  | some ns =>
    rw [q, Option.bind_some] at h
    cases q2 : minL ns with
    | none => rw [q2] at h; cases h
    | some m =>
      rw [q2] at h; cases h
      obtain ⟨a, rfl, h1, _⟩ := lstInts_ok at'.vw rx q
      exact ⟨a, ns, rfl, h1, minL_some q2, fun m' z1 z2 => by rw [minL_ok q2 z1 z2]; exact k _ G H at' (Ext.refl _) (.int _)⟩
theorem snd_max : SndF X.K fMax (rMax X.K) := fun B G H δ σ xs as d Q at' rx h k => by
  unfold fMax at h
  cases q : lstInts as with
  | none => rw [q] at h; cases h
  | some ns =>
    rw [q, Option.bind_some] at h
    cases q2 : maxL ns with
    | none => rw [q2] at h; cases h
    | some m =>
      rw [q2] at h; cases h
      obtain ⟨a, rfl, h1, _⟩ := lstInts_ok at'.vw rx q
      exact ⟨a, ns, rfl, h1, maxL_some q2, fun m' z1 z2 => by rw [maxL_ok q2 z1 z2]; exact k _ G H at' (Ext.refl _) (.int _)⟩
theorem de_min (hc : X.calm = true) (hg : Gl X x) (hm : X.mg x = none) (hv : bootBuiltins x = some (.builtin "min")) (ha : DA X W (e :: es) A) (hn : x ≠ "__name__" := by decide) (hdb : (x == ("__debug__" : Str)) = false := by decide)
    (he : starEach (e :: es) X.env = (false, eval e X.env) :: starEach es X.env := by rfl) (hpl : (backTo pos (starEach es X.env)).any (·.1) = false := by rfl) : DE X W (.Call (.Name x p) (e :: es) [] pos) (eF fMin A) :=
  de_tCB snd_min (pe_callB (cr_min hc) hg hm hv ha hn hdb he hpl)
theorem de_max (hc : X.calm = true) (hg : Gl X x) (hm : X.mg x = none) (hv : bootBuiltins x = some (.builtin "max")) (ha : DA X W (e :: es) A) (hn : x ≠ "__name__" := by decide) (hdb : (x == ("__debug__" : Str)) = false := by decide)
    (he : starEach (e :: es) X.env = (false, eval e X.env) :: starEach es X.env := by rfl) (hpl : (backTo pos (starEach es X.env)).any (·.1) = false := by rfl) : DE X W (.Call (.Name x p) (e :: es) [] pos) (eF fMax A) :=
  de_tCB snd_max (pe_callB (cr_max hc) hg hm hv ha hn hdb he hpl)
/-- sorted ints: a list, or the keys of a dict -/
def sortI (ns : List Int) : List Int := ns.mergeSort (fun a b => decide (a ≤ b))
theorem sortI_perm (ns : List Int) : (sortI ns).Perm ns := List.mergeSort_perm _ _
theorem sortI_sorted (ns : List Int) : (sortI ns).Pairwise (· ≤ ·) := by
  have := List.pairwise_mergeSort (le := fun a b : Int => decide (a ≤ b)) (fun a b c h1 h2 => by simp only [decide_eq_true_eq] at *; omega) (fun a b => by simp only [Bool.or_eq_true, decide_eq_true_eq]; omega) ns
  exact this.imp (fun h => of_decide_eq_true h)
theorem sortI_uniq : ∀ {l m : List Int}, l.Perm m → l.Pairwise (· ≤ ·) → m.Pairwise (· ≤ ·) → l = m
  | [], m, p, _, _ => by rw [List.nil_perm.mp p]
  | x :: l, m, p, h1, h2 => by
    cases m with
    | nil => exact absurd p.length_eq (by simp)
    | cons y m =>
      obtain ⟨a1, a2⟩ := List.pairwise_cons.mp h1
      obtain ⟨b1, b2⟩ := List.pairwise_cons.mp h2
      have hx : x ∈ y :: m := p.mem_iff.mp List.mem_cons_self
      have hy : y ∈ x :: l := p.mem_iff.mpr List.mem_cons_self
      have e : x = y := by
        rcases List.mem_cons.mp hx with e | hx
        · exact e
        · rcases List.mem_cons.mp hy with e | hy
          · exact e.symm
          · have := b1 x hx; have := a1 y hy; omega
      subst e
      rw [sortI_uniq ((List.perm_cons x).mp p) a2 b2]
def keyInts : List Key → Option (List Int)
  | [] => some []
  | .inl i :: l => (keyInts l).map (i :: ·)
  | _ => none
theorem keyInts_ok : ∀ {l : List Key} {ns : List Int}, keyInts l = some ns → l = ns.map Sum.inl
  | [], _, h => by cases h; rfl
  | .inl i :: l, _, h => by
    unfold keyInts at h
    cases q : keyInts l with
    | none => rw [q] at h; cases h
    | some ns => rw [q] at h; cases h; rw [keyInts_ok q]; rfl
  | .inr _ :: _, _, h => by cases h
def fSortI : List D → Option D
  | [.lst l] => (intsD l).map fun ns => .lst ((sortI ns).map D.int)
  | [.dK l] => (keyInts (l.map (·.1))).bind fun ns => if ns.length < 64 then some (.lst ((sortI ns).map D.int)) else none
  | _ => none
def rSortA (K : PySem.W.Frag) : List V → Hp → VK → Prop := fun vs H Q => rSortedI K vs H Q ∨ ∃ (a : Addr) (kvs : List (Key × V)) (ks : List Int), vs = [.ref a] ∧ Rd H a (.dK kvs) ∧ kvs.map (·.1) = ks.map Sum.inl ∧ ks.length < 64 ∧
    ∀ (ys : List Int) (p : Addr), ys.Perm ks → ys.Pairwise (· ≤ ·) → H p = none → Q (.ref p) (upd H p (.lst (ys.map V.int)))
theorem call_sortA (hc : X.calm = true) : CallR X (.builtin "sorted") (rSortA X.K) := fun pins s σ H xs us Q I rv h => by
  rcases h with h | h
  · exact cr_sortedI pins s σ H xs us Q I rv h
  · exact call_sortedDI hc pins s σ H xs us Q I rv h
theorem snd_sortI : SndFO X.K fSortI (rSortA X.K) := fun B G H δ σ xs as d Q at' rx h k => by
  have fin : ∀ ns : List Int, d = .lst ((sortI ns).map D.int) → ns.length ≤ sizeLine → ∀ (ns' : List Int) (p : Addr), ns'.Perm ns → ns'.Pairwise (· ≤ ·) → H p = none → Q (.ref p) (upd H p (.lst (ns'.map V.int))) := fun ns hd hl ns' p z1 z2 z3 => by
    have e : ns' = sortI ns := sortI_uniq (z1.trans (sortI_perm ns).symm) z2 (sortI_sorted ns)
    subst e hd
    obtain ⟨b1, b2⟩ := at'.own1 (p := p) (o := .lst ((sortI ns).map V.int)) z3 (.lst upd_same (by rw [List.length_map, (sortI_perm ns).length_eq]; exact hl) (rl_ints _))
    exact k p _ _ b1 (Ext.refl _) b2
  unfold fSortI at h
  split at h
  · rename_i l
    cases q : intsD l with
    | none => rw [q] at h; cases h
    | some ns =>
      rw [q] at h; cases h
      obtain ⟨a, rfl, h1, h2⟩ := lstInts_ok (as := [.lst l]) at'.vw rx q
      exact .inl ⟨a, ns, rfl, h1, fin ns rfl h2⟩
  · rename_i l
    cases q : keyInts (l.map (·.1)) with
    | none => rw [q] at h; cases h
    | some ns =>
      rw [q, Option.bind_some] at h
      split at h
      · rename_i hl
        cases h
        obtain ⟨v, rfl, r⟩ := rl1 rx
        cases r with
        | dK g l hk r => exact .inr ⟨_, _, ns, rfl, at'.vw.rd g, by rw [hk]; exact keyInts_ok q, hl, fin ns rfl (small64 hl)⟩
      · cases h
  · cases h
theorem do_sortI (hc : X.calm = true) (hg : Gl X x) (hm : X.mg x = none) (hv : bootBuiltins x = some (.builtin "sorted")) (ha : DA X W (e :: es) A) (hn : x ≠ "__name__" := by decide) (hdb : (x == ("__debug__" : Str)) = false := by decide)
    (he : starEach (e :: es) X.env = (false, eval e X.env) :: starEach es X.env := by rfl) (hpl : (backTo pos (starEach es X.env)).any (·.1) = false := by rfl) : DO X W (.Call (.Name x p) (e :: es) [] pos) (eF fSortI A) :=
  do_tCB snd_sortI (pe_callB (call_sortA hc) hg hm hv ha hn hdb he hpl)
end
end M

set_option Elab.async false
set_option linter.all false
set_option maxRecDepth 100000
/-! Part I: what the printed texts name. -/
theorem L2.Room.u1 {k : Nat} {A : PySem.Around} (r : L2.Room k A) : A.units + 1 < PySem.cLine := by have := r.un; omega
theorem L2.Room.u4 {k : Nat} {A : PySem.Around} (r : L2.Room k A) : A.units + 4 < PySem.cLine := by have := r.un; omega
theorem L2.Room.u65 {k : Nat} {A : PySem.Around} (r : L2.Room k A) : A.units + 65 < PySem.cLine := by have := r.un; omega
namespace M
open PySem L2 PySem.Spec PyProof.Rows
theorem bt_len : bootBuiltins "len" = some (.builtin "len") := by decide +kernel
theorem bt_abs : bootBuiltins "abs" = some (.builtin "abs") := by decide +kernel
theorem bt_min : bootBuiltins "min" = some (.builtin "min") := by decide +kernel
theorem bt_max : bootBuiltins "max" = some (.builtin "max") := by decide +kernel
theorem bt_sum : bootBuiltins "sum" = some (.builtin "sum") := by decide +kernel
theorem bt_sorted : bootBuiltins "sorted" = some (.builtin "sorted") := by decide +kernel
theorem bt_any : bootBuiltins "any" = some (.builtin "any") := by decide +kernel
theorem bt_all : bootBuiltins "all" = some (.builtin "all") := by decide +kernel
theorem bt_isinstance : bootBuiltins "isinstance" = some (.builtin "isinstance") := by decide +kernel
theorem bt_int : bootBuiltins "int" = some (.type "int") := by decide +kernel
theorem bt_list : bootBuiltins "list" = some (.type "list") := by decide +kernel
theorem bt_dict : bootBuiltins "dict" = some (.type "dict") := by decide +kernel
theorem bt_tuple : bootBuiltins "tuple" = some (.type "tuple") := by decide +kernel
theorem bt_set : bootBuiltins "set" = some (.type "set") := by decide +kernel
theorem bt_str : bootBuiltins "str" = some (.type "str") := by decide +kernel
/-- a def that may be called by its name -/
structure CalM (P : Program) (w : World) (K : PySem.W.Frag) (mg : Str → Option Value) (base : Heap) (k : Nat) (x : Str) (n : Nat) (ro : Bool) (m : Mo D) : Prop where
  ex : ∃ (f : Addr) (fd : FuncData) (ps : List Str), FnOk P w K mg base CX0 k f fd ps (spM Wn K n ro m) ∧ mg x = some (.ref f) ∧ PySem.W.keepIn K (.ref f) = true ∧ Binds K fd ps []
section
variable {X : Cx} {W : WK} {e : Expr} {es : List Expr} {A : Mo (List Ag)} {k n : Nat} {x : Str} {p pos : Pos} {m : Mo D} {st : Stmt}
theorem de_callC (C : CalM X.prog X.w X.K X.mg X.base k x n false m) (hr : Room k X.A) (hg : Gl X x) (hl : ALen A n) (ha : DA X W0 (e :: es) A) (hdb : (x == ("__debug__" : Str)) = false := by decide)
    (he : starEach (e :: es) X.env = (false, eval e X.env) :: starEach es X.env := by rfl) (hpl : (backTo pos (starEach es X.env)).any (·.1) = false := by rfl) : DE X W0 (.Call (.Name x p) (e :: es) [] pos) (eCall m A) := by
  obtain ⟨f, fd, ps, F, hm, hk, hb⟩ := C.ex
  exact de_call F hr hg hm hk hb hl ha hdb he hpl
theorem do_callC (C : CalM X.prog X.w X.K X.mg X.base k x n true m) (hr : Room k X.A) (hg : Gl X x) (hl : ALen A n) (ha : DA X W0 (e :: es) A) (hdb : (x == ("__debug__" : Str)) = false := by decide)
    (he : starEach (e :: es) X.env = (false, eval e X.env) :: starEach es X.env := by rfl) (hpl : (backTo pos (starEach es X.env)).any (·.1) = false := by rfl) : DO X W0 (.Call (.Name x p) (e :: es) [] pos) (eCall m A) := by
  obtain ⟨f, fd, ps, F, hm, hk, hb⟩ := C.ex
  exact do_call F hr hg hm hk hb hl ha hdb he hpl
/-- a statement that is never come to -/
def sNever : Mo Out := fun _ => none
theorem ds_never : DS X W st sNever := ⟨fun pins s σ H Dn I ⟨B, G, δ, r, δ', a, e1, post⟩ => by cases e1⟩
end
/-! ### comparisons as tests -/
section
variable {X : Cx} {W : WK} {a b c : Expr} {pos : Pos} {Ea Eb Ec : Mo D}
theorem tOp_ok {K : PySem.W.Frag} {f : D → D → Option D} {r : R2} (hf : Snd2 K f r) {σ : St} {H : Hp} {Q : VK} (q : tE K W (eBin f Ea Eb) σ H Q) : tOp r (tE K W Ea) (tE K W Eb) σ H Q := by
  obtain ⟨B, G, δ, r', δ', a, e1, post⟩ := q
  refine tE_bind a e1 post fun v H1 G1 δ1 d a1 x1 r1 e2 post => ?_
  refine tE_bind a1 e2 post fun w H2 G2 δ2 d2 a2 x2 r2 e3 post => ?_
  obtain ⟨z, hz, hr⟩ := lift_some e3
  cases hr
  exact hf B G2 H2 δ' σ v w d d2 z Q a2 (r1.mono x2) r2 hz fun v G' H' a' x' r' => post G' H' a' x' v r'
theorem tTest_ok {K : PySem.W.Frag} {E : Mo D} {t : TE} (h : ∀ σ H Q, tE K W E σ H Q → t σ H Q) {σ : St} {H : Hp} {Q : Bool → Hp → Prop} (q : tT K W (eB E) σ H Q) : tTest t σ H Q := by
  obtain ⟨B, G, δ, r', δ', a, e1, post⟩ := q
  refine h _ _ _ (tE_bind a e1 post fun v H1 G1 δ1 d a1 x1 r1 e2 post => ?_)
  obtain ⟨z, hz, hr⟩ := lift_some e2
  cases hr
  obtain rfl := dBl_some hz
  cases r1
  exact ⟨z, rfl, post G1 H1 a1 (Ext.refl _)⟩
theorem dt_cmp {op : CmpOp} {f : D → D → Option D} {r : R2} (ho : OpR X (compareOp op) r) (hf : Snd2 X.K f r) (ha : DE X W a Ea) (hb : DE X W b Eb) (hm : behindInMarks op b = false) : DT X W (.Compare a [op] [b] pos) (eB (eBin f Ea Eb)) :=
  PT.weak (pt_cmpR ho ha hb hm) fun σ H Q q => tTest_ok (fun _ _ _ z => tOp_ok hf z) q
theorem dt_lt (ha : DE X W a Ea) (hb : DE X W b Eb) : DT X W (.Compare a [.Lt] [b] pos) (eB (eBin dLt Ea Eb)) := dt_cmp opc_lt snd_cmp' ha hb (nomark _)
theorem dt_le (ha : DE X W a Ea) (hb : DE X W b Eb) : DT X W (.Compare a [.LtE] [b] pos) (eB (eBin dLe Ea Eb)) := dt_cmp opc_le snd_cmp' ha hb (nomark _)
theorem dt_gt (ha : DE X W a Ea) (hb : DE X W b Eb) : DT X W (.Compare a [.Gt] [b] pos) (eB (eBin dGt Ea Eb)) := dt_cmp opc_gt snd_cmp' ha hb (nomark _)
theorem dt_ge (ha : DE X W a Ea) (hb : DE X W b Eb) : DT X W (.Compare a [.GtE] [b] pos) (eB (eBin dGe Ea Eb)) := dt_cmp opc_ge snd_cmp' ha hb (nomark _)
theorem dt_eq (hu : X.A.units + 64 < cLine) (ha : DE X W a Ea) (hb : DE X W b Eb) : DT X W (.Compare a [.Eq] [b] pos) (eB (eBin dEq Ea Eb)) := dt_cmp (op_eqD hu) snd_eq ha hb (nomark _)
theorem dt_ne (hu : X.A.units + 64 < cLine) (ha : DE X W a Ea) (hb : DE X W b Eb) : DT X W (.Compare a [.NotEq] [b] pos) (eB (eBin dNe Ea Eb)) := dt_cmp (op_neD hu) snd_ne ha hb (nomark _)
theorem dt_in (hu : X.A.units + 65 < cLine) (ha : DE X W a Ea) (hb : DE X W b Eb) (hm : behindInMarks .In b = false := by rfl) : DT X W (.Compare a [.In] [b] pos) (eB (eBin (dIn false) Ea Eb)) := dt_cmp (opA_in hu) snd_in ha hb hm
theorem dt_notin (hu : X.A.units + 65 < cLine) (ha : DE X W a Ea) (hb : DE X W b Eb) (hm : behindInMarks .NotIn b = false := by rfl) : DT X W (.Compare a [.NotIn] [b] pos) (eB (eBin (dIn true) Ea Eb)) := dt_cmp (opA_notin hu) snd_in ha hb hm
theorem dt_isN (ha : DE X W a Ea) (hb : DE X W b Eb) : DT X W (.Compare a [.Is] [b] pos) (eB (eBin (dIs false) Ea Eb)) := dt_cmp (r := rIsN false) op_isN snd_is ha hb (nomark _)
theorem dt_notN (ha : DE X W a Ea) (hb : DE X W b Eb) : DT X W (.Compare a [.IsNot] [b] pos) (eB (eBin (dIs true) Ea Eb)) := dt_cmp (r := rIsN true) op_notN snd_is ha hb (nomark _)
theorem tInV_ok {K : PySem.W.Frag} {neg : Bool} {i : Nat} {σ : St} {H : Hp} {Q : VK} (q : tE K W (eInV neg Ea i) σ H Q) : tOp (rInA K neg) (tE K W Ea) (tVar i) σ H Q := by
  obtain ⟨B, G, δ, r', δ', at', e1, post⟩ := q
  refine tE_bind at' e1 post fun v H1 G1 δ1 d a1 x1 r1 e2 post => ?_
  cases q : δ1[i]? with
  | none => simp only [q] at e2; cases e2
  | some s =>
    simp only [q] at e2
    cases q2 : slD s with
    | none => rw [q2] at e2; cases e2
    | some c =>
      rw [q2, Option.bind_some] at e2
      cases q3 : dIn neg d c with
      | none => rw [q3] at e2; cases e2
      | some z =>
        rw [q3] at e2; cases e2
        obtain ⟨u, Gc, h1, h2, h3, _⟩ := a1.see q q2
        exact ⟨u, h1, sh_in a1.vw h3 r1 h2 q3 fun b hb => by subst hb; exact post G1 H1 a1 (Ext.refl _) _ (.bl _)⟩
theorem dt_inV {i : Nat} (hu : X.A.units + 65 < cLine) (ha : DE X W a Ea) (hb : PE X b (tVar i)) (hm : behindInMarks .In b = false := by rfl) : DT X W (.Compare a [.In] [b] pos) (eB (eInV false Ea i)) :=
  PT.weak (pt_cmpR (opA_in hu) ha hb hm) fun σ H Q q => tTest_ok (fun _ _ _ z => tInV_ok z) q
theorem dt_notinV {i : Nat} (hu : X.A.units + 65 < cLine) (ha : DE X W a Ea) (hb : PE X b (tVar i)) (hm : behindInMarks .NotIn b = false := by rfl) : DT X W (.Compare a [.NotIn] [b] pos) (eB (eInV true Ea i)) :=
  PT.weak (pt_cmpR (opA_notin hu) ha hb hm) fun σ H Q q => tTest_ok (fun _ _ _ z => tInV_ok z) q
theorem tChain_ok {K : PySem.W.Frag} {f g : D → D → Option D} {r r' : R2} (hf : Snd2 K f r) (hg : Snd2 K g r') {σ : St} {H : Hp} {Q : VK} (q : tE K W (eChain f g Ea Eb Ec) σ H Q) : tChain r r' (tE K W Ea) (tE K W Eb) (tE K W Ec) σ H Q := by
  obtain ⟨B, G, δ, r1, δ', at', e1, post⟩ := q
  refine tE_bind at' e1 post fun v H1 G1 δ1 d a1 x1 r1 e2 post => ?_
  refine tE_bind a1 e2 post fun w H2 G2 δ2 d2 a2 x2 r2 e3 post => ?_
  unfold Mo.bind Mo.lift at e3
  cases q : (f d d2).bind dBl with
  | none => rw [q] at e3; cases e3
  | some k =>
    rw [q] at e3
    simp only [] at e3
    cases q2 : f d d2 with
    | none => rw [q2] at q; cases q
    | some z =>
      rw [q2, Option.bind_some] at q
      obtain rfl := dBl_some q
      refine hf B G2 H2 δ2 σ v w d d2 _ _ a2 (r1.mono x2) r2 q2 fun v3 G3 H3 a3 x3 r3 => ?_
      cases r3
      refine ⟨k, rfl, ?_⟩
      cases k with
      | false => rw [if_neg Bool.false_ne_true] at e3 ⊢; cases e3; exact (post.mono x3) G3 H3 a3 (Ext.refl _) _ (.bl _)
      | true =>
        rw [if_pos rfl] at e3 ⊢
        refine tE_bind (k := fun z => Mo.lift (g d2 z)) a3 e3 (post.mono x3) fun u H4 G4 δ4 d4 a4 x4 r4 e4 post => ?_
        obtain ⟨z, hz, hr⟩ := lift_some e4
        cases hr
        exact hg B G4 H4 δ' σ w u d2 d4 z Q a4 (r2.mono (x3.trans x4)) r4 hz fun v G' H' a' x' r' => post G' H' a' x' v r'
theorem dt_chain {op op' : CmpOp} {f g : D → D → Option D} {r r' : R2} (ho : OpR X (compareOp op) r) (ho' : OpR X (compareOp op') r') (hf : Snd2 X.K f r) (hg : Snd2 X.K g r') (ha : DE X W a Ea) (hb : DE X W b Eb) (hc : DE X W c Ec)
    (hm : lastMarks [op, op'] [b, c] = false := by with_unfolding_all rfl) : DT X W (.Compare a [op, op'] [b, c] pos) (eB (eChain f g Ea Eb Ec)) := PT.weak (pt_chain ho ho' ha hb hc hm) fun σ H Q q => tTest_ok (fun _ _ _ z => tChain_ok hf hg z) q
end
end M

set_option Elab.async false
set_option linter.all false
set_option maxRecDepth 100000
/-! Part J: a dict display; a list of own lists. -/
namespace M
open PySem L2 PySem.Spec PyProof.Rows
section
variable {K : PySem.W.Frag} {B : Bs} {G H H' : Hp} {δ : Env} {σ : St}
def grow (L : List Addr) (G H' : Hp) : Hp := fun p => if p ∈ L then H' p else G p
theorem grow_in {L : List Addr} {p : Addr} (h : p ∈ L) : grow L G H' p = H' p := if_pos h
theorem grow_out {L : List Addr} {p : Addr} (h : p ∉ L) : grow L G H' p = G p := if_neg h
/-- new objects that nobody knows are told -/
theorem At.more (a : At K B G δ σ H) (L : List Addr) (hn : ∀ p ∈ L, H p = none) (hs : ∀ p, p ∉ L → H' p = H p) : At K B (grow L G H') δ σ H' ∧ Ext G (grow L G H') := by
  have nl : ∀ p o, H p = some o → p ∉ L := fun p o e m => by rw [hn p m] at e; cases e
  have gl : ∀ p o, G p = some o → p ∉ L := fun p o e m => by rw [a.vw.none (hn p m)] at e; cases e
  have ex : Ext G (grow L G H') := fun p o e => by rw [grow_out (gl p o e)]; exact e
  have vw : ∀ F, Vw F H → Vw F H' := fun F v p o e => by
    have := v.there e
    have hp : p ∉ L := fun m => this (hn p m)
    rw [hs p hp]; exact v p o e
  refine ⟨⟨fun p o e => ?_, a.g0.trans ex, fun p o e z => ?_, fun p e => ?_, fun p o e t z => ?_, fun i p e => ?_, fun j => vw _ (a.bo j), a.bod, a.len, fun i s e => ?_, a.apart⟩, ex⟩
  · by_cases c : p ∈ L
    · rw [grow_in c] at e; exact .inl e
    · rw [grow_out c] at e; rw [hs p c]; exact a.vw p o e
  · have := a.keep p o e z
    rw [hs p (nl p o this)]; exact this
  · have := a.dom p e
    rw [hs p fun m => this (hn p m)]; exact this
  · have := a.leak p o e t z
    have h0 : H p ≠ none := a.dom p (by rw [e]; simp)
    rw [grow_out fun m => h0 (hn p m)]; exact this
  · obtain ⟨a1, a2, a3, o, a4, a5⟩ := a.iok i p e
    exact ⟨a1, a2, a3, o, by rw [hs p (nl p o a4)]; exact a4, a5⟩
  · obtain ⟨ov, h1, h2⟩ := a.sl i s e
    refine ⟨ov, h1, ?_⟩
    cases s with
    | no => trivial
    | imm d => obtain ⟨v, q, r⟩ := h2; exact ⟨v, q, r.mono ex⟩
    | bor d => exact h2
    | own d =>
      obtain ⟨p, q1, q2, q3, q4⟩ := h2
      obtain ⟨o, b1, _⟩ := q3.obj
      exact ⟨p, q1, by rw [grow_out (nl p o b1)]; exact q2, (q3.at' (hs p (nl p o b1))).mono ex, q4⟩
    | io d =>
      obtain ⟨p, q1, q2, q3, q4⟩ := h2
      obtain ⟨o, b1, _⟩ := q3.obj
      exact ⟨p, q1, by rw [grow_out (nl p o b1)]; exact q2, (q3.at' (hs p (nl p o b1))).mono ex, q4⟩
end
/-! ### {k: v} -/
def eDisp1 (Ek Ev : Mo D) : Mo D := fun δ => match Ek δ with
  | some (.ok k, δ1) => match Ev δ1 with
    | some (.ok v, δ2) => (keyK k).map fun kk => (.ok (.dK [(kk, v)]), δ2)
    | _ => none
  | _ => none
theorem nodup_inj {α : Type} : ∀ {l : List α} {i j : Nat} {x : α}, l.Nodup → l[i]? = some x → l[j]? = some x → i = j
  | [], i, j, x, _, h, _ => by simp at h
  | y :: l, 0, 0, x, _, _, _ => rfl
  | y :: l, 0, j + 1, x, n, h1, h2 => by
    simp at h1 h2; subst h1
    exact absurd (List.mem_of_getElem? h2) (List.nodup_cons.mp n).1
  | y :: l, i + 1, 0, x, n, h1, h2 => by
    simp at h1 h2; subst h2
    exact absurd (List.mem_of_getElem? h1) (List.nodup_cons.mp n).1
  | y :: l, i + 1, j + 1, x, n, h1, h2 => by
    have := nodup_inj (i := i) (j := j) (x := x) (List.nodup_cons.mp n).2 (by simpa using h1) (by simpa using h2)
    rw [this]
theorem dk_notup {xs : List (Key × V)} : ∀ ys, HO.dK xs ≠ .tup ys := fun ys e => by cases e
theorem do_disp1 {X : Cx} {W : WK} {k v : Expr} {pos : Pos} {Ek Ev : Mo D} (hk : DE X W0 k Ek) (hv : DE X W0 v Ev) : DO X W (.Dict [some k] [v] pos) (eDisp1 Ek Ev) :=
  PE.weak (pe_disp (pps_cons hk hv pps_nil) rfl rfl (by simp) (by simp)) fun σ H Q ⟨B, G, δ, r, δ', a, e1, post⟩ => by
  intro p hp
  unfold eDisp1 at e1
  cases q : Ek δ with
  | none => simp only [q] at e1; cases e1
  | some z =>
    obtain ⟨u, δ1⟩ := z
    cases u with
    | error u => simp only [q] at e1; cases e1
    | ok dk =>
      simp only [q] at e1
      cases q2 : Ev δ1 with
      | none => simp only [q2] at e1; cases e1
      | some z =>
        obtain ⟨u, δ2⟩ := z
        cases u with
        | error u => simp only [q2] at e1; cases e1
        | ok dv =>
          simp only [q2] at e1
          cases q3 : keyK dk with
          | none => rw [q3] at e1; cases e1
          | some kk =>
            rw [q3] at e1; cases e1
            have b0 := a.fresh0 hp
            have ot := a.out1 b0 (a.vw.none hp)
            have a1 := (a.alloc (o := .dK []) hp).add (D1 := p) upd_same (a.vw.none hp) (a.noOwn hp)
            refine ⟨_, G, δ, .ok dk, δ1, a1, q, fun G1 H1 a2 x2 x rx => ?_⟩
            refine ⟨_, G1, δ1, .ok dv, _, a2, q2, fun G2 H2 a3 x3 y ry => ?_⟩
            obtain ⟨h1, h2, h3, h4⟩ := a3.drop ot dk_notup
            have hx := keyK_ok rx q3
            refine ⟨h1, [(kk, y)], by rw [hx]; rfl, by simp, ?_⟩
            refine post G2 _ (h4 _) (x2.trans x3) p ⟨h2, b0, h3, .dK upd_same (small_line (by simp [mergeK, putK])) rfl ?_⟩
            exact .cons ry .nil
/-! ### found = [[] for ..]; found[a].append(k) -/
def edAB : D → Option (Nat × Nat)
  | .tup (.int a :: .int b :: _) => if 0 ≤ a ∧ 0 ≤ b then some (a.toNat, b.toNat) else none
  | _ => none
def edsAB : List D → Option (List (Nat × Nat))
  | [] => some []
  | d :: ds => match edAB d with
    | none => none
    | some p => match edsAB ds with
      | none => none
      | some ps => some (p :: ps)
def addAt (ls : List (List Int)) (i : Nat) (x : Int) : List (List Int) := ls.set i (ls.getD i [] ++ [x])
def touchL : Nat → List (Nat × Nat) → List (List Int) → List (List Int)
  | _, [], ls => ls
  | k, (a, b) :: r, ls => touchL (k + 1) r (addAt (addAt ls a k) b k)
def llD (ls : List (List Int)) : D := .lst (ls.map fun l => .lst (l.map D.int))
def m_touching : Mo D := fun δ => match δ with
  | [.imm (.int c), .imm (.lst es)] => match edsAB es with
    | some ps => if (0 ≤ c ∧ c ≤ 1000) ∧ es.length ≤ 1000 ∧ (∀ p ∈ ps, (p.1 : Int) < c ∧ (p.2 : Int) < c) then some (.ok (llD (touchL 0 ps (List.replicate c.toNat []))), [.no, .no]) else none
    | none => none
  | _ => none
/-- the lists under construction -/
structure TL (H0 H : Hp) (D : Addr) (ps : List Addr) (ls : List (List Int)) : Prop where
  len : ps.length = ls.length
  d : H D = some (.lst (ps.map V.ref))
  nd : (D :: ps).Nodup
  el : ∀ (i : Nat) p l, ps[i]? = some p → ls[i]? = some l → H p = some (.lst (l.map V.int))
  fr : ∀ p ∈ D :: ps, H0 p = none
  out : ∀ p, p ∉ D :: ps → H p = H0 p
theorem TL.start {H0 : Hp} {D : Addr} (h : H0 D = none) : TL H0 (upd H0 D (.lst [])) D [] [] := by
  refine ⟨rfl, upd_same, by simp, fun i p l e => by simp at e, fun p hp => ?_, fun p hp => upd_ne fun c => hp (by rw [c]; simp)⟩
  simp at hp; rw [hp]; exact h
theorem TL.there {H0 H : Hp} {D : Addr} {ps : List Addr} {ls : List (List Int)} (t : TL H0 H D ps ls) {p : Addr} (h : p ∈ D :: ps) : H p ≠ none := by
  rcases List.mem_cons.mp h with rfl | h
  · rw [t.d]; simp
  · obtain ⟨i, hi, e⟩ := List.mem_iff_getElem.mp h
    have e2 : ps[i]? = some p := by rw [List.getElem?_eq_getElem hi, e]
    rw [t.el i p _ e2 (List.getElem?_eq_getElem (by rw [← t.len]; exact hi))]; simp
theorem TL.push {H0 H : Hp} {D : Addr} {ps : List Addr} {ls : List (List Int)} (t : TL H0 H D ps ls) {p : Addr} (hp : H p = none) : TL H0 (upd (upd H p (.lst [])) D (.lst (ps.map V.ref ++ [V.ref p]))) D (ps ++ [p]) (ls ++ [[]]) := by
  have nm : p ∉ D :: ps := fun m => t.there m hp
  have h0 : H0 p = none := by rw [← t.out p nm]; exact hp
  have nD : p ≠ D := fun c => nm (by rw [c]; simp)
  have nps : p ∉ ps := fun m => nm (List.mem_cons_of_mem _ m)
  obtain ⟨n1, n2⟩ := List.nodup_cons.mp t.nd
  refine ⟨by rw [List.length_append, List.length_append, t.len]; rfl, by rw [upd_same, List.map_append]; rfl, ?_, fun i q l e1 e2 => ?_, fun q hq => ?_, fun q hq => ?_⟩
  · refine List.nodup_cons.mpr ⟨fun m => ?_, ?_⟩
    · rcases List.mem_append.mp m with m | m
      · exact n1 m
      · simp at m; exact nD m.symm
    · refine List.nodup_append.mpr ⟨n2, by simp, fun x hx y hy => ?_⟩
      simp at hy; subst hy
      intro c; subst c; exact nps hx
  · have qD : q ≠ D := fun c => by
      have : q ∈ ps ++ [p] := List.mem_of_getElem? e1
      rcases List.mem_append.mp this with m | m
      · exact n1 (c ▸ m)
      · simp at m; exact nD (m ▸ c)
    rw [upd_ne qD]
    by_cases hi : i < ps.length
    · rw [List.getElem?_append_left hi] at e1
      rw [List.getElem?_append_left (by rw [← t.len]; exact hi)] at e2
      have qp : q ≠ p := fun c => nps (c ▸ List.mem_of_getElem? e1)
      rw [upd_ne qp]; exact t.el i q l e1 e2
    · rw [List.getElem?_append_right (by omega)] at e1
      rw [List.getElem?_append_right (by rw [← t.len]; omega), ← t.len] at e2
      cases hz : i - ps.length with
      | zero => rw [hz] at e1 e2; simp at e1 e2; subst e1 e2; rw [upd_same]; rfl
      | succ m => rw [hz] at e1; simp at e1
  · rcases List.mem_cons.mp hq with rfl | hq
    · exact t.fr _ List.mem_cons_self
    · rcases List.mem_append.mp hq with m | m
      · exact t.fr _ (List.mem_cons_of_mem _ m)
      · simp at m; subst m; exact h0
  · have a1 : q ≠ D := fun c => hq (by rw [c]; exact List.mem_cons_self)
    have a2 : q ∉ ps := fun m => hq (List.mem_cons_of_mem _ (List.mem_append_left _ m))
    have a3 : q ≠ p := fun c => hq (List.mem_cons_of_mem _ (List.mem_append_right _ (by rw [c]; simp)))
    rw [upd_ne a1, upd_ne a3]
    exact t.out q fun m => (List.mem_cons.mp m).elim a1 a2
theorem TL.add {H0 H : Hp} {D : Addr} {ps : List Addr} {ls : List (List Int)} (t : TL H0 H D ps ls) {i : Nat} {p : Addr} (x : Int) (hp : ps[i]? = some p) : TL H0 (upd H p (.lst ((ls.getD i []).map V.int ++ [V.int x]))) D ps (addAt ls i x) := by
  obtain ⟨n1, n2⟩ := List.nodup_cons.mp t.nd
  have hm := List.mem_of_getElem? hp
  have pD : p ≠ D := fun c => n1 (c ▸ hm)
  have hi : i < ps.length := (List.getElem?_eq_some_iff.mp hp).1
  have hil : i < ls.length := by rw [← t.len]; exact hi
  refine ⟨by unfold addAt; rw [List.length_set]; exact t.len, by rw [upd_ne pD.symm]; exact t.d, t.nd, fun j q l e1 e2 => ?_, t.fr, fun q hq => ?_⟩
  · unfold addAt at e2
    by_cases c : i = j
    · subst c
      rw [hp] at e1; cases e1
      rw [List.getElem?_set_self hil] at e2; cases e2
      rw [upd_same, List.map_append]; rfl
    · rw [List.getElem?_set_ne c] at e2
      have qp : q ≠ p := fun z => by
        subst z
        exact c (nodup_inj n2 hp e1)
      rw [upd_ne qp]; exact t.el j q l e1 e2
  · rw [upd_ne fun c => hq (by rw [c]; exact List.mem_cons_of_mem _ hm)]; exact t.out q hq
theorem TL.fin {K : PySem.W.Frag} {B : Bs} {G H0 H : Hp} {δ : Env} {σ : St} {D : Addr} {ps : List Addr} {ls : List (List Int)} (t : TL H0 H D ps ls) (a : At K B G δ σ H0) (hl : ls.length ≤ sizeLine) (hls : ∀ l ∈ ls, l.length ≤ sizeLine) : ∃ G', At K B G' δ σ H ∧ Ext G G' ∧ R K G' (.ref D) (llD ls) := by
  obtain ⟨a1, x1⟩ := a.more (D :: ps) t.fr t.out
  refine ⟨_, a1, x1, ?_⟩
  have hD : grow (D :: ps) G H D = some (.lst (ps.map V.ref)) := by rw [grow_in List.mem_cons_self]; exact t.d
  refine .lst hD (by rw [List.length_map, t.len]; exact hl) ?_
  -- the inner lists
  have key : ∀ (qs : List Addr) (ms : List (List Int)), qs.length = ms.length → (∀ (i : Nat) q l, qs[i]? = some q → ms[i]? = some l → q ∈ D :: ps ∧ H q = some (.lst (l.map V.int)) ∧ l.length ≤ sizeLine) → RL K (grow (D :: ps) G H) (qs.map V.ref) (ms.map fun l => .lst (l.map M.D.int)) := by
    intro qs
    induction qs with
    | nil => intro ms h _; cases ms with | nil => exact .nil | cons _ _ => simp at h
    | cons q qs ih =>
      intro ms h k
      cases ms with
      | nil => simp at h
      | cons m ms =>
        obtain ⟨k1, k2, k3⟩ := k 0 q m rfl rfl
        refine .cons (.lst (xs := m.map V.int) (by rw [grow_in k1]; exact k2) (by rw [List.length_map]; exact k3) (rl_ints m)) (ih ms (by simpa using h) fun i q' l e1 e2 => k (i + 1) q' l (by simpa using e1) (by simpa using e2))
  exact key ps ls t.len fun i q l e1 e2 => ⟨List.mem_cons_of_mem _ (List.mem_of_getElem? e1), t.el i q l e1 e2, hls l (List.mem_of_getElem? e2)⟩
theorem addAt_len (ls : List (List Int)) (i : Nat) (x : Int) : (addAt ls i x).length = ls.length := by unfold addAt; rw [List.length_set]
theorem addAt_le {ls : List (List Int)} {i : Nat} {x : Int} {n : Nat} (h : ∀ l ∈ ls, l.length ≤ n) : ∀ l ∈ addAt ls i x, l.length ≤ n + 1 := fun l m => by
  unfold addAt at m
  rcases List.mem_or_eq_of_mem_set m with m | rfl
  · have := h l m; omega
  · rw [List.length_append, List.length_singleton]
    rw [List.getD_eq_getElem?_getD]
    cases q : ls[i]? with
    | none => simp
    | some l => have := h l (List.mem_of_getElem? q); simpa using this
theorem atI_nat {α : Type} {l : List α} {n : Nat} {x : α} (h : l[n]? = some x) : atI l ((n : Nat) : Int) = some x := by
  have hn := (List.getElem?_eq_some_iff.mp h).1
  unfold atI ixN
  rw [if_pos (Int.natCast_nonneg n), if_pos (by omega)]
  simpa using h
def tTouch (K : PySem.W.Frag) : TS := tSeq (tAsg (tLc (iRng1 (tCons (tVar 0) tNil)) (gName 4) tYes (tLst tNil) [4]) (gName 2))
  (tSeq (tFor (iRng1 (tCons (tCB (fun xs H_1 Q => ∃ p ys, xs = [V.ref p] ∧ (SqL K H_1 p ys ∨ SqT K H_1 p ys) ∧ Q (V.int ys.length) H_1) (tCons (tVar 1) tNil)) tNil)) (gName 3)
    (tSeq (tDrop (tBM K "list" rAppend (tOp (rIxL K) (tVar 2) (tOp (rIxT K) (tOp (rIxL K) (tVar 1) (tVar 3)) (tC (V.int 0)))) (tCons (tVar 3) tNil)))
      (tDrop (tBM K "list" rAppend (tOp (rIxL K) (tVar 2) (tOp (rIxT K) (tOp (rIxL K) (tVar 1) (tVar 3)) (tC (V.int 1)))) (tCons (tVar 3) tNil)))))
  (tRet (tVar 2)))
theorem edsAB_len : ∀ {es : List D} {ps : List (Nat × Nat)}, edsAB es = some ps → ps.length = es.length
  | [], _, h => by cases h; rfl
  | d :: ds, ps, h => by
    unfold edsAB at h
    cases q : edAB d with
    | none => rw [q] at h; cases h
    | some p =>
      simp only [q] at h
      cases q2 : edsAB ds with
      | none => rw [q2] at h; cases h
      | some qs => rw [q2] at h; cases h; rw [List.length_cons, List.length_cons, edsAB_len q2]
theorem edsAB_get : ∀ {es : List D} {ps : List (Nat × Nat)} {i : Nat} {p : Nat × Nat}, edsAB es = some ps → ps[i]? = some p → ∃ d, es[i]? = some d ∧ edAB d = some p
  | [], _, i, p, h, e => by cases h; simp at e
  | d :: ds, ps, i, p, h, e => by
    unfold edsAB at h
    cases q : edAB d with
    | none => rw [q] at h; cases h
    | some p0 =>
      simp only [q] at h
      cases q2 : edsAB ds with
      | none => rw [q2] at h; cases h
      | some qs =>
        rw [q2] at h; cases h
        cases i with
        | zero => simp at e; subst e; exact ⟨d, rfl, q⟩
        | succ i =>
          obtain ⟨d', h1, h2⟩ := edsAB_get q2 (i := i) (p := p) (by simpa using e)
          exact ⟨d', by simpa using h1, h2⟩
theorem edAB_ok {K : PySem.W.Frag} {G : Hp} {v : V} {d : D} {p : Nat × Nat} (r : R K G v d) (h : edAB d = some p) : ∃ t rest, v = .ref t ∧ G t = some (.tup (.int p.1 :: .int p.2 :: rest)) := by
  cases r with
  | tup g l r =>
    cases r with
    | nil => cases h
    | cons r1 r2 =>
      cases r1 with
      | int a =>
        cases r2 with
        | nil => cases h
        | @cons _ vs0 _ _ r2 r3 =>
          cases r2 with
          | int b =>
            have h : (if 0 ≤ a ∧ 0 ≤ b then some (a.toNat, b.toNat) else none) = some p := h
            split at h
            · rename_i c
              cases h
              refine ⟨_, vs0, rfl, ?_⟩
              rw [g]
              show some (HO.tup (V.int a :: V.int b :: vs0)) = some (HO.tup (V.int ((a.toNat : Nat) : Int) :: V.int ((b.toNat : Nat) : Int) :: vs0))
              rw [Int.toNat_of_nonneg c.1, Int.toNat_of_nonneg c.2]
            · cases h
          | _ => cases h
      | _ => cases h
  | _ => cases h
theorem touch_ok {K : PySem.W.Frag} {N : List Str} {vs : List V} {H : Hp} {Q : VK} {E : XK} (hN : N.length = 5) (h : spM Wn K 2 false m_touching vs H Q E) : tTouch K { nx := fun _ H' => Q .non H', rt := Q } (L2.start N vs) H := by
  obtain ⟨hl, B, G, δ, r, δ', hio, a, hm, post⟩ := h
  unfold m_touching at hm
  split at hm
  · rename_i c es
    split at hm
    · rename_i prs hprs
      split at hm
      · rename_i hc
        obtain ⟨⟨c0, c1⟩, el, eb⟩ := hc
        cases hm
        obtain ⟨v0, w0, r0⟩ := a.imm (i := 0) rfl
        obtain ⟨v1, w1, r1⟩ := a.imm (i := 1) rfl
        match vs, hl with
        | [u0, u1], _ =>
          cases w0; cases w1
          cases r0
          cases r1 with
          | @lst e xs _ g gl rl =>
            have hst : L2.start N [V.int c, V.ref e] = [some (V.int c), some (V.ref e), none, none, none] := by
              unfold L2.start
              rw [hN]
              rfl
            rw [hst]
            have hS : ∀ {H' D ps ls}, TL H H' D ps ls → H' e = some (.lst xs) := fun {H' D ps ls} t => by
              have he := a.vw.lst g
              rw [t.out e fun m => by rw [t.fr e m] at he; cases he]; exact he
            refine ⟨_, rfl, c, rfl, by omega, by omega, fun D hD => lc_range (fun i H' => ∃ ps, ps.length = i ∧ TL H H' D ps (List.replicate i [])) ⟨[], rfl, TL.start hD⟩ ?_ ?_⟩
            · rintro i H' hi ⟨ps, hps, t⟩
              refine ⟨rfl, ?_⟩
              unfold tYes
              show (if true = true then (fun H3 => tLst tNil (List.set (wipe [some (V.int c), some (V.ref e), none, none, none] [4]) 4 (some (V.int (0 + ↑i)))) H3 _) H' else _)
              rw [if_pos rfl]
              refine ⟨Nat.zero_le _, fun p hp => ⟨ps.map V.ref, ?_, ?_, ps ++ [p], ?_, ?_⟩⟩
              · have hD' := t.d
                rw [upd_ne fun z => by rw [z, hp] at hD'; cases hD']; exact hD'
              · rw [List.length_map, hps]; rw [sizeLine_eq]; omega
              · rw [List.length_append, hps]; rfl
              · have := t.push hp
                rw [List.replicate_succ']; exact this
            · rintro H1 ⟨ps, hps, t⟩
              show tSeq _ _ _ [some (V.int c), some (V.ref e), some (V.ref D), none, none] H1
              refine ⟨_, rfl, e, xs, rfl, .inl (SqL.of (hS t)), _, rfl, by omega, by rw [rl.length]; omega, ?_⟩
              have hxl : xs.length = prs.length := rl.length.trans (edsAB_len hprs).symm
              rw [Int.toNat_natCast]
              refine for_range (fun i σ H' => ∃ ls x, σ = [some (V.int c), some (V.ref e), some (V.ref D), x, none] ∧ TL H H' D ps ls ∧ (∀ l ∈ ls, l.length ≤ 2 * i) ∧ touchL i (prs.drop i) ls = touchL 0 prs (List.replicate c.toNat [])) ⟨_, none, rfl, t, fun l m => by rw [List.eq_of_mem_replicate m]; simp, rfl⟩ ?_ ?_
              · rintro i σ H2 hi ⟨ls, x, rfl, t2, hls, htl⟩
                have hip : i < prs.length := by omega
                have hdr : prs.drop i = prs[i] :: prs.drop (i + 1) := List.drop_eq_getElem_cons hip
                obtain ⟨d, hd1, hd2⟩ := edsAB_get hprs (List.getElem?_eq_getElem hip)
                obtain ⟨v, hv1, hv2⟩ := rl.get hd1
                obtain ⟨tp, rest, rfl, gt⟩ := edAB_ok hv2 hd2
                obtain ⟨b1, b2⟩ := eb prs[i] (List.getElem_mem hip)
                have hcl : ps.length = c.toNat := hps
                have ha : prs[i].1 < ps.length := by omega
                have hb : prs[i].2 < ps.length := by omega
                have tupS : ∀ {H' ls}, TL H H' D ps ls → H' tp = some (.tup (.int prs[i].1 :: .int prs[i].2 :: rest)) := fun {H' ls} t => by
                  have he := a.vw.tup gt
                  rw [t.out tp fun m => by rw [t.fr tp m] at he; cases he]; exact he
                show tSeq _ _ _ [some (V.int c), some (V.ref e), some (V.ref D), some (V.int (0 + (i : Int))), none] H2
                rw [Int.zero_add]
                have pa : ps[prs[i].1]? = some ps[prs[i].1] := List.getElem?_eq_getElem ha
                have pb : ps[prs[i].2]? = some ps[prs[i].2] := List.getElem?_eq_getElem hb
                have la : ∀ {ls : List (List Int)}, ps.length = ls.length → ∀ {j : Nat}, j < ps.length → ls[j]? = some (ls.getD j []) := fun {ls} h {j} hj => by
                  rw [List.getD_eq_getElem?_getD, List.getElem?_eq_getElem (by omega)]; rfl
                refine ⟨_, rfl, _, rfl, _, rfl, e, xs, i, _, rfl, rfl, SqL.of (hS t2), atI_nat hv1, tp, _, 0, _, rfl, rfl, SqT.of (tupS t2), atI_nat (n := 0) rfl, D, ps.map V.ref, ((prs[i].1 : Nat) : Int), V.ref ps[prs[i].1], rfl, rfl, SqL.of t2.d, atI_nat (by rw [List.getElem?_map, pa]; rfl), Or.inl ⟨rfl, _, SqL.of (t2.el _ _ _ pa (la t2.len ha))⟩, _, rfl, _, _, _, rfl, rfl, t2.el _ _ _ pa (la t2.len ha), ?_, ?_⟩
                · rw [List.length_map]
                  have := hls _ (List.mem_of_getElem? (la t2.len ha))
                  have := edsAB_len hprs
                  rw [sizeLine_eq]; omega
                · have t3 := t2.add (i : Int) pa
                  refine ⟨_, rfl, _, rfl, _, rfl, e, xs, i, _, rfl, rfl, SqL.of (hS t3), atI_nat hv1, tp, _, 1, _, rfl, rfl, SqT.of (tupS t3), atI_nat (n := 1) rfl, D, ps.map V.ref, ((prs[i].2 : Nat) : Int), V.ref ps[prs[i].2], rfl, rfl, SqL.of t3.d, atI_nat (by rw [List.getElem?_map, pb]; rfl), Or.inl ⟨rfl, _, SqL.of (t3.el _ _ _ pb (la t3.len hb))⟩, _, rfl, _, _, _, rfl, rfl, t3.el _ _ _ pb (la t3.len hb), ?_, ?_⟩
                  · rw [List.length_map]
                    have := addAt_le hls _ (List.mem_of_getElem? (la t3.len hb))
                    have := edsAB_len hprs
                    rw [sizeLine_eq]; omega
                  · refine ⟨_, _, rfl, t3.add (i : Int) pb, fun l m => ?_, ?_⟩
                    · have := addAt_le (addAt_le hls) l m; omega
                    · rw [hdr] at htl; exact htl
              · rintro σ H2 ⟨ls, x, rfl, t2, hls, htl⟩
                rw [hxl, List.drop_length] at htl
                have htl : ls = touchL 0 prs (List.replicate c.toNat []) := htl
                obtain ⟨G', a', x', r'⟩ := t2.fin a (by rw [← t2.len, hps, sizeLine_eq]; omega) (fun l m => by have := hls l m; have := edsAB_len hprs; rw [sizeLine_eq]; omega)
                refine ⟨_, rfl, ?_⟩
                have a2 : At K B G' [.no, .no] ([V.int c, V.ref e].map some) H2 := a'.forget rfl fun j s q => by
                  match j, q with
                  | 0, q => cases q; exact .inl rfl
                  | 1, q => cases q; exact .inl rfl
                have pp := post G' H2 a2 x'
                rw [if_neg Bool.false_ne_true] at pp
                rw [htl] at r'
                exact pp _ r'
      · cases hm
    · cases hm
  · cases hm
end M

set_option Elab.async false
set_option linter.all false
set_option maxRecDepth 100000
/-! Part K: slices, any, isinstance, is True, dict comprehensions. -/
namespace M
open PySem L2 PySem.Spec PyProof.Rows
/-! ### slices -/
def eP0 : Mo (Option Int) := Mo.ret none
def dPart : D → Option (Option Int)
  | .int i => some (some i)
  | _ => none
def eP1 (E : Mo D) : Mo (Option Int) := E.bind fun d => Mo.lift (dPart d)
def tP (K : PySem.W.Frag) (W : WK) (P : Mo (Option Int)) : TO := fun σ H Q => ∃ B G δ r δ', At K B G δ σ H ∧ P δ = some (r, δ') ∧ Post K W B G σ r δ' (fun o G' H' => Q o H')
def DP (X : Cx) (W : WK) (e : Option Expr) (P : Mo (Option Int)) : Prop := PO X e (tP X.K W P)
section
variable {X : Cx} {W : WK} {e : Expr} {E : Mo D} {P : Mo (Option Int)}
theorem PO.weak {e : Option Expr} {t t' : TO} (h : PO X e t) (w : ∀ σ H Q, t' σ H Q → t σ H Q) : PO X e t' := ⟨fun pins s σ H Q I q => h.run pins s σ H Q I (w σ H Q q)⟩
theorem dp_none : DP X W none eP0 := PO.weak po_none fun σ H Q ⟨B, G, δ, r, δ', a, e1, post⟩ => by
  cases e1; exact post G H a (Ext.refl _)
theorem dp_some (h : DE X W e E) : DP X W (some e) (eP1 E) := PO.weak (po_some h) fun σ H Q ⟨B, G, δ, r, δ', a, e1, post⟩ => by
  refine tE_bind a e1 post fun v H1 G1 δ1 d a1 x1 r1 e2 post => ?_
  obtain ⟨z, hz, hr⟩ := lift_some e2
  cases hr
  cases r1 with
  | int i => cases hz; exact ⟨i, rfl, post G1 H1 a1 (Ext.refl _)⟩
  | _ => cases hz
def cutD {α : Type} (xs : List α) (lo hi : Option Int) : List α := (xs.drop (HT.sIx xs.length 0 lo)).take (HT.sIx xs.length xs.length hi - HT.sIx xs.length 0 lo)
def dSlL : D → Option Int → Option Int → Option D
  | .lst l, lo, hi => some (.lst (cutD l lo hi))
  | .scr l, lo, hi => some (.lst (cutD l lo hi))
  | _, _, _ => none
def dSl : D → Option Int → Option Int → Option D
  | .tup l, lo, hi => some (.tup (cutD l lo hi))
  | .str s, lo, hi => if s.length ≤ sizeLine then some (.str (cutS s lo hi)) else none
  | _, _, _ => none
def eSl (f : D → Option Int → Option Int → Option D) (E : Mo D) (L U : Mo (Option Int)) : Mo D := E.bind fun d => L.bind fun l => U.bind fun u => Mo.lift (f d l u)
theorem tP_bind {K : PySem.W.Frag} {B : Bs} {G H : Hp} {δ δ' : Env} {σ : St} {β : Type} {r : Except Exn β} {ok : β → Hp → Hp → Prop} {k : Option Int → Mo β} {Q : Option Int → Hp → Prop} (a : At K B G δ σ H) (h : Mo.bind P k δ = some (r, δ')) (post : Post K W B G σ r δ' ok)
    (q : ∀ H1 G1 δ1 d, At K B G1 δ1 σ H1 → Ext G G1 → k d δ1 = some (r, δ') → Post K W B G1 σ r δ' ok → Q d H1) : tP K W P σ H Q := by
  unfold Mo.bind at h
  cases e : P δ with
  | none => rw [e] at h; cases h
  | some z =>
    obtain ⟨x, δ1⟩ := z
    rw [e] at h
    cases x with
    | error x => cases h; exact ⟨B, G, δ, .error x, _, a, e, post⟩
    | ok d => exact ⟨B, G, δ, .ok d, δ1, a, e, fun G1 H1 a1 e1 => q H1 G1 δ1 d a1 e1 h (post.mono e1)⟩
theorem cut_len {α : Type} (xs : List α) (lo hi : Option Int) : (cutD xs lo hi).length ≤ xs.length := by
  unfold cutD; rw [List.length_take, List.length_drop]; omega
theorem rl_cut {K : PySem.W.Frag} {G : Hp} {xs : List V} {ds : List D} (r : RL K G xs ds) (lo hi : Option Int) : RL K G (cutV xs lo hi) (cutD ds lo hi) := by
  unfold cutV cutD
  rw [r.length]
  exact (r.drop _).take _
theorem do_sl {a : Expr} {lo hi : Option Expr} {p2 pos : Pos} {L U : Mo (Option Int)} (ha : DE X W a E) (hl : DP X W lo L) (hu : DP X W hi U) : DO X W (.Subscript a (.Slice lo hi none p2) pos) (eSl dSlL E L U) :=
  PE.weak (pe_slice sl_list ha hl hu) fun σ H Q ⟨B, G, δ, r, δ', at', e1, post⟩ => by
  refine tO_of_sl at' e1 post
where
  tO_of_sl {K : PySem.W.Frag} {B : Bs} {G H : Hp} {δ δ' : Env} {σ : St} {r : Except Exn D} {L U : Mo (Option Int)} {Q : VK} (a : At K B G δ σ H) (e1 : eSl dSlL E L U δ = some (r, δ')) (post : Post K W B G σ r δ' (fun d G' H' => ∀ p, Fr1 K B G' δ' σ H' p d → Q (.ref p) H')) : tSl (rSlL K) (tE K W E) (tP K W L) (tP K W U) σ H Q := by
    refine tE_bind a e1 post fun v H1 G1 δ1 d a1 x1 r1 e2 post => ?_
    refine tP_bind a1 e2 post fun H2 G2 δ2 l a2 x2 e3 post => ?_
    refine tP_bind a2 e3 post fun H3 G3 δ3 u a3 x3 e4 post => ?_
    obtain ⟨z, hz, hr⟩ := lift_some e4
    cases hr
    have fin : ∀ p xs ds, v = .ref p → SqL K H3 p xs → RL K G3 xs ds → xs.length ≤ sizeLine → z = .lst (cutD ds l u) → rSlL K v l u H3 Q := fun p xs ds hv hs hr hl hz => by
      subst hv hz
      refine ⟨p, xs, rfl, hs, fun q hq => ?_⟩
      obtain ⟨b1, b2⟩ := a3.own1 (p := q) (o := .lst _) hq (.lst upd_same (Nat.le_trans (cutV_length xs l u) hl) (rl_cut hr l u))
      exact post G3 _ b1 (Ext.refl _) q b2
    have r3 := r1.mono (x2.trans x3)
    cases r3 with
    | lst g hl rl => cases hz; exact fin _ _ _ rfl (SqL.of (a3.vw.lst g)) rl hl rfl
    | scr g hl rl => cases hz; exact fin _ _ _ rfl (a3.vw.sql g) rl hl rfl
    | _ => cases hz
theorem SlR.or2 {r r' : V → Option Int → Option Int → Hp → VK → Prop} (h : SlR X r) (h' : SlR X r') : SlR X (fun x lo hi H Q => r x lo hi H Q ∨ r' x lo hi H Q) := SlR.or h h'
theorem cut_all {α : Type} {xs : List α} {lo hi : Option Int} (h : HT.sIx xs.length 0 lo = 0 ∧ HT.sIx xs.length xs.length hi = xs.length) : cutD xs lo hi = xs := by
  unfold cutD; rw [h.1, h.2, List.drop_zero, Nat.sub_zero, List.take_length]
theorem de_sl {a : Expr} {lo hi : Option Expr} {p2 pos : Pos} {L U : Mo (Option Int)} (ha : DE X W a E) (hl : DP X W lo L) (hu : DP X W hi U) : DE X W (.Subscript a (.Slice lo hi none p2) pos) (eSl dSl E L U) :=
  PE.weak (pe_slice (SlR.or2 sl_tupA sl_str) ha hl hu) fun σ H Q ⟨B, G, δ, r, δ', at', e1, post⟩ => by
  refine tE_bind at' e1 post fun v H1 G1 δ1 d a1 x1 r1 e2 post => ?_
  refine tP_bind a1 e2 post fun H2 G2 δ2 l a2 x2 e3 post => ?_
  refine tP_bind a2 e3 post fun H3 G3 δ3 u a3 x3 e4 post => ?_
  obtain ⟨z, hz, hr⟩ := lift_some e4
  cases hr
  have r3 := r1.mono (x2.trans x3)
  cases r3 with
  | tup g hl rl =>
    rename_i p xs ds
    cases hz
    refine .inl ⟨p, xs, rfl, SqT.of (a3.vw.tup g), fun hh => ?_, fun _ q hq => ?_⟩
    · have hh2 : HT.sIx ds.length 0 l = 0 ∧ HT.sIx ds.length ds.length u = ds.length := by rw [← rl.length]; exact hh
      rw [cut_all hh2] at post
      exact post G3 H3 a3 (Ext.refl _) _ (.tup g hl rl)
    · have ex := Ext.new (o := .tup (cutV xs l u)) (a3.vw.none hq)
      exact post _ _ (a3.laid hq) ex _ (.tup upd_same (Nat.le_trans (cutV_length xs l u) hl) ((rl_cut rl l u).mono ex))
  | str s =>
    have hz : (if s.length ≤ sizeLine then some (D.str (cutS s l u)) else none) = some z := hz
    split at hz
    · rename_i hs
      cases hz
      exact .inr ⟨s, rfl, hs, post G3 H3 a3 (Ext.refl _) _ (.str _)⟩
    · cases hz
  | _ => cases hz
end

/-! ### any, all -/
def blsD : List D → Option (List Bool)
  | [] => some []
  | .bl b :: l => (blsD l).map (b :: ·)
  | _ => none
theorem blsD_ok {K : PySem.W.Frag} {G : Hp} : ∀ {xs : List V} {l : List D} {bs : List Bool}, RL K G xs l → blsD l = some bs → xs = bs.map V.bl
  | _, _, _, .nil, h => by cases h; rfl
  | _, d :: l, _, .cons r t, h => by
    cases r with
    | bl i =>
      unfold blsD at h
      cases q : blsD l with
      | none => rw [q] at h; cases h
      | some ns => rw [q] at h; cases h; rw [blsD_ok t q]; rfl
    | _ => cases h
theorem truth_ints {prog : Program} {w : World} {A : PySem.Around} {ns : List Int} {its : List Value} (e : IntsAre its ns) :
    TruthOf prog w A (fun i v => its.toArray[i]? = some v) (fun i => ns.getD i 0 != 0) := fun i v s Q E hv hq => by
  obtain ⟨t, rfl⟩ := IntsAre.int_at e i v (by simpa using hv)
  exact PySem.P.truthy_int hq
theorem any_int_range : ∀ ns : List Int, ((List.range ns.length).any fun i => ns.getD i 0 != 0) = ns.any (· != 0)
  | [] => rfl
  | b :: bs => by
    rw [List.length_cons, List.range_succ_eq_map, List.any_cons, List.any_map, List.any_cons, ← any_int_range bs]
    all_goals rfl
def rAnyI (K : PySem.W.Frag) : List V → Hp → VK → Prop := fun vs H Q => ∃ (a : Addr) (ns : List Int), vs = [V.ref a] ∧ SqL K H a (ns.map V.int) ∧ Q (.bl (ns.any (· != 0))) H
theorem cr_anyI {X : Cx} (hc : X.calm = true) : CallR X (.builtin "any") (rAnyI X.K) := by
  rintro pins s σ H vs us Q I r ⟨a, ns, rfl, hs, q⟩
  obtain ⟨its, rv, hl, _⟩ := I.list hs
  have hi : IntsAre its ns := ints_of_vals rv
  rw [Vals.ref1 r]
  refine call_any_walk (iter_any hl.isList fun s2 e2 st hne => ?_)
  subst e2
  refine ⟨_, _, _, _, _, _, _, rfl, Walks.list (A := X.A.in1) (I.ok.hd hc) _ a hne its.toArray, st, truth_ints hi, fun h' tk hk => ⟨.bl _, H, I.kept fun b o eo => hk b o (fun hmem => ?_) (Heap.get?_push_of_some _ eo), ?_, q⟩⟩
  · rcases List.mem_cons.mp hmem with z | z
    · rw [z] at eo; exact absurd (Heap.lt_size eo) (Nat.lt_irrefl _)
    · cases z
  · show Value.bool _ = Value.bool _
    rw [← any_int_range, List.size_toArray, IntsAre.length hi]
/-- any of a list of bools, or of a list of ints -/
def fAny : List D → Option D
  | [.lst l] => match blsD l with
    | some bs => some (.bl (bs.any id))
    | none => match intsD l with
      | some ns => some (.bl (ns.any (· != 0)))
      | none => none
  | _ => none
theorem snd_any {K : PySem.W.Frag} : SndF K fAny (fun vs H Q => rAny K vs H Q ∨ rAnyI K vs H Q) := fun B G H δ σ xs as d Q at' rx h k => by
  unfold fAny at h
  split at h
  · rename_i l
    obtain ⟨v, rfl, r⟩ := rl1 rx
    cases r with
    | lst g hl r =>
      split at h
      · rename_i bs hb
        cases h
        have := blsD_ok r hb
        subst this
        exact .inl ⟨_, bs, rfl, SqL.of (at'.vw.lst g), k _ G H at' (Ext.refl _) (.bl _)⟩
      · split at h
        · rename_i ns hn
          cases h
          have := intsD_ok r hn
          subst this
          exact .inr ⟨_, ns, rfl, SqL.of (at'.vw.lst g), k _ G H at' (Ext.refl _) (.bl _)⟩
        · cases h
  · cases h
theorem callR_or {X : Cx} {f : Value} {r r' : List V → Hp → VK → Prop} (h : CallR X f r) (h' : CallR X f r') : CallR X f (fun vs H Q => r vs H Q ∨ r' vs H Q) := fun pins s σ H xs us Q I rv q => q.elim (h pins s σ H xs us Q I rv) (h' pins s σ H xs us Q I rv)
section
variable {X : Cx} {W : WK} {e a b c : Expr} {es : List Expr} {x : Str} {p pos : Pos} {E Ea Eb : Mo D} {A : Mo (List Ag)}
theorem de_any (hc : X.calm = true) (hg : Gl X x) (hm : X.mg x = none) (hv : bootBuiltins x = some (.builtin "any")) (ha : DA X W (e :: es) A) (hn : x ≠ "__name__" := by decide) (hdb : (x == ("__debug__" : Str)) = false := by decide)
    (he : starEach (e :: es) X.env = (false, eval e X.env) :: starEach es X.env := by rfl) (hpl : (backTo pos (starEach es X.env)).any (·.1) = false := by rfl) : DE X W (.Call (.Name x p) (e :: es) [] pos) (eF fAny A) :=
  de_tCB snd_any (pe_callB (callR_or (cr_any hc) (cr_anyI hc)) hg hm hv ha hn hdb he hpl)

/-! ### isinstance(e, T), T a built-in type -/
def tyN : D → String
  | .non => "NoneType" | .bl _ => "bool" | .int _ => "int" | .str _ => "str" | .tup _ => "tuple" | .lst _ => "list" | .scr _ => "list" | .dK _ => "dict" | .dT _ => "dict"
def eIsi (T : String) (E : Mo D) : Mo D := E.bind fun d => Mo.lift ((kitB (tyN d) T).map D.bl)
theorem ty_of {K : PySem.W.Frag} {G H : Hp} {v : V} {d : D} (vw : Vw G H) (r : R K G v d) (hk : isDct d = false) (hs : ∀ l, d ≠ .scr l) : TyX K H v (.type (tyN d)) := by
  cases r with
  | non => exact .base .non
  | bl b => exact .base (.bl b)
  | int i => exact .base (.int i)
  | str s => exact .base (.str s)
  | tup g => exact .base (.tup (vw.tup g))
  | lst g => exact .base (.lst (vw.lst g))
  | scr => exact absurd rfl (hs _)
  | dK => cases hk
  | dT => cases hk
def noScr : D → Bool
  | .scr _ => false
  | d => !isDct d
def eIsi' (T : String) (E : Mo D) : Mo D := E.bind fun d => Mo.lift (if noScr d = true then (kitB (tyN d) T).map D.bl else none)
theorem de_isi {T : String} {y : Str} {py : Pos} (hg : Gl X x) (hm : X.mg x = none) (hv : bootBuiltins x = some (.builtin "isinstance")) (hg2 : Gl X y) (hm2 : X.mg y = none) (hv2 : bootBuiltins y = some (.type T)) (ha : DE X W e E)
    (hn : x ≠ "__name__" := by decide) (hdb : (x == ("__debug__" : Str)) = false := by decide) (hn2 : y ≠ "__name__" := by decide) (hdb2 : (y == ("__debug__" : Str)) = false := by decide)
    (he : starEach [e, .Name y py] X.env = (false, eval e X.env) :: starEach [.Name y py] X.env := by rfl) (hpl : (backTo pos (starEach [.Name y py] X.env)).any (·.1) = false := by rfl) :
    DE X W (.Call (.Name x p) [e, .Name y py] [] pos) (eIsi' T E) := PE.weak (pe_callB call_isi hg hm hv (pa_cons ha (pa_cons (pe_bltn (v := .ty T) hg2 hm2 hv2 rfl hn2 hdb2) pa_nil) he) hn hdb he hpl) fun σ H Q ⟨B, G, δ, r, δ', at', e1, post⟩ => by
  refine tE_bind at' e1 post fun v H1 G1 δ1 d a1 x1 r1 e2 post => ?_
  obtain ⟨z, hz, hr⟩ := lift_some e2
  cases hr
  split at hz
  · rename_i hs
    cases q : kitB (tyN d) T with
    | none => rw [q] at hz; cases hz
    | some b =>
      rw [q] at hz; cases hz
      refine ⟨v, .ty T, .type (tyN d), .type T, b, rfl, .ty T, ty_of a1.vw r1 (by cases d <;> first | rfl | cases hs) (fun l c => by subst c; cases hs), kit_ty q, post G1 H1 a1 (Ext.refl _) _ (.bl b)⟩
  · cases hz

/-! ### is True -/
def dIsB (neg : Bool) : D → D → Option D
  | .bl a, .bl b => some (.bl (if neg then !decide (a = b) else decide (a = b)))
  | _, _ => none
theorem snd_isB {K : PySem.W.Frag} {neg : Bool} : Snd2 K (dIsB neg) (if neg then rNotB else rIsB) := fun B G H δ σ x y a b d Q at' rx ry h k => by
  cases rx with
  | bl i =>
    cases ry with
    | bl j =>
      cases h
      cases neg
      · exact ⟨i, j, rfl, rfl, k _ G H at' (Ext.refl _) (.bl _)⟩
      · exact ⟨i, j, rfl, rfl, k _ G H at' (Ext.refl _) (.bl _)⟩
    | _ => cases h
  | _ => cases h
theorem de_isB (ha : DE X W a Ea) (hb : DE X W b Eb) : DE X W (.Compare a [.Is] [b] pos) (eBin (dIsB false) Ea Eb) := de_cmp (r := rIsB) op_isBl (snd_isB (neg := false)) ha hb (nomark _)
theorem de_notB (ha : DE X W a Ea) (hb : DE X W b Eb) : DE X W (.Compare a [.IsNot] [b] pos) (eBin (dIsB true) Ea Eb) := de_cmp (r := rNotB) op_notBl (snd_isB (neg := true)) ha hb (nomark _)
theorem dt_isB (ha : DE X W a Ea) (hb : DE X W b Eb) : DT X W (.Compare a [.Is] [b] pos) (eB (eBin (dIsB false) Ea Eb)) := dt_cmp (r := rIsB) op_isBl (snd_isB (neg := false)) ha hb (nomark _)
theorem dt_notB (ha : DE X W a Ea) (hb : DE X W b Eb) : DT X W (.Compare a [.IsNot] [b] pos) (eB (eBin (dIsB true) Ea Eb)) := dt_cmp (r := rNotB) op_notBl (snd_isB (neg := true)) ha hb (nomark _)
end
end M

set_option Elab.async false
set_option linter.all false
set_option maxRecDepth 100000
/-! Part L: dict comprehensions with keys ints and texts. -/
namespace M
open PySem L2 PySem.Spec PyProof.Rows
def dcM (T : D → Mo Unit) (C : Mo Bool) (Ek Ev : Mo D) (vs : List Nat) : List D → List (Key × D) → Mo D
  | [], acc => fun δ => some (.ok (.dK acc), δ)
  | d :: ds, acc => fun δ => match T d δ with
    | some (.ok (), δ1) => match C δ1 with
      | some (.ok true, δ2) => match Ek δ2 with
        | some (.ok k, δ3) => match Ev δ3 with
          | some (.ok v, δ4) => match keyK k with
            | some kk => dcM T C Ek Ev vs ds (putA acc kk v) (wipeE δ4 vs)
            | none => none
          | _ => none
        | _ => none
      | some (.ok false, δ2) => dcM T C Ek Ev vs ds acc (wipeE δ2 vs)
      | _ => none
    | _ => none
def eDc (I : Mo (List D)) (T : D → Mo Unit) (C : Mo Bool) (Ek Ev : Mo D) (vs : List Nat) : Mo D := I.bind fun ds => fun δ => if ds.length < sizeLine then dcM T C Ek Ev vs ds [] (wipeE δ vs) else none
section
variable {K : PySem.W.Frag} {W : WK} {I : Mo (List D)} {sl vs : List Nat} {T : D → Mo Unit} {C : Mo Bool} {E Ek Ev : Mo D} {σ : St} {H : Hp} {Q : VK}
theorem kvp_mono {G G' : Hp} (e : Ext G G') {kvs : List (Key × V)} {ds : List (Key × D)} (h : KVP K G kvs ds) : KVP K G' kvs ds := Paired.mapP h fun _ _ z => ⟨z.1, z.2.mono e⟩
theorem kvp_len {G : Hp} {kvs : List (Key × V)} {ds : List (Key × D)} (h : KVP K G kvs ds) : kvs.length = ds.length := Paired.length h
theorem tDc_ok (hsl : ∀ j ∈ sl, j ∈ vs) (q : tO K W (eDc I T C Ek Ev vs) σ H Q) : tDc (tI K W I) (tG K sl T) (tT K W0 C) (tE K W0 Ek) (tE K W0 Ev) vs σ H Q := by
  obtain ⟨B, G, δ, r, δ', a, e1, post⟩ := q
  refine tI_bind a e1 post fun J H1 G1 δ1 ds a1 x1 yl e2 post D1 hD => ?_
  split at e2
  · rename_i hlen
    have b0 := a1.fresh0 hD
    have ot := a1.out1 b0 (a1.vw.none hD)
    refine ⟨fun i m H2 => m + i = ds.length ∧ ∃ G2 δ2 acc xs, At K B G2 δ2 (wipe σ vs) H2 ∧ Ext G1 G2 ∧ H2 D1 = some (.dK xs) ∧ KVP K G2 xs acc ∧ xs.length ≤ i ∧ G2 D1 = none ∧ (∀ j, ¬ OwnAt δ2 (wipe σ vs) j D1) ∧ (∀ j ∈ vs, ∀ s, δ2[j]? = some s → s = .no) ∧ dcM T C Ek Ev vs (ds.drop i) acc δ2 = some (r, δ'),
      ⟨ds.length, by omega, G1, wipeE δ1 vs, [], [], (a1.alloc hD).wipe vs, Ext.refl _, upd_same, .nil, Nat.zero_le _, a1.vw.none hD, (a1.wipe vs).noOwn hD, wipeE_no, e2⟩, ?_⟩
    rintro i m H2 ⟨hm, G2, δ2, acc, xs, a2, x2, hx, rx, hxl, g2, no2, hno, e3⟩
    by_cases hi : ds.length ≤ i
    · refine .inl ⟨(yl B G2 H2 δ2 _ (BLe.refl B) a2 x2 i).2 hi, ?_⟩
      rw [List.drop_eq_nil_of_le hi] at e3
      cases e3
      have a3 := a2.unwipe hno
      refine post G2 H2 a3 x2 D1 ⟨g2, b0, fun j z => ?_, .dK hx (by omega) (kvp_keys rx) (kvp_vals rx)⟩
      obtain ⟨⟨d, z1⟩, z2⟩ := z
      by_cases c : j ∈ vs
      · rcases z1 with z1 | z1
        · cases hno j c _ z1
        · cases hno j c _ z1
      · exact no2 j ⟨⟨d, z1⟩, by rw [wipe_out c]; exact z2⟩
    · have hlt : i < ds.length := by omega
      have a2' := a2.add hx g2 no2
      obtain ⟨y1, _⟩ := yl (B.add D1 (.dK xs)) G2 H2 δ2 _ (BLe.add b0) a2' x2 i
      obtain ⟨gg1, gg2⟩ := y1 ds[i] (List.getElem?_eq_getElem hlt)
      rw [List.drop_eq_getElem_cons hlt] at e3
      refine .inr ⟨gg1, fun H' => ∃ m', m' < m ∧ (m' + (i + 1) = ds.length ∧ ∃ G2 δ2 acc xs, At K B G2 δ2 (wipe σ vs) H' ∧ Ext G1 G2 ∧ H' D1 = some (.dK xs) ∧ KVP K G2 xs acc ∧ xs.length ≤ i + 1 ∧ G2 D1 = none ∧ (∀ j, ¬ OwnAt δ2 (wipe σ vs) j D1) ∧ (∀ j ∈ vs, ∀ s, δ2[j]? = some s → s = .no) ∧ dcM T C Ek Ev vs (ds.drop (i + 1)) acc δ2 = some (r, δ')), fun H' z => z, fun x H' hy => ?_⟩
      obtain ⟨rfl, G3, a3, x3, r3⟩ := gg2 x H' hy
      unfold dcM at e3
      cases q : T ds[i] δ2 with
      | none => simp only [q] at e3; cases e3
      | some z =>
        obtain ⟨u, δ3⟩ := z
        cases u with
        | error u => simp only [q] at e3; cases e3
        | ok u =>
          simp only [q] at e3
          refine ⟨B.add D1 (.dK xs), G3, δ2, ds[i], δ3, a3, r3, q, fun σ4 a4 oa => ?_⟩
          have hw : wipe σ4 vs = wipe σ vs := wipe_eq (oa.1.trans (wipe_length _ _)) fun j hj => oa.2 j fun c => hj (hsl j c)
          refine ⟨hw, ?_⟩
          have fin : ∀ {G5 H5 δ5 ys acc'}, At K (B.add D1 (.dK xs)) G5 δ5 σ4 H5 → Ext G3 G5 → KVP K G5 ys acc' → ys.length ≤ i + 1 → dcM T C Ek Ev vs (ds.drop (i + 1)) acc' (wipeE δ5 vs) = some (r, δ') → ∃ m', m' < m ∧ (m' + (i + 1) = ds.length ∧ ∃ G2 δ2 acc xs, At K B G2 δ2 (wipe σ vs) (upd H5 D1 (.dK ys)) ∧ Ext G1 G2 ∧ (upd H5 D1 (.dK ys)) D1 = some (.dK xs) ∧ KVP K G2 xs acc ∧ xs.length ≤ i + 1 ∧ G2 D1 = none ∧ (∀ j, ¬ OwnAt δ2 (wipe σ vs) j D1) ∧ (∀ j ∈ vs, ∀ s, δ2[j]? = some s → s = .no) ∧ dcM T C Ek Ev vs (ds.drop (i + 1)) acc δ2 = some (r, δ')) := fun {G5 H5 δ5 ys acc'} a5 x5 r5 l5 e5 => by
            obtain ⟨h1, h2, h3, h4⟩ := (a5.wipe' hw).drop ot dk_notup
            exact ⟨m - 1, by omega, by omega, G5, wipeE δ5 vs, acc', ys, h4 _, (x2.trans x3).trans x5, upd_same, r5, l5, h2, h3, wipeE_no, e5⟩
          cases qc : C δ3 with
          | none => simp only [qc] at e3; cases e3
          | some z =>
            obtain ⟨u, δ4⟩ := z
            cases u with
            | error u => simp only [qc] at e3; cases e3
            | ok b =>
              refine ⟨_, G3, δ3, .ok b, δ4, a4, qc, fun G4 H4 a5 x5 => ?_⟩
              cases b with
              | false =>
                simp only [qc] at e3
                rw [if_neg Bool.false_ne_true]
                have f := fin a5 x5 (kvp_mono (x3.trans x5) rx) (by omega) e3
                have hk := (a5.drop ot dk_notup).1
                have : upd H4 D1 (.dK xs) = H4 := by
                  funext b; by_cases c : b = D1
                  · subst c; rw [upd_same, hk]
                  · rw [upd_ne c]
                rw [this] at f; exact f
              | true =>
                simp only [qc] at e3
                rw [if_pos rfl]
                cases qe : Ek δ4 with
                | none => simp only [qe] at e3; cases e3
                | some z =>
                  obtain ⟨u, δ5⟩ := z
                  cases u with
                  | error u => simp only [qe] at e3; cases e3
                  | ok kd =>
                    simp only [qe] at e3
                    refine ⟨_, G4, δ4, .ok kd, δ5, a5, qe, fun G6 H6 a6 x6 y ry => ?_⟩
                    cases qv : Ev δ5 with
                    | none => simp only [qv] at e3; cases e3
                    | some z =>
                      obtain ⟨u, δ6⟩ := z
                      cases u with
                      | error u => simp only [qv] at e3; cases e3
                      | ok vd =>
                        simp only [qv] at e3
                        cases qk : keyK kd with
                        | none => simp only [qk] at e3; cases e3
                        | some kk =>
                          simp only [qk] at e3
                          refine ⟨_, G6, δ5, .ok vd, δ6, a6, qv, fun G7 H7 a7 x7 v rv => ?_⟩
                          refine ⟨xs, kk, keyK_ok ry qk, (a7.drop ot dk_notup).1, by omega, ?_⟩
                          have := length_putK xs kk v
                          exact fin a7 (x5.trans (x6.trans x7)) (kvp_put (kvp_mono (x3.trans (x5.trans (x6.trans x7))) rx) kk rv) (by omega) e3
  · cases e2
end
section
variable {X : Cx} {W : WK} {kx vx tg iter : Expr} {ifs : List Expr} {scope : Scope} {own : List (Str × Nat)} {pos : Pos} {I : Mo (List D)} {sl : List Nat} {T : D → Mo Unit} {C : Mo Bool} {Ek Ev : Mo D}
theorem do_dc (hc : X.calm = true) (hN : X.N.Nodup) (hi : DI X W tg iter I) (ok : BlkOk X.N X.env.scope scope own) (hsl : ∀ j ∈ sl, j ∈ own.map (·.2))
    (hg : ∀ (s : Shared) (H : Hp) (Ca : Addr) (cl : List (Str × Addr)) (fp : List Addr), DG (X.blk s H scope (compEnvC scope cl Ca X.env) fp) tg sl T) (ht : ∀ (s : Shared) (H : Hp) (Ca : Addr) (cl : List (Str × Addr)) (fp : List Addr), DTs (X.blk s H scope (compEnvC scope cl Ca X.env) fp) W0 ifs C)
    (hk : ∀ (s : Shared) (H : Hp) (Ca : Addr) (cl : List (Str × Addr)) (fp : List Addr), DE (X.blk s H scope (compEnvC scope cl Ca X.env) fp) W0 kx Ek)
    (he : ∀ (s : Shared) (H : Hp) (Ca : Addr) (cl : List (Str × Addr)) (fp : List Addr), DE (X.blk s H scope (compEnvC scope cl Ca X.env) fp) W0 vx Ev) (hs : ∀ x, foldedSetIterable iter X.env x = pure x := by intro _; rfl) :
    DO X W (.DictComp kx vx [⟨tg, iter, ifs, 0⟩] scope pos) (eDc I T C Ek Ev (own.map (·.2))) :=
  PE.weak (pe_dc (g := tG X.K sl T) (tt := tT X.K W0 C) (tk := tE X.K W0 Ek) (tv := tE X.K W0 Ev) hc hN hi ok hg ht hk he hs) fun σ H Q q => tDc_ok hsl q
/-- name = {k: v for ..}: the name is stored by the comprehension itself -/
theorem ps_setDc {i : Nat} {y : Str} {py spos : Pos} {wi : TI} {g : TG} {tt : TT} {tk tv : TE} (hc : X.calm = true) (hN : X.N.Nodup) (hy : X.N[i]? = some y) (hyl : X.env.scope.names.lookup y = some .local)
    (hsw : swapsWith (.DictComp kx vx [⟨tg, iter, ifs, 0⟩] scope pos) (some (.Name y py)) spos.line X.env = pure true) (hi : PI X tg iter wi) (ok : BlkOk X.N X.env.scope scope own)
    (hg : ∀ (s : Shared) (H : Hp) (Ca : Addr) (cl : List (Str × Addr)) (fp : List Addr), PG (X.blk s H scope (compEnvC scope cl Ca X.env) fp) tg g) (ht : ∀ (s : Shared) (H : Hp) (Ca : Addr) (cl : List (Str × Addr)) (fp : List Addr), PTs (X.blk s H scope (compEnvC scope cl Ca X.env) fp) ifs tt)
    (hk : ∀ (s : Shared) (H : Hp) (Ca : Addr) (cl : List (Str × Addr)) (fp : List Addr), PE (X.blk s H scope (compEnvC scope cl Ca X.env) fp) kx tk)
    (he : ∀ (s : Shared) (H : Hp) (Ca : Addr) (cl : List (Str × Addr)) (fp : List Addr), PE (X.blk s H scope (compEnvC scope cl Ca X.env) fp) vx tv) (hs : ∀ x, foldedSetIterable iter X.env x = pure x) :
    PS X (.Assign [.Name y py] (.DictComp kx vx [⟨tg, iter, ifs, 0⟩] scope pos) spos) (tAsg (tDc wi g tt tk tv (own.map (·.2))) (gName i)) := by
  constructor
  intro pins s σ H Dn I q0
  rw [exec_Assign_Name_used _ _ _ _ hsw]
  refine wpAny_bind (wpAny_standAt (wpAny_bind ?_))
  show wpAny _ X.A (do
    let _ ← comprehension (.DictComp kx vx [⟨tg, iter, ifs, 0⟩] scope pos) scope X.env (firstIterPos [⟨tg, iter, ifs, 0⟩] pos) newDict false (eval iter X.env) (some (assign (.Name y py) X.env))) _ _ s
  have q1 : tDc wi g tt tk tv (own.map (·.2)) σ H (fun x H1 => gName i x σ H1 Dn.nx) := q0
  refine wpAny_bind (thn (dc_core (Qf := fun _ s' => SP X pins Dn .next s') hc hN I hi ok hg ht hk he hs q1 fun L C s' m H' I' q hn fp => ?_) fun _ s' hq => wpAny_pure (wpAny_pure hq))
  show wpAny _ _ (assign (.Name y py) X.env (.ref L)) _ _ _
  refine wpAny_assign_Name (store_ok2 (v := V.ref L) I' hN hy (.inl hyl) rfl (fun s2 I2 z => ?_) (.inr hyl))
  obtain ⟨b, sb, hb⟩ := z
  obtain ⟨f0, f1, f2, f3, f4, f5⟩ := fp
  have ne : C ≠ b := by
    rcases hb with w | w
    · rw [w]; exact f1
    · exact fun e => f4 y b w e.symm
  exact ⟨m, hn.sameBut sb ne, fun h3 sb3 => ⟨_, H', I2.turned (t' := s2.toks) (fun c o hc e => (sb3.2 c hc).trans e) f0 f1 f3 f4 f5, q⟩⟩
theorem sw_trueD {y : Str} {py : Pos} {gs : List Comprehension} {l : Nat} {env : PySem.Env} (hk : env.scope.kind = .function) (hy : env.scope.names.lookup y = some .local) (hl : (py.line == pos.line) = true)
    (ha : (scope.names.any fun (n, k) => n == y && (k == .local || k == .cell)) = false) : swapsWith (.DictComp kx vx gs scope pos) (some (.Name y py)) l env = pure true := by
  have h1 : env.kindOf y = some .local := hy
  have h2 : env.blockKind = .function := by unfold PySem.Env.blockKind; rw [hk]; rfl
  unfold swapsWith
  simp only [h2, h1, ha, Expr.pos, hl]
  rfl
theorem tAsgF_ok {K : PySem.W.Frag} {E : Mo D} {t : TE} {i : Nat} {Dn : Ends} {σ : St} {H : Hp} (ht : ∀ Q, tE K W E σ H Q → t σ H Q) (q : tS K W (sAsg (gN i) E) Dn σ H) : tAsg t (gName i) Dn σ H := by
  obtain ⟨B, G, δ, r, δ', a, e1, post⟩ := q
  refine ht _ (tE_bindS a e1 post fun v H1 G1 δ1 d a1 x1 r1 e2 post => ?_)
  rcases unit_bind e2 with ⟨q, rfl⟩ | ⟨x, q, rfl⟩
  · unfold gN at q
    split at q
    · cases q
      exact post G1 _ H1 (a1.setImm r1 i) (Ext.refl _)
    · cases q
  · exact absurd q (calm_N _ _ _ _)
/-- a new object's rule gives data as well -/
theorem tO_of_tE {K : PySem.W.Frag} {E : Mo D} {σ : St} {H : Hp} {Q : VK} (q : tE K W E σ H Q) : tO K W E σ H Q := by
  obtain ⟨B, G, δ, r, δ', a, e1, post⟩ := q
  refine ⟨B, G, δ, r, δ', a, e1, ?_⟩
  cases r with
  | error x => exact post
  | ok d =>
    rintro G' H' a' ex p ⟨h1, h2, h3, h4⟩
    obtain ⟨o, q1, _, q2⟩ := h4.obj
    exact post (upd G' p o) H' (a'.fix q1 h1 h2 h3) (ex.trans (Ext.new h1)) (.ref p) (q2 _ upd_same (Ext.new h1))
theorem ds_setDcO {i : Nat} {y : Str} {py spos : Pos} (hc : X.calm = true) (hN : X.N.Nodup) (hy : X.N[i]? = some y) (hyl : X.env.scope.names.lookup y = some .local)
    (hsw : swapsWith (.DictComp kx vx [⟨tg, iter, ifs, 0⟩] scope pos) (some (.Name y py)) spos.line X.env = pure true) (hi : DI X W tg iter I) (ok : BlkOk X.N X.env.scope scope own) (hsl : ∀ j ∈ sl, j ∈ own.map (·.2))
    (hg : ∀ (s : Shared) (H : Hp) (Ca : Addr) (cl : List (Str × Addr)) (fp : List Addr), DG (X.blk s H scope (compEnvC scope cl Ca X.env) fp) tg sl T) (ht : ∀ (s : Shared) (H : Hp) (Ca : Addr) (cl : List (Str × Addr)) (fp : List Addr), DTs (X.blk s H scope (compEnvC scope cl Ca X.env) fp) W0 ifs C)
    (hk : ∀ (s : Shared) (H : Hp) (Ca : Addr) (cl : List (Str × Addr)) (fp : List Addr), DE (X.blk s H scope (compEnvC scope cl Ca X.env) fp) W0 kx Ek)
    (he : ∀ (s : Shared) (H : Hp) (Ca : Addr) (cl : List (Str × Addr)) (fp : List Addr), DE (X.blk s H scope (compEnvC scope cl Ca X.env) fp) W0 vx Ev) (hs : ∀ x, foldedSetIterable iter X.env x = pure x) :
    DS X W (.Assign [.Name y py] (.DictComp kx vx [⟨tg, iter, ifs, 0⟩] scope pos) spos) (sAsgO i (eDc I T C Ek Ev (own.map (·.2)))) :=
  PS.weak (ps_setDc (g := tG X.K sl T) (tt := tT X.K W0 C) (tk := tE X.K W0 Ek) (tv := tE X.K W0 Ev) hc hN hy hyl hsw hi ok hg ht hk he hs) fun Dn σ H q => tAsgO_ok (fun Q z => tDc_ok hsl z) q
end
end M

set_option Elab.async false
set_option linter.all false
set_option maxRecDepth 100000
set_option maxHeartbeats 4000000
/-! Part N: set(list of ints), and its sorted list. -/
namespace M
open PySem L2 PySem.Spec PyProof.Rows
/-- the new, empty set -/
abbrev eSet (w : World) : Obj := ⟨.type "set", none, .set #[] 0 (.fresh 0 0 (!w.params.followText "set-order")), #[]⟩
section
variable {P : Program} {w : World} {A : PySem.Around} {E : Value → Shared → Prop} {s : Shared}
theorem set_of_list {p : Addr} {its : Array Value} (ns : List Int) {Q : Value → Shared → Prop} (ha : A.handled = none) (hp : s.heap.IsList p its) (hi : IntsAre its.toList ns) (hb : ns.length + 1 < scanBound)
    (k : ∀ (h' : Heap) (tk c : Nat), SetR w h' s.heap.objs.size (fun j => decide (j ∈ ns)) c → c ≤ ns.length → (∀ b o, s.heap.get? b = some o → h'.get? b = some o) → Q (.ref s.heap.objs.size) { s with heap := h', toks := tk }) : wpAny (model P w) A (call (.type "set") [.ref p]) Q E s := by
  have size_its : its.size = ns.length := (Array.length_toList (xs := its)).symm.trans (IntsAre.length hi)
  obtain ⟨c0, tl0, mro0⟩ := F.called_set.mro
  have made0 := F.called_set.made
  have sub0 := F.called_set.sub
  refine wpAny_call (codeAny_of_tree ?_)
  show wpAny _ _ (callAny (.type "set") _) _ _ _
  refine wpAny_pure ⟨Code.quiet_builtin _ (by decide +kernel), codeAny_builtin F.entry_type_call ?_⟩
  rw [Around.under_plain (weight_type_call_type "set" [.ref p] []) rfl]
  have nt0 := F.called_set.notType
  have cc0 := F.called_set.canCreate
  have ct0 := F.typeCall_set_1 (.ref p)
  repeat (any_goals (first | assumption | wp_step))
  have new0 : codeAny (model P w) A.in1 (.call (.builtin "set.__new__") ⟨[.type "set", .ref p], []⟩) (wants (fun ob s1 => ob = .ref s.heap.objs.size ∧ s1 = { s with heap := s.heap.push (eSet w) }) E) s := code_set_led1 (.ref p) ⟨rfl, rfl⟩
  refine codeAny_mono new0 fun r s1 hr => ?_
  cases r with
  | error e => exact hr
  | ok fl =>
    cases fl with
    | ret ob =>
      obtain ⟨rfl, rfl⟩ := hr
      have there : (s.heap.push (eSet w)).get? s.heap.objs.size = some (eSet w) := Heap.get?_push_size _ rfl
      have isSet0 : Shared.TypeIs { s with heap := s.heap.push (eSet w) } (.ref s.heap.objs.size) "set" := ⟨_, there, rfl⟩
      have look0 := F.called_set.init.lookup
      have bind0 := F.called_set.init.bind (.ref s.heap.objs.size)
      repeat (any_goals (first | assumption | wp_step))
      refine codeAny_mono (codeAny_call_builtin (R := wants (fun r s2 => r = .none ∧ ∃ h' tk c, s2 = { s with heap := h', toks := tk } ∧ SetR w h' s.heap.objs.size (fun j => decide (j ∈ ns)) c ∧ c ≤ ns.length ∧ ∀ b o, s.heap.get? b = some o → h'.get? b = some o) E) F.called_set.init.plain F.entry_set_init (check_set_init_1 isSet0 ?_)) fun r2 s2 hr2 => ?_
      · have hp1 : (s.heap.push (eSet w)).IsList p its := hp.push _
        have lt0 : p < s.heap.objs.size := by obtain ⟨_, e, _⟩ := hp; exact Heap.lt_size e
        obtain ⟨ol, hol, hcl, nl, hdl⟩ := id hp1
        obtain ⟨ocls, odict, odata, oslots⟩ := ol
        simp only at hcl hdl
        subst hcl; subst hdl
        have no1 := PySem.F.sub_list_set
        have no2 := PySem.F.sub_list_frozenset
        have no3 : (Value.type "list" == Value.type "dict") = false := by decide
        unfold Builtin.«set.__init__» noKeywords Builtin.Frozenset.updateFrom
        generalize hPI : pyIter = PI
        wp_walk
        subst hPI
        refine wpAny_pyIter_list hp1 ?_
        refine wpAny_bind (wpAny_runValue ?_)
        have calm0 : A.in1.in1.in1.handled = none := by simp [ha]
        have sz1 : (s.heap.push (eSet w)).objs.size = s.heap.objs.size + 1 := Heap.size_push ..
        have apart1 : p ≠ (s.heap.push (eSet w)).objs.size := by rw [sz1]; exact Nat.ne_of_lt (Nat.lt_succ_of_lt lt0)
        have apart2 : s.heap.objs.size ∉ [(s.heap.push (eSet w)).objs.size, p] := by
          rw [sz1]
          intro m
          rcases List.mem_cons.mp m with e | m
          · omega
          · exact Nat.ne_of_gt lt0 (List.mem_singleton.mp m)
        have vals : ∀ (i : Nat) (v : Value), its[i]? = some v → ∃ z t, ns[i]? = some z ∧ v = .int z t := fun i v hv => by
          have lt1 : i < ns.length := by rw [← size_its]; exact (Array.getElem?_eq_some_iff.mp hv).1
          obtain ⟨t, e⟩ := PyProof.Rows.IntsAre.int_at hi i v (by rw [Array.getElem?_toList]; exact hv)
          exact ⟨ns[i], t, List.getElem?_eq_getElem lt1, by rw [e, List.getD_eq_getElem?_getD, List.getElem?_eq_getElem lt1]; rfl⟩
        refine set_update_ints ((Walks.list calm0 _ p apart1 its).toS) s.heap.objs.size apart2 ns size_its hb vals (its.size - 0) 0 _ (by omega) (Nat.zero_le _) ⟨⟨_, Heap.get?_push_size _ rfl, rfl, rfl⟩, hp1.push _⟩ ?first ?last
        case first => exact ⟨0, Nat.le_refl 0, setR_new_at (Heap.get?_push_of_some _ there)⟩
        case last =>
          rintro ⟨h', g2, d', tk', os'⟩ c' mv hc' hS'
          have eg : g2 = s.gens := mv.gens
          have ed : d' = s.drawn := mv.drawn
          have eo : os' = s.os := mv.os
          subst eg ed eo
          show wpAny _ _ _ _ _ _
          refine wpAny_pure ?_
          show wpAny _ _ (ret Value.none) _ _ _
          rw [size_its] at hc'
          refine wpAny_pure ⟨rfl, h', tk', c', rfl, hS', hc', fun b o e => ?_⟩
          have lt2 : b < s.heap.objs.size := Heap.lt_size e
          refine mv.heap b o (fun m => ?_) (Heap.get?_push_of_some _ (Heap.get?_push_of_some _ e))
          rcases List.mem_cons.mp m with z | m
          · exact Nat.ne_of_lt lt2 z
          · have e1 := List.mem_singleton.mp m
            rw [sz1] at e1
            exact Nat.ne_of_lt (Nat.lt_succ_of_lt lt2) e1
      · cases r2 with
        | error e => exact hr2
        | ok fl2 =>
          cases fl2 with
          | ret r =>
            obtain ⟨rfl, h', tk, c', rfl, hS', hc', hk'⟩ := hr2
            repeat (any_goals (first | assumption | wp_step))
            exact k _ _ _ hS' hc' hk'
          | _ => exact hr2.elim
    | _ => exact hr.elim
end
section
variable {X : Cx} {W : WK} {e : Expr} {x y : Str} {p p2 pos pos2 : Pos} {A : Mo (List Ag)}
def rSetL (K : PySem.W.Frag) (w : World) : List V → Hp → VK → Prop := fun xs H Q => ∃ (a : Addr) (ns : List Int), xs = [V.ref a] ∧ SqL K H a (ns.map V.int) ∧ ns.length ≤ 1000 ∧ ∀ (q : Addr) (c : Nat), H q = none → c ≤ ns.length → Q (.ref q) (upd H q (SetO w q (fun j => decide (j ∈ ns)) c))
theorem call_setL (hc : X.calm = true) : CallR X (.type "set") (rSetL X.K X.w) := by
  rintro pins s σ H xs us Q I r ⟨a, ns, rfl, hs, hl, q⟩
  obtain ⟨its, rv, li, _⟩ := I.list hs
  rw [Vals.ref1 r]
  refine set_of_list ns (I.ok.hd hc) li.isList (ints_of_vals rv) (by unfold scanBound; omega) fun h' tk c new hcn kept => ?_
  exact ⟨.ref _, upd H s.heap.objs.size (SetO X.w s.heap.objs.size (fun j => decide (j ∈ ns)) c), I.laid kept (Nat.le_refl _) (setO_new new), rfl, q _ c (I.hok.fresh (Nat.le_refl _)) hcn⟩
def onceI : List Int → List Int
  | [] => []
  | x :: l => if x ∈ onceI l then onceI l else x :: onceI l
theorem once_mem {k : Int} : ∀ {l : List Int}, k ∈ onceI l ↔ k ∈ l
  | [] => Iff.rfl
  | x :: l => by
    unfold onceI
    have ih := once_mem (k := k) (l := l)
    split
    · rename_i h
      rw [ih, List.mem_cons]
      refine ⟨.inr, fun z => ?_⟩
      rcases z with rfl | z
      · exact once_mem.mp h
      · exact z
    · rw [List.mem_cons, List.mem_cons, ih]
theorem once_nodup : ∀ {l : List Int}, (onceI l).Nodup
  | [] => List.nodup_nil
  | x :: l => by
    unfold onceI
    split
    · exact once_nodup
    · rename_i h; exact List.nodup_cons.mpr ⟨h, once_nodup⟩
def sortSet (ns : List Int) : List Int := sortI (onceI ns)
theorem sortSet_uniq {ns ys : List Int} (h1 : ys.Pairwise (· < ·)) (h2 : ∀ k, k ∈ ys ↔ k ∈ ns) : ys = sortSet ns := by
  have nd : ys.Nodup := h1.imp fun h => by omega
  have hp : ys.Perm (onceI ns) := (List.perm_ext_iff_of_nodup nd once_nodup).mpr fun k => by rw [h2, once_mem]
  exact sortI_uniq (hp.trans (sortI_perm _).symm) (h1.imp fun h => by omega) (sortI_sorted _)
def fSortSet : List D → Option D
  | [.lst l] => (intsD l).bind fun ns => if ns.length < 64 then some (.lst ((sortSet ns).map D.int)) else none
  | _ => none
theorem setO_notup {w : World} {a : Addr} {S : Int → Bool} {n : Nat} : ∀ ys, SetO w a S n ≠ .tup ys := fun ys e => by cases e
theorem do_sortSet (hc : X.calm = true) (hg : Gl X x) (hm : X.mg x = none) (hv : bootBuiltins x = some (.builtin "sorted")) (hg2 : Gl X y) (hm2 : X.mg y = none) (hv2 : bootBuiltins y = some (.type "set")) (ha : DA X W [e] A)
    (hn : x ≠ "__name__" := by decide) (hdb : (x == ("__debug__" : Str)) = false := by decide) (hn2 : y ≠ "__name__" := by decide) (hdb2 : (y == ("__debug__" : Str)) = false := by decide)
    (he : starEach [.Call (.Name y p2) [e] [] pos2] X.env = (false, eval (.Call (.Name y p2) [e] [] pos2) X.env) :: starEach [] X.env := by rfl) (he2 : starEach [e] X.env = (false, eval e X.env) :: starEach [] X.env := by rfl)
    (hpl : (backTo pos (starEach [] X.env)).any (·.1) = false := by rfl) (hpl2 : (backTo pos2 (starEach [] X.env)).any (·.1) = false := by rfl) :
    DO X W (.Call (.Name x p) [.Call (.Name y p2) [e] [] pos2] [] pos) (eF fSortSet A) :=
  PE.weak (pe_callB (cr_sortedSet hc) hg hm hv (pa_cons (pe_callTy (call_setL hc) hg2 hm2 hv2 ha hn2 hdb2 he2 hpl2) pa_nil he) hn hdb he hpl) fun σ H Q ⟨B, G, δ, r, δ', at', e1, post⟩ => by
  refine tA_bind at' e1 post fun vs H1 G1 δ1 as a1 x1 r1 e2 post => ?_
  obtain ⟨ds, d, h1, h2, rfl, rfl⟩ := eF_some e2
  have r2 := imms_ok r1 h1
  unfold fSortSet at h2
  split at h2
  · rename_i l
    obtain ⟨v, rfl, rv⟩ := rl1 r2
    cases rv with
    | lst g hl rl =>
      cases q : intsD l with
      | none => rw [q] at h2; cases h2
      | some ns =>
        rw [q, Option.bind_some] at h2
        split at h2
        · rename_i h64
          cases h2
          have hx := intsD_ok rl q
          subst hx
          refine ⟨_, ns, rfl, SqL.of (a1.vw.lst g), by omega, fun p0 c hp0 hcn => ?_⟩
          refine ⟨p0, _, c, rfl, upd_same, by omega, fun ys p1 hs1 hs2 hs3 hp1 => ?_⟩
          have ey : ys = sortSet ns := sortSet_uniq hs1 fun k => by rw [hs2]; exact decide_eq_true_iff
          have a2 := a1.alloc (o := SetO X.w p0 (fun j => decide (j ∈ ns)) c) hp0
          obtain ⟨b1, b2⟩ := a2.own1 (p := p1) (o := .lst (ys.map V.int)) hp1 (.lst upd_same (by rw [List.length_map, hs3]; exact small_line (by omega)) (rl_ints ys))
          rw [← ey] at post
          exact post G1 _ b1 (Ext.refl _) p1 b2
        · cases h2
  · cases h2
end
end M

set_option Elab.async false
set_option linter.all false
set_option maxRecDepth 100000
set_option maxHeartbeats 0
namespace M
open PySem L2 PySem.Spec PyProof.Rows
def top (i : Nat) : Stmt := PySem.Challenge.pw_laidviews_k25_great_nets.main.body.getD i (.Pass ⟨0, 0, 0, 0⟩)
structure Bi (mg : Str → Option Value) : Prop where
  abs : mg "abs" = none
  int : mg "int" = none
  len : mg "len" = none
  list : mg "list" = none
  min : mg "min" = none
  range : mg "range" = none
  set : mg "set" = none
  sorted : mg "sorted" = none
  sum : mg "sum" = none
section
variable {P : Program} {w : World} {K : PySem.W.Frag} {mg : Str → Option Value} {base : Heap} {f : Addr} {fd : FuncData}
abbrev s__law_draw : Stmt := top 14
noncomputable def b__law_draw : Mo Out :=
 (sSeq (sIf (eB (eBin dLe (eIxV 0 (eC (.int 2))) (eC (.int 0))))
 (sSeq (sAsg (gN 2) (eIxV 0 (eC (.int 1))))
 (sSeq (sSet 0 (eC (.int 1)) (eBin dAdd (eV 2) (eC (.int 1))))
 (sSeq (sAsg (gN 3) (eBin dAdd (eBin dMul (eV 2) (eC (.int 7919))) (eC (.int 13))))
 (sSeq (sIf (eB (eBin dLt (eV 2) (eF fLen (aCons (eIxV 0 (eC (.int 0))) aNil))))
 (sAsg (gN 3) (eIx (eIxV 0 (eC (.int 0))) (eV 2)))
 sNx)
 (sSeq (sIf (eB (eChain dLe dLt (eC (.int 0)) (eV 3) (eC (.int 1000000000000000000))))
 (sSeq (sAsg (gN 4) (eBin dMod (eF fInt (aCons (eBin dAdd (eBin dAdd (eBin dMul (eV 3) (eC (.int 48271))) (eBin dMul (eV 2) (eC (.int 69621)))) (eIxV 0 (eC (.int 3)))) aNil)) (eC (.int 2147483647))))
 (sSeq (sAsg (gN 5) (eBin dMod (eF fInt (aCons (eBin dAdd (eBin dAdd (eBin dMul (eV 4) (eC (.int 16807))) (eV 3)) (eC (.int 11))) aNil)) (eC (.int 2147483629))))
 (sSet 0 (eC (.int 2)) (eBin dAdd (eBin dMul (eV 4) (eC (.int 2147483629))) (eV 5)))))
 (sSet 0 (eC (.int 2)) (eF fAbs (aCons (eV 3) aNil))))
 (sSet 0 (eC (.int 3)) (eBin dMod (eF fInt (aCons (eBin dAdd (eBin dMul (eIxV 0 (eC (.int 3))) (eC (.int 31))) (eV 3)) aNil)) (eC (.int 1000003)))))))))
 sNx)
 (sSeq (sAsg (gN 6) (eBin dMod (eF fInt (aCons (eIxV 0 (eC (.int 2))) aNil)) (eV 1)))
 (sSeq (sSet 0 (eC (.int 2)) (eBin dDiv (eF fInt (aCons (eIxV 0 (eC (.int 2))) aNil)) (eV 1)))
 (sRet (eV 6)))))
noncomputable def m__law_draw : Mo D := fnM 7 2 b__law_draw
theorem sc__law_draw : FnScope ["_law_state", "_law_many", "_law_place", "_law_cell", "_law_one", "_law_two", "_law_taken"] ["_law_state", "_law_many"] (defScope s__law_draw) := ⟨rfl, rfl, rfl, by decide +kernel, rfl, by decide +kernel, by decide +kernel⟩
theorem nd__law_draw : List.Nodup (α := Str) ["_law_state", "_law_many", "_law_place", "_law_cell", "_law_one", "_law_two", "_law_taken"] := by decide +kernel
theorem ok__law_draw (F : Fun K "_law_draw" "_law_draw" s__law_draw f fd) (T : Bi mg)  : FnOk P w K mg base CX0 1 f fd ["_law_state", "_law_many"] (spM Wn K 2 false m__law_draw) :=
 fn_ok F sc__law_draw rfl fun cdv A outer s H E hr =>
 (dss_cons (ds_if (dt_le (de_ixV hr.u1 (pv 0) de_int (by intro _ _; rfl) (by intro _ _; rfl)) de_int)
 (dss_cons (ds_set nd__law_draw rfl (by first | exact Or.inl rfl | exact Or.inr rfl) (de_ixV hr.u1 (pv 0) de_int (by intro _ _; rfl) (by intro _ _; rfl)) (by rfl) (by first | exact Or.inl rfl | exact Or.inr rfl | assumption))
 (dss_cons (ds_sub hr.u1 (pv 0) de_int (de_add (de_v (pv 2)) de_int) (by rfl) (by rfl))
 (dss_cons (ds_set nd__law_draw rfl (by first | exact Or.inl rfl | exact Or.inr rfl) (de_add (de_mul (de_v (pv 2)) de_int) de_int) (by rfl) (by first | exact Or.inl rfl | exact Or.inr rfl | assumption))
 (dss_cons (ds_if (dt_lt (de_v (pv 2)) (de_len (by rfl) T.len bt_len (da_cons (de_ixV hr.u1 (pv 0) de_int (by intro _ _; rfl) (by intro _ _; rfl)) da_nil (by rfl)) (by decide) (by decide) (by rfl) (by rfl)))
 (dss_one (ds_set nd__law_draw rfl (by first | exact Or.inl rfl | exact Or.inr rfl) (de_ix hr.u1 (de_ixV hr.u1 (pv 0) de_int (by intro _ _; rfl) (by intro _ _; rfl)) (de_v (pv 2)) (by intro _ _; rfl) (by intro _ _; rfl)) (by rfl) (by first | exact Or.inl rfl | exact Or.inr rfl | assumption)))
 dss_nil)
 (dss_cons (ds_if (dt_chain opc_le opc_lt snd_cmp' snd_cmp' de_int (de_v (pv 3)) de_int (by with_unfolding_all rfl))
 (dss_cons (ds_set nd__law_draw rfl (by first | exact Or.inl rfl | exact Or.inr rfl) (de_mod (de_int1 (by rfl) T.int bt_int (da_cons (de_add (de_add (de_mul (de_v (pv 3)) de_int) (de_mul (de_v (pv 2)) de_int)) (de_ixV hr.u1 (pv 0) de_int (by intro _ _; rfl) (by intro _ _; rfl))) da_nil (by rfl)) (by decide) (by decide) (by rfl) (by rfl)) de_int) (by rfl) (by first | exact Or.inl rfl | exact Or.inr rfl | assumption))
 (dss_cons (ds_set nd__law_draw rfl (by first | exact Or.inl rfl | exact Or.inr rfl) (de_mod (de_int1 (by rfl) T.int bt_int (da_cons (de_add (de_add (de_mul (de_v (pv 4)) de_int) (de_v (pv 3))) de_int) da_nil (by rfl)) (by decide) (by decide) (by rfl) (by rfl)) de_int) (by rfl) (by first | exact Or.inl rfl | exact Or.inr rfl | assumption))
 (dss_one (ds_sub hr.u1 (pv 0) de_int (de_add (de_mul (de_v (pv 4)) de_int) (de_v (pv 5))) (by rfl) (by rfl)))))
 (dss_one (ds_sub hr.u1 (pv 0) de_int (de_abs (by rfl) T.abs bt_abs (da_cons (de_v (pv 3)) da_nil (by rfl)) (by decide) (by decide) (by rfl) (by rfl)) (by rfl) (by rfl))))
 (dss_one (ds_sub hr.u1 (pv 0) de_int (de_mod (de_int1 (by rfl) T.int bt_int (da_cons (de_add (de_mul (de_ixV hr.u1 (pv 0) de_int (by intro _ _; rfl) (by intro _ _; rfl)) de_int) (de_v (pv 3))) da_nil (by rfl)) (by decide) (by decide) (by rfl) (by rfl)) de_int) (by rfl) (by rfl))))))))
 dss_nil)
 (dss_cons (ds_set nd__law_draw rfl (by first | exact Or.inl rfl | exact Or.inr rfl) (de_mod (de_int1 (by rfl) T.int bt_int (da_cons (de_ixV hr.u1 (pv 0) de_int (by intro _ _; rfl) (by intro _ _; rfl)) da_nil (by rfl)) (by decide) (by decide) (by rfl) (by rfl)) (de_v (pv 1))) (by rfl) (by first | exact Or.inl rfl | exact Or.inr rfl | assumption))
 (dss_cons (ds_sub hr.u1 (pv 0) de_int (de_div (de_int1 (by rfl) T.int bt_int (da_cons (de_ixV hr.u1 (pv 0) de_int (by intro _ _; rfl) (by intro _ _; rfl)) da_nil (by rfl)) (by decide) (by decide) (by rfl) (by rfl)) (de_v (pv 1))) (by rfl) (by rfl))
 (dss_one (ds_ret (de_v (pv 6)))))))
abbrev s__law_grid : Stmt := top 20
noncomputable def b__law_grid : Mo Out :=
 (sSeq (sAsg (gN 1) (eBin dAdd (eC (.int 2)) (eCall m__law_draw (aVr 0 (aCons (eC (.int 3)) aNil)))))
 (sSeq (sAsg (gN 2) (eBin dAdd (eC (.int 2)) (eCall m__law_draw (aVr 0 (aCons (eC (.int 3)) aNil)))))
 (sSeq (sAsgO 3 (eLst aNil))
 (sSeq (sFor (iRg rg1 (aCons (eBin dMul (eV 1) (eV 2)) aNil)) (gN 4)
 (sSeq (sIf (eB (eBin dLt (eBin dMod (eF fInt (aCons (eV 4) aNil)) (eV 1)) (eBin dSub (eV 1) (eC (.int 1)))))
 (sApp 3 (eTup (aCons (eBin dAdd (eC (.int 2)) (eV 4)) (aCons (eBin dAdd (eC (.int 3)) (eV 4)) (aCons (eCall m__law_draw (aVr 0 (aCons (eC (.int 9)) aNil))) aNil)))))
 sNx)
 (sIf (eB (eBin dLt (eBin dAdd (eV 4) (eV 1)) (eBin dMul (eV 1) (eV 2))))
 (sApp 3 (eTup (aCons (eBin dAdd (eBin dAdd (eC (.int 2)) (eV 4)) (eV 1)) (aCons (eBin dAdd (eC (.int 2)) (eV 4)) (aCons (eCall m__law_draw (aVr 0 (aCons (eC (.int 9)) aNil))) aNil)))))
 sNx)))
 (sSeq (sFor (iRg rg1 (aCons (eV 2) aNil)) (gN 4)
 (sSeq (sApp 3 (eTup (aCons (eC (.int 0)) (aCons (eBin dAdd (eC (.int 2)) (eBin dMul (eV 4) (eV 1))) (aCons (eCall m__law_draw (aVr 0 (aCons (eC (.int 20)) aNil))) aNil)))))
 (sApp 3 (eTup (aCons (eC (.int 1)) (aCons (eBin dAdd (eC (.int 1)) (eBin dMul (eBin dAdd (eV 4) (eC (.int 1))) (eV 1))) (aCons (eCall m__law_draw (aVr 0 (aCons (eC (.int 20)) aNil))) aNil)))))))
 (sRet (eTup (aCons (eBin dAdd (eC (.int 2)) (eBin dMul (eV 1) (eV 2))) (aCons (eV 3) aNil)))))))))
noncomputable def m__law_grid : Mo D := fnM 5 1 b__law_grid
theorem sc__law_grid : FnScope ["_law_state", "_law_wide", "_law_high", "_law_edges", "_law_k"] ["_law_state"] (defScope s__law_grid) := ⟨rfl, rfl, rfl, by decide +kernel, rfl, by decide +kernel, by decide +kernel⟩
theorem nd__law_grid : List.Nodup (α := Str) ["_law_state", "_law_wide", "_law_high", "_law_edges", "_law_k"] := by decide +kernel
theorem ok__law_grid (F : Fun K "_law_grid" "_law_grid" s__law_grid f fd) (T : Bi mg) (C__law_draw : CalM P w K mg base 1 "_law_draw" 2 false m__law_draw) : FnOk P w K mg base CX0 2 f fd ["_law_state"] (spM Wn K 1 false m__law_grid) :=
 fn_ok F sc__law_grid rfl fun cdv A outer s H E hr =>
 (dss_cons (ds_set nd__law_grid rfl (by first | exact Or.inl rfl | exact Or.inr rfl) (de_add de_int (de_callC C__law_draw (hr.mono (by decide)) (by rfl) (alen_vr (alen_cons alen_nil)) (da_vr (pv 0) (da_cons de_int da_nil (by rfl)) (by rfl)) (by decide) (by rfl) (by rfl))) (by rfl) (by first | exact Or.inl rfl | exact Or.inr rfl | assumption))
 (dss_cons (ds_set nd__law_grid rfl (by first | exact Or.inl rfl | exact Or.inr rfl) (de_add de_int (de_callC C__law_draw (hr.mono (by decide)) (by rfl) (alen_vr (alen_cons alen_nil)) (da_vr (pv 0) (da_cons de_int da_nil (by rfl)) (by rfl)) (by decide) (by rfl) (by rfl))) (by rfl) (by first | exact Or.inl rfl | exact Or.inr rfl | assumption))
 (dss_cons (ds_setO nd__law_grid rfl (by first | exact Or.inl rfl | exact Or.inr rfl) (do_lst da_nil) (by rfl) (by first | exact Or.inl rfl | exact Or.inr rfl | assumption))
 (dss_cons (ds_for PassesOwn.never rfl calm_N (di_rg1 (by rfl) T.range (da_cons (de_mul (de_v (pv 1)) (de_v (pv 2))) da_nil (by rfl)) (by rfl)) (dg_name nd__law_grid rfl (by first | exact Or.inl rfl | exact Or.inr rfl) (by first | exact Or.inl rfl | exact Or.inr rfl | assumption))
 (dss_cons (ds_if (dt_lt (de_mod (de_int1 (by rfl) T.int bt_int (da_cons (de_v (pv 4)) da_nil (by rfl)) (by decide) (by decide) (by rfl) (by rfl)) (de_v (pv 1))) (de_sub (de_v (pv 1)) de_int))
 (dss_one (ds_app (pv 3) (de_tup (da_cons (de_add de_int (de_v (pv 4))) (da_cons (de_add de_int (de_v (pv 4))) (da_cons (de_callC C__law_draw (hr.mono (by decide)) (by rfl) (alen_vr (alen_cons alen_nil)) (da_vr (pv 0) (da_cons de_int da_nil (by rfl)) (by rfl)) (by decide) (by rfl) (by rfl)) da_nil (by rfl)) (by rfl)) (by rfl))) (by rfl)))
 dss_nil)
 (dss_one (ds_if (dt_lt (de_add (de_v (pv 4)) (de_v (pv 1))) (de_mul (de_v (pv 1)) (de_v (pv 2))))
 (dss_one (ds_app (pv 3) (de_tup (da_cons (de_add (de_add de_int (de_v (pv 4))) (de_v (pv 1))) (da_cons (de_add de_int (de_v (pv 4))) (da_cons (de_callC C__law_draw (hr.mono (by decide)) (by rfl) (alen_vr (alen_cons alen_nil)) (da_vr (pv 0) (da_cons de_int da_nil (by rfl)) (by rfl)) (by decide) (by rfl) (by rfl)) da_nil (by rfl)) (by rfl)) (by rfl))) (by rfl)))
 dss_nil))) (by intro _; rfl))
 (dss_cons (ds_for PassesOwn.never rfl calm_N (di_rg1 (by rfl) T.range (da_cons (de_v (pv 2)) da_nil (by rfl)) (by rfl)) (dg_name nd__law_grid rfl (by first | exact Or.inl rfl | exact Or.inr rfl) (by first | exact Or.inl rfl | exact Or.inr rfl | assumption))
 (dss_cons (ds_app (pv 3) (de_tup (da_cons de_int (da_cons (de_add de_int (de_mul (de_v (pv 4)) (de_v (pv 1)))) (da_cons (de_callC C__law_draw (hr.mono (by decide)) (by rfl) (alen_vr (alen_cons alen_nil)) (da_vr (pv 0) (da_cons de_int da_nil (by rfl)) (by rfl)) (by decide) (by rfl) (by rfl)) da_nil (by rfl)) (by rfl)) (by rfl))) (by rfl))
 (dss_one (ds_app (pv 3) (de_tup (da_cons de_int (da_cons (de_add de_int (de_mul (de_add (de_v (pv 4)) de_int) (de_v (pv 1)))) (da_cons (de_callC C__law_draw (hr.mono (by decide)) (by rfl) (alen_vr (alen_cons alen_nil)) (da_vr (pv 0) (da_cons de_int da_nil (by rfl)) (by rfl)) (by decide) (by rfl) (by rfl)) da_nil (by rfl)) (by rfl)) (by rfl))) (by rfl)))) (by intro _; rfl))
 (dss_one (ds_ret (de_tup (da_cons (de_add de_int (de_mul (de_v (pv 1)) (de_v (pv 2)))) (da_cons (de_v (pv 3)) da_nil (by rfl)) (by rfl))))))))))
abbrev s_check_net : Stmt := top 4
noncomputable def b_check_net : Mo Out :=
 (sSeq (sIf (eB (eBin dLt (eV 0) (eC (.int 2))))
 sNever
 sNx)
 (sFor (iOf (eV 1)) (gT 3 (gCons (gN 2) (gCons (gN 3) (gCons (gN 4) gNil))))
 (sIf (tOrM (eB (eBin dEq (eV 2) (eV 3))) (tOrM (tNotM (eB (eChain dLe dLt (eC (.int 0)) (eV 2) (eV 0)))) (tOrM (tNotM (eB (eChain dLe dLt (eC (.int 0)) (eV 3) (eV 0)))) (eB (eBin dLt (eV 4) (eC (.int 0)))))))
 sNever
 sNx)))
noncomputable def m_check_net : Mo D := fnM 5 2 b_check_net
theorem sc_check_net : FnScope ["count", "edges", "one", "two", "room"] ["count", "edges"] (defScope s_check_net) := ⟨rfl, rfl, rfl, by decide +kernel, rfl, by decide +kernel, by decide +kernel⟩
theorem nd_check_net : List.Nodup (α := Str) ["count", "edges", "one", "two", "room"] := by decide +kernel
theorem ok_check_net (F : Fun K "check_net" "check_net" s_check_net f fd) (T : Bi mg)  : FnOk P w K mg base CX0 1 f fd ["count", "edges"] (spM Wn K 2 false m_check_net) :=
 fn_ok F sc_check_net rfl fun cdv A outer s H E hr =>
 (dss_cons (ds_if (dt_lt (de_v (pv 0)) de_int)
 (dss_one ds_never)
 dss_nil)
 (dss_one (ds_for PassesOwn.never rfl (calm_T (calm_cons calm_N (calm_cons calm_N (calm_cons calm_N calm_nil)))) (di_of (de_v (pv 1))) (dg_tup rfl (dgs_cons (dg_name nd_check_net rfl (by first | exact Or.inl rfl | exact Or.inr rfl) (by first | exact Or.inl rfl | exact Or.inr rfl | assumption)) (dgs_cons (dg_name nd_check_net rfl (by first | exact Or.inl rfl | exact Or.inr rfl) (by first | exact Or.inl rfl | exact Or.inr rfl | assumption)) (dgs_cons (dg_name nd_check_net rfl (by first | exact Or.inl rfl | exact Or.inr rfl) (by first | exact Or.inl rfl | exact Or.inr rfl | assumption)) dgs_nil (by rfl)) (by rfl)) (by rfl)) (by rfl) (by rfl))
 (dss_one (ds_if (dw_t (dw_or (dt_eq hr.units (de_v (pv 2)) (de_v (pv 3))) (dw_or (dt_not (dt_chain opc_le opc_lt snd_cmp' snd_cmp' de_int (de_v (pv 2)) (de_v (pv 0)) (by with_unfolding_all rfl))) (dw_or (dt_not (dt_chain opc_le opc_lt snd_cmp' snd_cmp' de_int (de_v (pv 3)) (de_v (pv 0)) (by with_unfolding_all rfl))) (dw_or1 (dt_lt (de_v (pv 4)) de_int))))))
 (dss_one ds_never)
 dss_nil)) (by intro _; rfl))))
abbrev s_touching : Stmt := top 5
theorem sc_touching : FnScope ["count", "edges", "found", "index", "node"] ["count", "edges"] (defScope s_touching) := ⟨rfl, rfl, rfl, by decide +kernel, rfl, by decide +kernel, by decide +kernel⟩
theorem nd_touching : List.Nodup (α := Str) ["count", "edges", "found", "index", "node"] := by decide +kernel
theorem ok_touching (F : Fun K "touching" "touching" s_touching f fd) (T : Bi mg) : FnOk P w K mg base CX0 1 f fd ["count", "edges"] (spM Wn K 2 false m_touching) := by
  refine F.ok sc_touching (fn_len rfl) fun cdv A outer s H vs Q E hr h => ?_
  refine ⟨_, pss_cons (ps_setLc (i := 2) (own := [("node", 4)]) rfl nd_touching rfl (by rfl) (sw_true rfl rfl rfl (by decide +kernel)) (pi_range1 (by rfl) T.range (pa_cons (pv 0) pa_nil (by rfl)) (by rfl)) (blkOk_by (N := ["count", "edges", "found", "index", "node"]) (sc := defScope s_touching) (own := [("node", 4)]) (by decide +kernel)) (fun _ _ _ _ _ => pg_name (i := 4) nd_touching rfl (Or.inl rfl) (.inr rfl)) (fun _ _ _ _ _ => pts_nil) (fun _ _ _ _ _ => pe_lst pa_nil) (by intro _; rfl))
    (pss_cons (ps_for PassesOwn.never rfl (pi_range1 (by rfl) T.range (pa_cons (pe_callB call_len_seq (by rfl) T.len bt_len (pa_cons (pv 1) pa_nil (by rfl)) (by decide) (by decide) (by rfl) (by rfl)) pa_nil (by rfl)) (by rfl)) (pg_name (i := 3) nd_touching rfl (Or.inl rfl) (.inl rfl))
      (pss_cons (ps_expr (pe_bm PySem.F.plainAttrs_list PySem.F.slot_list_append PySem.F.type_list_append mt_append (pe_ix ix_list (pv 2) (pe_ix ix_tup (pe_ix ix_list (pv 1) (pv 3) (by intro _ _; rfl)) pe_int (by intro _ _; rfl)) (by intro _ _; rfl)) (pa_cons (pv 3) pa_nil (by rfl))))
      (pss_one (ps_expr (pe_bm PySem.F.plainAttrs_list PySem.F.slot_list_append PySem.F.type_list_append mt_append (pe_ix ix_list (pv 2) (pe_ix ix_tup (pe_ix ix_list (pv 1) (pv 3) (by intro _ _; rfl)) pe_int (by intro _ _; rfl)) (by intro _ _; rfl)) (pa_cons (pv 3) pa_nil (by rfl)))))) (by intro _; rfl))
    (pss_one (ps_ret (pv 2)))), ?_⟩
  exact touch_ok (by rfl) h

abbrev s_other_node : Stmt := top 7
noncomputable def b_other_node : Mo Out :=
 (sSeq (sIf (eB (eBin dEq (eIxV 0 (eC (.int 0))) (eV 1)))
 (sRet (eIxV 0 (eC (.int 1))))
 sNx)
 (sRet (eIxV 0 (eC (.int 0)))))
noncomputable def m_other_node : Mo D := fnM 2 2 b_other_node
theorem sc_other_node : FnScope ["edge", "node"] ["edge", "node"] (defScope s_other_node) := ⟨rfl, rfl, rfl, by decide +kernel, rfl, by decide +kernel, by decide +kernel⟩
theorem nd_other_node : List.Nodup (α := Str) ["edge", "node"] := by decide +kernel
theorem ok_other_node (F : Fun K "other_node" "other_node" s_other_node f fd) (T : Bi mg)  : FnOk P w K mg base CX0 1 f fd ["edge", "node"] (spM Wn K 2 false m_other_node) :=
 fn_ok F sc_other_node rfl fun cdv A outer s H E hr =>
 (dss_cons (ds_if (dt_eq hr.units (de_ixV hr.u1 (pv 0) de_int (by intro _ _; rfl) (by intro _ _; rfl)) (de_v (pv 1)))
 (dss_one (ds_ret (de_ixV hr.u1 (pv 0) de_int (by intro _ _; rfl) (by intro _ _; rfl))))
 dss_nil)
 (dss_one (ds_ret (de_ixV hr.u1 (pv 0) de_int (by intro _ _; rfl) (by intro _ _; rfl)))))
abbrev s_room_left : Stmt := top 6
noncomputable def b_room_left : Mo Out :=
 (sSeq (sIf (eB (eBin dEq (eIxV 0 (eC (.int 0))) (eV 2)))
 (sRet (eBin dSub (eIxV 0 (eC (.int 2))) (eV 1)))
 sNx)
 (sRet (eBin dAdd (eIxV 0 (eC (.int 2))) (eV 1))))
noncomputable def m_room_left : Mo D := fnM 3 3 b_room_left
theorem sc_room_left : FnScope ["edge", "moved", "node"] ["edge", "moved", "node"] (defScope s_room_left) := ⟨rfl, rfl, rfl, by decide +kernel, rfl, by decide +kernel, by decide +kernel⟩
theorem nd_room_left : List.Nodup (α := Str) ["edge", "moved", "node"] := by decide +kernel
theorem ok_room_left (F : Fun K "room_left" "room_left" s_room_left f fd) (T : Bi mg)  : FnOk P w K mg base CX0 1 f fd ["edge", "moved", "node"] (spM Wn K 3 false m_room_left) :=
 fn_ok F sc_room_left rfl fun cdv A outer s H E hr =>
 (dss_cons (ds_if (dt_eq hr.units (de_ixV hr.u1 (pv 0) de_int (by intro _ _; rfl) (by intro _ _; rfl)) (de_v (pv 2)))
 (dss_one (ds_ret (de_sub (de_ixV hr.u1 (pv 0) de_int (by intro _ _; rfl) (by intro _ _; rfl)) (de_v (pv 1)))))
 dss_nil)
 (dss_one (ds_ret (de_add (de_ixV hr.u1 (pv 0) de_int (by intro _ _; rfl) (by intro _ _; rfl)) (de_v (pv 1))))))
abbrev s_ways_from : Stmt := top 8
noncomputable def b_ways_from : Mo Out :=
 (sSeq (sAsgO 5 (eDisp1 (eV 3) (eC .non)))
 (sSeq (sAsgO 6 (eLst (aCons (eV 3) aNil)))
 (sSeq (sAsg (gN 7) (eC (.int 0)))
 (sSeq (sWhile (eB (eBin dLt (eV 7) (eLenV 6)))
 (sSeq (sAsg (gN 8) (eIxV 6 (eV 7)))
 (sSeq (sAsg (gN 7) (eBin dAdd (eV 7) (eC (.int 1))))
 (sFor (iOf (eIxV 0 (eV 8))) (gN 9)
 (sSeq (sAsg (gN 10) (eCall m_other_node (aCons (eIxV 1 (eV 9)) (aCons (eV 8) aNil))))
 (sSeq (sAsg (gN 11) (eIf (eTru (eV 4)) (eV 8) (eV 10)))
 (sIf (tAndM (eB (eInV true (eV 10) 5)) (eB (eBin dGt (eCall m_room_left (aCons (eIxV 1 (eV 9)) (aCons (eIxV 2 (eV 9)) (aCons (eV 11) aNil)))) (eC (.int 0)))))
 (sSeq (sSet 5 (eV 10) (eV 9))
 (sApp 6 (eV 10)))
 sNx)))))))
 (sRet (eV 5))))))
noncomputable def m_ways_from : Mo D := fnM 12 5 b_ways_from
theorem sc_ways_from : FnScope ["near", "edges", "flow", "start", "outward", "found", "waiting", "at", "node", "index", "far", "source"] ["near", "edges", "flow", "start", "outward"] (defScope s_ways_from) := ⟨rfl, rfl, rfl, by decide +kernel, rfl, by decide +kernel, by decide +kernel⟩
theorem nd_ways_from : List.Nodup (α := Str) ["near", "edges", "flow", "start", "outward", "found", "waiting", "at", "node", "index", "far", "source"] := by decide +kernel
theorem ok_ways_from (F : Fun K "ways_from" "ways_from" s_ways_from f fd) (T : Bi mg) (C_other_node : CalM P w K mg base 1 "other_node" 2 false m_other_node) (C_room_left : CalM P w K mg base 1 "room_left" 3 false m_room_left) : FnOk P w K mg base CX0 2 f fd ["near", "edges", "flow", "start", "outward"] (spM Wn K 5 false m_ways_from) :=
 fn_ok F sc_ways_from rfl fun cdv A outer s H E hr =>
 (dss_cons (ds_setO nd_ways_from rfl (by first | exact Or.inl rfl | exact Or.inr rfl) (do_disp1 (de_v (pv 3)) de_non) (by rfl) (by first | exact Or.inl rfl | exact Or.inr rfl | assumption))
 (dss_cons (ds_setO nd_ways_from rfl (by first | exact Or.inl rfl | exact Or.inr rfl) (do_lst (da_cons (de_v (pv 3)) da_nil (by rfl))) (by rfl) (by first | exact Or.inl rfl | exact Or.inr rfl | assumption))
 (dss_cons (ds_set nd_ways_from rfl (by first | exact Or.inl rfl | exact Or.inr rfl) de_int (by rfl) (by first | exact Or.inl rfl | exact Or.inr rfl | assumption))
 (dss_cons (ds_while PassesOwn.never (dt_lt (de_v (pv 7)) (de_lenV (by rfl) T.len bt_len (pa_cons (pv 6) pa_nil)))
 (dss_cons (ds_set nd_ways_from rfl (by first | exact Or.inl rfl | exact Or.inr rfl) (de_ixV hr.u1 (pv 6) (de_v (pv 7)) (by intro _ _; rfl) (by intro _ _; rfl)) (by rfl) (by first | exact Or.inl rfl | exact Or.inr rfl | assumption))
 (dss_cons (ds_set nd_ways_from rfl (by first | exact Or.inl rfl | exact Or.inr rfl) (de_add (de_v (pv 7)) de_int) (by rfl) (by first | exact Or.inl rfl | exact Or.inr rfl | assumption))
 (dss_one (ds_for PassesOwn.never rfl calm_N (di_of (de_ixV hr.u1 (pv 0) (de_v (pv 8)) (by intro _ _; rfl) (by intro _ _; rfl))) (dg_name nd_ways_from rfl (by first | exact Or.inl rfl | exact Or.inr rfl) (by first | exact Or.inl rfl | exact Or.inr rfl | assumption))
 (dss_cons (ds_set nd_ways_from rfl (by first | exact Or.inl rfl | exact Or.inr rfl) (de_callC C_other_node (hr.mono (by decide)) (by rfl) (alen_cons (alen_cons alen_nil)) (da_cons (de_ixV hr.u1 (pv 1) (de_v (pv 9)) (by intro _ _; rfl) (by intro _ _; rfl)) (da_cons (de_v (pv 8)) da_nil (by rfl)) (by rfl)) (by decide) (by rfl) (by rfl)) (by rfl) (by first | exact Or.inl rfl | exact Or.inr rfl | assumption))
 (dss_cons (ds_set nd_ways_from rfl (by first | exact Or.inl rfl | exact Or.inr rfl) (de_if (dt_tru (de_v (pv 4)) (by intro _; rfl)) (de_v (pv 8)) (de_v (pv 10))) (by rfl) (by first | exact Or.inl rfl | exact Or.inr rfl | assumption))
 (dss_one (ds_if (dw_t (dw_and (dt_notinV hr.u65 (de_v (pv 10)) (pv 5) (by rfl)) (dw_and1 (dt_gt (de_callC C_room_left (hr.mono (by decide)) (by rfl) (alen_cons (alen_cons (alen_cons alen_nil))) (da_cons (de_ixV hr.u1 (pv 1) (de_v (pv 9)) (by intro _ _; rfl) (by intro _ _; rfl)) (da_cons (de_ixV hr.u1 (pv 2) (de_v (pv 9)) (by intro _ _; rfl) (by intro _ _; rfl)) (da_cons (de_v (pv 11)) da_nil (by rfl)) (by rfl)) (by rfl)) (by decide) (by rfl) (by rfl)) de_int))))
 (dss_cons (ds_sub hr.u1 (pv 5) (de_v (pv 10)) (de_v (pv 9)) (by rfl) (by rfl))
 (dss_one (ds_app (pv 6) (de_v (pv 10)) (by rfl))))
 dss_nil)))) (by intro _; rfl))))))
 (dss_one (ds_ret (de_v (pv 5))))))))
abbrev s_push : Stmt := top 9
noncomputable def b_push : Mo Out :=
 (sSeq (sAsgO 3 (eLst aNil))
 (sSeq (sAsg (gN 4) (eC (.int 1)))
 (sSeq (sWhile (eB (eBin dNe (eV 4) (eC (.int 0))))
 (sSeq (sAsg (gN 5) (eIxV 2 (eV 4)))
 (sSeq (sAsg (gN 4) (eCall m_other_node (aCons (eIxV 0 (eV 5)) (aCons (eV 4) aNil))))
 (sApp 3 (eTup (aCons (eV 5) (aCons (eV 4) aNil)))))))
 (sSeq (sAsg (gN 6) (eF fMin (aCons (eLc (iOf (eV 3)) (gT 2 (gCons (gN 5) (gCons (gN 7) gNil))) tYesM (eCall m_room_left (aCons (eIxV 0 (eV 5)) (aCons (eIxV 1 (eV 5)) (aCons (eV 7) aNil)))) [5, 7]) aNil)))
 (sFor (iOf (eV 3)) (gT 2 (gCons (gN 5) (gCons (gN 7) gNil)))
 (sIf (eB (eBin dEq (eIx (eIxV 0 (eV 5)) (eC (.int 0))) (eV 7)))
 (sSet 1 (eV 5) (eBin dAdd (eIxV 1 (eV 5)) (eV 6)))
 (sSet 1 (eV 5) (eBin dSub (eIxV 1 (eV 5)) (eV 6)))))))))
noncomputable def m_push : Mo D := fnM 8 3 b_push
theorem sc_push : FnScope ["edges", "flow", "ways", "path", "node", "index", "amount", "start"] ["edges", "flow", "ways"] (defScope s_push) := ⟨rfl, rfl, rfl, by decide +kernel, rfl, by decide +kernel, by decide +kernel⟩
theorem nd_push : List.Nodup (α := Str) ["edges", "flow", "ways", "path", "node", "index", "amount", "start"] := by decide +kernel
theorem ok_push (F : Fun K "push" "push" s_push f fd) (T : Bi mg) (C_other_node : CalM P w K mg base 1 "other_node" 2 false m_other_node) (C_room_left : CalM P w K mg base 1 "room_left" 3 false m_room_left) : FnOk P w K mg base CX0 2 f fd ["edges", "flow", "ways"] (spM Wn K 3 false m_push) :=
 fn_ok F sc_push rfl fun cdv A outer s H E hr =>
 (dss_cons (ds_setO nd_push rfl (by first | exact Or.inl rfl | exact Or.inr rfl) (do_lst da_nil) (by rfl) (by first | exact Or.inl rfl | exact Or.inr rfl | assumption))
 (dss_cons (ds_set nd_push rfl (by first | exact Or.inl rfl | exact Or.inr rfl) de_int (by rfl) (by first | exact Or.inl rfl | exact Or.inr rfl | assumption))
 (dss_cons (ds_while PassesOwn.never (dt_ne hr.units (de_v (pv 4)) de_int)
 (dss_cons (ds_set nd_push rfl (by first | exact Or.inl rfl | exact Or.inr rfl) (de_ixV hr.u1 (pv 2) (de_v (pv 4)) (by intro _ _; rfl) (by intro _ _; rfl)) (by rfl) (by first | exact Or.inl rfl | exact Or.inr rfl | assumption))
 (dss_cons (ds_set nd_push rfl (by first | exact Or.inl rfl | exact Or.inr rfl) (de_callC C_other_node (hr.mono (by decide)) (by rfl) (alen_cons (alen_cons alen_nil)) (da_cons (de_ixV hr.u1 (pv 0) (de_v (pv 5)) (by intro _ _; rfl) (by intro _ _; rfl)) (da_cons (de_v (pv 4)) da_nil (by rfl)) (by rfl)) (by decide) (by rfl) (by rfl)) (by rfl) (by first | exact Or.inl rfl | exact Or.inr rfl | assumption))
 (dss_one (ds_app (pv 3) (de_tup (da_cons (de_v (pv 5)) (da_cons (de_v (pv 4)) da_nil (by rfl)) (by rfl))) (by rfl))))))
 (dss_cons (ds_set nd_push rfl (by first | exact Or.inl rfl | exact Or.inr rfl) (de_min (by rfl) (by rfl) T.min bt_min (da_cons (DO.de (do_lc (own := [("index", 5), ("start", 7)]) (by rfl) nd_push (di_of (de_v (pv 3))) (blkOk_by (N := ["edges", "flow", "ways", "path", "node", "index", "amount", "start"]) (sc := (defScope s_push)) (own := [("index", 5), ("start", 7)]) (by decide +kernel)) (by decide) (fun _ _ _ _ _ => (dg_tup rfl (dgs_cons (dg_name nd_push rfl (by first | exact Or.inl rfl | exact Or.inr rfl) (by first | exact Or.inl rfl | exact Or.inr rfl | assumption)) (dgs_cons (dg_name nd_push rfl (by first | exact Or.inl rfl | exact Or.inr rfl) (by first | exact Or.inl rfl | exact Or.inr rfl | assumption)) dgs_nil (by rfl)) (by rfl)) (by rfl) (by rfl))) (fun _ _ _ _ _ => dts_nil) (fun _ _ _ _ _ => (de_callC C_room_left (hr.mono (by decide)) (by rfl) (alen_cons (alen_cons (alen_cons alen_nil))) (da_cons (de_ixV hr.u1 (pv 0) (de_v (pv 5)) (by intro _ _; rfl) (by intro _ _; rfl)) (da_cons (de_ixV hr.u1 (pv 1) (de_v (pv 5)) (by intro _ _; rfl) (by intro _ _; rfl)) (da_cons (de_v (pv 7)) da_nil (by rfl)) (by rfl)) (by rfl)) (by decide) (by rfl) (by rfl))) (by intro _; rfl))) da_nil (by rfl)) (by decide) (by decide) (by rfl) (by rfl)) (by rfl) (by first | exact Or.inl rfl | exact Or.inr rfl | assumption))
 (dss_one (ds_for PassesOwn.never rfl (calm_T (calm_cons calm_N (calm_cons calm_N calm_nil))) (di_of (de_v (pv 3))) (dg_tup rfl (dgs_cons (dg_name nd_push rfl (by first | exact Or.inl rfl | exact Or.inr rfl) (by first | exact Or.inl rfl | exact Or.inr rfl | assumption)) (dgs_cons (dg_name nd_push rfl (by first | exact Or.inl rfl | exact Or.inr rfl) (by first | exact Or.inl rfl | exact Or.inr rfl | assumption)) dgs_nil (by rfl)) (by rfl)) (by rfl) (by rfl))
 (dss_one (ds_if (dt_eq hr.units (de_ix hr.u1 (de_ixV hr.u1 (pv 0) (de_v (pv 5)) (by intro _ _; rfl) (by intro _ _; rfl)) de_int (by intro _ _; rfl) (by intro _ _; rfl)) (de_v (pv 7)))
 (dss_one (ds_sub hr.u1 (pv 1) (de_v (pv 5)) (de_add (de_ixV hr.u1 (pv 1) (de_v (pv 5)) (by intro _ _; rfl) (by intro _ _; rfl)) (de_v (pv 6))) (by rfl) (by rfl)))
 (dss_one (ds_sub hr.u1 (pv 1) (de_v (pv 5)) (de_sub (de_ixV hr.u1 (pv 1) (de_v (pv 5)) (by intro _ _; rfl) (by intro _ _; rfl)) (de_v (pv 6))) (by rfl) (by rfl))))) (by intro _; rfl)))))))
abbrev s_greatest_flow : Stmt := top 10
noncomputable def b_greatest_flow : Mo Out :=
 (sSeq (sDrop (eCall m_check_net (aCons (eV 0) (aCons (eV 1) aNil))))
 (sSeq (sAsg (gN 2) (eCall m_touching (aCons (eV 0) (aCons (eV 1) aNil))))
 (sSeq (sAsgO 3 (eBin dMulL (eLst (aCons (eC (.int 0)) aNil)) (eF fLen (aCons (eV 1) aNil))))
 (sSeq (sAsg (gN 4) (eCall m_ways_from (aCons (eV 2) (aCons (eV 1) (aVb 3 (aCons (eC (.int 0)) (aCons (eC (.bl true)) aNil)))))))
 (sSeq (sWhile (eB (eBin (dIn false) (eC (.int 1)) (eV 4)))
 (sSeq (sDrop (eCall m_push (aCons (eV 1) (aVr 3 (aCons (eV 4) aNil)))))
 (sAsg (gN 4) (eCall m_ways_from (aCons (eV 2) (aCons (eV 1) (aVb 3 (aCons (eC (.int 0)) (aCons (eC (.bl true)) aNil)))))))))
 (sRet (eV 3)))))))
noncomputable def m_greatest_flow : Mo D := fnM 5 2 b_greatest_flow
theorem sc_greatest_flow : FnScope ["count", "edges", "near", "flow", "ways"] ["count", "edges"] (defScope s_greatest_flow) := ⟨rfl, rfl, rfl, by decide +kernel, rfl, by decide +kernel, by decide +kernel⟩
theorem nd_greatest_flow : List.Nodup (α := Str) ["count", "edges", "near", "flow", "ways"] := by decide +kernel
theorem ok_greatest_flow (F : Fun K "greatest_flow" "greatest_flow" s_greatest_flow f fd) (T : Bi mg) (C_check_net : CalM P w K mg base 1 "check_net" 2 false m_check_net) (C_touching : CalM P w K mg base 1 "touching" 2 false m_touching) (C_ways_from : CalM P w K mg base 2 "ways_from" 5 false m_ways_from) (C_push : CalM P w K mg base 2 "push" 3 false m_push) : FnOk P w K mg base CX0 3 f fd ["count", "edges"] (spM Wn K 2 false m_greatest_flow) :=
 fn_ok F sc_greatest_flow rfl fun cdv A outer s H E hr =>
 (dss_cons (ds_expr (de_callC C_check_net (hr.mono (by decide)) (by rfl) (alen_cons (alen_cons alen_nil)) (da_cons (de_v (pv 0)) (da_cons (de_v (pv 1)) da_nil (by rfl)) (by rfl)) (by decide) (by rfl) (by rfl)) (by rfl))
 (dss_cons (ds_set nd_greatest_flow rfl (by first | exact Or.inl rfl | exact Or.inr rfl) (de_callC C_touching (hr.mono (by decide)) (by rfl) (alen_cons (alen_cons alen_nil)) (da_cons (de_v (pv 0)) (da_cons (de_v (pv 1)) da_nil (by rfl)) (by rfl)) (by decide) (by rfl) (by rfl)) (by rfl) (by first | exact Or.inl rfl | exact Or.inr rfl | assumption))
 (dss_cons (ds_setO nd_greatest_flow rfl (by first | exact Or.inl rfl | exact Or.inr rfl) (do_rep (DO.de (do_lst (da_cons de_int da_nil (by rfl)))) (de_len (by rfl) T.len bt_len (da_cons (de_v (pv 1)) da_nil (by rfl)) (by decide) (by decide) (by rfl) (by rfl))) (by rfl) (by first | exact Or.inl rfl | exact Or.inr rfl | assumption))
 (dss_cons (ds_set nd_greatest_flow rfl (by first | exact Or.inl rfl | exact Or.inr rfl) (de_callC C_ways_from (hr.mono (by decide)) (by rfl) (alen_cons (alen_cons (alen_vb (alen_cons (alen_cons alen_nil))))) (da_cons (de_v (pv 2)) (da_cons (de_v (pv 1)) (da_vb (pv 3) (da_cons de_int (da_cons de_bl da_nil (by rfl)) (by rfl)) (by rfl)) (by rfl)) (by rfl)) (by decide) (by rfl) (by rfl)) (by rfl) (by first | exact Or.inl rfl | exact Or.inr rfl | assumption))
 (dss_cons (ds_while PassesOwn.never (dt_in hr.u65 de_int (de_v (pv 4)) (by rfl))
 (dss_cons (ds_expr (de_callC C_push (hr.mono (by decide)) (by rfl) (alen_cons (alen_vr (alen_cons alen_nil))) (da_cons (de_v (pv 1)) (da_vr (pv 3) (da_cons (de_v (pv 4)) da_nil (by rfl)) (by rfl)) (by rfl)) (by decide) (by rfl) (by rfl)) (by rfl))
 (dss_one (ds_set nd_greatest_flow rfl (by first | exact Or.inl rfl | exact Or.inr rfl) (de_callC C_ways_from (hr.mono (by decide)) (by rfl) (alen_cons (alen_cons (alen_vb (alen_cons (alen_cons alen_nil))))) (da_cons (de_v (pv 2)) (da_cons (de_v (pv 1)) (da_vb (pv 3) (da_cons de_int (da_cons de_bl da_nil (by rfl)) (by rfl)) (by rfl)) (by rfl)) (by rfl)) (by decide) (by rfl) (by rfl)) (by rfl) (by first | exact Or.inl rfl | exact Or.inr rfl | assumption)))))
 (dss_one (ds_ret (de_v (pv 3)))))))))
abbrev s__law_worth : Stmt := top 19
noncomputable def b__law_worth : Mo Out :=
 (sSeq (sAsg (gN 2) (eC (.int 0)))
 (sSeq (sFor (iRg rg1 (aCons (eF fLen (aCons (eV 0) aNil)) aNil)) (gN 3)
 (sSeq (sIf (eB (eBin dEq (eIx (eIxV 0 (eV 3)) (eC (.int 0))) (eC (.int 0))))
 (sAsg (gN 2) (eBin dAdd (eV 2) (eIxV 1 (eV 3))))
 sNx)
 (sIf (eB (eBin dEq (eIx (eIxV 0 (eV 3)) (eC (.int 1))) (eC (.int 0))))
 (sAsg (gN 2) (eBin dSub (eV 2) (eIxV 1 (eV 3))))
 sNx)))
 (sRet (eV 2))))
noncomputable def m__law_worth : Mo D := fnM 4 2 b__law_worth
theorem sc__law_worth : FnScope ["_law_edges", "_law_flow", "_law_total", "_law_k"] ["_law_edges", "_law_flow"] (defScope s__law_worth) := ⟨rfl, rfl, rfl, by decide +kernel, rfl, by decide +kernel, by decide +kernel⟩
theorem nd__law_worth : List.Nodup (α := Str) ["_law_edges", "_law_flow", "_law_total", "_law_k"] := by decide +kernel
theorem ok__law_worth (F : Fun K "_law_worth" "_law_worth" s__law_worth f fd) (T : Bi mg)  : FnOk P w K mg base CX0 1 f fd ["_law_edges", "_law_flow"] (spM Wn K 2 false m__law_worth) :=
 fn_ok F sc__law_worth rfl fun cdv A outer s H E hr =>
 (dss_cons (ds_set nd__law_worth rfl (by first | exact Or.inl rfl | exact Or.inr rfl) de_int (by rfl) (by first | exact Or.inl rfl | exact Or.inr rfl | assumption))
 (dss_cons (ds_for PassesOwn.never rfl calm_N (di_rg1 (by rfl) T.range (da_cons (de_len (by rfl) T.len bt_len (da_cons (de_v (pv 0)) da_nil (by rfl)) (by decide) (by decide) (by rfl) (by rfl)) da_nil (by rfl)) (by rfl)) (dg_name nd__law_worth rfl (by first | exact Or.inl rfl | exact Or.inr rfl) (by first | exact Or.inl rfl | exact Or.inr rfl | assumption))
 (dss_cons (ds_if (dt_eq hr.units (de_ix hr.u1 (de_ixV hr.u1 (pv 0) (de_v (pv 3)) (by intro _ _; rfl) (by intro _ _; rfl)) de_int (by intro _ _; rfl) (by intro _ _; rfl)) de_int)
 (dss_one (ds_set nd__law_worth rfl (by first | exact Or.inl rfl | exact Or.inr rfl) (de_add (de_v (pv 2)) (de_ixV hr.u1 (pv 1) (de_v (pv 3)) (by intro _ _; rfl) (by intro _ _; rfl))) (by rfl) (by first | exact Or.inl rfl | exact Or.inr rfl | assumption)))
 dss_nil)
 (dss_one (ds_if (dt_eq hr.units (de_ix hr.u1 (de_ixV hr.u1 (pv 0) (de_v (pv 3)) (by intro _ _; rfl) (by intro _ _; rfl)) de_int (by intro _ _; rfl) (by intro _ _; rfl)) de_int)
 (dss_one (ds_set nd__law_worth rfl (by first | exact Or.inl rfl | exact Or.inr rfl) (de_sub (de_v (pv 2)) (de_ixV hr.u1 (pv 1) (de_v (pv 3)) (by intro _ _; rfl) (by intro _ _; rfl))) (by rfl) (by first | exact Or.inl rfl | exact Or.inr rfl | assumption)))
 dss_nil))) (by intro _; rfl))
 (dss_one (ds_ret (de_v (pv 2))))))
abbrev s_narrow_side : Stmt := top 11
noncomputable def b_narrow_side : Mo Out :=
 (sRet (eF fSortI (aCons (eCall m_ways_from (aCons (eCall m_touching (aCons (eV 0) (aCons (eV 1) aNil))) (aCons (eV 1) (aCons (eV 2) (aCons (eC (.int 0)) (aCons (eC (.bl true)) aNil)))))) aNil)))
noncomputable def m_narrow_side : Mo D := fnM 3 3 b_narrow_side
theorem sc_narrow_side : FnScope ["count", "edges", "flow"] ["count", "edges", "flow"] (defScope s_narrow_side) := ⟨rfl, rfl, rfl, by decide +kernel, rfl, by decide +kernel, by decide +kernel⟩
theorem nd_narrow_side : List.Nodup (α := Str) ["count", "edges", "flow"] := by decide +kernel
theorem ok_narrow_side (F : Fun K "narrow_side" "narrow_side" s_narrow_side f fd) (T : Bi mg) (C_touching : CalM P w K mg base 1 "touching" 2 false m_touching) (C_ways_from : CalM P w K mg base 2 "ways_from" 5 false m_ways_from) : FnOk P w K mg base CX0 3 f fd ["count", "edges", "flow"] (spM Wn K 3 false m_narrow_side) :=
 fn_ok F sc_narrow_side rfl fun cdv A outer s H E hr =>
 (dss_one (ds_ret (DO.de (do_sortI (by rfl) (by rfl) T.sorted bt_sorted (da_cons (de_callC C_ways_from (hr.mono (by decide)) (by rfl) (alen_cons (alen_cons (alen_cons (alen_cons (alen_cons alen_nil))))) (da_cons (de_callC C_touching (hr.mono (by decide)) (by rfl) (alen_cons (alen_cons alen_nil)) (da_cons (de_v (pv 0)) (da_cons (de_v (pv 1)) da_nil (by rfl)) (by rfl)) (by decide) (by rfl) (by rfl)) (da_cons (de_v (pv 1)) (da_cons (de_v (pv 2)) (da_cons de_int (da_cons de_bl da_nil (by rfl)) (by rfl)) (by rfl)) (by rfl)) (by rfl)) (by decide) (by rfl) (by rfl)) da_nil (by rfl)) (by decide) (by decide) (by rfl) (by rfl)))))
abbrev s_wide_side : Stmt := top 12
noncomputable def b_wide_side : Mo Out :=
 (sSeq (sAsg (gN 3) (eCall m_ways_from (aCons (eCall m_touching (aCons (eV 0) (aCons (eV 1) aNil))) (aCons (eV 1) (aCons (eV 2) (aCons (eC (.int 1)) (aCons (eC (.bl false)) aNil)))))))
 (sRet (eLc (iRg rg1 (aCons (eV 0) aNil)) (gN 4) (eB (eBin (dIn true) (eV 4) (eV 3))) (eV 4) [4])))
noncomputable def m_wide_side : Mo D := fnM 5 3 b_wide_side
theorem sc_wide_side : FnScope ["count", "edges", "flow", "reaching", "node"] ["count", "edges", "flow"] (defScope s_wide_side) := ⟨rfl, rfl, rfl, by decide +kernel, rfl, by decide +kernel, by decide +kernel⟩
theorem nd_wide_side : List.Nodup (α := Str) ["count", "edges", "flow", "reaching", "node"] := by decide +kernel
theorem ok_wide_side (F : Fun K "wide_side" "wide_side" s_wide_side f fd) (T : Bi mg) (C_touching : CalM P w K mg base 1 "touching" 2 false m_touching) (C_ways_from : CalM P w K mg base 2 "ways_from" 5 false m_ways_from) : FnOk P w K mg base CX0 3 f fd ["count", "edges", "flow"] (spM Wn K 3 false m_wide_side) :=
 fn_ok F sc_wide_side rfl fun cdv A outer s H E hr =>
 (dss_cons (ds_set nd_wide_side rfl (by first | exact Or.inl rfl | exact Or.inr rfl) (de_callC C_ways_from (hr.mono (by decide)) (by rfl) (alen_cons (alen_cons (alen_cons (alen_cons (alen_cons alen_nil))))) (da_cons (de_callC C_touching (hr.mono (by decide)) (by rfl) (alen_cons (alen_cons alen_nil)) (da_cons (de_v (pv 0)) (da_cons (de_v (pv 1)) da_nil (by rfl)) (by rfl)) (by decide) (by rfl) (by rfl)) (da_cons (de_v (pv 1)) (da_cons (de_v (pv 2)) (da_cons de_int (da_cons de_bl da_nil (by rfl)) (by rfl)) (by rfl)) (by rfl)) (by rfl)) (by decide) (by rfl) (by rfl)) (by rfl) (by first | exact Or.inl rfl | exact Or.inr rfl | assumption))
 (dss_one (ds_ret (DO.de (do_lc (own := [("node", 4)]) (by rfl) nd_wide_side (di_rg1 (by rfl) T.range (da_cons (de_v (pv 0)) da_nil (by rfl)) (by rfl)) (blkOk_by (N := ["count", "edges", "flow", "reaching", "node"]) (sc := (defScope s_wide_side)) (own := [("node", 4)]) (by decide +kernel)) (by decide) (fun _ _ _ _ _ => (dg_name nd_wide_side rfl (by first | exact Or.inl rfl | exact Or.inr rfl) (by first | exact Or.inl rfl | exact Or.inr rfl | assumption))) (fun _ _ _ _ _ => (dts_one (dt_notin hr.u65 (de_v (pv 4)) (de_v (pv 3)) (by rfl)))) (fun _ _ _ _ _ => (de_v (pv 4))) (by intro _; rfl))))))
abbrev s__law_net : Stmt := top 15
noncomputable def b__law_net : Mo Out :=
 (sSeq (sAsg (gN 3) (eBin dAdd (eC (.int 2)) (eCall m__law_draw (aVr 0 (aCons (eV 1) aNil)))))
 (sSeq (sAsgO 4 (eLst aNil))
 (sSeq (sFor (iRg rg1 (aCons (eCall m__law_draw (aVr 0 (aCons (eBin dAdd (eV 2) (eC (.int 1))) aNil))) aNil)) (gN 5)
 (sSeq (sAsg (gN 6) (eCall m__law_draw (aVr 0 (aCons (eV 3) aNil))))
 (sSeq (sAsg (gN 7) (eBin dMod (eF fInt (aCons (eBin dAdd (eBin dAdd (eV 6) (eC (.int 1))) (eCall m__law_draw (aVr 0 (aCons (eBin dSub (eV 3) (eC (.int 1))) aNil)))) aNil)) (eV 3)))
 (sApp 4 (eTup (aCons (eV 6) (aCons (eV 7) (aCons (eIx (eLst (aCons (eCall m__law_draw (aVr 0 (aCons (eC (.int 4)) aNil))) (aCons (eCall m__law_draw (aVr 0 (aCons (eC (.int 30)) aNil))) (aCons (eC (.int 0)) (aCons (eC (.int 1000000007)) aNil))))) (eBin dDiv (eCall m__law_draw (aVr 0 (aCons (eC (.int 8)) aNil))) (eC (.int 2)))) aNil))))))))
 (sRet (eTup (aCons (eV 3) (aCons (eV 4) aNil)))))))
noncomputable def m__law_net : Mo D := fnM 8 3 b__law_net
theorem sc__law_net : FnScope ["_law_state", "_law_most", "_law_many", "_law_count", "_law_edges", "_law_k", "_law_one", "_law_two"] ["_law_state", "_law_most", "_law_many"] (defScope s__law_net) := ⟨rfl, rfl, rfl, by decide +kernel, rfl, by decide +kernel, by decide +kernel⟩
theorem nd__law_net : List.Nodup (α := Str) ["_law_state", "_law_most", "_law_many", "_law_count", "_law_edges", "_law_k", "_law_one", "_law_two"] := by decide +kernel
theorem ok__law_net (F : Fun K "_law_net" "_law_net" s__law_net f fd) (T : Bi mg) (C__law_draw : CalM P w K mg base 1 "_law_draw" 2 false m__law_draw) : FnOk P w K mg base CX0 2 f fd ["_law_state", "_law_most", "_law_many"] (spM Wn K 3 false m__law_net) :=
 fn_ok F sc__law_net rfl fun cdv A outer s H E hr =>
 (dss_cons (ds_set nd__law_net rfl (by first | exact Or.inl rfl | exact Or.inr rfl) (de_add de_int (de_callC C__law_draw (hr.mono (by decide)) (by rfl) (alen_vr (alen_cons alen_nil)) (da_vr (pv 0) (da_cons (de_v (pv 1)) da_nil (by rfl)) (by rfl)) (by decide) (by rfl) (by rfl))) (by rfl) (by first | exact Or.inl rfl | exact Or.inr rfl | assumption))
 (dss_cons (ds_setO nd__law_net rfl (by first | exact Or.inl rfl | exact Or.inr rfl) (do_lst da_nil) (by rfl) (by first | exact Or.inl rfl | exact Or.inr rfl | assumption))
 (dss_cons (ds_for PassesOwn.never rfl calm_N (di_rg1 (by rfl) T.range (da_cons (de_callC C__law_draw (hr.mono (by decide)) (by rfl) (alen_vr (alen_cons alen_nil)) (da_vr (pv 0) (da_cons (de_add (de_v (pv 2)) de_int) da_nil (by rfl)) (by rfl)) (by decide) (by rfl) (by rfl)) da_nil (by rfl)) (by rfl)) (dg_name nd__law_net rfl (by first | exact Or.inl rfl | exact Or.inr rfl) (by first | exact Or.inl rfl | exact Or.inr rfl | assumption))
 (dss_cons (ds_set nd__law_net rfl (by first | exact Or.inl rfl | exact Or.inr rfl) (de_callC C__law_draw (hr.mono (by decide)) (by rfl) (alen_vr (alen_cons alen_nil)) (da_vr (pv 0) (da_cons (de_v (pv 3)) da_nil (by rfl)) (by rfl)) (by decide) (by rfl) (by rfl)) (by rfl) (by first | exact Or.inl rfl | exact Or.inr rfl | assumption))
 (dss_cons (ds_set nd__law_net rfl (by first | exact Or.inl rfl | exact Or.inr rfl) (de_mod (de_int1 (by rfl) T.int bt_int (da_cons (de_add (de_add (de_v (pv 6)) de_int) (de_callC C__law_draw (hr.mono (by decide)) (by rfl) (alen_vr (alen_cons alen_nil)) (da_vr (pv 0) (da_cons (de_sub (de_v (pv 3)) de_int) da_nil (by rfl)) (by rfl)) (by decide) (by rfl) (by rfl))) da_nil (by rfl)) (by decide) (by decide) (by rfl) (by rfl)) (de_v (pv 3))) (by rfl) (by first | exact Or.inl rfl | exact Or.inr rfl | assumption))
 (dss_one (ds_app (pv 4) (de_tup (da_cons (de_v (pv 6)) (da_cons (de_v (pv 7)) (da_cons (de_ix hr.u1 (DO.de (do_lst (da_cons (de_callC C__law_draw (hr.mono (by decide)) (by rfl) (alen_vr (alen_cons alen_nil)) (da_vr (pv 0) (da_cons de_int da_nil (by rfl)) (by rfl)) (by decide) (by rfl) (by rfl)) (da_cons (de_callC C__law_draw (hr.mono (by decide)) (by rfl) (alen_vr (alen_cons alen_nil)) (da_vr (pv 0) (da_cons de_int da_nil (by rfl)) (by rfl)) (by decide) (by rfl) (by rfl)) (da_cons de_int (da_cons de_int da_nil (by rfl)) (by rfl)) (by rfl)) (by rfl)))) (de_div (de_callC C__law_draw (hr.mono (by decide)) (by rfl) (alen_vr (alen_cons alen_nil)) (da_vr (pv 0) (da_cons de_int da_nil (by rfl)) (by rfl)) (by decide) (by rfl) (by rfl)) de_int) (by intro _ _; rfl) (by intro _ _; rfl)) da_nil (by rfl)) (by rfl)) (by rfl))) (by rfl))))) (by intro _; rfl))
 (dss_one (ds_ret (de_tup (da_cons (de_v (pv 3)) (da_cons (de_v (pv 4)) da_nil (by rfl)) (by rfl))))))))
abbrev s__law_is_flow : Stmt := top 18
noncomputable def b__law_is_flow : Mo Out :=
 (sSeq (sIf (eB (eBin dNe (eF fLen (aCons (eV 2) aNil)) (eF fLen (aCons (eV 1) aNil))))
 (sRet (eC (.bl false)))
 sNx)
 (sSeq (sAsgO 3 (eBin dMulL (eLst (aCons (eC (.int 0)) aNil)) (eV 0)))
 (sSeq (sFor (iRg rg1 (aCons (eF fLen (aCons (eV 1) aNil)) aNil)) (gN 4)
 (sSeq (sAsg (gT 3 (gCons (gN 5) (gCons (gN 6) (gCons (gN 7) gNil)))) (eIxV 1 (eV 4)))
 (sSeq (sIf (tOrM (eB (eBin dGt (eIxV 2 (eV 4)) (eV 7))) (eB (eBin dLt (eIxV 2 (eV 4)) (eBin dSub (eC (.int 0)) (eV 7)))))
 (sRet (eC (.bl false)))
 sNx)
 (sSeq (sSet 3 (eV 5) (eBin dAdd (eIxV 3 (eV 5)) (eIxV 2 (eV 4))))
 (sSet 3 (eV 6) (eBin dSub (eIxV 3 (eV 6)) (eIxV 2 (eV 4))))))))
 (sRet (eBin dEq (eF fLen (aCons (eLc (iRg rg2 (aCons (eC (.int 2)) (aCons (eV 0) aNil))) (gN 8) (eB (eBin dNe (eIxV 3 (eV 8)) (eC (.int 0)))) (eV 8) [8]) aNil)) (eC (.int 0)))))))
noncomputable def m__law_is_flow : Mo D := fnM 9 3 b__law_is_flow
theorem sc__law_is_flow : FnScope ["_law_count", "_law_edges", "_law_flow", "_law_gain", "_law_k", "_law_one", "_law_two", "_law_room", "_law_node"] ["_law_count", "_law_edges", "_law_flow"] (defScope s__law_is_flow) := ⟨rfl, rfl, rfl, by decide +kernel, rfl, by decide +kernel, by decide +kernel⟩
theorem nd__law_is_flow : List.Nodup (α := Str) ["_law_count", "_law_edges", "_law_flow", "_law_gain", "_law_k", "_law_one", "_law_two", "_law_room", "_law_node"] := by decide +kernel
theorem ok__law_is_flow (F : Fun K "_law_is_flow" "_law_is_flow" s__law_is_flow f fd) (T : Bi mg)  : FnOk P w K mg base CX0 1 f fd ["_law_count", "_law_edges", "_law_flow"] (spM Wn K 3 false m__law_is_flow) :=
 fn_ok F sc__law_is_flow rfl fun cdv A outer s H E hr =>
 (dss_cons (ds_if (dt_ne hr.units (de_len (by rfl) T.len bt_len (da_cons (de_v (pv 2)) da_nil (by rfl)) (by decide) (by decide) (by rfl) (by rfl)) (de_len (by rfl) T.len bt_len (da_cons (de_v (pv 1)) da_nil (by rfl)) (by decide) (by decide) (by rfl) (by rfl)))
 (dss_one (ds_ret de_bl))
 dss_nil)
 (dss_cons (ds_setO nd__law_is_flow rfl (by first | exact Or.inl rfl | exact Or.inr rfl) (do_rep (DO.de (do_lst (da_cons de_int da_nil (by rfl)))) (de_v (pv 0))) (by rfl) (by first | exact Or.inl rfl | exact Or.inr rfl | assumption))
 (dss_cons (ds_for PassesOwn.never rfl calm_N (di_rg1 (by rfl) T.range (da_cons (de_len (by rfl) T.len bt_len (da_cons (de_v (pv 1)) da_nil (by rfl)) (by decide) (by decide) (by rfl) (by rfl)) da_nil (by rfl)) (by rfl)) (dg_name nd__law_is_flow rfl (by first | exact Or.inl rfl | exact Or.inr rfl) (by first | exact Or.inl rfl | exact Or.inr rfl | assumption))
 (dss_cons (ds_asg (calm_T (calm_cons calm_N (calm_cons calm_N (calm_cons calm_N calm_nil)))) (de_ixV hr.u1 (pv 1) (de_v (pv 4)) (by intro _ _; rfl) (by intro _ _; rfl)) (dg_tup rfl (dgs_cons (dg_name nd__law_is_flow rfl (by first | exact Or.inl rfl | exact Or.inr rfl) (by first | exact Or.inl rfl | exact Or.inr rfl | assumption)) (dgs_cons (dg_name nd__law_is_flow rfl (by first | exact Or.inl rfl | exact Or.inr rfl) (by first | exact Or.inl rfl | exact Or.inr rfl | assumption)) (dgs_cons (dg_name nd__law_is_flow rfl (by first | exact Or.inl rfl | exact Or.inr rfl) (by first | exact Or.inl rfl | exact Or.inr rfl | assumption)) dgs_nil (by rfl)) (by rfl)) (by rfl)) (by rfl) (by rfl)) (by rfl) (by rfl) (by rfl))
 (dss_cons (ds_if (dw_t (dw_or (dt_gt (de_ixV hr.u1 (pv 2) (de_v (pv 4)) (by intro _ _; rfl) (by intro _ _; rfl)) (de_v (pv 7))) (dw_or1 (dt_lt (de_ixV hr.u1 (pv 2) (de_v (pv 4)) (by intro _ _; rfl) (by intro _ _; rfl)) (de_sub de_int (de_v (pv 7)))))))
 (dss_one (ds_ret de_bl))
 dss_nil)
 (dss_cons (ds_sub hr.u1 (pv 3) (de_v (pv 5)) (de_add (de_ixV hr.u1 (pv 3) (de_v (pv 5)) (by intro _ _; rfl) (by intro _ _; rfl)) (de_ixV hr.u1 (pv 2) (de_v (pv 4)) (by intro _ _; rfl) (by intro _ _; rfl))) (by rfl) (by rfl))
 (dss_one (ds_sub hr.u1 (pv 3) (de_v (pv 6)) (de_sub (de_ixV hr.u1 (pv 3) (de_v (pv 6)) (by intro _ _; rfl) (by intro _ _; rfl)) (de_ixV hr.u1 (pv 2) (de_v (pv 4)) (by intro _ _; rfl) (by intro _ _; rfl))) (by rfl) (by rfl)))))) (by intro _; rfl))
 (dss_one (ds_ret (de_eq hr.units (de_len (by rfl) T.len bt_len (da_cons (DO.de (do_lc (own := [("_law_node", 8)]) (by rfl) nd__law_is_flow (di_rg2 (by rfl) T.range (da_cons de_int (da_cons (de_v (pv 0)) da_nil (by rfl)) (by rfl)) (by rfl) (by rfl)) (blkOk_by (N := ["_law_count", "_law_edges", "_law_flow", "_law_gain", "_law_k", "_law_one", "_law_two", "_law_room", "_law_node"]) (sc := (defScope s__law_is_flow)) (own := [("_law_node", 8)]) (by decide +kernel)) (by decide) (fun _ _ _ _ _ => (dg_name nd__law_is_flow rfl (by first | exact Or.inl rfl | exact Or.inr rfl) (by first | exact Or.inl rfl | exact Or.inr rfl | assumption))) (fun _ _ _ _ _ => (dts_one (dt_ne hr.units (de_ixV hr.u1 (pv 3) (de_v (pv 8)) (by intro _ _; rfl) (by intro _ _; rfl)) de_int))) (fun _ _ _ _ _ => (de_v (pv 8))) (by intro _; rfl))) da_nil (by rfl)) (by decide) (by decide) (by rfl) (by rfl)) de_int))))))
abbrev s__law_left : Stmt := top 21
noncomputable def b__law_left : Mo Out :=
 (sSeq (sFor (iRg rg1 (aCons (eF fLen (aCons (eV 0) aNil)) aNil)) (gN 3)
 (sSeq (sAsg (gT 3 (gCons (gN 4) (gCons (gN 5) (gCons (gN 6) gNil)))) (eIxV 0 (eV 3)))
 (sSeq (sIf (tAndM (eB (eBin (dIn false) (eV 4) (eV 2))) (tAndM (eB (eBin (dIn true) (eV 5) (eV 2))) (eB (eBin dLt (eIxV 1 (eV 3)) (eV 6)))))
 (sRet (eC (.bl true)))
 sNx)
 (sIf (tAndM (eB (eBin (dIn false) (eV 5) (eV 2))) (tAndM (eB (eBin (dIn true) (eV 4) (eV 2))) (eB (eBin dGt (eIxV 1 (eV 3)) (eBin dSub (eC (.int 0)) (eV 6))))))
 (sRet (eC (.bl true)))
 sNx))))
 (sRet (eC (.bl false))))
noncomputable def m__law_left : Mo D := fnM 7 3 b__law_left
theorem sc__law_left : FnScope ["_law_edges", "_law_flow", "_law_side", "_law_k", "_law_one", "_law_two", "_law_room"] ["_law_edges", "_law_flow", "_law_side"] (defScope s__law_left) := ⟨rfl, rfl, rfl, by decide +kernel, rfl, by decide +kernel, by decide +kernel⟩
theorem nd__law_left : List.Nodup (α := Str) ["_law_edges", "_law_flow", "_law_side", "_law_k", "_law_one", "_law_two", "_law_room"] := by decide +kernel
theorem ok__law_left (F : Fun K "_law_left" "_law_left" s__law_left f fd) (T : Bi mg)  : FnOk P w K mg base CX0 1 f fd ["_law_edges", "_law_flow", "_law_side"] (spM Wn K 3 false m__law_left) :=
 fn_ok F sc__law_left rfl fun cdv A outer s H E hr =>
 (dss_cons (ds_for PassesOwn.never rfl calm_N (di_rg1 (by rfl) T.range (da_cons (de_len (by rfl) T.len bt_len (da_cons (de_v (pv 0)) da_nil (by rfl)) (by decide) (by decide) (by rfl) (by rfl)) da_nil (by rfl)) (by rfl)) (dg_name nd__law_left rfl (by first | exact Or.inl rfl | exact Or.inr rfl) (by first | exact Or.inl rfl | exact Or.inr rfl | assumption))
 (dss_cons (ds_asg (calm_T (calm_cons calm_N (calm_cons calm_N (calm_cons calm_N calm_nil)))) (de_ixV hr.u1 (pv 0) (de_v (pv 3)) (by intro _ _; rfl) (by intro _ _; rfl)) (dg_tup rfl (dgs_cons (dg_name nd__law_left rfl (by first | exact Or.inl rfl | exact Or.inr rfl) (by first | exact Or.inl rfl | exact Or.inr rfl | assumption)) (dgs_cons (dg_name nd__law_left rfl (by first | exact Or.inl rfl | exact Or.inr rfl) (by first | exact Or.inl rfl | exact Or.inr rfl | assumption)) (dgs_cons (dg_name nd__law_left rfl (by first | exact Or.inl rfl | exact Or.inr rfl) (by first | exact Or.inl rfl | exact Or.inr rfl | assumption)) dgs_nil (by rfl)) (by rfl)) (by rfl)) (by rfl) (by rfl)) (by rfl) (by rfl) (by rfl))
 (dss_cons (ds_if (dw_t (dw_and (dt_in hr.u65 (de_v (pv 4)) (de_v (pv 2)) (by rfl)) (dw_and (dt_notin hr.u65 (de_v (pv 5)) (de_v (pv 2)) (by rfl)) (dw_and1 (dt_lt (de_ixV hr.u1 (pv 1) (de_v (pv 3)) (by intro _ _; rfl) (by intro _ _; rfl)) (de_v (pv 6)))))))
 (dss_one (ds_ret de_bl))
 dss_nil)
 (dss_one (ds_if (dw_t (dw_and (dt_in hr.u65 (de_v (pv 5)) (de_v (pv 2)) (by rfl)) (dw_and (dt_notin hr.u65 (de_v (pv 4)) (de_v (pv 2)) (by rfl)) (dw_and1 (dt_gt (de_ixV hr.u1 (pv 1) (de_v (pv 3)) (by intro _ _; rfl) (by intro _ _; rfl)) (de_sub de_int (de_v (pv 6))))))))
 (dss_one (ds_ret de_bl))
 dss_nil)))) (by intro _; rfl))
 (dss_one (ds_ret de_bl)))
abbrev s__law_cost : Stmt := top 16
noncomputable def b__law_cost : Mo Out :=
 (sRet (eF fSum (aCons (eLc (iOf (eV 0)) (gT 3 (gCons (gN 2) (gCons (gN 3) (gCons (gN 4) gNil)))) (eB (eBin dNe (eBin (dIn false) (eV 2) (eV 1)) (eBin (dIn false) (eV 3) (eV 1)))) (eV 4) [2, 3, 4]) aNil)))
noncomputable def m__law_cost : Mo D := fnM 5 2 b__law_cost
theorem sc__law_cost : FnScope ["_law_edges", "_law_side", "_law_one", "_law_two", "_law_room"] ["_law_edges", "_law_side"] (defScope s__law_cost) := ⟨rfl, rfl, rfl, by decide +kernel, rfl, by decide +kernel, by decide +kernel⟩
theorem nd__law_cost : List.Nodup (α := Str) ["_law_edges", "_law_side", "_law_one", "_law_two", "_law_room"] := by decide +kernel
theorem ok__law_cost (F : Fun K "_law_cost" "_law_cost" s__law_cost f fd) (T : Bi mg)  : FnOk P w K mg base CX0 1 f fd ["_law_edges", "_law_side"] (spM Wn K 2 false m__law_cost) :=
 fn_ok F sc__law_cost rfl fun cdv A outer s H E hr =>
 (dss_one (ds_ret (de_sum (by rfl) (by rfl) T.sum bt_sum (da_cons (DO.de (do_lc (own := [("_law_one", 2), ("_law_two", 3), ("_law_room", 4)]) (by rfl) nd__law_cost (di_of (de_v (pv 0))) (blkOk_by (N := ["_law_edges", "_law_side", "_law_one", "_law_two", "_law_room"]) (sc := (defScope s__law_cost)) (own := [("_law_one", 2), ("_law_two", 3), ("_law_room", 4)]) (by decide +kernel)) (by decide) (fun _ _ _ _ _ => (dg_tup rfl (dgs_cons (dg_name nd__law_cost rfl (by first | exact Or.inl rfl | exact Or.inr rfl) (by first | exact Or.inl rfl | exact Or.inr rfl | assumption)) (dgs_cons (dg_name nd__law_cost rfl (by first | exact Or.inl rfl | exact Or.inr rfl) (by first | exact Or.inl rfl | exact Or.inr rfl | assumption)) (dgs_cons (dg_name nd__law_cost rfl (by first | exact Or.inl rfl | exact Or.inr rfl) (by first | exact Or.inl rfl | exact Or.inr rfl | assumption)) dgs_nil (by rfl)) (by rfl)) (by rfl)) (by rfl) (by rfl))) (fun _ _ _ _ _ => (dts_one (dt_ne hr.units (de_in hr.u65 (de_v (pv 2)) (de_v (pv 1)) (by rfl)) (de_in hr.u65 (de_v (pv 3)) (de_v (pv 1)) (by rfl))))) (fun _ _ _ _ _ => (de_v (pv 4))) (by intro _; rfl))) da_nil (by rfl)) (by decide) (by decide) (by rfl) (by rfl))))
abbrev s_law : Stmt := top 22
noncomputable def b_law : Mo Out :=
 (sSeq (sAsgO 1 (eLst (aCons (eV 0) (aCons (eC (.int 0)) (aCons (eC (.int 0)) (aCons (eC (.int 1)) aNil))))))
 (sSeq (sAsg (gT 2 (gCons (gN 2) (gCons (gN 3) gNil))) (eCall m__law_grid (aVr 1 aNil)))
 (sSeq (sIf (eB (eBin dEq (eCall m__law_draw (aVr 1 (aCons (eC (.int 2)) aNil))) (eC (.int 0))))
 (sAsg (gT 2 (gCons (gN 2) (gCons (gN 3) gNil))) (eCall m__law_net (aVr 1 (aCons (eC (.int 19)) (aCons (eC (.int 60)) aNil)))))
 sNx)
 (sSeq (sAsg (gN 4) (eCall m_greatest_flow (aCons (eV 2) (aCons (eF fList' (aCons (eV 3) aNil)) aNil))))
 (sSeq (sIf (tNotM (eTru (eCall m__law_is_flow (aCons (eV 2) (aCons (eV 3) (aCons (eV 4) aNil))))))
 (sRet (eC (.bl false)))
 sNx)
 (sSeq (sAsg (gN 5) (eCall m__law_worth (aCons (eV 3) (aCons (eV 4) aNil))))
 (sSeq (sAsg (gN 6) (eCall m_narrow_side (aCons (eV 2) (aCons (eF fList' (aCons (eV 3) aNil)) (aCons (eF fList' (aCons (eV 4) aNil)) aNil)))))
 (sSeq (sAsg (gN 7) (eCall m_wide_side (aCons (eV 2) (aCons (eF fList' (aCons (eV 3) aNil)) (aCons (eF fList' (aCons (eV 4) aNil)) aNil)))))
 (sSeq (sFor (iOf (eLst (aCons (eV 6) (aCons (eV 7) aNil)))) (gN 8)
 (sSeq (sIf (tOrM (eB (eBin dNe (eV 8) (eF fSortSet (aCons (eV 8) aNil)))) (tOrM (eB (eBin dNe (eIxV 8 (eC (.int 0))) (eC (.int 0)))) (tOrM (eB (eBin (dIn false) (eC (.int 1)) (eV 8))) (eB (eBin dNe (eCall m__law_cost (aCons (eV 3) (aCons (eV 8) aNil))) (eV 5))))))
 (sRet (eC (.bl false)))
 sNx)
 (sIf (eTru (eCall m__law_left (aCons (eV 3) (aCons (eV 4) (aCons (eV 8) aNil)))))
 (sRet (eC (.bl false)))
 sNx)))
 (sRet (eBin dEq (eF fLen (aCons (eLc (iOf (eV 6)) (gN 9) (eB (eBin (dIn true) (eV 9) (eV 7))) (eV 9) [9]) aNil)) (eC (.int 0)))))))))))))
noncomputable def m_law : Mo D := fnM 10 1 b_law
theorem sc_law : FnScope ["_law_script", "_law_state", "_law_count", "_law_edges", "_law_flow", "_law_price", "_law_narrow", "_law_wide", "_law_side", "_law_node"] ["_law_script"] (defScope s_law) := ⟨rfl, rfl, rfl, by decide +kernel, rfl, by decide +kernel, by decide +kernel⟩
theorem nd_law : List.Nodup (α := Str) ["_law_script", "_law_state", "_law_count", "_law_edges", "_law_flow", "_law_price", "_law_narrow", "_law_wide", "_law_side", "_law_node"] := by decide +kernel
theorem ok_law (F : Fun K "law" "law" s_law f fd) (T : Bi mg) (C__law_grid : CalM P w K mg base 2 "_law_grid" 1 false m__law_grid) (C__law_draw : CalM P w K mg base 1 "_law_draw" 2 false m__law_draw) (C__law_net : CalM P w K mg base 2 "_law_net" 3 false m__law_net) (C_greatest_flow : CalM P w K mg base 3 "greatest_flow" 2 false m_greatest_flow) (C__law_is_flow : CalM P w K mg base 1 "_law_is_flow" 3 false m__law_is_flow) (C__law_worth : CalM P w K mg base 1 "_law_worth" 2 false m__law_worth) (C_narrow_side : CalM P w K mg base 3 "narrow_side" 3 false m_narrow_side) (C_wide_side : CalM P w K mg base 3 "wide_side" 3 false m_wide_side) (C__law_cost : CalM P w K mg base 1 "_law_cost" 2 false m__law_cost) (C__law_left : CalM P w K mg base 1 "_law_left" 3 false m__law_left) : FnOk P w K mg base CX0 4 f fd ["_law_script"] (spM Wn K 1 false m_law) :=
 fn_ok F sc_law rfl fun cdv A outer s H E hr =>
 (dss_cons (ds_setO nd_law rfl (by first | exact Or.inl rfl | exact Or.inr rfl) (do_lst (da_cons (de_v (pv 0)) (da_cons de_int (da_cons de_int (da_cons de_int da_nil (by rfl)) (by rfl)) (by rfl)) (by rfl))) (by rfl) (by first | exact Or.inl rfl | exact Or.inr rfl | assumption))
 (dss_cons (ds_asg (calm_T (calm_cons calm_N (calm_cons calm_N calm_nil))) (de_callC C__law_grid (hr.mono (by decide)) (by rfl) (alen_vr alen_nil) (da_vr (pv 1) da_nil (by rfl)) (by decide) (by rfl) (by rfl)) (dg_tup rfl (dgs_cons (dg_name nd_law rfl (by first | exact Or.inl rfl | exact Or.inr rfl) (by first | exact Or.inl rfl | exact Or.inr rfl | assumption)) (dgs_cons (dg_name nd_law rfl (by first | exact Or.inl rfl | exact Or.inr rfl) (by first | exact Or.inl rfl | exact Or.inr rfl | assumption)) dgs_nil (by rfl)) (by rfl)) (by rfl) (by rfl)) (by rfl) (by rfl) (by rfl))
 (dss_cons (ds_if (dt_eq hr.units (de_callC C__law_draw (hr.mono (by decide)) (by rfl) (alen_vr (alen_cons alen_nil)) (da_vr (pv 1) (da_cons de_int da_nil (by rfl)) (by rfl)) (by decide) (by rfl) (by rfl)) de_int)
 (dss_one (ds_asg (calm_T (calm_cons calm_N (calm_cons calm_N calm_nil))) (de_callC C__law_net (hr.mono (by decide)) (by rfl) (alen_vr (alen_cons (alen_cons alen_nil))) (da_vr (pv 1) (da_cons de_int (da_cons de_int da_nil (by rfl)) (by rfl)) (by rfl)) (by decide) (by rfl) (by rfl)) (dg_tup rfl (dgs_cons (dg_name nd_law rfl (by first | exact Or.inl rfl | exact Or.inr rfl) (by first | exact Or.inl rfl | exact Or.inr rfl | assumption)) (dgs_cons (dg_name nd_law rfl (by first | exact Or.inl rfl | exact Or.inr rfl) (by first | exact Or.inl rfl | exact Or.inr rfl | assumption)) dgs_nil (by rfl)) (by rfl)) (by rfl) (by rfl)) (by rfl) (by rfl) (by rfl)))
 dss_nil)
 (dss_cons (ds_set nd_law rfl (by first | exact Or.inl rfl | exact Or.inr rfl) (de_callC C_greatest_flow (hr.mono (by decide)) (by rfl) (alen_cons (alen_cons alen_nil)) (da_cons (de_v (pv 2)) (da_cons (DO.de (do_list (by rfl) (by rfl) T.list bt_list (da_cons (de_v (pv 3)) da_nil (by rfl)) (by decide) (by decide) (by rfl) (by rfl))) da_nil (by rfl)) (by rfl)) (by decide) (by rfl) (by rfl)) (by rfl) (by first | exact Or.inl rfl | exact Or.inr rfl | assumption))
 (dss_cons (ds_if (dt_not (dt_tru (de_callC C__law_is_flow (hr.mono (by decide)) (by rfl) (alen_cons (alen_cons (alen_cons alen_nil))) (da_cons (de_v (pv 2)) (da_cons (de_v (pv 3)) (da_cons (de_v (pv 4)) da_nil (by rfl)) (by rfl)) (by rfl)) (by decide) (by rfl) (by rfl)) (by intro _; rfl)))
 (dss_one (ds_ret de_bl))
 dss_nil)
 (dss_cons (ds_set nd_law rfl (by first | exact Or.inl rfl | exact Or.inr rfl) (de_callC C__law_worth (hr.mono (by decide)) (by rfl) (alen_cons (alen_cons alen_nil)) (da_cons (de_v (pv 3)) (da_cons (de_v (pv 4)) da_nil (by rfl)) (by rfl)) (by decide) (by rfl) (by rfl)) (by rfl) (by first | exact Or.inl rfl | exact Or.inr rfl | assumption))
 (dss_cons (ds_set nd_law rfl (by first | exact Or.inl rfl | exact Or.inr rfl) (de_callC C_narrow_side (hr.mono (by decide)) (by rfl) (alen_cons (alen_cons (alen_cons alen_nil))) (da_cons (de_v (pv 2)) (da_cons (DO.de (do_list (by rfl) (by rfl) T.list bt_list (da_cons (de_v (pv 3)) da_nil (by rfl)) (by decide) (by decide) (by rfl) (by rfl))) (da_cons (DO.de (do_list (by rfl) (by rfl) T.list bt_list (da_cons (de_v (pv 4)) da_nil (by rfl)) (by decide) (by decide) (by rfl) (by rfl))) da_nil (by rfl)) (by rfl)) (by rfl)) (by decide) (by rfl) (by rfl)) (by rfl) (by first | exact Or.inl rfl | exact Or.inr rfl | assumption))
 (dss_cons (ds_set nd_law rfl (by first | exact Or.inl rfl | exact Or.inr rfl) (de_callC C_wide_side (hr.mono (by decide)) (by rfl) (alen_cons (alen_cons (alen_cons alen_nil))) (da_cons (de_v (pv 2)) (da_cons (DO.de (do_list (by rfl) (by rfl) T.list bt_list (da_cons (de_v (pv 3)) da_nil (by rfl)) (by decide) (by decide) (by rfl) (by rfl))) (da_cons (DO.de (do_list (by rfl) (by rfl) T.list bt_list (da_cons (de_v (pv 4)) da_nil (by rfl)) (by decide) (by decide) (by rfl) (by rfl))) da_nil (by rfl)) (by rfl)) (by rfl)) (by decide) (by rfl) (by rfl)) (by rfl) (by first | exact Or.inl rfl | exact Or.inr rfl | assumption))
 (dss_cons (ds_for PassesOwn.never rfl calm_N (di_of (DO.de (do_lst (da_cons (de_v (pv 6)) (da_cons (de_v (pv 7)) da_nil (by rfl)) (by rfl))))) (dg_name nd_law rfl (by first | exact Or.inl rfl | exact Or.inr rfl) (by first | exact Or.inl rfl | exact Or.inr rfl | assumption))
 (dss_cons (ds_if (dw_t (dw_or (dt_ne hr.units (de_v (pv 8)) (DO.de (do_sortSet (by rfl) (by rfl) T.sorted bt_sorted (by rfl) T.set bt_set (da_cons (de_v (pv 8)) da_nil (by rfl)) (by decide) (by decide) (by decide) (by decide) (by rfl) (by rfl) (by rfl) (by rfl)))) (dw_or (dt_ne hr.units (de_ixV hr.u1 (pv 8) de_int (by intro _ _; rfl) (by intro _ _; rfl)) de_int) (dw_or (dt_in hr.u65 de_int (de_v (pv 8)) (by rfl)) (dw_or1 (dt_ne hr.units (de_callC C__law_cost (hr.mono (by decide)) (by rfl) (alen_cons (alen_cons alen_nil)) (da_cons (de_v (pv 3)) (da_cons (de_v (pv 8)) da_nil (by rfl)) (by rfl)) (by decide) (by rfl) (by rfl)) (de_v (pv 5))))))))
 (dss_one (ds_ret de_bl))
 dss_nil)
 (dss_one (ds_if (dt_tru (de_callC C__law_left (hr.mono (by decide)) (by rfl) (alen_cons (alen_cons (alen_cons alen_nil))) (da_cons (de_v (pv 3)) (da_cons (de_v (pv 4)) (da_cons (de_v (pv 8)) da_nil (by rfl)) (by rfl)) (by rfl)) (by decide) (by rfl) (by rfl)) (by intro _; rfl))
 (dss_one (ds_ret de_bl))
 dss_nil))) (by intro _; rfl))
 (dss_one (ds_ret (de_eq hr.units (de_len (by rfl) T.len bt_len (da_cons (DO.de (do_lc (own := [("_law_node", 9)]) (by rfl) nd_law (di_of (de_v (pv 6))) (blkOk_by (N := ["_law_script", "_law_state", "_law_count", "_law_edges", "_law_flow", "_law_price", "_law_narrow", "_law_wide", "_law_side", "_law_node"]) (sc := (defScope s_law)) (own := [("_law_node", 9)]) (by decide +kernel)) (by decide) (fun _ _ _ _ _ => (dg_name nd_law rfl (by first | exact Or.inl rfl | exact Or.inr rfl) (by first | exact Or.inl rfl | exact Or.inr rfl | assumption))) (fun _ _ _ _ _ => (dts_one (dt_notin hr.u65 (de_v (pv 9)) (de_v (pv 7)) (by rfl)))) (fun _ _ _ _ _ => (de_v (pv 9))) (by intro _; rfl))) da_nil (by rfl)) (by decide) (by decide) (by rfl) (by rfl)) de_int))))))))))))
end
theorem all_mk {l : PySem.W.OpenLaw} {w : World} {K : PySem.W.Frag} {h : Heap} {mg : Str → Option Value} {fa : Addr} (X : K.In h) (G : h.Ns mainGlobals mg) (hfa : mg "law" = some (.ref fa))
 {f0 f1 f2 f3 f4 f5 f6 f7 f8 f9 f10 f11 f12 f13 f14 f15 f16 : Addr} {od0 an0 od1 an1 od2 an2 od3 an3 od4 an4 od5 an5 od6 an6 od7 an7 od8 an8 od9 an9 od10 an10 od11 an11 od12 an12 od13 an13 od14 an14 od15 an15 od16 an16 : Option Addr} {sl0 sl1 sl2 sl3 sl4 sl5 sl6 sl7 sl8 sl9 sl10 sl11 sl12 sl13 sl14 sl15 sl16 : Array (Option Value)} {oc0 kV0 dc0 pm0 cd0 ct0 oc1 kV1 dc1 pm1 cd1 ct1 oc2 kV2 dc2 pm2 cd2 ct2 oc3 kV3 dc3 pm3 cd3 ct3 oc4 kV4 dc4 pm4 cd4 ct4 oc5 kV5 dc5 pm5 cd5 ct5 oc6 kV6 dc6 pm6 cd6 ct6 oc7 kV7 dc7 pm7 cd7 ct7 oc8 kV8 dc8 pm8 cd8 ct8 oc9 kV9 dc9 pm9 cd9 ct9 oc10 kV10 dc10 pm10 cd10 ct10 oc11 kV11 dc11 pm11 cd11 ct11 oc12 kV12 dc12 pm12 cd12 ct12 oc13 kV13 dc13 pm13 cd13 ct13 oc14 kV14 dc14 pm14 cd14 ct14 oc15 kV15 dc15 pm15 cd15 ct15 oc16 kV16 dc16 pm16 cd16 ct16 : Value}
 (a0 : PySem.W.nsIn K mainGlobals "_law_draw" = some (some (.ref f0))) (l0 : K.lookup f0 = some ⟨oc0, od0, .func (PySem.W.fnOf "_law_draw" "_law_draw" (defArgs s__law_draw) (defBody s__law_draw) (defScope s__law_draw) .none kV0 dc0 pm0 an0 cd0 ct0), sl0⟩) (c0 : PySem.W.codeIn K cd0 "_law_draw" = true) (k0 : PySem.W.keepIn K (.ref f0) = true)
 (a1 : PySem.W.nsIn K mainGlobals "_law_grid" = some (some (.ref f1))) (l1 : K.lookup f1 = some ⟨oc1, od1, .func (PySem.W.fnOf "_law_grid" "_law_grid" (defArgs s__law_grid) (defBody s__law_grid) (defScope s__law_grid) .none kV1 dc1 pm1 an1 cd1 ct1), sl1⟩) (c1 : PySem.W.codeIn K cd1 "_law_grid" = true) (k1 : PySem.W.keepIn K (.ref f1) = true)
 (a2 : PySem.W.nsIn K mainGlobals "check_net" = some (some (.ref f2))) (l2 : K.lookup f2 = some ⟨oc2, od2, .func (PySem.W.fnOf "check_net" "check_net" (defArgs s_check_net) (defBody s_check_net) (defScope s_check_net) .none kV2 dc2 pm2 an2 cd2 ct2), sl2⟩) (c2 : PySem.W.codeIn K cd2 "check_net" = true) (k2 : PySem.W.keepIn K (.ref f2) = true)
 (a3 : PySem.W.nsIn K mainGlobals "touching" = some (some (.ref f3))) (l3 : K.lookup f3 = some ⟨oc3, od3, .func (PySem.W.fnOf "touching" "touching" (defArgs s_touching) (defBody s_touching) (defScope s_touching) .none kV3 dc3 pm3 an3 cd3 ct3), sl3⟩) (c3 : PySem.W.codeIn K cd3 "touching" = true) (k3 : PySem.W.keepIn K (.ref f3) = true)
 (a4 : PySem.W.nsIn K mainGlobals "other_node" = some (some (.ref f4))) (l4 : K.lookup f4 = some ⟨oc4, od4, .func (PySem.W.fnOf "other_node" "other_node" (defArgs s_other_node) (defBody s_other_node) (defScope s_other_node) .none kV4 dc4 pm4 an4 cd4 ct4), sl4⟩) (c4 : PySem.W.codeIn K cd4 "other_node" = true) (k4 : PySem.W.keepIn K (.ref f4) = true)
 (a5 : PySem.W.nsIn K mainGlobals "room_left" = some (some (.ref f5))) (l5 : K.lookup f5 = some ⟨oc5, od5, .func (PySem.W.fnOf "room_left" "room_left" (defArgs s_room_left) (defBody s_room_left) (defScope s_room_left) .none kV5 dc5 pm5 an5 cd5 ct5), sl5⟩) (c5 : PySem.W.codeIn K cd5 "room_left" = true) (k5 : PySem.W.keepIn K (.ref f5) = true)
 (a6 : PySem.W.nsIn K mainGlobals "ways_from" = some (some (.ref f6))) (l6 : K.lookup f6 = some ⟨oc6, od6, .func (PySem.W.fnOf "ways_from" "ways_from" (defArgs s_ways_from) (defBody s_ways_from) (defScope s_ways_from) .none kV6 dc6 pm6 an6 cd6 ct6), sl6⟩) (c6 : PySem.W.codeIn K cd6 "ways_from" = true) (k6 : PySem.W.keepIn K (.ref f6) = true)
 (a7 : PySem.W.nsIn K mainGlobals "push" = some (some (.ref f7))) (l7 : K.lookup f7 = some ⟨oc7, od7, .func (PySem.W.fnOf "push" "push" (defArgs s_push) (defBody s_push) (defScope s_push) .none kV7 dc7 pm7 an7 cd7 ct7), sl7⟩) (c7 : PySem.W.codeIn K cd7 "push" = true) (k7 : PySem.W.keepIn K (.ref f7) = true)
 (a8 : PySem.W.nsIn K mainGlobals "greatest_flow" = some (some (.ref f8))) (l8 : K.lookup f8 = some ⟨oc8, od8, .func (PySem.W.fnOf "greatest_flow" "greatest_flow" (defArgs s_greatest_flow) (defBody s_greatest_flow) (defScope s_greatest_flow) .none kV8 dc8 pm8 an8 cd8 ct8), sl8⟩) (c8 : PySem.W.codeIn K cd8 "greatest_flow" = true) (k8 : PySem.W.keepIn K (.ref f8) = true)
 (a9 : PySem.W.nsIn K mainGlobals "_law_worth" = some (some (.ref f9))) (l9 : K.lookup f9 = some ⟨oc9, od9, .func (PySem.W.fnOf "_law_worth" "_law_worth" (defArgs s__law_worth) (defBody s__law_worth) (defScope s__law_worth) .none kV9 dc9 pm9 an9 cd9 ct9), sl9⟩) (c9 : PySem.W.codeIn K cd9 "_law_worth" = true) (k9 : PySem.W.keepIn K (.ref f9) = true)
 (a10 : PySem.W.nsIn K mainGlobals "narrow_side" = some (some (.ref f10))) (l10 : K.lookup f10 = some ⟨oc10, od10, .func (PySem.W.fnOf "narrow_side" "narrow_side" (defArgs s_narrow_side) (defBody s_narrow_side) (defScope s_narrow_side) .none kV10 dc10 pm10 an10 cd10 ct10), sl10⟩) (c10 : PySem.W.codeIn K cd10 "narrow_side" = true) (k10 : PySem.W.keepIn K (.ref f10) = true)
 (a11 : PySem.W.nsIn K mainGlobals "wide_side" = some (some (.ref f11))) (l11 : K.lookup f11 = some ⟨oc11, od11, .func (PySem.W.fnOf "wide_side" "wide_side" (defArgs s_wide_side) (defBody s_wide_side) (defScope s_wide_side) .none kV11 dc11 pm11 an11 cd11 ct11), sl11⟩) (c11 : PySem.W.codeIn K cd11 "wide_side" = true) (k11 : PySem.W.keepIn K (.ref f11) = true)
 (a12 : PySem.W.nsIn K mainGlobals "_law_net" = some (some (.ref f12))) (l12 : K.lookup f12 = some ⟨oc12, od12, .func (PySem.W.fnOf "_law_net" "_law_net" (defArgs s__law_net) (defBody s__law_net) (defScope s__law_net) .none kV12 dc12 pm12 an12 cd12 ct12), sl12⟩) (c12 : PySem.W.codeIn K cd12 "_law_net" = true) (k12 : PySem.W.keepIn K (.ref f12) = true)
 (a13 : PySem.W.nsIn K mainGlobals "_law_is_flow" = some (some (.ref f13))) (l13 : K.lookup f13 = some ⟨oc13, od13, .func (PySem.W.fnOf "_law_is_flow" "_law_is_flow" (defArgs s__law_is_flow) (defBody s__law_is_flow) (defScope s__law_is_flow) .none kV13 dc13 pm13 an13 cd13 ct13), sl13⟩) (c13 : PySem.W.codeIn K cd13 "_law_is_flow" = true) (k13 : PySem.W.keepIn K (.ref f13) = true)
 (a14 : PySem.W.nsIn K mainGlobals "_law_left" = some (some (.ref f14))) (l14 : K.lookup f14 = some ⟨oc14, od14, .func (PySem.W.fnOf "_law_left" "_law_left" (defArgs s__law_left) (defBody s__law_left) (defScope s__law_left) .none kV14 dc14 pm14 an14 cd14 ct14), sl14⟩) (c14 : PySem.W.codeIn K cd14 "_law_left" = true) (k14 : PySem.W.keepIn K (.ref f14) = true)
 (a15 : PySem.W.nsIn K mainGlobals "_law_cost" = some (some (.ref f15))) (l15 : K.lookup f15 = some ⟨oc15, od15, .func (PySem.W.fnOf "_law_cost" "_law_cost" (defArgs s__law_cost) (defBody s__law_cost) (defScope s__law_cost) .none kV15 dc15 pm15 an15 cd15 ct15), sl15⟩) (c15 : PySem.W.codeIn K cd15 "_law_cost" = true) (k15 : PySem.W.keepIn K (.ref f15) = true)
 (a16 : PySem.W.nsIn K mainGlobals "law" = some (some (.ref f16))) (l16 : K.lookup f16 = some ⟨oc16, od16, .func (PySem.W.fnOf "law" "law" (defArgs s_law) (defBody s_law) (defScope s_law) .none kV16 dc16 pm16 an16 cd16 ct16), sl16⟩) (c16 : PySem.W.codeIn K cd16 "law" = true) (k16 : PySem.W.keepIn K (.ref f16) = true)
 (z_abs : PySem.W.nsIn K mainGlobals "abs" = some none) (z_int : PySem.W.nsIn K mainGlobals "int" = some none) (z_len : PySem.W.nsIn K mainGlobals "len" = some none) (z_list : PySem.W.nsIn K mainGlobals "list" = some none) (z_min : PySem.W.nsIn K mainGlobals "min" = some none) (z_range : PySem.W.nsIn K mainGlobals "range" = some none) (z_set : PySem.W.nsIn K mainGlobals "set" = some none) (z_sorted : PySem.W.nsIn K mainGlobals "sorted" = some none) (z_sum : PySem.W.nsIn K mainGlobals "sum" = some none) :
 ∃ fd : FuncData, (∀ (s : Shared) (v : Value), BindsTo s fd ⟨[v], []⟩ [("_law_script", v)]) ∧ ∀ base : Heap, K.In base → base.Ns mainGlobals mg → FnOk l.prog w K mg base CX0 4 fa fd ["_law_script"] (spM Wn K 1 false m_law) := by
  have e := hfa.symm.trans (PySem.W.mg_of X G a16)
  cases e
  have T : Bi mg := ⟨PySem.W.mg_none_of X G z_abs, PySem.W.mg_none_of X G z_int, PySem.W.mg_none_of X G z_len, PySem.W.mg_none_of X G z_list, PySem.W.mg_none_of X G z_min, PySem.W.mg_none_of X G z_range, PySem.W.mg_none_of X G z_set, PySem.W.mg_none_of X G z_sorted, PySem.W.mg_none_of X G z_sum⟩
  have F0 := fun_mk (st := s__law_draw) l0 c0 k0
  have b0 := F0.binds (ps := ["_law_state", "_law_many"]) fun _ _ _ _ _ _ us hl => match us, hl with | [_, _], _ => rfl
  have F1 := fun_mk (st := s__law_grid) l1 c1 k1
  have b1 := F1.binds (ps := ["_law_state"]) fun _ _ _ _ _ _ us hl => match us, hl with | [_], _ => rfl
  have F2 := fun_mk (st := s_check_net) l2 c2 k2
  have b2 := F2.binds (ps := ["count", "edges"]) fun _ _ _ _ _ _ us hl => match us, hl with | [_, _], _ => rfl
  have F3 := fun_mk (st := s_touching) l3 c3 k3
  have b3 := F3.binds (ps := ["count", "edges"]) fun _ _ _ _ _ _ us hl => match us, hl with | [_, _], _ => rfl
  have F4 := fun_mk (st := s_other_node) l4 c4 k4
  have b4 := F4.binds (ps := ["edge", "node"]) fun _ _ _ _ _ _ us hl => match us, hl with | [_, _], _ => rfl
  have F5 := fun_mk (st := s_room_left) l5 c5 k5
  have b5 := F5.binds (ps := ["edge", "moved", "node"]) fun _ _ _ _ _ _ us hl => match us, hl with | [_, _, _], _ => rfl
  have F6 := fun_mk (st := s_ways_from) l6 c6 k6
  have b6 := F6.binds (ps := ["near", "edges", "flow", "start", "outward"]) fun _ _ _ _ _ _ us hl => match us, hl with | [_, _, _, _, _], _ => rfl
  have F7 := fun_mk (st := s_push) l7 c7 k7
  have b7 := F7.binds (ps := ["edges", "flow", "ways"]) fun _ _ _ _ _ _ us hl => match us, hl with | [_, _, _], _ => rfl
  have F8 := fun_mk (st := s_greatest_flow) l8 c8 k8
  have b8 := F8.binds (ps := ["count", "edges"]) fun _ _ _ _ _ _ us hl => match us, hl with | [_, _], _ => rfl
  have F9 := fun_mk (st := s__law_worth) l9 c9 k9
  have b9 := F9.binds (ps := ["_law_edges", "_law_flow"]) fun _ _ _ _ _ _ us hl => match us, hl with | [_, _], _ => rfl
  have F10 := fun_mk (st := s_narrow_side) l10 c10 k10
  have b10 := F10.binds (ps := ["count", "edges", "flow"]) fun _ _ _ _ _ _ us hl => match us, hl with | [_, _, _], _ => rfl
  have F11 := fun_mk (st := s_wide_side) l11 c11 k11
  have b11 := F11.binds (ps := ["count", "edges", "flow"]) fun _ _ _ _ _ _ us hl => match us, hl with | [_, _, _], _ => rfl
  have F12 := fun_mk (st := s__law_net) l12 c12 k12
  have b12 := F12.binds (ps := ["_law_state", "_law_most", "_law_many"]) fun _ _ _ _ _ _ us hl => match us, hl with | [_, _, _], _ => rfl
  have F13 := fun_mk (st := s__law_is_flow) l13 c13 k13
  have b13 := F13.binds (ps := ["_law_count", "_law_edges", "_law_flow"]) fun _ _ _ _ _ _ us hl => match us, hl with | [_, _, _], _ => rfl
  have F14 := fun_mk (st := s__law_left) l14 c14 k14
  have b14 := F14.binds (ps := ["_law_edges", "_law_flow", "_law_side"]) fun _ _ _ _ _ _ us hl => match us, hl with | [_, _, _], _ => rfl
  have F15 := fun_mk (st := s__law_cost) l15 c15 k15
  have b15 := F15.binds (ps := ["_law_edges", "_law_side"]) fun _ _ _ _ _ _ us hl => match us, hl with | [_, _], _ => rfl
  have F16 := fun_mk (st := s_law) l16 c16 k16
  refine ⟨PySem.W.fnOf "law" "law" (defArgs s_law) (defBody s_law) (defScope s_law) .none kV16 dc16 pm16 an16 cd16 ct16, fun s v => .of_eq rfl, fun base _ _ => ?_⟩
  have C__law_draw : CalM l.prog w K mg base 1 "_law_draw" 2 false m__law_draw := ⟨_, _, _, ok__law_draw F0 T , PySem.W.mg_of X G a0, k0, b0⟩
  have C__law_grid : CalM l.prog w K mg base 2 "_law_grid" 1 false m__law_grid := ⟨_, _, _, ok__law_grid F1 T C__law_draw, PySem.W.mg_of X G a1, k1, b1⟩
  have C_check_net : CalM l.prog w K mg base 1 "check_net" 2 false m_check_net := ⟨_, _, _, ok_check_net F2 T , PySem.W.mg_of X G a2, k2, b2⟩
  have C_touching : CalM l.prog w K mg base 1 "touching" 2 false m_touching := ⟨_, _, _, ok_touching F3 T , PySem.W.mg_of X G a3, k3, b3⟩
  have C_other_node : CalM l.prog w K mg base 1 "other_node" 2 false m_other_node := ⟨_, _, _, ok_other_node F4 T , PySem.W.mg_of X G a4, k4, b4⟩
  have C_room_left : CalM l.prog w K mg base 1 "room_left" 3 false m_room_left := ⟨_, _, _, ok_room_left F5 T , PySem.W.mg_of X G a5, k5, b5⟩
  have C_ways_from : CalM l.prog w K mg base 2 "ways_from" 5 false m_ways_from := ⟨_, _, _, ok_ways_from F6 T C_other_node C_room_left, PySem.W.mg_of X G a6, k6, b6⟩
  have C_push : CalM l.prog w K mg base 2 "push" 3 false m_push := ⟨_, _, _, ok_push F7 T C_other_node C_room_left, PySem.W.mg_of X G a7, k7, b7⟩
  have C_greatest_flow : CalM l.prog w K mg base 3 "greatest_flow" 2 false m_greatest_flow := ⟨_, _, _, ok_greatest_flow F8 T C_check_net C_touching C_ways_from C_push, PySem.W.mg_of X G a8, k8, b8⟩
  have C__law_worth : CalM l.prog w K mg base 1 "_law_worth" 2 false m__law_worth := ⟨_, _, _, ok__law_worth F9 T , PySem.W.mg_of X G a9, k9, b9⟩
  have C_narrow_side : CalM l.prog w K mg base 3 "narrow_side" 3 false m_narrow_side := ⟨_, _, _, ok_narrow_side F10 T C_touching C_ways_from, PySem.W.mg_of X G a10, k10, b10⟩
  have C_wide_side : CalM l.prog w K mg base 3 "wide_side" 3 false m_wide_side := ⟨_, _, _, ok_wide_side F11 T C_touching C_ways_from, PySem.W.mg_of X G a11, k11, b11⟩
  have C__law_net : CalM l.prog w K mg base 2 "_law_net" 3 false m__law_net := ⟨_, _, _, ok__law_net F12 T C__law_draw, PySem.W.mg_of X G a12, k12, b12⟩
  have C__law_is_flow : CalM l.prog w K mg base 1 "_law_is_flow" 3 false m__law_is_flow := ⟨_, _, _, ok__law_is_flow F13 T , PySem.W.mg_of X G a13, k13, b13⟩
  have C__law_left : CalM l.prog w K mg base 1 "_law_left" 3 false m__law_left := ⟨_, _, _, ok__law_left F14 T , PySem.W.mg_of X G a14, k14, b14⟩
  have C__law_cost : CalM l.prog w K mg base 1 "_law_cost" 2 false m__law_cost := ⟨_, _, _, ok__law_cost F15 T , PySem.W.mg_of X G a15, k15, b15⟩
  exact ok_law F16 T C__law_grid C__law_draw C__law_net C_greatest_flow C__law_is_flow C__law_worth C_narrow_side C_wide_side C__law_cost C__law_left
end M

set_option Elab.async false
set_option linter.all false
set_option maxRecDepth 100000
/-! The plain side: how a mirror is worked out. -/
namespace M
open PySem L2
theorem dEq_int (a b : Int) : dEq (.int a) (.int b) = some (.bl (decide (a = b))) := by
  have h : ∀ i : Int, shp (.int i) = true := fun i => by unfold shp toPy; rfl
  unfold dEq
  rw [if_pos ⟨h a, h b⟩]
  unfold toPy PyData.eqv
  by_cases c : a = b
  · subst c; simp
  · simp [c]
theorem dNe_int (a b : Int) : dNe (.int a) (.int b) = some (.bl (!decide (a = b))) := by
  have h : ∀ i : Int, shp (.int i) = true := fun i => by unfold shp toPy; rfl
  unfold dNe
  rw [if_pos ⟨h a, h b⟩]
  unfold toPy PyData.eqv
  by_cases c : a = b
  · subst c; simp
  · simp [c]
theorem forM_inv {T : D → Mo Unit} {S : Mo Out} (Inv : Nat → Env → Prop) : ∀ (ds : List D) (k : Nat) (δ : Env), Inv k δ →
    (∀ i d δ, ds[i]? = some d → Inv (k + i) δ → ∃ δ1 δ2, T d δ = some (.ok (), δ1) ∧ (S δ1 = some (.ok .nx, δ2) ∨ S δ1 = some (.ok .ct, δ2)) ∧ Inv (k + i + 1) δ2) →
    ∃ δ', forM T S ds δ = some (.ok .nx, δ') ∧ Inv (k + ds.length) δ'
  | [], k, δ, h, _ => ⟨δ, rfl, h⟩
  | d :: ds, k, δ, h, st => by
    obtain ⟨δ1, δ2, h1, h2, h3⟩ := st 0 d δ rfl h
    obtain ⟨δ', h4, h5⟩ := forM_inv Inv ds (k + 1) δ2 (by simpa using h3) fun i d δ hd hi => by
      have := st (i + 1) d δ (by simpa using hd) (by rw [show k + (i + 1) = k + 1 + i by omega]; exact hi)
      rw [show k + (i + 1) = k + 1 + i by omega] at this
      exact this
    refine ⟨δ', ?_, by rw [List.length_cons, show k + (ds.length + 1) = k + 1 + ds.length by omega]; exact h5⟩
    unfold forM
    rw [bind_ok h1]
    rcases h2 with h2 | h2
    · simp only [h2]; exact h4
    · simp only [h2]; exact h4
theorem sFor_inv {I : Mo (List D)} {T : D → Mo Unit} {S : Mo Out} {ds : List D} {δ δ0 : Env} (Inv : Nat → Env → Prop) (hi : I δ = some (.ok ds, δ0)) (h0 : Inv 0 δ0)
    (st : ∀ i d δ, ds[i]? = some d → Inv i δ → ∃ δ1 δ2, T d δ = some (.ok (), δ1) ∧ (S δ1 = some (.ok .nx, δ2) ∨ S δ1 = some (.ok .ct, δ2)) ∧ Inv (i + 1) δ2) :
    ∃ δ', sFor I T S δ = some (.ok .nx, δ') ∧ Inv ds.length δ' := by
  obtain ⟨δ', h1, h2⟩ := forM_inv Inv ds 0 δ0 h0 fun i d δ hd h => by rw [Nat.zero_add] at h ⊢; exact st i d δ hd h
  rw [Nat.zero_add] at h2
  exact ⟨δ', by unfold sFor; rw [bind_ok hi]; exact h1, h2⟩
theorem sWhile_inv {c : Mo Bool} {S : Mo Out} (Inv End : Env → Prop) (μ : Env → Nat) (st : ∀ δ, Inv δ → ∃ b δ1, c δ = some (.ok b, δ1) ∧ (b = false → End δ1) ∧ (b = true → ∃ δ2, S δ1 = some (.ok .nx, δ2) ∧ Inv δ2 ∧ μ δ2 < μ δ)) {δ : Env} (h : Inv δ) :
    ∃ δ', sWhile c S δ = some (.ok .nx, δ') ∧ End δ' := by
  have key : ∀ (n : Nat) (δ : Env), μ δ < n → Inv δ → ∃ δ', whileF c S n δ = some (.ok .nx, δ') ∧ End δ' := by
    intro n
    induction n with
    | zero => intro δ h; omega
    | succ n ih =>
      intro δ hn hi
      obtain ⟨b, δ1, h1, h2, h3⟩ := st δ hi
      cases b with
      | false =>
        refine ⟨δ1, ?_, h2 rfl⟩
        unfold whileF
        rw [bind_ok h1, if_neg Bool.false_ne_true]; rfl
      | true =>
        obtain ⟨δ2, h4, h5, h6⟩ := h3 rfl
        obtain ⟨δ', h7, h8⟩ := ih δ2 (by omega) h5
        refine ⟨δ', ?_, h8⟩
        unfold whileF
        rw [bind_ok h1, if_pos rfl]
        simp only [h4]; exact h7
  obtain ⟨δ', h1, h2⟩ := key (μ δ + 1) δ (by omega) h
  exact ⟨δ', sWhile_of h1, h2⟩
theorem sSeq_ok {a b : Mo Out} {δ δ1 : Env} (h : a δ = some (.ok .nx, δ1)) : sSeq a b δ = b δ1 := by unfold sSeq; rw [h]
/-- a list comprehension whose turns leave everything as it was -/
theorem lcM_pure {T : D → Mo Unit} {C : Mo Bool} {E : Mo D} {vs : List Nat} {δ : Env} {p : D → Bool} {f : D → D} : ∀ (ds acc : List D),
    (∀ d ∈ ds, ∃ δ1 δ2, T d δ = some (.ok (), δ1) ∧ C δ1 = some (.ok (p d), δ2) ∧ (p d = false → wipeE δ2 vs = δ) ∧ (p d = true → ∃ δ3, E δ2 = some (.ok (f d), δ3) ∧ wipeE δ3 vs = δ)) →
    lcM T C E vs ds acc δ = some (.ok (.lst (acc ++ (ds.filter p).map f)), δ)
  | [], acc, _ => by unfold lcM; simp
  | d :: ds, acc, h => by
    obtain ⟨δ1, δ2, h1, h2, h3, h4⟩ := h d List.mem_cons_self
    unfold lcM
    simp only [h1, h2]
    cases hp : p d with
    | false =>
      simp only [hp]
      rw [h3 hp, lcM_pure ds acc fun d' m => h d' (List.mem_cons_of_mem _ m), List.filter_cons_of_neg (by rw [hp]; simp)]
    | true =>
      obtain ⟨δ3, h5, h6⟩ := h4 hp
      simp only [hp, h5]
      rw [h6, lcM_pure ds (acc ++ [f d]) fun d' m => h d' (List.mem_cons_of_mem _ m), List.filter_cons_of_pos hp, List.map_cons, List.append_assoc]; rfl
theorem eLc_pure {I : Mo (List D)} {T : D → Mo Unit} {C : Mo Bool} {E : Mo D} {vs : List Nat} {δ δ0 : Env} {ds : List D} {p : D → Bool} {f : D → D} (hi : I δ = some (.ok ds, δ0)) (hl : ds.length ≤ 1000)
    (h : ∀ d ∈ ds, ∃ δ1 δ2, T d (wipeE δ0 vs) = some (.ok (), δ1) ∧ C δ1 = some (.ok (p d), δ2) ∧ (p d = false → wipeE δ2 vs = wipeE δ0 vs) ∧ (p d = true → ∃ δ3, E δ2 = some (.ok (f d), δ3) ∧ wipeE δ3 vs = wipeE δ0 vs)) :
    eLc I T C E vs δ = some (.ok (.lst ((ds.filter p).map f)), wipeE δ0 vs) := by
  unfold eLc
  rw [bind_ok hi, if_pos (small_line hl), lcM_pure ds [] h]; rfl
end M

set_option Elab.async false
set_option linter.all false
set_option maxRecDepth 100000
/-! The plain side: the combinators, applied. -/
namespace M
open PySem L2
abbrev Re (α : Type) := Option (Except Exn α × Env)
def bk {α β : Type} (k : α → Mo β) : Re α → Re β
  | none => none
  | some (.error x, δ) => some (.error x, δ)
  | some (.ok a, δ) => k a δ
def sk (k : Mo Out) : Re Out → Re Out
  | some (.ok .nx, δ) => k δ
  | r => r
def fk (n : Nat) : Re Out → Re D
  | some (.ok (.rt d), δ') => some (.ok d, ios n δ')
  | some (.ok (.rtO d), δ') => some (.ok d, ios n δ')
  | some (.ok .nx, δ') => some (.ok .non, ios n δ')
  | some (.error x, δ') => some (.error x, ios n δ')
  | _ => none
def lk {α : Type} (o : Option α) (δ : Env) : Re α := match o with
  | none => none
  | some a => some (.ok a, δ)
def vk (i : Nat) (δ : Env) : Option Sl → Re D
  | some (.imm d) => some (.ok d, δ)
  | some (.own d) => some (.ok d, δ.set i (.imm d))
  | some (.bor d) => if flatD d then some (.ok d, δ) else none
  | _ => none
def gk (i : Nat) (δ : Env) : Option Sl → Re D
  | some (.own d) => some (.ok d, δ.set i .no)
  | _ => none
section
variable {α β : Type} {a b : Mo D} {A B : Mo D} {δ : Env} {d : D} {i : Nat} {p q : Prop} [Decidable p]
theorem x_bind {m : Mo α} {k : α → Mo β} : Mo.bind m k δ = bk k (m δ) := by
  unfold Mo.bind bk
  cases m δ with
  | none => rfl
  | some z => obtain ⟨x, δ'⟩ := z; cases x <;> rfl
theorem bk_ok {k : α → Mo β} {a : α} : bk k (some (.ok a, δ)) = k a δ := rfl
theorem bk_ite {k : α → Mo β} {x y : Re α} : bk k (if p then x else y) = if p then bk k x else bk k y := by split <;> rfl
theorem x_ret {a : α} : Mo.ret a δ = some (.ok a, δ) := rfl
theorem x_lift {o : Option α} : Mo.lift o δ = lk o δ := by unfold Mo.lift lk; cases o <;> rfl
theorem lk_some {a : α} : lk (some a) δ = some (.ok a, δ) := rfl
theorem lk_ite {x y : Option α} : lk (if p then x else y) δ = if p then lk x δ else lk y δ := by split <;> rfl
theorem app_ite {x y : Mo α} : (if p then x else y) δ = if p then x δ else y δ := by split <;> rfl
theorem x_eC : eC d δ = some (.ok d, δ) := rfl
theorem x_eV : eV i δ = vk i δ δ[i]? := by unfold eV vk; split <;> simp_all
theorem vk_imm : vk i δ (some (.imm d)) = some (.ok d, δ) := rfl
theorem vk_own : vk i δ (some (.own d)) = some (.ok d, δ.set i (.imm d)) := rfl
theorem vk_bor : vk i δ (some (.bor d)) = if flatD d then some (.ok d, δ) else none := rfl
theorem x_give : eGive i δ = gk i δ δ[i]? := by unfold eGive gk; split <;> simp_all
theorem gk_own : gk i δ (some (.own d)) = some (.ok d, δ.set i .no) := rfl
theorem x_bin {f : D → D → Option D} : eBin f A B δ = bk (fun x => B.bind fun y => Mo.lift (f x y)) (A δ) := x_bind
theorem x_un {f : D → Option D} : eUn f A δ = bk (fun x => Mo.lift (f x)) (A δ) := x_bind
theorem x_ix : eIx A B δ = bk (fun x => B.bind fun y => Mo.lift (dIx x y)) (A δ) := x_bind
theorem x_tru : eTru A δ = bk (fun d => Mo.lift (dTru d)) (A δ) := x_bind
theorem x_eB : eB A δ = bk (fun d => Mo.lift (dBl d)) (A δ) := x_bind
theorem dBl_bl {b : Bool} : dBl (.bl b) = some b := rfl
theorem dTru_bl {b : Bool} : dTru (.bl b) = some b := rfl
theorem dTru_int {j : Int} : dTru (.int j) = some (j != 0) := rfl
theorem dTru_lst {l : List D} : dTru (.lst l) = some (!l.isEmpty) := rfl
theorem x_and {S T : Mo Bool} : tAndM S T δ = bk (fun a => if a = true then T else Mo.ret false) (S δ) := x_bind
theorem x_or {S T : Mo Bool} : tOrM S T δ = bk (fun a => if a = true then Mo.ret true else T) (S δ) := x_bind
theorem x_not {S : Mo Bool} : tNotM S δ = bk (fun a => Mo.ret (!a)) (S δ) := x_bind
theorem x_eAnd : eAnd A B δ = bk (fun x => (Mo.lift (dBl x)).bind fun b => if b = true then B else Mo.ret (.bl false)) (A δ) := x_bind
theorem x_eOr : eOr A B δ = bk (fun x => (Mo.lift (dBl x)).bind fun b => if b = true then Mo.ret (.bl true) else B) (A δ) := x_bind
theorem x_eNot : eNot A δ = bk (fun x => (Mo.lift (dBl x)).bind fun b => Mo.ret (.bl (!b))) (A δ) := x_bind
theorem x_eIf {T : Mo Bool} : eIf T A B δ = bk (fun b => if b = true then A else B) (T δ) := x_bind
theorem x_chain {f g : D → D → Option D} {C : Mo D} : eChain f g A B C δ = bk (fun x => B.bind fun y => (Mo.lift ((f x y).bind dBl)).bind fun k => if k = true then C.bind fun z => Mo.lift (g y z) else Mo.ret (.bl false)) (A δ) := x_bind
theorem x_aNil : aNil δ = some (.ok [], δ) := rfl
theorem x_aCons {E : Mo D} {R : Mo (List Ag)} : aCons E R δ = bk (fun d => R.bind fun as => Mo.ret (.im d :: as)) (E δ) := x_bind
def rk (i : Nat) (R : Mo (List Ag)) (δ : Env) : Option Sl → Re (List Ag)
  | some (.own _) => (R.bind fun as => Mo.ret (.vr i :: as)) δ
  | some (.io _) => (R.bind fun as => Mo.ret (.vr i :: as)) δ
  | _ => none
theorem x_aVr {R : Mo (List Ag)} : aVr i R δ = rk i R δ δ[i]? := by unfold aVr rk; split <;> simp_all
theorem rk_own {R : Mo (List Ag)} : rk i R δ (some (.own d)) = (R.bind fun as => Mo.ret (.vr i :: as)) δ := rfl
theorem rk_io {R : Mo (List Ag)} : rk i R δ (some (.io d)) = (R.bind fun as => Mo.ret (.vr i :: as)) δ := rfl
def tk (i : Nat) (R : Mo (List Ag)) (δ : Env) : Option Sl → Re (List Ag)
  | some .no => none
  | some _ => (R.bind fun as => Mo.ret (.vb i :: as)) δ
  | none => none
theorem x_aVb {R : Mo (List Ag)} : aVb i R δ = tk i R δ δ[i]? := by
  unfold aVb tk
  cases h : δ[i]? with
  | none => rfl
  | some s => cases s <;> rfl
theorem tk_own {R : Mo (List Ag)} : tk i R δ (some (.own d)) = (R.bind fun as => Mo.ret (.vb i :: as)) δ := rfl
theorem tk_io {R : Mo (List Ag)} : tk i R δ (some (.io d)) = (R.bind fun as => Mo.ret (.vb i :: as)) δ := rfl
theorem tk_imm {R : Mo (List Ag)} : tk i R δ (some (.imm d)) = (R.bind fun as => Mo.ret (.vb i :: as)) δ := rfl
theorem tk_bor {R : Mo (List Ag)} : tk i R δ (some (.bor d)) = (R.bind fun as => Mo.ret (.vb i :: as)) δ := rfl
theorem x_eTup {R : Mo (List Ag)} : eTup R δ = bk (fun as => Mo.lift ((imms as).bind fun ds => if ds.length ≤ 1000 then some (.tup ds) else none)) (R δ) := x_bind
theorem x_eLst {R : Mo (List Ag)} : eLst R δ = bk (fun as => Mo.lift ((imms as).bind fun ds => if ds.length ≤ 1000 then some (.lst ds) else none)) (R δ) := x_bind
theorem imms_nil : imms [] = some [] := rfl
theorem imms_im {as : List Ag} : imms (.im d :: as) = (imms as).map (d :: ·) := rfl
theorem x_eF {f : List D → Option D} {R : Mo (List Ag)} : eF f R δ = bk (fun as => Mo.lift ((imms as).bind f)) (R δ) := x_bind
theorem x_call {m : Mo D} {R : Mo (List Ag)} : eCall m R δ = bk (fun as => callM m as) (R δ) := x_bind
/-- x[e], the slot's kind apart -/
def ik (d : D) (B : Mo D) (bor : Bool) (δ : Env) : Re D := bk (fun y => fun δ' => match dIx d y with
  | some z => if bor = true then (if flatD z = true then some (.ok z, δ') else none) else some (.ok z, δ')
  | none => none) (B δ)
theorem ixV_of {s : Sl} (hs : δ[i]? = some s) (hd : slD s = some d) (hB : ∀ y δ', B δ = some (y, δ') → δ'[i]? = some s) : eIxV i B δ = ik d B (isBor s) δ := by
  have h1 : slotDct δ i = some (isDct d) := by unfold slotDct; rw [hs]; simp [hd]
  unfold eIxV ik
  rw [h1]
  simp only []
  rw [x_bind]
  cases q : B δ with
  | none => rfl
  | some z =>
    obtain ⟨y, δ'⟩ := z
    cases y with
    | error _ => rfl
    | ok y =>
      have h2 := hB _ _ q
      show ixSl i (isDct d) y δ' = _
      unfold ixSl
      rw [h2]
      cases s with
      | no => cases hd
      | imm d' => cases hd; simp only [if_true, x_lift, bk, isBor] <;> cases dIx d y <;> rfl
      | own d' => cases hd; simp only [if_true, x_lift, bk, isBor] <;> cases dIx d y <;> rfl
      | io d' => cases hd; simp only [if_true, x_lift, bk, isBor] <;> cases dIx d y <;> rfl
      | bor d' => cases hd; simp only [if_true, bk, isBor] <;> cases dIx d y <;> rfl
def jk (i : Nat) (B : Mo D) (δ : Env) : Option Sl → Re D
  | some s => match slD s with
    | some d => ik d B (isBor s) δ
    | none => none
  | none => none
theorem ixV_V {j : Nat} (hne : i ≠ j) : eIxV i (eV j) δ = jk i (eV j) δ δ[i]? := by
  cases h : δ[i]? with
  | none => unfold eIxV slotDct jk; rw [h]
  | some s =>
    cases h2 : slD s with
    | none => unfold eIxV slotDct jk; rw [h]; simp [h2]
    | some d =>
      rw [ixV_of h h2 fun y δ' q => ?_]
      · unfold jk; simp [h2]
      · rw [x_eV] at q
        unfold vk at q
        split at q
        · cases q; exact h
        · cases q; rw [List.getElem?_set_ne hne.symm]; exact h
        · split at q
          · cases q; exact h
          · cases q
        · cases q
theorem ixV_C {c : D} : eIxV i (eC c) δ = jk i (eC c) δ δ[i]? := by
  cases h : δ[i]? with
  | none => unfold eIxV slotDct jk; rw [h]
  | some s =>
    cases h2 : slD s with
    | none => unfold eIxV slotDct jk; rw [h]; simp [h2]
    | some d =>
      rw [ixV_of h h2 fun y δ' q => by cases q; exact h]
      unfold jk; simp [h2]
theorem jk_imm : jk i B δ (some (.imm d)) = bk (fun y => Mo.lift (dIx d y)) (B δ) := by
  show ik d B false δ = _
  unfold ik
  congr 1; funext y δ'; rw [x_lift]; unfold lk; cases dIx d y <;> rfl
theorem jk_own : jk i B δ (some (.own d)) = bk (fun y => Mo.lift (dIx d y)) (B δ) := jk_imm (i := i)
theorem jk_io : jk i B δ (some (.io d)) = bk (fun y => Mo.lift (dIx d y)) (B δ) := jk_imm (i := i)
def flk (o : Option D) : Option D := match o with
  | some z => if flatD z = true then some z else none
  | none => none
theorem jk_bor : jk i B δ (some (.bor d)) = bk (fun y => Mo.lift (flk (dIx d y))) (B δ) := by
  show ik d B true δ = _
  unfold ik
  congr 1; funext y δ'; rw [x_lift]; unfold lk flk
  cases h : dIx d y with
  | none => rfl
  | some z =>
    simp only [if_true]
    by_cases c : flatD z = true <;> simp [c]
theorem flk_int {j : Int} : flk (some (.int j)) = some (.int j) := rfl
def nk (δ : Env) : Option Sl → Re D
  | some s => (slD s).bind dLen |>.map fun d => (.ok d, δ)
  | none => none
theorem x_lenV : eLenV i δ = nk δ δ[i]? := by unfold eLenV nk; split <;> simp_all
theorem nk_imm : nk δ (some (.imm d)) = (dLen d).map fun d => (.ok d, δ) := rfl
theorem nk_own : nk δ (some (.own d)) = (dLen d).map fun d => (.ok d, δ) := rfl
theorem nk_io : nk δ (some (.io d)) = (dLen d).map fun d => (.ok d, δ) := rfl
theorem nk_bor : nk δ (some (.bor d)) = (dLen d).map fun d => (.ok d, δ) := rfl
def hk (neg : Bool) (x : D) (δ : Env) : Option Sl → Re D
  | some s => ((slD s).bind fun c => dIn neg x c).map fun d => (.ok d, δ)
  | none => none
theorem x_inV {neg : Bool} : eInV neg A i δ = bk (fun x δ => hk neg x δ δ[i]?) (A δ) := by
  unfold eInV; rw [x_bind]; congr 1
theorem hk_imm {neg : Bool} {x : D} : hk neg x δ (some (.imm d)) = (dIn neg x d).map fun d => (.ok d, δ) := rfl
theorem hk_own {neg : Bool} {x : D} : hk neg x δ (some (.own d)) = (dIn neg x d).map fun d => (.ok d, δ) := rfl
theorem hk_io {neg : Bool} {x : D} : hk neg x δ (some (.io d)) = (dIn neg x d).map fun d => (.ok d, δ) := rfl
theorem hk_bor {neg : Bool} {x : D} : hk neg x δ (some (.bor d)) = (dIn neg x d).map fun d => (.ok d, δ) := rfl
/-! statements -/
theorem x_sNx : sNx δ = some (.ok .nx, δ) := rfl
theorem x_pass : sPass δ = some (.ok .nx, δ) := rfl
theorem x_cont : sCont δ = some (.ok .ct, δ) := rfl
theorem x_brk : sBreak δ = some (.ok .bk, δ) := rfl
theorem x_seq {s t : Mo Out} : sSeq s t δ = sk t (s δ) := by
  unfold sSeq sk
  split <;> simp_all
theorem sk_nx {t : Mo Out} : sk t (some (.ok .nx, δ)) = t δ := rfl
theorem sk_rt {t : Mo Out} : sk t (some (.ok (.rt d), δ)) = some (.ok (.rt d), δ) := rfl
theorem sk_rtO {t : Mo Out} : sk t (some (.ok (.rtO d), δ)) = some (.ok (.rtO d), δ) := rfl
theorem sk_ct {t : Mo Out} : sk t (some (.ok .ct, δ)) = some (.ok .ct, δ) := rfl
theorem sk_bk {t : Mo Out} : sk t (some (.ok .bk, δ)) = some (.ok .bk, δ) := rfl
theorem sk_ite {t : Mo Out} {x y : Re Out} : sk t (if p then x else y) = if p then sk t x else sk t y := by split <;> rfl
theorem x_drop : sDrop A δ = bk (fun _ => Mo.ret .nx) (A δ) := x_bind
theorem x_sRet : sRet A δ = bk (fun d => Mo.ret (.rt d)) (A δ) := x_bind
theorem x_sRetO : sRetO A δ = bk (fun d => Mo.ret (.rtO d)) (A δ) := x_bind
theorem x_sIf {T : Mo Bool} {s t : Mo Out} : sIf T s t δ = bk (fun k => if k = true then s else t) (T δ) := x_bind
theorem x_asg {T : D → Mo Unit} : sAsg T A δ = bk (fun d => (T d).bind fun _ => Mo.ret .nx) (A δ) := x_bind
theorem x_asgO : sAsgO i A δ = bk (fun d => (gO i d).bind fun _ => Mo.ret .nx) (A δ) := x_bind
theorem x_gN : gN i d δ = if i < δ.length then some (.ok (), δ.set i (.imm d)) else none := rfl
theorem x_gO : gO i d δ = if i < δ.length then some (.ok (), δ.set i (.own d)) else none := rfl
theorem x_gNil : gNil [] δ = some (.ok (), δ) := rfl
theorem x_gCons {T : D → Mo Unit} {Ts : List D → Mo Unit} {ds : List D} : gCons T Ts (d :: ds) δ = bk (fun _ => Ts ds) (T d δ) := x_bind
theorem x_gTt {n : Nat} {Ts : List D → Mo Unit} {ds : List D} : gT n Ts (.tup ds) δ = if ds.length = n then Ts ds δ else none := by
  show (if ds.length = n then Ts ds else fun _ => none) δ = _
  split <;> rfl
theorem x_gTl {n : Nat} {Ts : List D → Mo Unit} {ds : List D} : gT n Ts (.lst ds) δ = if ds.length = n then Ts ds δ else none := by
  show (if ds.length = n then Ts ds else fun _ => none) δ = _
  split <;> rfl
theorem x_sApp : sApp i A δ = if isLst δ i = true then bk (fun x => (chM i (dAppend x)).bind fun _ => Mo.ret .nx) (A δ) else none := by
  unfold sApp; split <;> first | rfl | exact x_bind
theorem x_sSet : sSet i A B δ = bk (fun v => fun δ => if isSet δ i = true then (A.bind fun k => (chM i (dSet k v)).bind fun _ => Mo.ret .nx) δ else none) (B δ) := x_bind
def ck (i : Nat) (f : D → Option D) (δ : Env) : Option Sl → Re Unit
  | some (.own d) => (f d).map fun d' => (.ok (), δ.set i (.own d'))
  | some (.io d) => (f d).map fun d' => (.ok (), δ.set i (.io d'))
  | _ => none
theorem x_chM {f : D → Option D} : chM i f δ = ck i f δ δ[i]? := by unfold chM ck; split <;> simp_all
theorem ck_own {f : D → Option D} : ck i f δ (some (.own d)) = (f d).map fun d' => (.ok (), δ.set i (.own d')) := rfl
theorem ck_io {f : D → Option D} : ck i f δ (some (.io d)) = (f d).map fun d' => (.ok (), δ.set i (.io d')) := rfl
theorem x_iOf : iOf A δ = bk (fun d => Mo.lift (itD d)) (A δ) := x_bind
theorem x_iRg {f : List D → Option (List D)} {R : Mo (List Ag)} : iRg f R δ = bk (fun as => Mo.lift ((imms as).bind f)) (R δ) := x_bind
theorem x_fn {N n : Nat} {body : Mo Out} : fnM N n body δ = fk n (body (δ ++ List.replicate (N - n) .no)) := by
  unfold fnM fk; split <;> simp_all
theorem fk_rt {n : Nat} : fk n (some (.ok (.rt d), δ)) = some (.ok d, ios n δ) := rfl
theorem fk_nx {n : Nat} : fk n (some (.ok .nx, δ)) = some (.ok .non, ios n δ) := rfl
theorem fk_ite {n : Nat} {x y : Re Out} : fk n (if p then x else y) = if p then fk n x else fk n y := by split <;> rfl
theorem ios_z : ios 0 δ = [] := by cases δ <;> rfl
theorem ios_s {n : Nat} {s : Sl} : ios (n + 1) (s :: δ) = keepIo s :: ios n δ := rfl
theorem keep_io : keepIo (.io d) = .io d := rfl
theorem keep_imm : keepIo (.imm d) = .no := rfl
theorem keep_own : keepIo (.own d) = .no := rfl
theorem keep_bor : keepIo (.bor d) = .no := rfl
theorem keep_no : keepIo .no = .no := rfl
theorem dSub_i {x y : Int} : dSub (.int x) (.int y) = some (.int (x - y)) := rfl
theorem dAdd_i {x y : Int} : dAdd (.int x) (.int y) = some (.int (x + y)) := rfl
theorem dLt_i {x y : Int} : dLt (.int x) (.int y) = some (.bl (decide (x < y))) := rfl
theorem dLe_i {x y : Int} : dLe (.int x) (.int y) = some (.bl (decide (x ≤ y))) := rfl
theorem dGt_i {x y : Int} : dGt (.int x) (.int y) = some (.bl (decide (y < x))) := rfl
theorem dGe_i {x y : Int} : dGe (.int x) (.int y) = some (.bl (decide (y ≤ x))) := rfl
theorem dMod_i {x y : Int} (h : 0 < y) : dMod (.int x) (.int y) = some (.int (x % y)) := by
  show (if cMod x y = true then some (D.int (x % y)) else none) = _
  rw [if_pos (by unfold cMod; exact decide_eq_true h)]
theorem dDiv_i {x y : Int} (h : 0 < y) (h2 : y < 1073741824) : dDiv (.int x) (.int y) = some (.int (x / y)) := by
  show (if cDiv x y = true then some (D.int (x / y)) else none) = _
  rw [if_pos (by unfold cDiv; simp [h, h2])]
theorem dMul_r {x y : Int} (h : -18446744073709551616 < y) (h2 : y < 18446744073709551616) : dMul (.int x) (.int y) = some (.int (x * y)) := by
  show (if cMul x y = true then some (D.int (x * y)) else none) = _
  rw [if_pos (by unfold cMul; simp [h, h2])]
theorem ix_lst {l : List D} {j : Int} : dIx (.lst l) (.int j) = atI l j := rfl
theorem ix_scr {l : List D} {j : Int} : dIx (.scr l) (.int j) = atI l j := rfl
theorem ix_tup {l : List D} {j : Int} : dIx (.tup l) (.int j) = atI l j := rfl
theorem atI_0 {α : Type} {x : α} {l : List α} : atI (x :: l) 0 = some x := atI_nat (n := 0) rfl
theorem atI_1 {α : Type} {x y : α} {l : List α} : atI (x :: y :: l) 1 = some y := atI_nat (n := 1) rfl
theorem atI_2 {α : Type} {x y z : α} {l : List α} : atI (x :: y :: z :: l) 2 = some z := atI_nat (n := 2) rfl
theorem atI_3 {α : Type} {x y z u : α} {l : List α} : atI (x :: y :: z :: u :: l) 3 = some u := atI_nat (n := 3) rfl
end
end M

set_option linter.all false
set_option maxRecDepth 10000
/-! Flows in plain Lean. -/
namespace M
structure Ed where
  a : Nat
  b : Nat
  r : Int
  deriving Inhabited
def oth (e : Ed) (u : Nat) : Nat := if e.a = u then e.b else e.a
def res (e : Ed) (f : Int) (u : Nat) : Int := if e.a = u then e.r - f else e.r + f
def sg (e : Ed) (v : Nat) : Int := (if e.a = v then 1 else 0) - (if e.b = v then 1 else 0)
def gain : List Ed → List Int → Nat → Int
  | e :: es, f :: fs, v => sg e v * f + gain es fs v
  | _, _, _ => 0
def cost : List Ed → (Nat → Bool) → Int
  | e :: es, S => (if S e.a != S e.b then e.r else 0) + cost es S
  | [], _ => 0
def EdOk (n : Nat) (e : Ed) : Prop := e.a < n ∧ e.b < n ∧ e.a ≠ e.b ∧ 0 ≤ e.r
def Caps (es : List Ed) (fs : List Int) : Prop := ∀ (i : Nat) (e : Ed) (f : Int), es[i]? = some e → fs[i]? = some f → -e.r ≤ f ∧ f ≤ e.r
def b01 (b : Bool) : Int := if b then 1 else 0
/-- what leaves S -/
def outS : List Ed → List Int → (Nat → Bool) → Int
  | e :: es, f :: fs, S => (b01 (S e.a) - b01 (S e.b)) * f + outS es fs S
  | _, _, _ => 0
def sumV (g : Nat → Int) (S : Nat → Bool) : Nat → Int
  | 0 => 0
  | n + 1 => sumV g S n + (if S n then g n else 0)
theorem sumV_add (g h : Nat → Int) (S : Nat → Bool) : ∀ n, sumV (fun v => g v + h v) S n = sumV g S n + sumV h S n
  | 0 => rfl
  | n + 1 => by unfold sumV; rw [sumV_add g h S n]; split <;> omega
theorem sumV_zero (S : Nat → Bool) : ∀ n, sumV (fun _ => 0) S n = 0
  | 0 => rfl
  | n + 1 => by unfold sumV; rw [sumV_zero S n]; split <;> rfl
theorem sumV_mul (g : Nat → Int) (c : Int) (S : Nat → Bool) : ∀ n, sumV (fun v => g v * c) S n = sumV g S n * c
  | 0 => by simp [sumV]
  | n + 1 => by unfold sumV; rw [sumV_mul g c S n, Int.add_mul]; split <;> simp
theorem sumV_one (S : Nat → Bool) (a : Nat) : ∀ n, sumV (fun v => if a = v then 1 else 0) S n = if a < n then b01 (S a) else 0
  | 0 => by simp [sumV]
  | n + 1 => by
    unfold sumV
    rw [sumV_one S a n]
    by_cases c : a = n
    · subst c
      have h1 : ¬ a < a := Nat.lt_irrefl a
      have h2 : a < a + 1 := Nat.lt_succ_self a
      simp only [h1, h2, if_true, if_false, b01]
      omega
    · by_cases h : a < n
      · have h2 : a < n + 1 := by omega
        simp only [h, h2, c, if_true, if_false]
        split <;> omega
      · have h2 : ¬ a < n + 1 := by omega
        simp only [h, h2, c, if_false]
        split <;> omega
theorem sumV_congr {g h : Nat → Int} {S : Nat → Bool} : ∀ {n}, (∀ v, v < n → S v = true → g v = h v) → sumV g S n = sumV h S n
  | 0, _ => rfl
  | n + 1, k => by
    unfold sumV
    rw [sumV_congr fun v hv => k v (by omega)]
    by_cases c : S n = true
    · rw [if_pos c, if_pos c, k n (by omega) c]
    · rw [if_neg c, if_neg c]
theorem sumV_sub (g h : Nat → Int) (S : Nat → Bool) : ∀ n, sumV (fun v => g v - h v) S n = sumV g S n - sumV h S n
  | 0 => rfl
  | n + 1 => by unfold sumV; rw [sumV_sub g h S n]; split <;> omega
theorem outS_eq {n : Nat} {S : Nat → Bool} : ∀ {es : List Ed} {fs : List Int}, (∀ e ∈ es, EdOk n e) → outS es fs S = sumV (gain es fs) S n
  | [], fs, _ => by unfold outS; rw [show gain [] fs = fun _ => 0 from by funext v; cases fs <;> rfl, sumV_zero]
  | e :: es, [], _ => by unfold outS; rw [show gain (e :: es) [] = fun _ => 0 from rfl, sumV_zero]
  | e :: es, f :: fs, h => by
    unfold outS
    obtain ⟨h1, h2, h3, h4⟩ := h e List.mem_cons_self
    rw [outS_eq (es := es) (fs := fs) (fun e' m => h e' (List.mem_cons_of_mem _ m)), show gain (e :: es) (f :: fs) = fun v => sg e v * f + gain es fs v from rfl, sumV_add, sumV_mul]
    unfold sg
    rw [sumV_sub, sumV_one, sumV_one, if_pos h1, if_pos h2]
/-- a flow -/
structure IsFlow (n : Nat) (es : List Ed) (fs : List Int) : Prop where
  ok : ∀ e ∈ es, EdOk n e
  len : fs.length = es.length
  caps : Caps es fs
  zero : ∀ v, 2 ≤ v → v < n → gain es fs v = 0
/-- a side: 0 within, 1 not -/
structure Side (n : Nat) (S : Nat → Bool) : Prop where
  n2 : 2 ≤ n
  s0 : S 0 = true
  s1 : S 1 = false
theorem sum_side {n : Nat} {g : Nat → Int} {S : Nat → Bool} (h0 : S 0 = true) (h1 : S 1 = false) (hz : ∀ v, 2 ≤ v → v < n → g v = 0) (hn : 2 ≤ n) : sumV g S n = g 0 := by
  have : sumV g S n = sumV (fun v => (if 0 = v then 1 else 0) * g 0) S n := sumV_congr fun v hv hs => by
    by_cases c : v = 0
    · subst c; simp
    · have c1 : v ≠ 1 := fun z => by rw [z, h1] at hs; cases hs
      rw [hz v (by omega) hv, if_neg (by omega)]; simp
  rw [this, sumV_mul (fun v => if 0 = v then 1 else 0), sumV_one, if_pos (by omega), h0]
  simp [b01]
theorem value_out {n : Nat} {es : List Ed} {fs : List Int} {S : Nat → Bool} (F : IsFlow n es fs) (s : Side n S) : gain es fs 0 = outS es fs S := by
  rw [outS_eq F.ok, sum_side s.s0 s.s1 F.zero s.n2]
theorem outS_cons {e : Ed} {es : List Ed} {f : Int} {fs : List Int} {S : Nat → Bool} : outS (e :: es) (f :: fs) S = (b01 (S e.a) - b01 (S e.b)) * f + outS es fs S := rfl
theorem cost_cons {e : Ed} {es : List Ed} {S : Nat → Bool} : cost (e :: es) S = (if S e.a != S e.b then e.r else 0) + cost es S := rfl
theorem gain_cons {e : Ed} {es : List Ed} {f : Int} {fs : List Int} {v : Nat} : gain (e :: es) (f :: fs) v = sg e v * f + gain es fs v := rfl
/-- nothing is left over the border of S -/
def Full (es : List Ed) (fs : List Int) (S : Nat → Bool) : Prop := ∀ (i : Nat) (e : Ed) (f : Int), es[i]? = some e → fs[i]? = some f → (S e.a = true → S e.b = false → res e f e.a ≤ 0) ∧ (S e.b = true → S e.a = false → res e f e.b ≤ 0)
theorem out_le {S : Nat → Bool} {n : Nat} : ∀ {es : List Ed} {fs : List Int}, (∀ e ∈ es, EdOk n e) → fs.length = es.length → Caps es fs → outS es fs S ≤ cost es S ∧ (outS es fs S = cost es S ↔ Full es fs S)
  | [], fs, _, _, _ => by
    unfold outS cost
    exact ⟨by omega, by constructor <;> intro _; exact (fun i e f h => by simp at h); rfl⟩
  | e :: es, [], _, h, _ => by simp at h
  | e :: es, f :: fs, ok, hl, hc => by
    obtain ⟨i1, i2⟩ := out_le (S := S) (n := n) (es := es) (fs := fs) (fun e' m => ok e' (List.mem_cons_of_mem _ m)) (by simpa using hl) (fun i e' f' h1 h2 => hc (i + 1) e' f' (by simpa using h1) (by simpa using h2))
    obtain ⟨_, _, nab, r0⟩ := ok e List.mem_cons_self
    obtain ⟨c1, c2⟩ := hc 0 e f rfl rfl
    have fu : Full (e :: es) (f :: fs) S ↔ ((S e.a = true → S e.b = false → res e f e.a ≤ 0) ∧ (S e.b = true → S e.a = false → res e f e.b ≤ 0)) ∧ Full es fs S := by
      constructor
      · intro h; exact ⟨h 0 e f rfl rfl, fun i e' f' h1 h2 => h (i + 1) e' f' (by simpa using h1) (by simpa using h2)⟩
      · rintro ⟨h1, h2⟩ i e' f' h3 h4
        cases i with
        | zero => simp at h3 h4; subst h3 h4; exact h1
        | succ i => exact h2 i e' f' (by simpa using h3) (by simpa using h4)
    rw [fu, ← i2, outS_cons, cost_cons]
    unfold res
    rw [if_pos rfl, if_neg nab]
    generalize outS es fs S = x at *
    generalize cost es S = y at *
    cases ha : S e.a <;> cases hb : S e.b <;> simp [b01] <;> omega
theorem value_le {n : Nat} {es : List Ed} {fs : List Int} {S : Nat → Bool} (F : IsFlow n es fs) (s : Side n S) : gain es fs 0 ≤ cost es S := by
  rw [value_out F s]; exact (out_le F.ok F.len F.caps).1
theorem value_eq {n : Nat} {es : List Ed} {fs : List Int} {S : Nat → Bool} (F : IsFlow n es fs) (s : Side n S) : gain es fs 0 = cost es S ↔ Full es fs S := by
  rw [value_out F s]; exact (out_le F.ok F.len F.caps).2
/-! ### reach -/
def Inc (e : Ed) (u : Nat) : Prop := e.a = u ∨ e.b = u
/-- a step from u to its far end: out: room from u; else room from the far end -/
def Step (es : List Ed) (fs : List Int) (out : Bool) (u v : Nat) : Prop := ∃ (i : Nat) (e : Ed) (f : Int), es[i]? = some e ∧ fs[i]? = some f ∧ Inc e u ∧ oth e u = v ∧ 0 < res e f (if out then u else v)
inductive Rch (es : List Ed) (fs : List Int) (out : Bool) (s : Nat) : Nat → Prop
  | start : Rch es fs out s s
  | step {u v : Nat} : Rch es fs out s u → Step es fs out u v → Rch es fs out s v
theorem oth_a {e : Ed} : oth e e.a = e.b := if_pos rfl
theorem oth_b {e : Ed} (h : e.a ≠ e.b) : oth e e.b = e.a := if_neg h
theorem full_closed {n : Nat} {es : List Ed} {fs : List Int} {S : Nat → Bool} (ok : ∀ e ∈ es, EdOk n e) (F : Full es fs S) {u v : Nat} (h : Step es fs true u v) (hu : S u = true) : S v = true := by
  obtain ⟨i, e, f, h1, h2, h3, h4, h5⟩ := h
  rw [if_pos rfl] at h5
  have nab := (ok e (List.mem_of_getElem? h1)).2.2.1
  obtain ⟨f1, f2⟩ := F i e f h1 h2
  rcases h3 with rfl | rfl
  · rw [oth_a] at h4; subst h4
    cases c : S e.b with
    | true => rfl
    | false => have := f1 hu c; omega
  · rw [oth_b nab] at h4; subst h4
    cases c : S e.a with
    | true => rfl
    | false => have := f2 hu c; omega
theorem closed_full {n : Nat} {es : List Ed} {fs : List Int} {S : Nat → Bool} (ok : ∀ e ∈ es, EdOk n e) (h : ∀ u v, Step es fs true u v → S u = true → S v = true) : Full es fs S := fun i e f h1 h2 => by
  have nab := (ok e (List.mem_of_getElem? h1)).2.2.1
  refine ⟨fun sa sb => ?_, fun sb sa => ?_⟩
  · apply Int.not_lt.mp
    intro c
    have := h e.a e.b ⟨i, e, f, h1, h2, .inl rfl, oth_a, by rw [if_pos rfl]; exact c⟩ sa
    rw [sb] at this; cases this
  · apply Int.not_lt.mp
    intro c
    have := h e.b e.a ⟨i, e, f, h1, h2, .inr rfl, oth_b nab, by rw [if_pos rfl]; exact c⟩ sb
    rw [sa] at this; cases this
/-- the way back of a step -/
theorem step_flip {n : Nat} {es : List Ed} {fs : List Int} (ok : ∀ e ∈ es, EdOk n e) {u v : Nat} : Step es fs false u v ↔ Step es fs true v u := by
  have key : ∀ e, EdOk n e → ∀ u v, Inc e u → oth e u = v → Inc e v ∧ oth e v = u := fun e h u v h3 h4 => by
    have nab := h.2.2.1
    rcases h3 with rfl | rfl
    · rw [oth_a] at h4; subst h4; exact ⟨.inr rfl, oth_b nab⟩
    · rw [oth_b nab] at h4; subst h4; exact ⟨.inl rfl, oth_a⟩
  constructor
  · rintro ⟨i, e, f, h1, h2, h3, h4, h5⟩
    obtain ⟨k1, k2⟩ := key e (ok e (List.mem_of_getElem? h1)) u v h3 h4
    exact ⟨i, e, f, h1, h2, k1, k2, h5⟩
  · rintro ⟨i, e, f, h1, h2, h3, h4, h5⟩
    obtain ⟨k1, k2⟩ := key e (ok e (List.mem_of_getElem? h1)) v u h3 h4
    exact ⟨i, e, f, h1, h2, k1, k2, h5⟩
/-- a set by a decidable test -/
theorem full_reach {n : Nat} {es : List Ed} {fs : List Int} {S : Nat → Bool} (ok : ∀ e ∈ es, EdOk n e) (F : Full es fs S) (s0 : S 0 = true) {v : Nat} (h : Rch es fs true 0 v) : S v = true := by
  induction h with
  | start => exact s0
  | step _ h ih => exact full_closed ok F h ih
theorem full_back {n : Nat} {es : List Ed} {fs : List Int} {S : Nat → Bool} (ok : ∀ e ∈ es, EdOk n e) (F : Full es fs S) (s1 : S 1 = false) {v : Nat} (h : Rch es fs false 1 v) : S v = false := by
  induction h with
  | start => exact s1
  | @step u v _ h ih =>
    cases c : S v with
    | false => rfl
    | true => rw [full_closed ok F ((step_flip ok).mp h) c] at ih; cases ih
theorem narrow_full {n : Nat} {es : List Ed} {fs : List Int} {S : Nat → Bool} (ok : ∀ e ∈ es, EdOk n e) (h : ∀ v, S v = true ↔ Rch es fs true 0 v) : Full es fs S :=
  closed_full ok fun u v st hu => (h v).mpr (.step ((h u).mp hu) st)
theorem wide_full {n : Nat} {es : List Ed} {fs : List Int} {S : Nat → Bool} (ok : ∀ e ∈ es, EdOk n e) (h : ∀ v, S v = false ↔ Rch es fs false 1 v) : Full es fs S :=
  closed_full ok fun u v st hu => by
    cases c : S v with
    | true => rfl
    | false => rw [(h u).mpr (.step ((h v).mp c) ((step_flip ok).mpr st))] at hu; cases hu
end M

set_option linter.all false
set_option maxRecDepth 10000
/-! A push along a chain; a search. -/
namespace M
theorem gain_set {v : Nat} : ∀ {es : List Ed} {fs : List Int} {i : Nat} {e : Ed} {f : Int} (x : Int), es[i]? = some e → fs[i]? = some f → gain es (fs.set i x) v = gain es fs v + sg e v * (x - f)
  | [], _, i, _, _, _, h, _ => by simp at h
  | _ :: _, [], i, _, _, _, _, h => by simp at h
  | e0 :: es, f0 :: fs, 0, e, f, x, h1, h2 => by
    simp at h1 h2; subst h1 h2
    rw [List.set_cons_zero, gain_cons, gain_cons, Int.mul_sub]; omega
  | e0 :: es, f0 :: fs, i + 1, e, f, x, h1, h2 => by
    rw [List.set_cons_succ, gain_cons, gain_cons, gain_set x (by simpa using h1) (by simpa using h2)]; omega
def addF (es : List Ed) (m : Int) (p : Nat × Nat) (fs : List Int) : List Int := match es[p.1]?, fs[p.1]? with
  | some e, some f => fs.set p.1 (if e.a = p.2 then f + m else f - m)
  | _, _ => fs
def pushes (es : List Ed) (m : Int) : List (Nat × Nat) → List Int → List Int
  | [], fs => fs
  | p :: ps, fs => pushes es m ps (addF es m p fs)
def Chain (es : List Ed) : Nat → List (Nat × Nat) → Prop
  | v, [] => v = 0
  | v, (i, u) :: p => (∃ e, es[i]? = some e ∧ Inc e v ∧ oth e v = u) ∧ Chain es u p
theorem addF_len {es : List Ed} {m : Int} {p : Nat × Nat} {fs : List Int} : (addF es m p fs).length = fs.length := by
  unfold addF; split
  · rw [List.length_set]
  · rfl
theorem addF_ne {es : List Ed} {m : Int} {p : Nat × Nat} {fs : List Int} {j : Nat} (h : p.1 ≠ j) : (addF es m p fs)[j]? = fs[j]? := by
  unfold addF; split
  · rw [List.getElem?_set_ne h]
  · rfl
theorem addF_eq {es : List Ed} {m : Int} {p : Nat × Nat} {fs : List Int} {e : Ed} {f : Int} (h1 : es[p.1]? = some e) (h2 : fs[p.1]? = some f) : addF es m p fs = fs.set p.1 (if e.a = p.2 then f + m else f - m) := by
  unfold addF; rw [h1, h2]
theorem pushes_len {es : List Ed} {m : Int} : ∀ {ps : List (Nat × Nat)} {fs : List Int}, (pushes es m ps fs).length = fs.length
  | [], _ => rfl
  | p :: ps, fs => by unfold pushes; rw [pushes_len, addF_len]
def i01 (x y : Nat) : Int := if x = y then 1 else 0
theorem push_gain {n : Nat} {es : List Ed} {m : Int} (ok : ∀ e ∈ es, EdOk n e) {x : Nat} : ∀ {ps : List (Nat × Nat)} {v : Nat} {fs : List Int}, fs.length = es.length → Chain es v ps → gain es (pushes es m ps fs) x = gain es fs x + m * (i01 0 x - i01 v x)
  | [], v, fs, _, h => by
    have h : v = 0 := h
    subst h; unfold pushes; rw [Int.sub_self, Int.mul_zero, Int.add_zero]
  | (i, u) :: ps, v, fs, hl, h => by
    obtain ⟨⟨e, h1, h2, h3⟩, h4⟩ := h
    have hi : i < fs.length := by rw [hl]; exact (List.getElem?_eq_some_iff.mp h1).1
    obtain ⟨f, hf⟩ : ∃ f, fs[i]? = some f := ⟨_, List.getElem?_eq_getElem hi⟩
    unfold pushes
    rw [push_gain ok (by rw [addF_len]; exact hl) h4, addF_eq (p := (i, u)) h1 hf, gain_set _ h1 hf]
    have nab := (ok e (List.mem_of_getElem? h1)).2.2.1
    have key : sg e x * ((if e.a = u then f + m else f - m) - f) = m * (i01 u x - i01 v x) := by
      unfold sg i01
      rcases h2 with rfl | rfl
      · rw [oth_a] at h3; subst h3
        rw [if_neg nab, show f - m - f = -m by omega, Int.mul_comm, Int.neg_mul, ← Int.mul_neg]
        congr 1; omega
      · rw [oth_b nab] at h3; subst h3
        rw [if_pos rfl, show f + m - f = m by omega, Int.mul_comm]
    show gain es fs x + sg e x * ((if e.a = u then f + m else f - m) - f) + _ = _
    rw [key, Int.add_assoc, ← Int.mul_add]
    congr 2; omega
theorem push_caps {es : List Ed} {m : Int} (hm : 0 < m) : ∀ {ps : List (Nat × Nat)} {fs : List Int}, Caps es fs → (ps.map (·.1)).Nodup → (∀ p ∈ ps, ∀ e f, es[p.1]? = some e → fs[p.1]? = some f → m ≤ res e f p.2) → Caps es (pushes es m ps fs)
  | [], _, h, _, _ => h
  | p :: ps, fs, h, nd, hr => by
    unfold pushes
    rw [List.map_cons, List.nodup_cons] at nd
    refine push_caps hm ?_ nd.2 fun q hq e f h1 h2 => ?_
    · intro i e f h1 h2
      by_cases c : p.1 = i
      · subst c
        cases hf : fs[p.1]? with
        | none =>
          have : (addF es m p fs)[p.1]? = none := by unfold addF; rw [hf]; split <;> simp_all
          rw [this] at h2; cases h2
        | some f0 =>
          rw [addF_eq h1 hf, List.getElem?_set_self (List.getElem?_eq_some_iff.mp hf).1] at h2
          have c1 := h p.1 e f0 h1 hf
          have c2 := hr p List.mem_cons_self e f0 h1 hf
          unfold res at c2
          cases h2
          by_cases c : e.a = p.2
          · rw [if_pos c] at c2 ⊢; omega
          · rw [if_neg c] at c2 ⊢; omega
      · rw [addF_ne c] at h2; exact h i e f h1 h2
    · have c : p.1 ≠ q.1 := fun c => nd.1 (c ▸ List.mem_map.mpr ⟨q, hq, rfl⟩)
      rw [addF_ne c] at h2
      exact hr q (List.mem_cons_of_mem _ hq) e f h1 h2
/-- a push keeps a flow, the value goes up -/
theorem push_flow {n : Nat} {es : List Ed} {fs : List Int} {m : Int} {ps : List (Nat × Nat)} (F : IsFlow n es fs) (hm : 0 < m) (hc : Chain es 1 ps) (nd : (ps.map (·.1)).Nodup) (hr : ∀ p ∈ ps, ∀ e f, es[p.1]? = some e → fs[p.1]? = some f → m ≤ res e f p.2) :
    IsFlow n es (pushes es m ps fs) ∧ gain es (pushes es m ps fs) 0 = gain es fs 0 + m := by
  refine ⟨⟨F.ok, by rw [pushes_len]; exact F.len, push_caps hm F.caps nd hr, fun v h2 hv => ?_⟩, ?_⟩
  · rw [push_gain F.ok F.len hc, F.zero v h2 hv]
    unfold i01; rw [if_neg (by omega), if_neg (by omega)]; simp
  · rw [push_gain F.ok F.len hc]; simp [i01]
theorem zero_flow {n : Nat} {es : List Ed} (ok : ∀ e ∈ es, EdOk n e) : IsFlow n es (List.replicate es.length 0) ∧ ∀ v, gain es (List.replicate es.length 0) v = 0 := by
  have g : ∀ (es : List Ed) v, gain es (List.replicate es.length 0) v = 0 := by
    intro es v
    induction es with
    | nil => rfl
    | cons e es ih => rw [List.length_cons, List.replicate_succ, gain_cons, ih]; simp
  refine ⟨⟨ok, List.length_replicate, fun i e f h1 h2 => ?_, fun v _ _ => g es v⟩, g es⟩
  have := List.eq_of_mem_replicate (List.mem_of_getElem? h2)
  have r0 := (ok e (List.mem_of_getElem? h1)).2.2.2
  omega
/-! ### a search -/
abbrev Fd := List (Nat × Option Nat)
structure BInv (n : Nat) (es : List Ed) (fs : List Int) (out : Bool) (s : Nat) (F : Fd) : Prop where
  head : F[0]? = some (s, none)
  nd : (F.map (·.1)).Nodup
  lt : ∀ p ∈ F, p.1 < n
  par : ∀ (j : Nat) v o, F[j + 1]? = some (v, o) → ∃ (i u : Nat) (e : Ed) (f : Int), o = some i ∧ es[i]? = some e ∧ fs[i]? = some f ∧ Inc e u ∧ oth e u = v ∧ 0 < res e f (if out then u else v) ∧ u ∈ (F.take (j + 1)).map (·.1)
theorem BInv.start {n : Nat} {es : List Ed} {fs : List Int} {out : Bool} {s : Nat} (h : s < n) : BInv n es fs out s [(s, none)] :=
  ⟨rfl, by simp, fun p hp => by simp at hp; subst hp; exact h, fun j v o e => by simp at e⟩
theorem BInv.len {n : Nat} {es : List Ed} {fs : List Int} {out : Bool} {s : Nat} {F : Fd} (B : BInv n es fs out s F) : F.length ≤ n := by
  have h1 : (F.map (·.1)).length ≤ (List.range n).length := by
    refine List.Nodup.length_le_of_subset B.nd fun x hx => ?_
    obtain ⟨p, hp, rfl⟩ := List.mem_map.mp hx
    exact List.mem_range.mpr (B.lt p hp)
  rw [List.length_map, List.length_range] at h1; exact h1
theorem BInv.push {n : Nat} {es : List Ed} {fs : List Int} {out : Bool} {s : Nat} {F : Fd} (B : BInv n es fs out s F) (ok : ∀ e ∈ es, EdOk n e) {i u : Nat} {e : Ed} {f : Int} (h1 : es[i]? = some e) (h2 : fs[i]? = some f) (h3 : Inc e u) (hu : u ∈ F.map (·.1)) (hn : oth e u ∉ F.map (·.1)) (h5 : 0 < res e f (if out then u else oth e u)) :
    BInv n es fs out s (F ++ [(oth e u, some i)]) := by
  have hF : 0 < F.length := (List.getElem?_eq_some_iff.mp B.head).1
  refine ⟨by rw [List.getElem?_append_left hF]; exact B.head, ?_, fun p hp => ?_, fun j v o hj => ?_⟩
  · rw [List.map_append]
    refine List.nodup_append.mpr ⟨B.nd, by simp, fun x hx y hy => ?_⟩
    simp at hy; subst hy
    exact fun c => hn (c ▸ hx)
  · rcases List.mem_append.mp hp with hp | hp
    · exact B.lt p hp
    · simp at hp; subst hp
      obtain ⟨l1, l2, _⟩ := ok e (List.mem_of_getElem? h1)
      show oth e u < n
      unfold oth; split <;> assumption
  · by_cases c : j + 1 < F.length
    · rw [List.getElem?_append_left c] at hj
      obtain ⟨i', u', e', f', k1, k2, k3, k4, k5, k6, k7⟩ := B.par j v o hj
      exact ⟨i', u', e', f', k1, k2, k3, k4, k5, k6, by rw [List.take_append_of_le_length (by omega)]; exact k7⟩
    · rw [List.getElem?_append_right (by omega)] at hj
      cases hz : j + 1 - F.length with
      | zero =>
        rw [hz] at hj; simp at hj
        obtain ⟨rfl, rfl⟩ := hj
        refine ⟨i, u, e, f, rfl, h1, h2, h3, rfl, h5, ?_⟩
        rw [List.take_append_of_le_length (by omega), List.take_of_length_le (by omega)]; exact hu
      | succ z => rw [hz] at hj; simp at hj
theorem BInv.sound {n : Nat} {es : List Ed} {fs : List Int} {out : Bool} {s : Nat} {F : Fd} (B : BInv n es fs out s F) : ∀ v ∈ F.map (·.1), Rch es fs out s v := by
  have key : ∀ (k j : Nat) v o, j < k → F[j]? = some (v, o) → Rch es fs out s v := by
    intro k
    induction k with
    | zero => intro j v o h; omega
    | succ k ih =>
      intro j v o hj e
      cases j with
      | zero => rw [B.head] at e; cases e; exact .start
      | succ j =>
        obtain ⟨i, u, e', f, k1, k2, k3, k4, k5, k6, k7⟩ := B.par j v o e
        obtain ⟨p, hp, rfl⟩ := List.mem_map.mp k7
        obtain ⟨l, hl, el⟩ := List.mem_iff_getElem.mp hp
        have hl' : l < j + 1 := by rw [List.length_take] at hl; omega
        have e2 : F[l]? = some (p.1, p.2) := by
          rw [List.getElem_take] at el
          have : l < F.length := by rw [List.length_take] at hl; omega
          rw [List.getElem?_eq_getElem this, el]
        exact .step (ih l p.1 p.2 (by omega) e2) ⟨i, e', f, k2, k3, k4, k5, k6⟩
  intro v hv
  obtain ⟨p, hp, rfl⟩ := List.mem_map.mp hv
  obtain ⟨l, hl, el⟩ := List.mem_iff_getElem.mp hp
  exact key (l + 1) l p.1 p.2 (by omega) (by rw [List.getElem?_eq_getElem hl, el])
theorem BInv.all {n : Nat} {es : List Ed} {fs : List Int} {out : Bool} {s : Nat} {F : Fd} (B : BInv n es fs out s F) (done : ∀ u ∈ F.map (·.1), ∀ v, Step es fs out u v → v ∈ F.map (·.1)) {v : Nat} : v ∈ F.map (·.1) ↔ Rch es fs out s v := by
  refine ⟨B.sound v, fun h => ?_⟩
  induction h with
  | start => exact List.mem_map.mpr ⟨(s, none), List.mem_of_getElem? B.head, rfl⟩
  | step _ h ih => exact done _ ih _ h
theorem nd_inj {α : Type} : ∀ {l : List α} {i j : Nat} {x : α}, l.Nodup → l[i]? = some x → l[j]? = some x → i = j
  | [], i, j, x, _, h, _ => by simp at h
  | y :: l, 0, 0, x, _, _, _ => rfl
  | y :: l, 0, j + 1, x, n, h1, h2 => by
    simp at h1 h2; subst h1
    exact absurd (List.mem_of_getElem? h2) (List.nodup_cons.mp n).1
  | y :: l, i + 1, 0, x, n, h1, h2 => by
    simp at h1 h2; subst h2
    exact absurd (List.mem_of_getElem? h1) (List.nodup_cons.mp n).1
  | y :: l, i + 1, j + 1, x, n, h1, h2 => by
    have := nd_inj (i := i) (j := j) (x := x) (List.nodup_cons.mp n).2 (by simpa using h1) (by simpa using h2)
    rw [this]
/-- the way back from v: at most k steps -/
def wayB (es : List Ed) (F : Fd) : Nat → Nat → List (Nat × Nat)
  | 0, _ => []
  | k + 1, v => match F.lookup v with
    | some (some i) => match es[i]? with
      | some e => (i, oth e v) :: wayB es F k (oth e v)
      | none => []
    | _ => []
theorem look_at : ∀ {F : Fd} {j v : Nat} {o : Option Nat}, (F.map (·.1)).Nodup → F[j]? = some (v, o) → F.lookup v = some o
  | [], j, v, o, _, h => by simp at h
  | (a, b) :: F, 0, v, o, _, h => by simp at h; obtain ⟨rfl, rfl⟩ := h; simp [List.lookup]
  | (a, b) :: F, j + 1, v, o, nd, h => by
    rw [List.map_cons, List.nodup_cons] at nd
    have h : F[j]? = some (v, o) := by simpa using h
    have ne : v ≠ a := fun c => nd.1 (List.mem_map.mpr ⟨(v, o), List.mem_of_getElem? h, c⟩)
    rw [List.lookup_cons]
    have : (v == a) = false := by simpa using ne
    rw [this]; exact look_at nd.2 h
theorem wayB_ok {n : Nat} {es : List Ed} {fs : List Int} {F : Fd} (ok : ∀ e ∈ es, EdOk n e) (B : BInv n es fs true 0 F) : ∀ (j k : Nat) v o, j ≤ k → F[j]? = some (v, o) →
    Chain es v (wayB es F k v) ∧ ((wayB es F k v).map (·.1)).Nodup ∧ (∀ p ∈ wayB es F k v, ∃ e f, es[p.1]? = some e ∧ fs[p.1]? = some f ∧ 0 < res e f p.2 ∧ e.a ∈ (F.take (j + 1)).map (·.1) ∧ e.b ∈ (F.take (j + 1)).map (·.1)) := by
  intro j
  induction j using Nat.strongRecOn with
  | ind j ih =>
    intro k v o hk hj
    cases j with
    | zero =>
      rw [B.head] at hj; cases hj
      have : wayB es F k 0 = [] := by
        cases k with
        | zero => rfl
        | succ k => unfold wayB; rw [look_at B.nd B.head]
      rw [this]
      exact ⟨rfl, List.nodup_nil, fun p hp => by simp at hp⟩
    | succ j =>
      obtain ⟨i, u, e, f, k1, k2, k3, k4, k5, k6, k7⟩ := B.par j v o hj
      subst k1
      cases k with
      | zero => omega
      | succ k =>
        have nab := (ok e (List.mem_of_getElem? k2)).2.2.1
        have hov : oth e v = u ∧ Inc e v := by
          rcases k4 with rfl | rfl
          · rw [oth_a] at k5; subst k5; exact ⟨oth_b nab, .inr rfl⟩
          · rw [oth_b nab] at k5; subst k5; exact ⟨oth_a, .inl rfl⟩
        have hw : wayB es F (k + 1) v = (i, u) :: wayB es F k u := by
          conv => lhs; unfold wayB
          rw [look_at B.nd hj]; simp only [k2, hov.1]
        obtain ⟨p, hp, rfl⟩ := List.mem_map.mp k7
        obtain ⟨l, hl, el⟩ := List.mem_iff_getElem.mp hp
        have hl' : l < j + 1 := by rw [List.length_take] at hl; omega
        have hlF : l < F.length := by rw [List.length_take] at hl; omega
        have e2 : F[l]? = some (p.1, p.2) := by
          rw [List.getElem_take] at el
          rw [List.getElem?_eq_getElem hlF, el]
        obtain ⟨c1, c2, c3⟩ := ih l (by omega) k p.1 p.2 (by omega) e2
        have sub : ∀ x, x ∈ (F.take (l + 1)).map (·.1) → x ∈ (F.take (j + 1)).map (·.1) := fun x hx => by
          obtain ⟨q, hq, rfl⟩ := List.mem_map.mp hx
          exact List.mem_map.mpr ⟨q, (List.take_subset_take_left F (by omega)) hq, rfl⟩
        have sub2 : ∀ x, x ∈ (F.take (j + 1)).map (·.1) → x ∈ (F.take (j + 1 + 1)).map (·.1) := fun x hx => by
          obtain ⟨q, hq, rfl⟩ := List.mem_map.mp hx
          exact List.mem_map.mpr ⟨q, (List.take_subset_take_left F (by omega)) hq, rfl⟩
        have vin : v ∈ (F.take (j + 1 + 1)).map (·.1) := by
          have hlt := (List.getElem?_eq_some_iff.mp hj).1
          refine List.mem_map.mpr ⟨(v, some i), ?_, rfl⟩
          refine List.mem_of_getElem? (i := j + 1) ?_
          rw [List.getElem?_take_of_lt (by omega)]; exact hj
        have vout : v ∉ (F.take (j + 1)).map (·.1) := fun hx => by
          obtain ⟨q, hq, hqv⟩ := List.mem_map.mp hx
          obtain ⟨r, hr, er⟩ := List.mem_iff_getElem.mp hq
          have hrj : r < j + 1 := by rw [List.length_take] at hr; omega
          have hrF : r < F.length := by rw [List.length_take] at hr; omega
          rw [List.getElem_take] at er
          have e3 : (F.map (·.1))[r]? = some v := by rw [List.getElem?_map, List.getElem?_eq_getElem hrF, er, ← hqv]; rfl
          have e4 : (F.map (·.1))[j + 1]? = some v := by rw [List.getElem?_map, hj]; rfl
          have := nd_inj B.nd e3 e4
          omega
        rw [hw]
        refine ⟨⟨⟨e, k2, hov.2, hov.1⟩, c1⟩, ?_, fun q hq => ?_⟩
        · rw [List.map_cons, List.nodup_cons]
          refine ⟨fun hx => ?_, c2⟩
          obtain ⟨q, hq, hqi⟩ := List.mem_map.mp hx
          obtain ⟨e', f', d1, d2, d3, d4, d5⟩ := c3 q hq
          rw [hqi, k2] at d1; cases d1
          rcases hov.2 with z | z
          · exact vout (sub _ (z ▸ d4))
          · exact vout (sub _ (z ▸ d5))
        · rcases List.mem_cons.mp hq with rfl | hq
          · refine ⟨e, f, k2, k3, by rw [if_pos rfl] at k6; exact k6, ?_, ?_⟩
            · rcases k4 with z | z
              · rw [z]; exact sub2 _ k7
              · rcases hov.2 with y | y
                · rw [y]; exact vin
                · rw [z] at y; exact absurd y (fun c => vout (c ▸ k7))
            · rcases k4 with z | z
              · rcases hov.2 with y | y
                · rw [z] at y; exact absurd y (fun c => vout (c ▸ k7))
                · rw [y]; exact vin
              · rw [z]; exact sub2 _ k7
          · obtain ⟨e', f', d1, d2, d3, d4, d5⟩ := c3 q hq
            exact ⟨e', f', d1, d2, d3, sub2 _ (sub _ d4), sub2 _ (sub _ d5)⟩
end M

set_option Elab.async false
set_option linter.all false
set_option maxRecDepth 100000
set_option maxHeartbeats 1000000
namespace M
open PySem L2
def Ed.d (e : Ed) : D := .tup [.int e.a, .int e.b, .int e.r]
def edsD (es : List Ed) : D := .lst (es.map Ed.d)
def iD (l : List Int) : D := .lst (l.map D.int)
def nD (l : List Nat) : D := .lst (l.map fun v : Nat => D.int (v : Int))
def oD : Option Nat → D
  | none => .non
  | some i => .int i
def fdD (F : Fd) : D := .dK (F.map fun p => ((.inl (p.1 : Int) : Key), oD p.2))
/-! calls with data alone -/
def dkM (as : List Ag) (δ : Env) : Re D → Re D
  | none => none
  | some (r, δc') => match backs as δc' δ with
    | none => none
    | some δ' => some (r, δ')
theorem x_call2 {m : Mo D} {a b : D} {δ : Env} : callM m [.im a, .im b] δ = dkM [.im a, .im b] δ (m [.imm a, .imm b]) := by
  unfold callM dkM argSls argSl
  simp only [argSls, argSl, vrs, vbs, List.nodup_nil, true_and]
  rw [if_pos (fun i h => by simp at h)]
  cases m [.imm a, .imm b] <;> rfl
theorem x_call3 {m : Mo D} {a b c : D} {δ : Env} : callM m [.im a, .im b, .im c] δ = dkM [.im a, .im b, .im c] δ (m [.imm a, .imm b, .imm c]) := by
  unfold callM dkM argSls argSl
  simp only [argSls, argSl, vrs, vbs, List.nodup_nil, true_and]
  rw [if_pos (fun i h => by simp at h)]
  cases m [.imm a, .imm b, .imm c] <;> rfl
theorem dk2 {a b d : D} {s t : Sl} {δ : Env} : dkM [.im a, .im b] δ (some (.ok d, [s, t])) = some (.ok d, δ) := rfl
theorem dk3 {a b c d : D} {s t u : Sl} {δ : Env} : dkM [.im a, .im b, .im c] δ (some (.ok d, [s, t, u])) = some (.ok d, δ) := rfl
theorem isLst_c {δ : Env} {i : Nat} {l : List D} (h : δ[i]? = some (.own (.lst l))) : isLst δ i = true := by unfold isLst; rw [h]
def iLk : Option Sl → Bool
  | some (.own (.lst _)) => true
  | some (.io (.lst _)) => true
  | _ => false
def iSk : Option Sl → Bool
  | some (.own _) => true
  | some (.io _) => true
  | _ => false
theorem x_isLst {δ : Env} {i : Nat} : isLst δ i = iLk δ[i]? := rfl
theorem x_isSet {δ : Env} {i : Nat} : isSet δ i = iSk δ[i]? := rfl
theorem iLk_n {l : List Nat} : iLk (some (.own (nD l))) = true := rfl
theorem iLk_l {l : List D} : iLk (some (.own (.lst l))) = true := rfl
theorem iLk_lo {l : List D} : iLk (some (.io (.lst l))) = true := rfl
theorem iSk_own {d : D} : iSk (some (.own d)) = true := rfl
theorem iSk_io {d : D} : iSk (some (.io d)) = true := rfl
theorem at_map {α : Type} {f : α → D} {l : List α} {i : Nat} {x : α} (h : l[i]? = some x) : atI (l.map f) (i : Int) = some (f x) := atI_nat (by rw [List.getElem?_map, h]; rfl)
theorem lookA_fd {v : Nat} : ∀ {F : Fd}, lookA (F.map fun p => ((.inl (p.1 : Int) : Key), oD p.2)) (.inl (v : Int)) = (F.lookup v).map oD
  | [] => rfl
  | (a, b) :: F => by
    unfold lookA
    rw [List.map_cons, List.find?_cons, List.lookup_cons]
    by_cases c : a = v
    · subst c; simp
    · have c2 : ¬ v = a := fun z => c z.symm
      have h1 : decide ((Sum.inl (a : Int) : Key) = Sum.inl (v : Int)) = false := by simp; omega
      have h2 : (v == a) = false := by simpa using c2
      rw [h1, h2]
      exact lookA_fd (F := F)
theorem look_some {v : Nat} : ∀ {F : Fd}, (F.lookup v).isSome = decide (v ∈ F.map (·.1))
  | [] => rfl
  | (a, b) :: F => by
    rw [List.lookup_cons]
    by_cases c : v = a
    · subst c; simp
    · have h2 : (v == a) = false := by simpa using c
      rw [h2, look_some (F := F), List.map_cons]
      simp [c]
theorem dIn_fd {neg : Bool} {v : Nat} {F : Fd} : dIn neg (.int (v : Int)) (fdD F) = some (.bl (if neg then !decide (v ∈ F.map (·.1)) else decide (v ∈ F.map (·.1)))) := by
  have h : dGet (fdD F) (.int (v : Int)) = some ((F.lookup v).map oD) := by
    show some (lookA _ (Sum.inl (v : Int))) = _
    rw [lookA_fd]
  show (dGet (fdD F) (.int (v : Int))).map (fun o => D.bl (if neg then !o.isSome else o.isSome)) = _
  rw [h]
  simp only [Option.map_some, Option.isSome_map, look_some]
theorem putA_new {κ α : Type} [DecidableEq κ] : ∀ {l : List (κ × α)} {k : κ} {v : α}, (∀ p ∈ l, p.1 ≠ k) → putA l k v = l ++ [(k, v)] := fun {l k v} h => by
  unfold putA
  rw [if_neg]
  simp only [List.any_eq_true, decide_eq_true_eq, not_exists, not_and]
  exact fun p hp => h p hp
theorem dSet_fd {v i : Nat} {F : Fd} (h : v ∉ F.map (·.1)) (hl : F.length ≤ 1000) : dSet (.int (v : Int)) (.int (i : Int)) (fdD F) = some (fdD (F ++ [(v, some i)])) := by
  have hs : (F.map fun p => ((.inl (p.1 : Int) : Key), oD p.2)).length < sizeLine := by rw [List.length_map]; exact small1000 hl
  show (if (F.map fun p => ((.inl (p.1 : Int) : Key), oD p.2)).length < sizeLine then some (D.dK (putA _ (Sum.inl (v : Int)) (.int (i : Int)))) else none) = _
  rw [if_pos hs, putA_new]
  · unfold fdD; rw [List.map_append]; rfl
  · intro p hp
    obtain ⟨q, hq, rfl⟩ := List.mem_map.mp hp
    intro c
    have c : (Sum.inl (q.1 : Int) : Key) = Sum.inl (v : Int) := c
    have : q.1 = v := by injection c with c; omega
    exact h (this ▸ List.mem_map.mpr ⟨q, hq, rfl⟩)
theorem dApp_n {v : Nat} {l : List Nat} (hl : l.length ≤ 1000) : dAppend (.int (v : Int)) (nD l) = some (nD (l ++ [v])) := by
  show (if (l.map fun v : Nat => D.int (v : Int)).length < sizeLine then some (D.lst ((l.map fun v : Nat => D.int (v : Int)) ++ [.int (v : Int)])) else none) = _
  rw [if_pos (by rw [List.length_map]; exact small1000 hl)]
  unfold nD; rw [List.map_append]; rfl
theorem dApp_l {x : D} {l : List D} (hl : l.length ≤ 1000) : dAppend x (.lst l) = some (.lst (l ++ [x])) := by
  show (if l.length < sizeLine then _ else none) = _
  rw [if_pos (small1000 hl)]
end M

set_option Elab.async false
set_option linter.all false
set_option maxRecDepth 100000
set_option maxHeartbeats 1000000
namespace M
open PySem L2
theorem ev_other (e : Ed) (u : Nat) : m_other_node [.imm e.d, .imm (.int u)] = some (.ok (.int (oth e u : Nat)), [.no, .no]) := by
  unfold m_other_node b_other_node
  simp only [x_bind, bk_ok, bk_ite, x_ret, x_lift, lk_some, lk_ite, app_ite, x_eC, x_eV, vk_imm, vk_own, vk_bor, x_give, gk_own, x_bin, x_un, x_ix, x_tru, x_eB, dBl_bl, dTru_bl, dTru_int, dTru_lst, x_and, x_or, x_not, x_eAnd, x_eOr, x_eNot, x_eIf, x_chain, x_aNil, x_aCons, x_aVr, rk_own, rk_io, x_aVb, tk_own, tk_io, tk_imm, tk_bor, x_eTup, x_eLst, imms_nil, imms_im, x_eF, x_call, ixV_C, jk_imm, jk_own, jk_io, jk_bor, flk_int, x_lenV, nk_imm, nk_own, nk_io, nk_bor, x_inV, hk_imm, hk_own, hk_io, hk_bor, x_sNx, x_pass, x_cont, x_brk, x_seq, sk_nx, sk_rt, sk_rtO, sk_ct, sk_bk, sk_ite, x_drop, x_sRet, x_sRetO, x_sIf, x_asg, x_asgO, x_gN, x_gO, x_gNil, x_gCons, x_gTt, x_gTl, x_sApp, x_sSet, x_chM, ck_own, ck_io, x_iOf, x_iRg, x_fn, fk_rt, fk_nx, fk_ite, ios_z, ios_s, keep_io, keep_imm, keep_own, keep_bor, keep_no, dSub_i, dAdd_i, dLt_i, dLe_i, dGt_i, dGe_i, dEq_int, dNe_int, ix_lst, ix_scr, ix_tup, atI_0, atI_1, atI_2, atI_3, List.getElem?_cons_zero, List.getElem?_cons_succ, List.set_cons_zero, List.set_cons_succ, List.length_cons, List.length_nil, List.cons_append, List.nil_append, List.replicate_succ, List.replicate_zero, Option.map_some, Option.bind_some, Nat.reduceAdd, Nat.reduceSub, Nat.reduceLT, Nat.reduceLeDiff, if_true, if_false, Bool.false_eq_true, decide_eq_true_eq, reduceIte, ne_eq, not_false_eq_true, Nat.lt_add_left_iff_pos, Nat.zero_lt_succ, x_call2, x_call3, dk2, dk3, ixV_V, Nat.reduceEqDiff, not_false_eq_true, x_isLst, x_isSet, List.map_cons, List.map_nil, Option.map_none, Option.bind_none, Ed.d]
  unfold oth
  by_cases c : e.a = u
  · rw [if_pos c, if_pos (by omega)]
  · rw [if_neg c, if_neg (by omega)]
theorem ev_room (e : Ed) (f : Int) (u : Nat) : m_room_left [.imm e.d, .imm (.int f), .imm (.int u)] = some (.ok (.int (res e f u)), [.no, .no, .no]) := by
  unfold m_room_left b_room_left
  simp only [x_bind, bk_ok, bk_ite, x_ret, x_lift, lk_some, lk_ite, app_ite, x_eC, x_eV, vk_imm, vk_own, vk_bor, x_give, gk_own, x_bin, x_un, x_ix, x_tru, x_eB, dBl_bl, dTru_bl, dTru_int, dTru_lst, x_and, x_or, x_not, x_eAnd, x_eOr, x_eNot, x_eIf, x_chain, x_aNil, x_aCons, x_aVr, rk_own, rk_io, x_aVb, tk_own, tk_io, tk_imm, tk_bor, x_eTup, x_eLst, imms_nil, imms_im, x_eF, x_call, ixV_C, jk_imm, jk_own, jk_io, jk_bor, flk_int, x_lenV, nk_imm, nk_own, nk_io, nk_bor, x_inV, hk_imm, hk_own, hk_io, hk_bor, x_sNx, x_pass, x_cont, x_brk, x_seq, sk_nx, sk_rt, sk_rtO, sk_ct, sk_bk, sk_ite, x_drop, x_sRet, x_sRetO, x_sIf, x_asg, x_asgO, x_gN, x_gO, x_gNil, x_gCons, x_gTt, x_gTl, x_sApp, x_sSet, x_chM, ck_own, ck_io, x_iOf, x_iRg, x_fn, fk_rt, fk_nx, fk_ite, ios_z, ios_s, keep_io, keep_imm, keep_own, keep_bor, keep_no, dSub_i, dAdd_i, dLt_i, dLe_i, dGt_i, dGe_i, dEq_int, dNe_int, ix_lst, ix_scr, ix_tup, atI_0, atI_1, atI_2, atI_3, List.getElem?_cons_zero, List.getElem?_cons_succ, List.set_cons_zero, List.set_cons_succ, List.length_cons, List.length_nil, List.cons_append, List.nil_append, List.replicate_succ, List.replicate_zero, Option.map_some, Option.bind_some, Nat.reduceAdd, Nat.reduceSub, Nat.reduceLT, Nat.reduceLeDiff, if_true, if_false, Bool.false_eq_true, decide_eq_true_eq, reduceIte, ne_eq, not_false_eq_true, Nat.lt_add_left_iff_pos, Nat.zero_lt_succ, x_call2, x_call3, dk2, dk3, ixV_V, Nat.reduceEqDiff, not_false_eq_true, x_isLst, x_isSet, List.map_cons, List.map_nil, Option.map_none, Option.bind_none, Ed.d]
  unfold res
  by_cases c : e.a = u
  · rw [if_pos c, if_pos (by omega)]
  · rw [if_neg c, if_neg (by omega)]
/-- the body of the inner loop -/
noncomputable def wBody : Mo Out := (sSeq (sAsg (gN 10) (eCall m_other_node (aCons (eIxV 1 (eV 9)) (aCons (eV 8) aNil))))
 (sSeq (sAsg (gN 11) (eIf (eTru (eV 4)) (eV 8) (eV 10)))
 (sIf (tAndM (eB (eInV true (eV 10) 5)) (eB (eBin dGt (eCall m_room_left (aCons (eIxV 1 (eV 9)) (aCons (eIxV 2 (eV 9)) (aCons (eV 11) aNil)))) (eC (.int 0)))))
 (sSeq (sSet 5 (eV 10) (eV 9))
 (sApp 6 (eV 10)))
 sNx)))
def BorL (s : Sl) (d : D) : Prop := s = .imm d ∨ s = .bor d
theorem ev_wBody {es : List Ed} {fs : List Int} {sF x0 x7 x10 x11 : Sl} {st : D} {out : Bool} {F : Fd} {u i : Nat} {e : Ed} {f : Int} (hs : BorL sF (iD fs)) (h1 : es[i]? = some e) (h2 : fs[i]? = some f) (hF : F.length ≤ 1000) :
    wBody [x0, .imm (edsD es), sF, .imm st, .imm (.bl out), .own (fdD F), .own (nD (F.map (·.1))), x7, .imm (.int u), .imm (.int i), x10, x11] =
    some (.ok .nx, let v := oth e u; let F' := if v ∉ F.map (·.1) ∧ 0 < res e f (if out then u else v) then F ++ [(v, some i)] else F
      [x0, .imm (edsD es), sF, .imm st, .imm (.bl out), .own (fdD F'), .own (nD (F'.map (·.1))), x7, .imm (.int u), .imm (.int i), .imm (.int v), .imm (.int (if out then u else v : Nat))]) := by
  have a1 : dIx (edsD es) (.int (i : Int)) = some e.d := at_map h1
  have a2 : dIx (iD fs) (.int (i : Int)) = some (.int f) := at_map h2
  have fin : ∀ (b : Bool) (t : Nat) (G : Sl), t = (if b then u else oth e u) →
      (if (!decide (oth e u ∈ List.map (fun x => x.fst) F)) = true then
      if 0 < res e f t then
        if iSk (some (Sl.own (fdD F))) = true then
          sk (sApp 6 (eV 10))
            (bk (fun x => Mo.ret Out.nx)
              (Option.map
                (fun d' =>
                  ((Except.ok () : Except Exn Unit),
                    [x0, Sl.imm (edsD es), G, Sl.imm st, Sl.imm (D.bl b), Sl.own d',
                      Sl.own (nD (List.map (fun x => x.fst) F)), x7, Sl.imm (D.int ↑u), Sl.imm (D.int ↑i),
                      Sl.imm (D.int ↑(oth e u)), Sl.imm (D.int ↑t)]))
                (dSet (D.int ↑(oth e u)) (D.int ↑i) (fdD F))))
        else sk (sApp 6 (eV 10)) none
      else
        some
          (Except.ok Out.nx,
            [x0, Sl.imm (edsD es), G, Sl.imm st, Sl.imm (D.bl b), Sl.own (fdD F),
              Sl.own (nD (List.map (fun x => x.fst) F)), x7, Sl.imm (D.int ↑u), Sl.imm (D.int ↑i),
              Sl.imm (D.int ↑(oth e u)), Sl.imm (D.int ↑t)])
    else
      some
        (Except.ok Out.nx,
          [x0, Sl.imm (edsD es), G, Sl.imm st, Sl.imm (D.bl b), Sl.own (fdD F),
            Sl.own (nD (List.map (fun x => x.fst) F)), x7, Sl.imm (D.int ↑u), Sl.imm (D.int ↑i),
            Sl.imm (D.int ↑(oth e u)), Sl.imm (D.int ↑t)])) =
      some (.ok .nx, let v := oth e u; let F' := if v ∉ F.map (·.1) ∧ 0 < res e f t then F ++ [(v, some i)] else F
      [x0, .imm (edsD es), G, .imm st, .imm (.bl b), .own (fdD F'), .own (nD (F'.map (·.1))), x7, .imm (.int u), .imm (.int i), .imm (.int v), .imm (.int (t : Nat))]) := by
    intro b t G ht
    by_cases c : oth e u ∈ F.map (·.1)
    · have c2 : (!decide (oth e u ∈ List.map (fun x => x.fst) F)) = false := by rw [decide_eq_true c]; rfl
      rw [if_neg (by rw [c2]; exact Bool.false_ne_true)]
      simp only []
      rw [if_neg (fun z => z.1 c)]
    · have c2 : (!decide (oth e u ∈ List.map (fun x => x.fst) F)) = true := by rw [decide_eq_false c]; rfl
      rw [if_pos c2]
      by_cases r : 0 < res e f t
      · rw [if_pos r, if_pos iSk_own, dSet_fd c hF]
        simp only []
        rw [if_pos ⟨c, r⟩]
        simp only [x_bind, bk_ok, bk_ite, x_ret, x_lift, lk_some, lk_ite, app_ite, x_eC, x_eV, vk_imm, vk_own, vk_bor, x_give, gk_own, x_bin, x_un, x_ix, x_tru, x_eB, dBl_bl, dTru_bl, dTru_int, dTru_lst, x_and, x_or, x_not, x_eAnd, x_eOr, x_eNot, x_eIf, x_chain, x_aNil, x_aCons, x_aVr, rk_own, rk_io, x_aVb, tk_own, tk_io, tk_imm, tk_bor, x_eTup, x_eLst, imms_nil, imms_im, x_eF, x_call, ixV_C, jk_imm, jk_own, jk_io, jk_bor, flk_int, x_lenV, nk_imm, nk_own, nk_io, nk_bor, x_inV, hk_imm, hk_own, hk_io, hk_bor, x_sNx, x_pass, x_cont, x_brk, x_seq, sk_nx, sk_rt, sk_rtO, sk_ct, sk_bk, sk_ite, x_drop, x_sRet, x_sRetO, x_sIf, x_asg, x_asgO, x_gN, x_gO, x_gNil, x_gCons, x_gTt, x_gTl, x_sApp, x_sSet, x_chM, ck_own, ck_io, x_iOf, x_iRg, x_fn, fk_rt, fk_nx, fk_ite, ios_z, ios_s, keep_io, keep_imm, keep_own, keep_bor, keep_no, dSub_i, dAdd_i, dLt_i, dLe_i, dGt_i, dGe_i, dEq_int, dNe_int, ix_lst, ix_scr, ix_tup, atI_0, atI_1, atI_2, atI_3, List.getElem?_cons_zero, List.getElem?_cons_succ, List.set_cons_zero, List.set_cons_succ, List.length_cons, List.length_nil, List.cons_append, List.nil_append, List.replicate_succ, List.replicate_zero, Option.map_some, Option.bind_some, Nat.reduceAdd, Nat.reduceSub, Nat.reduceLT, Nat.reduceLeDiff, if_true, if_false, Bool.false_eq_true, decide_eq_true_eq, reduceIte, ne_eq, not_false_eq_true, Nat.lt_add_left_iff_pos, Nat.zero_lt_succ, x_call2, x_call3, dk2, dk3, ixV_V, Nat.reduceEqDiff, not_false_eq_true, x_isLst, x_isSet, List.map_cons, List.map_nil, Option.map_none, Option.bind_none, iLk_n, iSk_own]
        rw [dApp_n (by rw [List.length_map]; exact hF)]
        simp only [x_bind, bk_ok, bk_ite, x_ret, x_lift, lk_some, lk_ite, app_ite, x_eC, x_eV, vk_imm, vk_own, vk_bor, x_give, gk_own, x_bin, x_un, x_ix, x_tru, x_eB, dBl_bl, dTru_bl, dTru_int, dTru_lst, x_and, x_or, x_not, x_eAnd, x_eOr, x_eNot, x_eIf, x_chain, x_aNil, x_aCons, x_aVr, rk_own, rk_io, x_aVb, tk_own, tk_io, tk_imm, tk_bor, x_eTup, x_eLst, imms_nil, imms_im, x_eF, x_call, ixV_C, jk_imm, jk_own, jk_io, jk_bor, flk_int, x_lenV, nk_imm, nk_own, nk_io, nk_bor, x_inV, hk_imm, hk_own, hk_io, hk_bor, x_sNx, x_pass, x_cont, x_brk, x_seq, sk_nx, sk_rt, sk_rtO, sk_ct, sk_bk, sk_ite, x_drop, x_sRet, x_sRetO, x_sIf, x_asg, x_asgO, x_gN, x_gO, x_gNil, x_gCons, x_gTt, x_gTl, x_sApp, x_sSet, x_chM, ck_own, ck_io, x_iOf, x_iRg, x_fn, fk_rt, fk_nx, fk_ite, ios_z, ios_s, keep_io, keep_imm, keep_own, keep_bor, keep_no, dSub_i, dAdd_i, dLt_i, dLe_i, dGt_i, dGe_i, dEq_int, dNe_int, ix_lst, ix_scr, ix_tup, atI_0, atI_1, atI_2, atI_3, List.getElem?_cons_zero, List.getElem?_cons_succ, List.set_cons_zero, List.set_cons_succ, List.length_cons, List.length_nil, List.cons_append, List.nil_append, List.replicate_succ, List.replicate_zero, Option.map_some, Option.bind_some, Nat.reduceAdd, Nat.reduceSub, Nat.reduceLT, Nat.reduceLeDiff, if_true, if_false, Bool.false_eq_true, decide_eq_true_eq, reduceIte, ne_eq, not_false_eq_true, Nat.lt_add_left_iff_pos, Nat.zero_lt_succ, x_call2, x_call3, dk2, dk3, ixV_V, Nat.reduceEqDiff, not_false_eq_true, x_isLst, x_isSet, List.map_cons, List.map_nil, Option.map_none, Option.bind_none, List.map_append]
      · rw [if_neg r]
        simp only []
        rw [if_neg (fun z => r z.2)]
  unfold wBody
  cases out with
  | true =>
    rcases hs with rfl | rfl
    · simp only [x_bind, bk_ok, bk_ite, x_ret, x_lift, lk_some, lk_ite, app_ite, x_eC, x_eV, vk_imm, vk_own, vk_bor, x_give, gk_own, x_bin, x_un, x_ix, x_tru, x_eB, dBl_bl, dTru_bl, dTru_int, dTru_lst, x_and, x_or, x_not, x_eAnd, x_eOr, x_eNot, x_eIf, x_chain, x_aNil, x_aCons, x_aVr, rk_own, rk_io, x_aVb, tk_own, tk_io, tk_imm, tk_bor, x_eTup, x_eLst, imms_nil, imms_im, x_eF, x_call, ixV_C, jk_imm, jk_own, jk_io, jk_bor, flk_int, x_lenV, nk_imm, nk_own, nk_io, nk_bor, x_inV, hk_imm, hk_own, hk_io, hk_bor, x_sNx, x_pass, x_cont, x_brk, x_seq, sk_nx, sk_rt, sk_rtO, sk_ct, sk_bk, sk_ite, x_drop, x_sRet, x_sRetO, x_sIf, x_asg, x_asgO, x_gN, x_gO, x_gNil, x_gCons, x_gTt, x_gTl, x_sApp, x_sSet, x_chM, ck_own, ck_io, x_iOf, x_iRg, x_fn, fk_rt, fk_nx, fk_ite, ios_z, ios_s, keep_io, keep_imm, keep_own, keep_bor, keep_no, dSub_i, dAdd_i, dLt_i, dLe_i, dGt_i, dGe_i, dEq_int, dNe_int, ix_lst, ix_scr, ix_tup, atI_0, atI_1, atI_2, atI_3, List.getElem?_cons_zero, List.getElem?_cons_succ, List.set_cons_zero, List.set_cons_succ, List.length_cons, List.length_nil, List.cons_append, List.nil_append, List.replicate_succ, List.replicate_zero, Option.map_some, Option.bind_some, Nat.reduceAdd, Nat.reduceSub, Nat.reduceLT, Nat.reduceLeDiff, if_true, if_false, Bool.false_eq_true, decide_eq_true_eq, reduceIte, ne_eq, not_false_eq_true, Nat.lt_add_left_iff_pos, Nat.zero_lt_succ, x_call2, x_call3, dk2, dk3, ixV_V, Nat.reduceEqDiff, not_false_eq_true, x_isLst, x_isSet, List.map_cons, List.map_nil, Option.map_none, Option.bind_none, a1, a2, ev_other, ev_room, dIn_fd]
      exact fin true u _ rfl
    · simp only [x_bind, bk_ok, bk_ite, x_ret, x_lift, lk_some, lk_ite, app_ite, x_eC, x_eV, vk_imm, vk_own, vk_bor, x_give, gk_own, x_bin, x_un, x_ix, x_tru, x_eB, dBl_bl, dTru_bl, dTru_int, dTru_lst, x_and, x_or, x_not, x_eAnd, x_eOr, x_eNot, x_eIf, x_chain, x_aNil, x_aCons, x_aVr, rk_own, rk_io, x_aVb, tk_own, tk_io, tk_imm, tk_bor, x_eTup, x_eLst, imms_nil, imms_im, x_eF, x_call, ixV_C, jk_imm, jk_own, jk_io, jk_bor, flk_int, x_lenV, nk_imm, nk_own, nk_io, nk_bor, x_inV, hk_imm, hk_own, hk_io, hk_bor, x_sNx, x_pass, x_cont, x_brk, x_seq, sk_nx, sk_rt, sk_rtO, sk_ct, sk_bk, sk_ite, x_drop, x_sRet, x_sRetO, x_sIf, x_asg, x_asgO, x_gN, x_gO, x_gNil, x_gCons, x_gTt, x_gTl, x_sApp, x_sSet, x_chM, ck_own, ck_io, x_iOf, x_iRg, x_fn, fk_rt, fk_nx, fk_ite, ios_z, ios_s, keep_io, keep_imm, keep_own, keep_bor, keep_no, dSub_i, dAdd_i, dLt_i, dLe_i, dGt_i, dGe_i, dEq_int, dNe_int, ix_lst, ix_scr, ix_tup, atI_0, atI_1, atI_2, atI_3, List.getElem?_cons_zero, List.getElem?_cons_succ, List.set_cons_zero, List.set_cons_succ, List.length_cons, List.length_nil, List.cons_append, List.nil_append, List.replicate_succ, List.replicate_zero, Option.map_some, Option.bind_some, Nat.reduceAdd, Nat.reduceSub, Nat.reduceLT, Nat.reduceLeDiff, if_true, if_false, Bool.false_eq_true, decide_eq_true_eq, reduceIte, ne_eq, not_false_eq_true, Nat.lt_add_left_iff_pos, Nat.zero_lt_succ, x_call2, x_call3, dk2, dk3, ixV_V, Nat.reduceEqDiff, not_false_eq_true, x_isLst, x_isSet, List.map_cons, List.map_nil, Option.map_none, Option.bind_none, a1, a2, ev_other, ev_room, dIn_fd]
      exact fin true u _ rfl
  | false =>
    rcases hs with rfl | rfl
    · simp only [x_bind, bk_ok, bk_ite, x_ret, x_lift, lk_some, lk_ite, app_ite, x_eC, x_eV, vk_imm, vk_own, vk_bor, x_give, gk_own, x_bin, x_un, x_ix, x_tru, x_eB, dBl_bl, dTru_bl, dTru_int, dTru_lst, x_and, x_or, x_not, x_eAnd, x_eOr, x_eNot, x_eIf, x_chain, x_aNil, x_aCons, x_aVr, rk_own, rk_io, x_aVb, tk_own, tk_io, tk_imm, tk_bor, x_eTup, x_eLst, imms_nil, imms_im, x_eF, x_call, ixV_C, jk_imm, jk_own, jk_io, jk_bor, flk_int, x_lenV, nk_imm, nk_own, nk_io, nk_bor, x_inV, hk_imm, hk_own, hk_io, hk_bor, x_sNx, x_pass, x_cont, x_brk, x_seq, sk_nx, sk_rt, sk_rtO, sk_ct, sk_bk, sk_ite, x_drop, x_sRet, x_sRetO, x_sIf, x_asg, x_asgO, x_gN, x_gO, x_gNil, x_gCons, x_gTt, x_gTl, x_sApp, x_sSet, x_chM, ck_own, ck_io, x_iOf, x_iRg, x_fn, fk_rt, fk_nx, fk_ite, ios_z, ios_s, keep_io, keep_imm, keep_own, keep_bor, keep_no, dSub_i, dAdd_i, dLt_i, dLe_i, dGt_i, dGe_i, dEq_int, dNe_int, ix_lst, ix_scr, ix_tup, atI_0, atI_1, atI_2, atI_3, List.getElem?_cons_zero, List.getElem?_cons_succ, List.set_cons_zero, List.set_cons_succ, List.length_cons, List.length_nil, List.cons_append, List.nil_append, List.replicate_succ, List.replicate_zero, Option.map_some, Option.bind_some, Nat.reduceAdd, Nat.reduceSub, Nat.reduceLT, Nat.reduceLeDiff, if_true, if_false, Bool.false_eq_true, decide_eq_true_eq, reduceIte, ne_eq, not_false_eq_true, Nat.lt_add_left_iff_pos, Nat.zero_lt_succ, x_call2, x_call3, dk2, dk3, ixV_V, Nat.reduceEqDiff, not_false_eq_true, x_isLst, x_isSet, List.map_cons, List.map_nil, Option.map_none, Option.bind_none, a1, a2, ev_other, ev_room, dIn_fd]
      exact fin false (oth e u) _ rfl
    · simp only [x_bind, bk_ok, bk_ite, x_ret, x_lift, lk_some, lk_ite, app_ite, x_eC, x_eV, vk_imm, vk_own, vk_bor, x_give, gk_own, x_bin, x_un, x_ix, x_tru, x_eB, dBl_bl, dTru_bl, dTru_int, dTru_lst, x_and, x_or, x_not, x_eAnd, x_eOr, x_eNot, x_eIf, x_chain, x_aNil, x_aCons, x_aVr, rk_own, rk_io, x_aVb, tk_own, tk_io, tk_imm, tk_bor, x_eTup, x_eLst, imms_nil, imms_im, x_eF, x_call, ixV_C, jk_imm, jk_own, jk_io, jk_bor, flk_int, x_lenV, nk_imm, nk_own, nk_io, nk_bor, x_inV, hk_imm, hk_own, hk_io, hk_bor, x_sNx, x_pass, x_cont, x_brk, x_seq, sk_nx, sk_rt, sk_rtO, sk_ct, sk_bk, sk_ite, x_drop, x_sRet, x_sRetO, x_sIf, x_asg, x_asgO, x_gN, x_gO, x_gNil, x_gCons, x_gTt, x_gTl, x_sApp, x_sSet, x_chM, ck_own, ck_io, x_iOf, x_iRg, x_fn, fk_rt, fk_nx, fk_ite, ios_z, ios_s, keep_io, keep_imm, keep_own, keep_bor, keep_no, dSub_i, dAdd_i, dLt_i, dLe_i, dGt_i, dGe_i, dEq_int, dNe_int, ix_lst, ix_scr, ix_tup, atI_0, atI_1, atI_2, atI_3, List.getElem?_cons_zero, List.getElem?_cons_succ, List.set_cons_zero, List.set_cons_succ, List.length_cons, List.length_nil, List.cons_append, List.nil_append, List.replicate_succ, List.replicate_zero, Option.map_some, Option.bind_some, Nat.reduceAdd, Nat.reduceSub, Nat.reduceLT, Nat.reduceLeDiff, if_true, if_false, Bool.false_eq_true, decide_eq_true_eq, reduceIte, ne_eq, not_false_eq_true, Nat.lt_add_left_iff_pos, Nat.zero_lt_succ, x_call2, x_call3, dk2, dk3, ixV_V, Nat.reduceEqDiff, not_false_eq_true, x_isLst, x_isSet, List.map_cons, List.map_nil, Option.map_none, Option.bind_none, a1, a2, ev_other, ev_room, dIn_fd]
      exact fin false (oth e u) _ rfl

/-! ### ways_from -/
structure NearOk (n : Nat) (es : List Ed) (near : List (List Int)) : Prop where
  len : near.length = n
  mem : ∀ (u : Nat) ls, near[u]? = some ls → ∀ x, x ∈ ls ↔ ∃ (i : Nat) (e : Ed), x = (i : Int) ∧ es[i]? = some e ∧ Inc e u
def wE (near : List (List Int)) (es : List Ed) (sF : Sl) (s : Nat) (out : Bool) (F : Fd) (x7 x8 x9 x10 x11 : Sl) : Env :=
  [.imm (llD near), .imm (edsD es), sF, .imm (.int s), .imm (.bl out), .own (fdD F), .own (nD (F.map (·.1))), x7, x8, x9, x10, x11]
theorem inc_oth {e : Ed} {u : Nat} {n : Nat} (ok : EdOk n e) (h : Inc e u) : u < n ∧ oth e u < n := by
  obtain ⟨h1, h2, h3, _⟩ := ok
  rcases h with rfl | rfl
  · exact ⟨h1, by rw [oth_a]; exact h2⟩
  · exact ⟨h2, by rw [oth_b h3]; exact h1⟩
theorem ev_inner {n : Nat} {near : List (List Int)} {es : List Ed} {fs : List Int} {sF : Sl} {s u : Nat} {out : Bool} {F : Fd} {x7 x9 x10 x11 : Sl} (hn : n ≤ 1000) (ok : ∀ e ∈ es, EdOk n e) (hl : fs.length = es.length) (nok : NearOk n es near) (hs : BorL sF (iD fs)) (B : BInv n es fs out s F) (hu : u ∈ F.map (·.1)) :
    ∃ F' y9 y10 y11, sFor (iOf (eIxV 0 (eV 8))) (gN 9) wBody (wE near es sF s out F x7 (.imm (.int u)) x9 x10 x11) = some (.ok .nx, wE near es sF s out F' x7 (.imm (.int u)) y9 y10 y11) ∧ BInv n es fs out s F' ∧ (∃ R, F' = F ++ R) ∧ ∀ v, Step es fs out u v → v ∈ F'.map (·.1) := by
  have hun : u < n := by obtain ⟨p, hp, rfl⟩ := List.mem_map.mp hu; exact B.lt p hp
  have hul : u < near.length := by rw [nok.len]; exact hun
  have hls : near[u]? = some near[u] := List.getElem?_eq_getElem hul
  have hi : iOf (eIxV 0 (eV 8)) (wE near es sF s out F x7 (.imm (.int u)) x9 x10 x11) = some (.ok (near[u].map D.int), wE near es sF s out F x7 (.imm (.int u)) x9 x10 x11) := by
    have a1 : dIx (llD near) (.int (u : Int)) = some (.lst (near[u].map D.int)) := at_map (f := fun l : List Int => D.lst (l.map D.int)) hls
    unfold wE
    simp only [x_bind, bk_ok, bk_ite, x_ret, x_lift, lk_some, lk_ite, app_ite, x_eC, x_eV, vk_imm, vk_own, vk_bor, x_give, gk_own, x_bin, x_un, x_ix, x_tru, x_eB, dBl_bl, dTru_bl, dTru_int, dTru_lst, x_and, x_or, x_not, x_eAnd, x_eOr, x_eNot, x_eIf, x_chain, x_aNil, x_aCons, x_aVr, rk_own, rk_io, x_aVb, tk_own, tk_io, tk_imm, tk_bor, x_eTup, x_eLst, imms_nil, imms_im, x_eF, x_call, ixV_C, jk_imm, jk_own, jk_io, jk_bor, flk_int, x_lenV, nk_imm, nk_own, nk_io, nk_bor, x_inV, hk_imm, hk_own, hk_io, hk_bor, x_sNx, x_pass, x_cont, x_brk, x_seq, sk_nx, sk_rt, sk_rtO, sk_ct, sk_bk, sk_ite, x_drop, x_sRet, x_sRetO, x_sIf, x_asg, x_asgO, x_gN, x_gO, x_gNil, x_gCons, x_gTt, x_gTl, x_sApp, x_sSet, x_chM, ck_own, ck_io, x_iOf, x_iRg, x_fn, fk_rt, fk_nx, fk_ite, ios_z, ios_s, keep_io, keep_imm, keep_own, keep_bor, keep_no, dSub_i, dAdd_i, dLt_i, dLe_i, dGt_i, dGe_i, dEq_int, dNe_int, ix_lst, ix_scr, ix_tup, atI_0, atI_1, atI_2, atI_3, List.getElem?_cons_zero, List.getElem?_cons_succ, List.set_cons_zero, List.set_cons_succ, List.length_cons, List.length_nil, List.cons_append, List.nil_append, List.replicate_succ, List.replicate_zero, Option.map_some, Option.bind_some, Nat.reduceAdd, Nat.reduceSub, Nat.reduceLT, Nat.reduceLeDiff, if_true, if_false, Bool.false_eq_true, decide_eq_true_eq, reduceIte, ne_eq, not_false_eq_true, Nat.lt_add_left_iff_pos, Nat.zero_lt_succ, x_call2, x_call3, dk2, dk3, ixV_V, Nat.reduceEqDiff, not_false_eq_true, x_isLst, x_isSet, List.map_cons, List.map_nil, Option.map_none, Option.bind_none, a1, itD]
  obtain ⟨δ', h1, F', y9, y10, y11, rfl, B', R, h3⟩ := sFor_inv (S := wBody) (T := gN 9) (fun k δ => ∃ F' y9 y10 y11, δ = wE near es sF s out F' x7 (.imm (.int u)) y9 y10 y11 ∧ BInv n es fs out s F' ∧ (∃ R, F' = F ++ R) ∧
      ∀ (j i : Nat) (e : Ed) (f : Int), j < k → near[u][j]? = some (i : Int) → es[i]? = some e → fs[i]? = some f → 0 < res e f (if out then u else oth e u) → oth e u ∈ F'.map (·.1)) hi
    ⟨F, x9, x10, x11, rfl, B, ⟨[], by simp⟩, fun j i e f h => by omega⟩ fun k d δ hd hinv => by
      obtain ⟨F', y9, y10, y11, rfl, B', ⟨R, hR⟩, h3⟩ := hinv
      rw [List.getElem?_map] at hd
      cases hx : near[u][k]? with
      | none => rw [hx] at hd; cases hd
      | some x =>
        rw [hx] at hd; cases hd
        obtain ⟨i, e, rfl, he, hinc⟩ := (nok.mem u _ hls x).mp (List.mem_of_getElem? hx)
        have hif : i < fs.length := by rw [hl]; exact (List.getElem?_eq_some_iff.mp he).1
        have hf : fs[i]? = some fs[i] := List.getElem?_eq_getElem hif
        have hFl : F'.length ≤ 1000 := Nat.le_trans B'.len hn
        have hu' : u ∈ F'.map (·.1) := by rw [hR, List.map_append]; exact List.mem_append_left _ hu
        have hb := ev_wBody (x0 := .imm (llD near)) (x7 := x7) (x10 := y10) (x11 := y11) (st := .int s) (out := out) (F := F') (u := u) hs he hf hFl
        refine ⟨wE near es sF s out F' x7 (.imm (.int u)) (.imm (.int i)) y10 y11, _, ?_, .inl hb, ?_⟩
        · unfold wE; simp only [x_bind, bk_ok, bk_ite, x_ret, x_lift, lk_some, lk_ite, app_ite, x_eC, x_eV, vk_imm, vk_own, vk_bor, x_give, gk_own, x_bin, x_un, x_ix, x_tru, x_eB, dBl_bl, dTru_bl, dTru_int, dTru_lst, x_and, x_or, x_not, x_eAnd, x_eOr, x_eNot, x_eIf, x_chain, x_aNil, x_aCons, x_aVr, rk_own, rk_io, x_aVb, tk_own, tk_io, tk_imm, tk_bor, x_eTup, x_eLst, imms_nil, imms_im, x_eF, x_call, ixV_C, jk_imm, jk_own, jk_io, jk_bor, flk_int, x_lenV, nk_imm, nk_own, nk_io, nk_bor, x_inV, hk_imm, hk_own, hk_io, hk_bor, x_sNx, x_pass, x_cont, x_brk, x_seq, sk_nx, sk_rt, sk_rtO, sk_ct, sk_bk, sk_ite, x_drop, x_sRet, x_sRetO, x_sIf, x_asg, x_asgO, x_gN, x_gO, x_gNil, x_gCons, x_gTt, x_gTl, x_sApp, x_sSet, x_chM, ck_own, ck_io, x_iOf, x_iRg, x_fn, fk_rt, fk_nx, fk_ite, ios_z, ios_s, keep_io, keep_imm, keep_own, keep_bor, keep_no, dSub_i, dAdd_i, dLt_i, dLe_i, dGt_i, dGe_i, dEq_int, dNe_int, ix_lst, ix_scr, ix_tup, atI_0, atI_1, atI_2, atI_3, List.getElem?_cons_zero, List.getElem?_cons_succ, List.set_cons_zero, List.set_cons_succ, List.length_cons, List.length_nil, List.cons_append, List.nil_append, List.replicate_succ, List.replicate_zero, Option.map_some, Option.bind_some, Nat.reduceAdd, Nat.reduceSub, Nat.reduceLT, Nat.reduceLeDiff, if_true, if_false, Bool.false_eq_true, decide_eq_true_eq, reduceIte, ne_eq, not_false_eq_true, Nat.lt_add_left_iff_pos, Nat.zero_lt_succ, x_call2, x_call3, dk2, dk3, ixV_V, Nat.reduceEqDiff, not_false_eq_true, x_isLst, x_isSet, List.map_cons, List.map_nil, Option.map_none, Option.bind_none]
        · by_cases c : oth e u ∉ F'.map (·.1) ∧ 0 < res e fs[i] (if out then u else oth e u)
          · simp only []
            rw [if_pos c]
            refine ⟨F' ++ [(oth e u, some i)], _, _, _, rfl, B'.push ok he hf hinc hu' c.1 c.2, ⟨R ++ [(oth e u, some i)], by rw [hR, List.append_assoc]⟩, fun j i' e' f' hj g1 g2 g3 g4 => ?_⟩
            rw [List.map_append]
            by_cases cj : j < k
            · exact List.mem_append_left _ (h3 j i' e' f' cj g1 g2 g3 g4)
            · have : j = k := by omega
              subst this
              rw [hx] at g1
              have : i = i' := by injection g1 with g1; omega
              subst this
              rw [he] at g2; cases g2
              exact List.mem_append_right _ (by simp)
          · simp only []
            rw [if_neg c]
            refine ⟨F', _, _, _, rfl, B', ⟨R, hR⟩, fun j i' e' f' hj g1 g2 g3 g4 => ?_⟩
            by_cases cj : j < k
            · exact h3 j i' e' f' cj g1 g2 g3 g4
            · have : j = k := by omega
              subst this
              rw [hx] at g1
              have : i = i' := by injection g1 with g1; omega
              subst this
              rw [he] at g2; cases g2
              rw [hf] at g3; cases g3
              exact Classical.byContradiction fun z => c ⟨z, g4⟩
  refine ⟨F', y9, y10, y11, h1, B', R, fun v hv => ?_⟩
  obtain ⟨i, e, f, g1, g2, g3, g4, g5⟩ := hv
  obtain ⟨j, hj, ej⟩ := List.mem_iff_getElem.mp ((nok.mem u _ hls (i : Int)).mpr ⟨i, e, rfl, g1, g3⟩)
  subst g4
  exact h3 j i e f (by rw [List.length_map]; exact hj) (by rw [List.getElem?_eq_getElem hj, ej]) g1 g2 g5
theorem x_dispVC {i : Nat} {c : D} {δ : Env} : eDisp1 (eV i) (eC c) δ = bk (fun k => Mo.lift ((keyK k).map fun kk => D.dK [(kk, c)])) (eV i δ) := by
  unfold eDisp1
  rw [x_eV]
  unfold vk
  split <;> rename_i h <;> split <;> simp_all [bk, eC, Mo.ret, Mo.lift] <;> (try split) <;> simp_all
noncomputable def wLoop : Mo Out := (sWhile (eB (eBin dLt (eV 7) (eLenV 6)))
 (sSeq (sAsg (gN 8) (eIxV 6 (eV 7)))
 (sSeq (sAsg (gN 7) (eBin dAdd (eV 7) (eC (.int 1))))
 (sFor (iOf (eIxV 0 (eV 8))) (gN 9) wBody))))
theorem ev_wLoop {n : Nat} {near : List (List Int)} {es : List Ed} {fs : List Int} {sF : Sl} {s : Nat} {out : Bool} {x8 x9 x10 x11 : Sl} (hn : n ≤ 1000) (ok : ∀ e ∈ es, EdOk n e) (hl : fs.length = es.length) (nok : NearOk n es near) (hs : BorL sF (iD fs)) (h0 : s < n) :
    ∃ F y7 y8 y9 y10 y11, wLoop (wE near es sF s out [(s, none)] (.imm (.int 0)) x8 x9 x10 x11) = some (.ok .nx, wE near es sF s out F y7 y8 y9 y10 y11) ∧ BInv n es fs out s F ∧ ∀ u ∈ F.map (·.1), ∀ v, Step es fs out u v → v ∈ F.map (·.1) := by
  obtain ⟨δ', h1, F, y7, y8, y9, y10, y11, rfl, B, hd⟩ := sWhile_inv (c := (eB (eBin dLt (eV 7) (eLenV 6)))) (S := (sSeq (sAsg (gN 8) (eIxV 6 (eV 7))) (sSeq (sAsg (gN 7) (eBin dAdd (eV 7) (eC (.int 1)))) (sFor (iOf (eIxV 0 (eV 8))) (gN 9) wBody))))
    (fun δ => ∃ F, ∃ at' : Nat, ∃ y8 y9 y10 y11, δ = wE near es sF s out F (.imm (.int at')) y8 y9 y10 y11 ∧ BInv n es fs out s F ∧ at' ≤ F.length ∧ ∀ u ∈ (F.take at').map (·.1), ∀ v, Step es fs out u v → v ∈ F.map (·.1))
    (fun δ => ∃ F y7 y8 y9 y10 y11, δ = wE near es sF s out F y7 y8 y9 y10 y11 ∧ BInv n es fs out s F ∧ ∀ u ∈ F.map (·.1), ∀ v, Step es fs out u v → v ∈ F.map (·.1))
    (fun δ : Env => match δ[7]? with | some (Sl.imm (D.int a)) => ((n : Int) + 1 - a).toNat | _ => 0) (fun δ hδ => by
      obtain ⟨F, k, y8, y9, y10, y11, rfl, B, hk, hd⟩ := hδ
      have hFn := B.len
      refine ⟨decide ((k : Int) < (F.length : Nat)), wE near es sF s out F (.imm (.int k)) y8 y9 y10 y11, ?_, fun hb => ?_, fun hb => ?_⟩
      · unfold wE nD
        simp only [x_bind, bk_ok, bk_ite, x_ret, x_lift, lk_some, lk_ite, app_ite, x_eC, x_eV, vk_imm, vk_own, vk_bor, x_give, gk_own, x_bin, x_un, x_ix, x_tru, x_eB, dBl_bl, dTru_bl, dTru_int, dTru_lst, x_and, x_or, x_not, x_eAnd, x_eOr, x_eNot, x_eIf, x_chain, x_aNil, x_aCons, x_aVr, rk_own, rk_io, x_aVb, tk_own, tk_io, tk_imm, tk_bor, x_eTup, x_eLst, imms_nil, imms_im, x_eF, x_call, ixV_C, jk_imm, jk_own, jk_io, jk_bor, flk_int, x_lenV, nk_imm, nk_own, nk_io, nk_bor, x_inV, hk_imm, hk_own, hk_io, hk_bor, x_sNx, x_pass, x_cont, x_brk, x_seq, sk_nx, sk_rt, sk_rtO, sk_ct, sk_bk, sk_ite, x_drop, x_sRet, x_sRetO, x_sIf, x_asg, x_asgO, x_gN, x_gO, x_gNil, x_gCons, x_gTt, x_gTl, x_sApp, x_sSet, x_chM, ck_own, ck_io, x_iOf, x_iRg, x_fn, fk_rt, fk_nx, fk_ite, ios_z, ios_s, keep_io, keep_imm, keep_own, keep_bor, keep_no, dSub_i, dAdd_i, dLt_i, dLe_i, dGt_i, dGe_i, dEq_int, dNe_int, ix_lst, ix_scr, ix_tup, atI_0, atI_1, atI_2, atI_3, List.getElem?_cons_zero, List.getElem?_cons_succ, List.set_cons_zero, List.set_cons_succ, List.length_cons, List.length_nil, List.cons_append, List.nil_append, List.replicate_succ, List.replicate_zero, Option.map_some, Option.bind_some, Nat.reduceAdd, Nat.reduceSub, Nat.reduceLT, Nat.reduceLeDiff, if_true, if_false, Bool.false_eq_true, decide_eq_true_eq, reduceIte, ne_eq, not_false_eq_true, Nat.lt_add_left_iff_pos, Nat.zero_lt_succ, x_call2, x_call3, dk2, dk3, ixV_V, Nat.reduceEqDiff, not_false_eq_true, x_isLst, x_isSet, List.map_cons, List.map_nil, Option.map_none, Option.bind_none, dLen, List.length_map]
      · have : ¬ ((k : Int) < (F.length : Nat)) := of_decide_eq_false hb
        have hk2 : k = F.length := by omega
        refine ⟨F, _, _, _, _, _, rfl, B, fun u hu => hd u ?_⟩
        rw [hk2, List.take_length]; exact hu
      · have hlt : k < F.length := by have := of_decide_eq_true hb; omega
        have hgk : F[k]? = some F[k] := List.getElem?_eq_getElem hlt
        have hmem : F[k].1 ∈ F.map (·.1) := List.mem_map.mpr ⟨F[k], List.getElem_mem hlt, rfl⟩
        obtain ⟨F', z9, z10, z11, e1, B', ⟨R, hR⟩, hst⟩ := ev_inner (x7 := .imm (.int ((k + 1 : Nat) : Int))) (x9 := y9) (x10 := y10) (x11 := y11) hn ok hl nok hs B hmem
        refine ⟨wE near es sF s out F' (.imm (.int ((k + 1 : Nat) : Int))) (.imm (.int F[k].1)) z9 z10 z11, ?_, ⟨F', k + 1, _, _, _, _, rfl, B', ?_, fun u hu v hv => ?_⟩, ?_⟩
        · have a1 : dIx (nD (F.map (·.1))) (.int (k : Int)) = some (.int (F[k].1 : Nat)) := by
            unfold nD
            rw [List.map_map]
            exact at_map (f := fun p : Nat × Option Nat => D.int (p.1 : Int)) hgk
          have e0 : ((k : Int) + 1) = ((k + 1 : Nat) : Int) := by omega
          unfold wE at e1 ⊢
          simp only [x_bind, bk_ok, bk_ite, x_ret, x_lift, lk_some, lk_ite, app_ite, x_eC, x_eV, vk_imm, vk_own, vk_bor, x_give, gk_own, x_bin, x_un, x_ix, x_tru, x_eB, dBl_bl, dTru_bl, dTru_int, dTru_lst, x_and, x_or, x_not, x_eAnd, x_eOr, x_eNot, x_eIf, x_chain, x_aNil, x_aCons, x_aVr, rk_own, rk_io, x_aVb, tk_own, tk_io, tk_imm, tk_bor, x_eTup, x_eLst, imms_nil, imms_im, x_eF, x_call, ixV_C, jk_imm, jk_own, jk_io, jk_bor, flk_int, x_lenV, nk_imm, nk_own, nk_io, nk_bor, x_inV, hk_imm, hk_own, hk_io, hk_bor, x_sNx, x_pass, x_cont, x_brk, x_seq, sk_nx, sk_rt, sk_rtO, sk_ct, sk_bk, sk_ite, x_drop, x_sRet, x_sRetO, x_sIf, x_asg, x_asgO, x_gN, x_gO, x_gNil, x_gCons, x_gTt, x_gTl, x_sApp, x_sSet, x_chM, ck_own, ck_io, x_iOf, x_iRg, x_fn, fk_rt, fk_nx, fk_ite, ios_z, ios_s, keep_io, keep_imm, keep_own, keep_bor, keep_no, dSub_i, dAdd_i, dLt_i, dLe_i, dGt_i, dGe_i, dEq_int, dNe_int, ix_lst, ix_scr, ix_tup, atI_0, atI_1, atI_2, atI_3, List.getElem?_cons_zero, List.getElem?_cons_succ, List.set_cons_zero, List.set_cons_succ, List.length_cons, List.length_nil, List.cons_append, List.nil_append, List.replicate_succ, List.replicate_zero, Option.map_some, Option.bind_some, Nat.reduceAdd, Nat.reduceSub, Nat.reduceLT, Nat.reduceLeDiff, if_true, if_false, Bool.false_eq_true, decide_eq_true_eq, reduceIte, ne_eq, not_false_eq_true, Nat.lt_add_left_iff_pos, Nat.zero_lt_succ, x_call2, x_call3, dk2, dk3, ixV_V, Nat.reduceEqDiff, not_false_eq_true, x_isLst, x_isSet, List.map_cons, List.map_nil, Option.map_none, Option.bind_none, a1, e0]
          exact e1
        · rw [hR, List.length_append]; omega
        · rw [hR, List.take_append_of_le_length (by omega), List.take_add_one, hgk, List.map_append] at hu
          rcases List.mem_append.mp hu with hu | hu
          · have := hd u hu v hv
            rw [hR, List.map_append]; exact List.mem_append_left _ this
          · simp at hu; subst hu; exact hst v hv
        · show (n + 1 - ((k + 1 : Nat) : Int)).toNat < ((n : Int) + 1 - (k : Int)).toNat
          omega)
    (δ := wE near es sF s out [(s, none)] (.imm (.int 0)) x8 x9 x10 x11) ⟨[(s, none)], 0, x8, x9, x10, x11, rfl, .start h0, Nat.zero_le _, fun u hu => by simp at hu⟩
  exact ⟨F, y7, y8, y9, y10, y11, h1, B, hd⟩
theorem ev_ways {n : Nat} {near : List (List Int)} {es : List Ed} {fs : List Int} {sF : Sl} {s : Nat} {out : Bool} (hn : n ≤ 1000) (ok : ∀ e ∈ es, EdOk n e) (hl : fs.length = es.length) (nok : NearOk n es near) (hs : BorL sF (iD fs)) (h0 : s < n) :
    ∃ F, m_ways_from [.imm (llD near), .imm (edsD es), sF, .imm (.int s), .imm (.bl out)] = some (.ok (fdD F), [.no, .no, .no, .no, .no]) ∧ BInv n es fs out s F ∧ ∀ u ∈ F.map (·.1), ∀ v, Step es fs out u v → v ∈ F.map (·.1) := by
  obtain ⟨F, y7, y8, y9, y10, y11, h1, B, hd⟩ := ev_wLoop (out := out) (x8 := .no) (x9 := .no) (x10 := .no) (x11 := .no) hn ok hl nok hs h0
  refine ⟨F, ?_, B, hd⟩
  unfold m_ways_from b_ways_from
  have h2 : wLoop [.imm (llD near), .imm (edsD es), sF, .imm (.int s), .imm (.bl out), .own (.dK [((.inl (s : Int) : Key), .non)]), .own (.lst [.int s]), .imm (.int 0), .no, .no, .no, .no] = _ := h1
  unfold wLoop wBody at h2
  unfold wE at h2
  rcases hs with rfl | rfl
  · simp only [x_bind, bk_ok, bk_ite, x_ret, x_lift, lk_some, lk_ite, app_ite, x_eC, x_eV, vk_imm, vk_own, vk_bor, x_give, gk_own, x_bin, x_un, x_ix, x_tru, x_eB, dBl_bl, dTru_bl, dTru_int, dTru_lst, x_and, x_or, x_not, x_eAnd, x_eOr, x_eNot, x_eIf, x_chain, x_aNil, x_aCons, x_aVr, rk_own, rk_io, x_aVb, tk_own, tk_io, tk_imm, tk_bor, x_eTup, x_eLst, imms_nil, imms_im, x_eF, x_call, ixV_C, jk_imm, jk_own, jk_io, jk_bor, flk_int, x_lenV, nk_imm, nk_own, nk_io, nk_bor, x_inV, hk_imm, hk_own, hk_io, hk_bor, x_sNx, x_pass, x_cont, x_brk, x_seq, sk_nx, sk_rt, sk_rtO, sk_ct, sk_bk, sk_ite, x_drop, x_sRet, x_sRetO, x_sIf, x_asg, x_asgO, x_gN, x_gO, x_gNil, x_gCons, x_gTt, x_gTl, x_sApp, x_sSet, x_chM, ck_own, ck_io, x_iOf, x_iRg, x_fn, fk_rt, fk_nx, fk_ite, ios_z, ios_s, keep_io, keep_imm, keep_own, keep_bor, keep_no, dSub_i, dAdd_i, dLt_i, dLe_i, dGt_i, dGe_i, dEq_int, dNe_int, ix_lst, ix_scr, ix_tup, atI_0, atI_1, atI_2, atI_3, List.getElem?_cons_zero, List.getElem?_cons_succ, List.set_cons_zero, List.set_cons_succ, List.length_cons, List.length_nil, List.cons_append, List.nil_append, List.replicate_succ, List.replicate_zero, Option.map_some, Option.bind_some, Nat.reduceAdd, Nat.reduceSub, Nat.reduceLT, Nat.reduceLeDiff, if_true, if_false, Bool.false_eq_true, decide_eq_true_eq, reduceIte, ne_eq, not_false_eq_true, Nat.lt_add_left_iff_pos, Nat.zero_lt_succ, x_call2, x_call3, dk2, dk3, ixV_V, Nat.reduceEqDiff, not_false_eq_true, x_isLst, x_isSet, List.map_cons, List.map_nil, Option.map_none, Option.bind_none, x_dispVC, keyK, h2, Nat.reduceLeDiff]
  · simp only [x_bind, bk_ok, bk_ite, x_ret, x_lift, lk_some, lk_ite, app_ite, x_eC, x_eV, vk_imm, vk_own, vk_bor, x_give, gk_own, x_bin, x_un, x_ix, x_tru, x_eB, dBl_bl, dTru_bl, dTru_int, dTru_lst, x_and, x_or, x_not, x_eAnd, x_eOr, x_eNot, x_eIf, x_chain, x_aNil, x_aCons, x_aVr, rk_own, rk_io, x_aVb, tk_own, tk_io, tk_imm, tk_bor, x_eTup, x_eLst, imms_nil, imms_im, x_eF, x_call, ixV_C, jk_imm, jk_own, jk_io, jk_bor, flk_int, x_lenV, nk_imm, nk_own, nk_io, nk_bor, x_inV, hk_imm, hk_own, hk_io, hk_bor, x_sNx, x_pass, x_cont, x_brk, x_seq, sk_nx, sk_rt, sk_rtO, sk_ct, sk_bk, sk_ite, x_drop, x_sRet, x_sRetO, x_sIf, x_asg, x_asgO, x_gN, x_gO, x_gNil, x_gCons, x_gTt, x_gTl, x_sApp, x_sSet, x_chM, ck_own, ck_io, x_iOf, x_iRg, x_fn, fk_rt, fk_nx, fk_ite, ios_z, ios_s, keep_io, keep_imm, keep_own, keep_bor, keep_no, dSub_i, dAdd_i, dLt_i, dLe_i, dGt_i, dGe_i, dEq_int, dNe_int, ix_lst, ix_scr, ix_tup, atI_0, atI_1, atI_2, atI_3, List.getElem?_cons_zero, List.getElem?_cons_succ, List.set_cons_zero, List.set_cons_succ, List.length_cons, List.length_nil, List.cons_append, List.nil_append, List.replicate_succ, List.replicate_zero, Option.map_some, Option.bind_some, Nat.reduceAdd, Nat.reduceSub, Nat.reduceLT, Nat.reduceLeDiff, if_true, if_false, Bool.false_eq_true, decide_eq_true_eq, reduceIte, ne_eq, not_false_eq_true, Nat.lt_add_left_iff_pos, Nat.zero_lt_succ, x_call2, x_call3, dk2, dk3, ixV_V, Nat.reduceEqDiff, not_false_eq_true, x_isLst, x_isSet, List.map_cons, List.map_nil, Option.map_none, Option.bind_none, x_dispVC, keyK, h2, Nat.reduceLeDiff]
end M

set_option Elab.async false
set_option linter.all false
set_option maxRecDepth 100000
set_option maxHeartbeats 1000000
namespace M
open PySem L2
def pathD (ps : List (Nat × Nat)) : List D := ps.map fun p => .tup [.int (p.1 : Int), .int (p.2 : Int)]
def pE (es : List Ed) (fs : List Int) (F : Fd) (x3 x4 x5 x6 x7 : Sl) : Env := [.imm (edsD es), .io (iD fs), .imm (fdD F), x3, x4, x5, x6, x7]
theorem dIx_fd {v : Nat} {F : Fd} {o : Option Nat} (h : F.lookup v = some o) : dIx (fdD F) (.int (v : Int)) = some (oD o) := by
  have h2 : dGet (fdD F) (.int (v : Int)) = some ((F.lookup v).map oD) := by
    show some (lookA _ (Sum.inl (v : Int))) = _
    rw [lookA_fd]
  show (dGet (fdD F) (.int (v : Int))).bind id = _
  rw [h2, h]; rfl
noncomputable def pLoop : Mo Out := (sWhile (eB (eBin dNe (eV 4) (eC (.int 0))))
 (sSeq (sAsg (gN 5) (eIxV 2 (eV 4)))
 (sSeq (sAsg (gN 4) (eCall m_other_node (aCons (eIxV 0 (eV 5)) (aCons (eV 4) aNil))))
 (sApp 3 (eTup (aCons (eV 5) (aCons (eV 4) aNil)))))))
theorem ev_pLoop {n : Nat} {es : List Ed} {fs : List Int} {F : Fd} {x5 x6 x7 : Sl} (hn : n ≤ 1000) (ok : ∀ e ∈ es, EdOk n e) (B : BInv n es fs true 0 F) (h1 : 1 ∈ F.map (·.1)) :
    ∃ y4 y5, pLoop (pE es fs F (.own (.lst [])) (.imm (.int 1)) x5 x6 x7) = some (.ok .nx, pE es fs F (.own (.lst (pathD (wayB es F n 1)))) y4 y5 x6 x7) := by
  have hL : (wayB es F n 1).length ≤ n := by
    have : ∀ k v, (wayB es F k v).length ≤ k := by
      intro k
      induction k with
      | zero => intro v; exact Nat.le_refl _
      | succ k ih =>
        intro v
        unfold wayB
        split
        · split
          · rw [List.length_cons]; have := ih (oth (by assumption) v); omega
          · simp
        · simp
    exact this n 1
  obtain ⟨p, hp, hp1⟩ := List.mem_map.mp h1
  obtain ⟨j0, hj0, ej0⟩ := List.mem_iff_getElem.mp hp
  have hF0 : F[j0]? = some (1, p.2) := by rw [List.getElem?_eq_getElem hj0, ej0, ← hp1]
  have hjn : j0 ≤ n := by have := B.len; omega
  obtain ⟨δ', e1, y4, y5, rfl⟩ := sWhile_inv (c := (eB (eBin dNe (eV 4) (eC (.int 0))))) (S := (sSeq (sAsg (gN 5) (eIxV 2 (eV 4))) (sSeq (sAsg (gN 4) (eCall m_other_node (aCons (eIxV 0 (eV 5)) (aCons (eV 4) aNil)))) (sApp 3 (eTup (aCons (eV 5) (aCons (eV 4) aNil)))))))
    (fun δ => ∃ (j k v : Nat) (o : Option Nat) (dn : List (Nat × Nat)) (y5 : Sl), δ = pE es fs F (.own (.lst (pathD dn))) (.imm (.int (v : Int))) y5 x6 x7 ∧ F[j]? = some (v, o) ∧ j ≤ k ∧ dn ++ wayB es F k v = wayB es F n 1)
    (fun δ => ∃ y4 y5, δ = pE es fs F (.own (.lst (pathD (wayB es F n 1)))) y4 y5 x6 x7)
    (fun δ : Env => match δ[3]? with | some (Sl.own (D.lst l)) => n + 1 - l.length | _ => 0) (fun δ hδ => by
      obtain ⟨j, k, v, o, dn, y5, rfl, hj, hjk, hd⟩ := hδ
      refine ⟨!decide ((v : Int) = 0), pE es fs F (.own (.lst (pathD dn))) (.imm (.int (v : Int))) y5 x6 x7, ?_, fun hb => ?_, fun hb => ?_⟩
      · unfold pE
        simp only [x_bind, bk_ok, bk_ite, x_ret, x_lift, lk_some, lk_ite, app_ite, x_eC, x_eV, vk_imm, vk_own, vk_bor, x_give, gk_own, x_bin, x_un, x_ix, x_tru, x_eB, dBl_bl, dTru_bl, dTru_int, dTru_lst, x_and, x_or, x_not, x_eAnd, x_eOr, x_eNot, x_eIf, x_chain, x_aNil, x_aCons, x_aVr, rk_own, rk_io, x_aVb, tk_own, tk_io, tk_imm, tk_bor, x_eTup, x_eLst, imms_nil, imms_im, x_eF, x_call, ixV_C, jk_imm, jk_own, jk_io, jk_bor, flk_int, x_lenV, nk_imm, nk_own, nk_io, nk_bor, x_inV, hk_imm, hk_own, hk_io, hk_bor, x_sNx, x_pass, x_cont, x_brk, x_seq, sk_nx, sk_rt, sk_rtO, sk_ct, sk_bk, sk_ite, x_drop, x_sRet, x_sRetO, x_sIf, x_asg, x_asgO, x_gN, x_gO, x_gNil, x_gCons, x_gTt, x_gTl, x_sApp, x_sSet, x_chM, ck_own, ck_io, x_iOf, x_iRg, x_fn, fk_rt, fk_nx, fk_ite, ios_z, ios_s, keep_io, keep_imm, keep_own, keep_bor, keep_no, dSub_i, dAdd_i, dLt_i, dLe_i, dGt_i, dGe_i, dEq_int, dNe_int, ix_lst, ix_scr, ix_tup, atI_0, atI_1, atI_2, atI_3, List.getElem?_cons_zero, List.getElem?_cons_succ, List.set_cons_zero, List.set_cons_succ, List.length_cons, List.length_nil, List.cons_append, List.nil_append, List.replicate_succ, List.replicate_zero, Option.map_some, Option.bind_some, Nat.reduceAdd, Nat.reduceSub, Nat.reduceLT, Nat.reduceLeDiff, if_true, if_false, Bool.false_eq_true, decide_eq_true_eq, reduceIte, ne_eq, not_false_eq_true, Nat.lt_add_left_iff_pos, Nat.zero_lt_succ, x_call2, x_call3, dk2, dk3, ixV_V, Nat.reduceEqDiff, not_false_eq_true, x_isLst, x_isSet, List.map_cons, List.map_nil, Option.map_none, Option.bind_none]
      · have hv : v = 0 := by
          have : decide ((v : Int) = 0) = true := by cases h : decide ((v : Int) = 0) <;> simp_all
          have := of_decide_eq_true this; omega
        subst hv
        have hw : wayB es F k 0 = [] := by
          cases k with
          | zero => rfl
          | succ k => unfold wayB; rw [look_at B.nd B.head]
        rw [hw, List.append_nil] at hd
        subst hd
        exact ⟨_, _, rfl⟩
      · have hv : v ≠ 0 := by
          intro c; subst c; simp at hb
        cases j with
        | zero => rw [B.head] at hj; cases hj; exact absurd rfl hv
        | succ j =>
          obtain ⟨i, u, e, f, k1, k2, k3, k4, k5, k6, k7⟩ := B.par j v o hj
          subst k1
          have nab := (ok e (List.mem_of_getElem? k2)).2.2.1
          have hov : oth e v = u := by
            rcases k4 with rfl | rfl
            · rw [oth_a] at k5; subst k5; exact oth_b nab
            · rw [oth_b nab] at k5; subst k5; exact oth_a
          cases k with
          | zero => omega
          | succ k =>
            have hlk := look_at B.nd hj
            have hw : wayB es F (k + 1) v = (i, u) :: wayB es F k u := by
              conv => lhs; unfold wayB
              rw [hlk]; simp only [k2, hov]
            obtain ⟨q, hq, hqu⟩ := List.mem_map.mp k7
            obtain ⟨l, hl, el⟩ := List.mem_iff_getElem.mp hq
            have hl' : l < j + 1 := by rw [List.length_take] at hl; omega
            have hlF : l < F.length := by rw [List.length_take] at hl; omega
            have e2 : F[l]? = some (u, q.2) := by
              rw [List.getElem_take] at el
              rw [List.getElem?_eq_getElem hlF, el, ← hqu]
            rw [hw] at hd
            have hlen := congrArg List.length hd
            rw [List.length_append, List.length_cons] at hlen
            have a1 : dIx (fdD F) (.int (v : Int)) = some (.int (i : Int)) := dIx_fd hlk
            have a2 : dIx (edsD es) (.int (i : Int)) = some e.d := at_map k2
            refine ⟨pE es fs F (.own (.lst (pathD (dn ++ [(i, u)])))) (.imm (.int (u : Int))) (.imm (.int (i : Int))) x6 x7, ?_, ⟨l, k, u, q.2, dn ++ [(i, u)], _, rfl, e2, by omega, by rw [List.append_assoc]; exact hd⟩, ?_⟩
            · unfold pE
              have hpl : (pathD dn).length ≤ 1000 := by unfold pathD; rw [List.length_map]; omega
              simp only [x_bind, bk_ok, bk_ite, x_ret, x_lift, lk_some, lk_ite, app_ite, x_eC, x_eV, vk_imm, vk_own, vk_bor, x_give, gk_own, x_bin, x_un, x_ix, x_tru, x_eB, dBl_bl, dTru_bl, dTru_int, dTru_lst, x_and, x_or, x_not, x_eAnd, x_eOr, x_eNot, x_eIf, x_chain, x_aNil, x_aCons, x_aVr, rk_own, rk_io, x_aVb, tk_own, tk_io, tk_imm, tk_bor, x_eTup, x_eLst, imms_nil, imms_im, x_eF, x_call, ixV_C, jk_imm, jk_own, jk_io, jk_bor, flk_int, x_lenV, nk_imm, nk_own, nk_io, nk_bor, x_inV, hk_imm, hk_own, hk_io, hk_bor, x_sNx, x_pass, x_cont, x_brk, x_seq, sk_nx, sk_rt, sk_rtO, sk_ct, sk_bk, sk_ite, x_drop, x_sRet, x_sRetO, x_sIf, x_asg, x_asgO, x_gN, x_gO, x_gNil, x_gCons, x_gTt, x_gTl, x_sApp, x_sSet, x_chM, ck_own, ck_io, x_iOf, x_iRg, x_fn, fk_rt, fk_nx, fk_ite, ios_z, ios_s, keep_io, keep_imm, keep_own, keep_bor, keep_no, dSub_i, dAdd_i, dLt_i, dLe_i, dGt_i, dGe_i, dEq_int, dNe_int, ix_lst, ix_scr, ix_tup, atI_0, atI_1, atI_2, atI_3, List.getElem?_cons_zero, List.getElem?_cons_succ, List.set_cons_zero, List.set_cons_succ, List.length_cons, List.length_nil, List.cons_append, List.nil_append, List.replicate_succ, List.replicate_zero, Option.map_some, Option.bind_some, Nat.reduceAdd, Nat.reduceSub, Nat.reduceLT, Nat.reduceLeDiff, if_true, if_false, Bool.false_eq_true, decide_eq_true_eq, reduceIte, ne_eq, not_false_eq_true, Nat.lt_add_left_iff_pos, Nat.zero_lt_succ, x_call2, x_call3, dk2, dk3, ixV_V, Nat.reduceEqDiff, not_false_eq_true, x_isLst, x_isSet, List.map_cons, List.map_nil, Option.map_none, Option.bind_none, a1, a2, ev_other, hov, iLk_l, dApp_l hpl]
              unfold pathD
              rw [List.map_append]; rfl
            · show n + 1 - (pathD (dn ++ [(i, u)])).length < n + 1 - (pathD dn).length
              unfold pathD
              rw [List.length_map, List.length_map, List.length_append]
              simp; omega)
    (δ := pE es fs F (.own (.lst [])) (.imm (.int 1)) x5 x6 x7) ⟨j0, n, 1, p.2, [], x5, rfl, hF0, hjn, rfl⟩
  exact ⟨y4, y5, e1⟩
theorem pushes_app {es : List Ed} {m : Int} : ∀ {a b : List (Nat × Nat)} {fs : List Int}, pushes es m (a ++ b) fs = pushes es m b (pushes es m a fs)
  | [], _, _ => rfl
  | p :: a, b, fs => by
    show pushes es m (a ++ b) (addF es m p fs) = pushes es m b (pushes es m a (addF es m p fs))
    exact pushes_app
theorem minL_ex : ∀ {l : List Int}, l ≠ [] → ∃ m, minL l = some m ∧ m ∈ l ∧ ∀ x ∈ l, m ≤ x
  | [], h => absurd rfl h
  | x :: l, _ => by
    refine ⟨_, rfl, ?_, fun y hy => ?_⟩
    · rcases (foldl_min l x).1 with h | h
      · rw [h]; exact List.mem_cons_self
      · exact List.mem_cons_of_mem _ h
    · obtain ⟨_, h2, h3⟩ := foldl_min l x
      rcases List.mem_cons.mp hy with rfl | hy
      · exact h2
      · exact h3 y hy
theorem intsD_map : ∀ l : List Int, intsD (l.map D.int) = some l
  | [] => rfl
  | x :: l => by rw [List.map_cons]; unfold intsD; rw [intsD_map l]; rfl
theorem fMin_i {l : List Int} {m : Int} (h : minL l = some m) : fMin [iD l] = some (.int m) := by
  unfold fMin lstInts iD
  simp only [intsD_map, Option.bind_some, h, Option.map_some]
theorem ixN_nat {n i : Nat} (h : i < n) : ixN n (i : Int) = some i := by
  unfold ixN
  rw [if_pos (Int.natCast_nonneg i), if_pos (by omega)]
  simp
theorem dSet_i {i : Nat} {x : Int} {fs : List Int} (h : i < fs.length) : dSet (.int (i : Int)) (.int x) (iD fs) = some (iD (fs.set i x)) := by
  show ((ixN (fs.map D.int).length (i : Int)).map fun j => D.lst ((fs.map D.int).set j (.int x))) = _
  rw [ixN_nat (by rw [List.length_map]; exact h)]
  unfold iD; rw [List.map_set]; rfl
def roomOf (es : List Ed) (fs : List Int) (p : Nat × Nat) : Int := match es[p.1]?, fs[p.1]? with
  | some e, some f => res e f p.2
  | _, _ => 0
def pairOf : D → Nat × Nat
  | .tup [.int i, .int u] => (i.toNat, u.toNat)
  | _ => (0, 0)
noncomputable def pFor : Mo Out := (sFor (iOf (eV 3)) (gT 2 (gCons (gN 5) (gCons (gN 7) gNil)))
 (sIf (eB (eBin dEq (eIx (eIxV 0 (eV 5)) (eC (.int 0))) (eV 7)))
 (sSet 1 (eV 5) (eBin dAdd (eIxV 1 (eV 5)) (eV 6)))
 (sSet 1 (eV 5) (eBin dSub (eIxV 1 (eV 5)) (eV 6)))))
theorem ev_pFor {es : List Ed} {fs : List Int} {F : Fd} {x4 x5 x7 : Sl} {ps : List (Nat × Nat)} {m : Int} (hl : fs.length = es.length) (hp : ∀ p ∈ ps, p.1 < es.length) :
    ∃ y5 y7, pFor (pE es fs F (.imm (.lst (pathD ps))) x4 x5 (.imm (.int m)) x7) = some (.ok .nx, pE es (pushes es m ps fs) F (.imm (.lst (pathD ps))) x4 y5 (.imm (.int m)) y7) := by
  have hi : iOf (eV 3) (pE es fs F (.imm (.lst (pathD ps))) x4 x5 (.imm (.int m)) x7) = some (.ok (pathD ps), pE es fs F (.imm (.lst (pathD ps))) x4 x5 (.imm (.int m)) x7) := by
    unfold pE
    simp only [x_bind, bk_ok, bk_ite, x_ret, x_lift, lk_some, lk_ite, app_ite, x_eC, x_eV, vk_imm, vk_own, vk_bor, x_give, gk_own, x_bin, x_un, x_ix, x_tru, x_eB, dBl_bl, dTru_bl, dTru_int, dTru_lst, x_and, x_or, x_not, x_eAnd, x_eOr, x_eNot, x_eIf, x_chain, x_aNil, x_aCons, x_aVr, rk_own, rk_io, x_aVb, tk_own, tk_io, tk_imm, tk_bor, x_eTup, x_eLst, imms_nil, imms_im, x_eF, x_call, ixV_C, jk_imm, jk_own, jk_io, jk_bor, flk_int, x_lenV, nk_imm, nk_own, nk_io, nk_bor, x_inV, hk_imm, hk_own, hk_io, hk_bor, x_sNx, x_pass, x_cont, x_brk, x_seq, sk_nx, sk_rt, sk_rtO, sk_ct, sk_bk, sk_ite, x_drop, x_sRet, x_sRetO, x_sIf, x_asg, x_asgO, x_gN, x_gO, x_gNil, x_gCons, x_gTt, x_gTl, x_sApp, x_sSet, x_chM, ck_own, ck_io, x_iOf, x_iRg, x_fn, fk_rt, fk_nx, fk_ite, ios_z, ios_s, keep_io, keep_imm, keep_own, keep_bor, keep_no, dSub_i, dAdd_i, dLt_i, dLe_i, dGt_i, dGe_i, dEq_int, dNe_int, ix_lst, ix_scr, ix_tup, atI_0, atI_1, atI_2, atI_3, List.getElem?_cons_zero, List.getElem?_cons_succ, List.set_cons_zero, List.set_cons_succ, List.length_cons, List.length_nil, List.cons_append, List.nil_append, List.replicate_succ, List.replicate_zero, Option.map_some, Option.bind_some, Nat.reduceAdd, Nat.reduceSub, Nat.reduceLT, Nat.reduceLeDiff, if_true, if_false, Bool.false_eq_true, decide_eq_true_eq, reduceIte, ne_eq, not_false_eq_true, Nat.lt_add_left_iff_pos, Nat.zero_lt_succ, x_call2, x_call3, dk2, dk3, ixV_V, Nat.reduceEqDiff, not_false_eq_true, x_isLst, x_isSet, List.map_cons, List.map_nil, Option.map_none, Option.bind_none, itD]
  obtain ⟨δ', h1, y5, y7, rfl⟩ := sFor_inv (T := gT 2 (gCons (gN 5) (gCons (gN 7) gNil))) (S := (sIf (eB (eBin dEq (eIx (eIxV 0 (eV 5)) (eC (.int 0))) (eV 7))) (sSet 1 (eV 5) (eBin dAdd (eIxV 1 (eV 5)) (eV 6))) (sSet 1 (eV 5) (eBin dSub (eIxV 1 (eV 5)) (eV 6)))))
    (fun k δ => ∃ y5 y7, δ = pE es (pushes es m (ps.take k) fs) F (.imm (.lst (pathD ps))) x4 y5 (.imm (.int m)) y7) hi ⟨x5, x7, rfl⟩ (fun k d δ hd hδ => by
      obtain ⟨y5, y7, rfl⟩ := hδ
      unfold pathD at hd
      rw [List.getElem?_map] at hd
      cases hx : ps[k]? with
      | none => rw [hx] at hd; cases hd
      | some p =>
        rw [hx] at hd; cases hd
        obtain ⟨i, u⟩ := p
        have hie : i < es.length := hp (i, u) (List.mem_of_getElem? hx)
        have he : es[i]? = some es[i] := List.getElem?_eq_getElem hie
        have hif : i < (pushes es m (ps.take k) fs).length := by rw [pushes_len, hl]; exact hie
        have hf : (pushes es m (ps.take k) fs)[i]? = some (pushes es m (ps.take k) fs)[i] := List.getElem?_eq_getElem hif
        have a1 : dIx (edsD es) (.int (i : Int)) = some es[i].d := at_map he
        have a2 : dIx (iD (pushes es m (ps.take k) fs)) (.int (i : Int)) = some (.int (pushes es m (ps.take k) fs)[i]) := at_map hf
        have a3 : dIx es[i].d (.int 0) = some (.int (es[i].a : Int)) := by unfold Ed.d; exact atI_0
        have e1 : pushes es m (ps.take (k + 1)) fs = addF es m (i, u) (pushes es m (ps.take k) fs) := by
          rw [List.take_add_one, hx, pushes_app]; rfl
        have e2 : addF es m (i, u) (pushes es m (ps.take k) fs) = _ := addF_eq (p := (i, u)) he hf
        refine ⟨pE es (pushes es m (ps.take k) fs) F (.imm (.lst (pathD ps))) x4 (.imm (.int (i : Int))) (.imm (.int m)) (.imm (.int (u : Int))), pE es (pushes es m (ps.take (k + 1)) fs) F (.imm (.lst (pathD ps))) x4 (.imm (.int (i : Int))) (.imm (.int m)) (.imm (.int (u : Int))), ?_, .inl ?_, ⟨_, _, rfl⟩⟩
        · unfold pE
          simp only [x_bind, bk_ok, bk_ite, x_ret, x_lift, lk_some, lk_ite, app_ite, x_eC, x_eV, vk_imm, vk_own, vk_bor, x_give, gk_own, x_bin, x_un, x_ix, x_tru, x_eB, dBl_bl, dTru_bl, dTru_int, dTru_lst, x_and, x_or, x_not, x_eAnd, x_eOr, x_eNot, x_eIf, x_chain, x_aNil, x_aCons, x_aVr, rk_own, rk_io, x_aVb, tk_own, tk_io, tk_imm, tk_bor, x_eTup, x_eLst, imms_nil, imms_im, x_eF, x_call, ixV_C, jk_imm, jk_own, jk_io, jk_bor, flk_int, x_lenV, nk_imm, nk_own, nk_io, nk_bor, x_inV, hk_imm, hk_own, hk_io, hk_bor, x_sNx, x_pass, x_cont, x_brk, x_seq, sk_nx, sk_rt, sk_rtO, sk_ct, sk_bk, sk_ite, x_drop, x_sRet, x_sRetO, x_sIf, x_asg, x_asgO, x_gN, x_gO, x_gNil, x_gCons, x_gTt, x_gTl, x_sApp, x_sSet, x_chM, ck_own, ck_io, x_iOf, x_iRg, x_fn, fk_rt, fk_nx, fk_ite, ios_z, ios_s, keep_io, keep_imm, keep_own, keep_bor, keep_no, dSub_i, dAdd_i, dLt_i, dLe_i, dGt_i, dGe_i, dEq_int, dNe_int, ix_lst, ix_scr, ix_tup, atI_0, atI_1, atI_2, atI_3, List.getElem?_cons_zero, List.getElem?_cons_succ, List.set_cons_zero, List.set_cons_succ, List.length_cons, List.length_nil, List.cons_append, List.nil_append, List.replicate_succ, List.replicate_zero, Option.map_some, Option.bind_some, Nat.reduceAdd, Nat.reduceSub, Nat.reduceLT, Nat.reduceLeDiff, if_true, if_false, Bool.false_eq_true, decide_eq_true_eq, reduceIte, ne_eq, not_false_eq_true, Nat.lt_add_left_iff_pos, Nat.zero_lt_succ, x_call2, x_call3, dk2, dk3, ixV_V, Nat.reduceEqDiff, not_false_eq_true, x_isLst, x_isSet, List.map_cons, List.map_nil, Option.map_none, Option.bind_none]
        · rw [e1, e2]
          unfold pE
          by_cases c : es[i].a = u
          · have c2 : (es[i].a : Int) = (u : Int) := by omega
            simp only [x_bind, bk_ok, bk_ite, x_ret, x_lift, lk_some, lk_ite, app_ite, x_eC, x_eV, vk_imm, vk_own, vk_bor, x_give, gk_own, x_bin, x_un, x_ix, x_tru, x_eB, dBl_bl, dTru_bl, dTru_int, dTru_lst, x_and, x_or, x_not, x_eAnd, x_eOr, x_eNot, x_eIf, x_chain, x_aNil, x_aCons, x_aVr, rk_own, rk_io, x_aVb, tk_own, tk_io, tk_imm, tk_bor, x_eTup, x_eLst, imms_nil, imms_im, x_eF, x_call, ixV_C, jk_imm, jk_own, jk_io, jk_bor, flk_int, x_lenV, nk_imm, nk_own, nk_io, nk_bor, x_inV, hk_imm, hk_own, hk_io, hk_bor, x_sNx, x_pass, x_cont, x_brk, x_seq, sk_nx, sk_rt, sk_rtO, sk_ct, sk_bk, sk_ite, x_drop, x_sRet, x_sRetO, x_sIf, x_asg, x_asgO, x_gN, x_gO, x_gNil, x_gCons, x_gTt, x_gTl, x_sApp, x_sSet, x_chM, ck_own, ck_io, x_iOf, x_iRg, x_fn, fk_rt, fk_nx, fk_ite, ios_z, ios_s, keep_io, keep_imm, keep_own, keep_bor, keep_no, dSub_i, dAdd_i, dLt_i, dLe_i, dGt_i, dGe_i, dEq_int, dNe_int, ix_lst, ix_scr, ix_tup, atI_0, atI_1, atI_2, atI_3, List.getElem?_cons_zero, List.getElem?_cons_succ, List.set_cons_zero, List.set_cons_succ, List.length_cons, List.length_nil, List.cons_append, List.nil_append, List.replicate_succ, List.replicate_zero, Option.map_some, Option.bind_some, Nat.reduceAdd, Nat.reduceSub, Nat.reduceLT, Nat.reduceLeDiff, if_true, if_false, Bool.false_eq_true, decide_eq_true_eq, reduceIte, ne_eq, not_false_eq_true, Nat.lt_add_left_iff_pos, Nat.zero_lt_succ, x_call2, x_call3, dk2, dk3, ixV_V, Nat.reduceEqDiff, not_false_eq_true, x_isLst, x_isSet, List.map_cons, List.map_nil, Option.map_none, Option.bind_none, a1, a2, a3, iSk_io, dSet_i hif, c, c2]
          · have c2 : ¬ (es[i].a : Int) = (u : Int) := by omega
            simp only [x_bind, bk_ok, bk_ite, x_ret, x_lift, lk_some, lk_ite, app_ite, x_eC, x_eV, vk_imm, vk_own, vk_bor, x_give, gk_own, x_bin, x_un, x_ix, x_tru, x_eB, dBl_bl, dTru_bl, dTru_int, dTru_lst, x_and, x_or, x_not, x_eAnd, x_eOr, x_eNot, x_eIf, x_chain, x_aNil, x_aCons, x_aVr, rk_own, rk_io, x_aVb, tk_own, tk_io, tk_imm, tk_bor, x_eTup, x_eLst, imms_nil, imms_im, x_eF, x_call, ixV_C, jk_imm, jk_own, jk_io, jk_bor, flk_int, x_lenV, nk_imm, nk_own, nk_io, nk_bor, x_inV, hk_imm, hk_own, hk_io, hk_bor, x_sNx, x_pass, x_cont, x_brk, x_seq, sk_nx, sk_rt, sk_rtO, sk_ct, sk_bk, sk_ite, x_drop, x_sRet, x_sRetO, x_sIf, x_asg, x_asgO, x_gN, x_gO, x_gNil, x_gCons, x_gTt, x_gTl, x_sApp, x_sSet, x_chM, ck_own, ck_io, x_iOf, x_iRg, x_fn, fk_rt, fk_nx, fk_ite, ios_z, ios_s, keep_io, keep_imm, keep_own, keep_bor, keep_no, dSub_i, dAdd_i, dLt_i, dLe_i, dGt_i, dGe_i, dEq_int, dNe_int, ix_lst, ix_scr, ix_tup, atI_0, atI_1, atI_2, atI_3, List.getElem?_cons_zero, List.getElem?_cons_succ, List.set_cons_zero, List.set_cons_succ, List.length_cons, List.length_nil, List.cons_append, List.nil_append, List.replicate_succ, List.replicate_zero, Option.map_some, Option.bind_some, Nat.reduceAdd, Nat.reduceSub, Nat.reduceLT, Nat.reduceLeDiff, if_true, if_false, Bool.false_eq_true, decide_eq_true_eq, reduceIte, ne_eq, not_false_eq_true, Nat.lt_add_left_iff_pos, Nat.zero_lt_succ, x_call2, x_call3, dk2, dk3, ixV_V, Nat.reduceEqDiff, not_false_eq_true, x_isLst, x_isSet, List.map_cons, List.map_nil, Option.map_none, Option.bind_none, a1, a2, a3, iSk_io, dSet_i hif, c, c2])
  refine ⟨y5, y7, ?_⟩
  have : (pathD ps).length = ps.length := by unfold pathD; rw [List.length_map]
  rw [this, List.take_length] at h1
  exact h1
theorem ev_room_im {es : List Ed} {fs : List Int} {p : Nat × Nat} {e : Ed} {f : Int} (he : es[p.1]? = some e) (hf : fs[p.1]? = some f) : roomOf es fs p = res e f p.2 := by unfold roomOf; rw [he, hf]
theorem ev_pMin {es : List Ed} {fs : List Int} {F : Fd} {x4 x5 x6 x7 : Sl} {ps : List (Nat × Nat)} (hl : fs.length = es.length) (hn : ps.length ≤ 1000) (hp : ∀ p ∈ ps, p.1 < es.length) :
    (eLc (iOf (eV 3)) (gT 2 (gCons (gN 5) (gCons (gN 7) gNil))) tYesM (eCall m_room_left (aCons (eIxV 0 (eV 5)) (aCons (eIxV 1 (eV 5)) (aCons (eV 7) aNil)))) [5, 7]) (pE es fs F (.own (.lst (pathD ps))) x4 x5 x6 x7)
      = some (.ok (iD (ps.map (roomOf es fs))), pE es fs F (.imm (.lst (pathD ps))) x4 .no x6 .no) := by
  have hi : iOf (eV 3) (pE es fs F (.own (.lst (pathD ps))) x4 x5 x6 x7) = some (.ok (pathD ps), pE es fs F (.imm (.lst (pathD ps))) x4 x5 x6 x7) := by
    unfold pE
    simp only [x_bind, bk_ok, bk_ite, x_ret, x_lift, lk_some, lk_ite, app_ite, x_eC, x_eV, vk_imm, vk_own, vk_bor, x_give, gk_own, x_bin, x_un, x_ix, x_tru, x_eB, dBl_bl, dTru_bl, dTru_int, dTru_lst, x_and, x_or, x_not, x_eAnd, x_eOr, x_eNot, x_eIf, x_chain, x_aNil, x_aCons, x_aVr, rk_own, rk_io, x_aVb, tk_own, tk_io, tk_imm, tk_bor, x_eTup, x_eLst, imms_nil, imms_im, x_eF, x_call, ixV_C, jk_imm, jk_own, jk_io, jk_bor, flk_int, x_lenV, nk_imm, nk_own, nk_io, nk_bor, x_inV, hk_imm, hk_own, hk_io, hk_bor, x_sNx, x_pass, x_cont, x_brk, x_seq, sk_nx, sk_rt, sk_rtO, sk_ct, sk_bk, sk_ite, x_drop, x_sRet, x_sRetO, x_sIf, x_asg, x_asgO, x_gN, x_gO, x_gNil, x_gCons, x_gTt, x_gTl, x_sApp, x_sSet, x_chM, ck_own, ck_io, x_iOf, x_iRg, x_fn, fk_rt, fk_nx, fk_ite, ios_z, ios_s, keep_io, keep_imm, keep_own, keep_bor, keep_no, dSub_i, dAdd_i, dLt_i, dLe_i, dGt_i, dGe_i, dEq_int, dNe_int, ix_lst, ix_scr, ix_tup, atI_0, atI_1, atI_2, atI_3, List.getElem?_cons_zero, List.getElem?_cons_succ, List.set_cons_zero, List.set_cons_succ, List.length_cons, List.length_nil, List.cons_append, List.nil_append, List.replicate_succ, List.replicate_zero, Option.map_some, Option.bind_some, Nat.reduceAdd, Nat.reduceSub, Nat.reduceLT, Nat.reduceLeDiff, if_true, if_false, Bool.false_eq_true, decide_eq_true_eq, reduceIte, ne_eq, not_false_eq_true, Nat.lt_add_left_iff_pos, Nat.zero_lt_succ, x_call2, x_call3, dk2, dk3, ixV_V, Nat.reduceEqDiff, not_false_eq_true, x_isLst, x_isSet, List.map_cons, List.map_nil, Option.map_none, Option.bind_none, itD]
  have h := eLc_pure (T := gT 2 (gCons (gN 5) (gCons (gN 7) gNil))) (C := tYesM) (E := eCall m_room_left (aCons (eIxV 0 (eV 5)) (aCons (eIxV 1 (eV 5)) (aCons (eV 7) aNil)))) (vs := [5, 7]) (p := fun _ => true) (f := fun d => D.int (roomOf es fs (pairOf d))) hi (by unfold pathD; rw [List.length_map]; exact hn) (fun d hd => by
    unfold pathD at hd
    obtain ⟨p, hpm, rfl⟩ := List.mem_map.mp hd
    obtain ⟨i, u⟩ := p
    have hie : i < es.length := hp (i, u) hpm
    have he : es[i]? = some es[i] := List.getElem?_eq_getElem hie
    have hif : i < fs.length := by rw [hl]; exact hie
    have hf : fs[i]? = some fs[i] := List.getElem?_eq_getElem hif
    have a1 : dIx (edsD es) (.int (i : Int)) = some es[i].d := at_map he
    have a2 : dIx (iD fs) (.int (i : Int)) = some (.int fs[i]) := at_map hf
    have er : roomOf es fs (pairOf (.tup [.int (i : Int), .int (u : Int)])) = res es[i] fs[i] u := by
      show roomOf es fs (((i : Int)).toNat, ((u : Int)).toNat) = _
      rw [Int.toNat_natCast, Int.toNat_natCast]; exact ev_room_im (p := (i, u)) he hf
    refine ⟨pE es fs F (.imm (.lst (pathD ps))) x4 (.imm (.int (i : Int))) x6 (.imm (.int (u : Int))), _, ?_, rfl, (fun c => by cases c), fun _ => ⟨pE es fs F (.imm (.lst (pathD ps))) x4 (.imm (.int (i : Int))) x6 (.imm (.int (u : Int))), ?_, ?_⟩⟩
    · unfold pE
      simp only [x_bind, bk_ok, bk_ite, x_ret, x_lift, lk_some, lk_ite, app_ite, x_eC, x_eV, vk_imm, vk_own, vk_bor, x_give, gk_own, x_bin, x_un, x_ix, x_tru, x_eB, dBl_bl, dTru_bl, dTru_int, dTru_lst, x_and, x_or, x_not, x_eAnd, x_eOr, x_eNot, x_eIf, x_chain, x_aNil, x_aCons, x_aVr, rk_own, rk_io, x_aVb, tk_own, tk_io, tk_imm, tk_bor, x_eTup, x_eLst, imms_nil, imms_im, x_eF, x_call, ixV_C, jk_imm, jk_own, jk_io, jk_bor, flk_int, x_lenV, nk_imm, nk_own, nk_io, nk_bor, x_inV, hk_imm, hk_own, hk_io, hk_bor, x_sNx, x_pass, x_cont, x_brk, x_seq, sk_nx, sk_rt, sk_rtO, sk_ct, sk_bk, sk_ite, x_drop, x_sRet, x_sRetO, x_sIf, x_asg, x_asgO, x_gN, x_gO, x_gNil, x_gCons, x_gTt, x_gTl, x_sApp, x_sSet, x_chM, ck_own, ck_io, x_iOf, x_iRg, x_fn, fk_rt, fk_nx, fk_ite, ios_z, ios_s, keep_io, keep_imm, keep_own, keep_bor, keep_no, dSub_i, dAdd_i, dLt_i, dLe_i, dGt_i, dGe_i, dEq_int, dNe_int, ix_lst, ix_scr, ix_tup, atI_0, atI_1, atI_2, atI_3, List.getElem?_cons_zero, List.getElem?_cons_succ, List.set_cons_zero, List.set_cons_succ, List.length_cons, List.length_nil, List.cons_append, List.nil_append, List.replicate_succ, List.replicate_zero, Option.map_some, Option.bind_some, Nat.reduceAdd, Nat.reduceSub, Nat.reduceLT, Nat.reduceLeDiff, if_true, if_false, Bool.false_eq_true, decide_eq_true_eq, reduceIte, ne_eq, not_false_eq_true, Nat.lt_add_left_iff_pos, Nat.zero_lt_succ, x_call2, x_call3, dk2, dk3, ixV_V, Nat.reduceEqDiff, not_false_eq_true, x_isLst, x_isSet, List.map_cons, List.map_nil, Option.map_none, Option.bind_none, wipeE]
    · unfold pE
      simp only [x_bind, bk_ok, bk_ite, x_ret, x_lift, lk_some, lk_ite, app_ite, x_eC, x_eV, vk_imm, vk_own, vk_bor, x_give, gk_own, x_bin, x_un, x_ix, x_tru, x_eB, dBl_bl, dTru_bl, dTru_int, dTru_lst, x_and, x_or, x_not, x_eAnd, x_eOr, x_eNot, x_eIf, x_chain, x_aNil, x_aCons, x_aVr, rk_own, rk_io, x_aVb, tk_own, tk_io, tk_imm, tk_bor, x_eTup, x_eLst, imms_nil, imms_im, x_eF, x_call, ixV_C, jk_imm, jk_own, jk_io, jk_bor, flk_int, x_lenV, nk_imm, nk_own, nk_io, nk_bor, x_inV, hk_imm, hk_own, hk_io, hk_bor, x_sNx, x_pass, x_cont, x_brk, x_seq, sk_nx, sk_rt, sk_rtO, sk_ct, sk_bk, sk_ite, x_drop, x_sRet, x_sRetO, x_sIf, x_asg, x_asgO, x_gN, x_gO, x_gNil, x_gCons, x_gTt, x_gTl, x_sApp, x_sSet, x_chM, ck_own, ck_io, x_iOf, x_iRg, x_fn, fk_rt, fk_nx, fk_ite, ios_z, ios_s, keep_io, keep_imm, keep_own, keep_bor, keep_no, dSub_i, dAdd_i, dLt_i, dLe_i, dGt_i, dGe_i, dEq_int, dNe_int, ix_lst, ix_scr, ix_tup, atI_0, atI_1, atI_2, atI_3, List.getElem?_cons_zero, List.getElem?_cons_succ, List.set_cons_zero, List.set_cons_succ, List.length_cons, List.length_nil, List.cons_append, List.nil_append, List.replicate_succ, List.replicate_zero, Option.map_some, Option.bind_some, Nat.reduceAdd, Nat.reduceSub, Nat.reduceLT, Nat.reduceLeDiff, if_true, if_false, Bool.false_eq_true, decide_eq_true_eq, reduceIte, ne_eq, not_false_eq_true, Nat.lt_add_left_iff_pos, Nat.zero_lt_succ, x_call2, x_call3, dk2, dk3, ixV_V, Nat.reduceEqDiff, not_false_eq_true, x_isLst, x_isSet, List.map_cons, List.map_nil, Option.map_none, Option.bind_none, a1, a2, ev_room, er]
    · unfold pE
      simp only [x_bind, bk_ok, bk_ite, x_ret, x_lift, lk_some, lk_ite, app_ite, x_eC, x_eV, vk_imm, vk_own, vk_bor, x_give, gk_own, x_bin, x_un, x_ix, x_tru, x_eB, dBl_bl, dTru_bl, dTru_int, dTru_lst, x_and, x_or, x_not, x_eAnd, x_eOr, x_eNot, x_eIf, x_chain, x_aNil, x_aCons, x_aVr, rk_own, rk_io, x_aVb, tk_own, tk_io, tk_imm, tk_bor, x_eTup, x_eLst, imms_nil, imms_im, x_eF, x_call, ixV_C, jk_imm, jk_own, jk_io, jk_bor, flk_int, x_lenV, nk_imm, nk_own, nk_io, nk_bor, x_inV, hk_imm, hk_own, hk_io, hk_bor, x_sNx, x_pass, x_cont, x_brk, x_seq, sk_nx, sk_rt, sk_rtO, sk_ct, sk_bk, sk_ite, x_drop, x_sRet, x_sRetO, x_sIf, x_asg, x_asgO, x_gN, x_gO, x_gNil, x_gCons, x_gTt, x_gTl, x_sApp, x_sSet, x_chM, ck_own, ck_io, x_iOf, x_iRg, x_fn, fk_rt, fk_nx, fk_ite, ios_z, ios_s, keep_io, keep_imm, keep_own, keep_bor, keep_no, dSub_i, dAdd_i, dLt_i, dLe_i, dGt_i, dGe_i, dEq_int, dNe_int, ix_lst, ix_scr, ix_tup, atI_0, atI_1, atI_2, atI_3, List.getElem?_cons_zero, List.getElem?_cons_succ, List.set_cons_zero, List.set_cons_succ, List.length_cons, List.length_nil, List.cons_append, List.nil_append, List.replicate_succ, List.replicate_zero, Option.map_some, Option.bind_some, Nat.reduceAdd, Nat.reduceSub, Nat.reduceLT, Nat.reduceLeDiff, if_true, if_false, Bool.false_eq_true, decide_eq_true_eq, reduceIte, ne_eq, not_false_eq_true, Nat.lt_add_left_iff_pos, Nat.zero_lt_succ, x_call2, x_call3, dk2, dk3, ixV_V, Nat.reduceEqDiff, not_false_eq_true, x_isLst, x_isSet, List.map_cons, List.map_nil, Option.map_none, Option.bind_none, wipeE])
  rw [h]
  have e1 : (List.filter (fun _ => true) (pathD ps)).map (fun d => D.int (roomOf es fs (pairOf d))) = (ps.map (roomOf es fs)).map D.int := by
    rw [List.filter_eq_self.mpr (fun _ _ => rfl)]
    unfold pathD
    rw [List.map_map, List.map_map]
    refine List.map_congr_left fun p _ => ?_
    show D.int (roomOf es fs ((p.1 : Int).toNat, (p.2 : Int).toNat)) = _
    rw [Int.toNat_natCast, Int.toNat_natCast]; rfl
  rw [e1]
  unfold pE
  simp only [x_bind, bk_ok, bk_ite, x_ret, x_lift, lk_some, lk_ite, app_ite, x_eC, x_eV, vk_imm, vk_own, vk_bor, x_give, gk_own, x_bin, x_un, x_ix, x_tru, x_eB, dBl_bl, dTru_bl, dTru_int, dTru_lst, x_and, x_or, x_not, x_eAnd, x_eOr, x_eNot, x_eIf, x_chain, x_aNil, x_aCons, x_aVr, rk_own, rk_io, x_aVb, tk_own, tk_io, tk_imm, tk_bor, x_eTup, x_eLst, imms_nil, imms_im, x_eF, x_call, ixV_C, jk_imm, jk_own, jk_io, jk_bor, flk_int, x_lenV, nk_imm, nk_own, nk_io, nk_bor, x_inV, hk_imm, hk_own, hk_io, hk_bor, x_sNx, x_pass, x_cont, x_brk, x_seq, sk_nx, sk_rt, sk_rtO, sk_ct, sk_bk, sk_ite, x_drop, x_sRet, x_sRetO, x_sIf, x_asg, x_asgO, x_gN, x_gO, x_gNil, x_gCons, x_gTt, x_gTl, x_sApp, x_sSet, x_chM, ck_own, ck_io, x_iOf, x_iRg, x_fn, fk_rt, fk_nx, fk_ite, ios_z, ios_s, keep_io, keep_imm, keep_own, keep_bor, keep_no, dSub_i, dAdd_i, dLt_i, dLe_i, dGt_i, dGe_i, dEq_int, dNe_int, ix_lst, ix_scr, ix_tup, atI_0, atI_1, atI_2, atI_3, List.getElem?_cons_zero, List.getElem?_cons_succ, List.set_cons_zero, List.set_cons_succ, List.length_cons, List.length_nil, List.cons_append, List.nil_append, List.replicate_succ, List.replicate_zero, Option.map_some, Option.bind_some, Nat.reduceAdd, Nat.reduceSub, Nat.reduceLT, Nat.reduceLeDiff, if_true, if_false, Bool.false_eq_true, decide_eq_true_eq, reduceIte, ne_eq, not_false_eq_true, Nat.lt_add_left_iff_pos, Nat.zero_lt_succ, x_call2, x_call3, dk2, dk3, ixV_V, Nat.reduceEqDiff, not_false_eq_true, x_isLst, x_isSet, List.map_cons, List.map_nil, Option.map_none, Option.bind_none, wipeE]
  rfl
theorem ev_push {n : Nat} {es : List Ed} {fs : List Int} {F : Fd} (hn : n ≤ 1000) (ok : ∀ e ∈ es, EdOk n e) (IF : IsFlow n es fs) (B : BInv n es fs true 0 F) (h1 : 1 ∈ F.map (·.1)) :
    ∃ fs', m_push [.imm (edsD es), .io (iD fs), .imm (fdD F)] = some (.ok .non, [.no, .io (iD fs'), .no]) ∧ IsFlow n es fs' ∧ gain es fs 0 < gain es fs' 0 := by
  obtain ⟨p, hp, hp1⟩ := List.mem_map.mp h1
  obtain ⟨j0, hj0, ej0⟩ := List.mem_iff_getElem.mp hp
  have hF0 : F[j0]? = some (1, p.2) := by rw [List.getElem?_eq_getElem hj0, ej0, ← hp1]
  have hjn : j0 ≤ n := by have := B.len; omega
  obtain ⟨w1, w2, w3⟩ := wayB_ok ok B j0 n 1 p.2 hjn hF0
  have hne : wayB es F n 1 ≠ [] := fun c => by rw [c] at w1; exact absurd w1 (by intro z; have z : (1 : Nat) = 0 := z; omega)
  have hlen : (wayB es F n 1).length ≤ 1000 := by
    have : ∀ k v, (wayB es F k v).length ≤ k := by
      intro k
      induction k with
      | zero => intro v; exact Nat.le_refl _
      | succ k ih =>
        intro v
        unfold wayB
        split
        · split
          · rw [List.length_cons]; have := ih (oth (by assumption) v); omega
          · simp
        · simp
    exact Nat.le_trans (this n 1) hn
  have hpi : ∀ q ∈ wayB es F n 1, q.1 < es.length := fun q hq => by
    obtain ⟨e, f, d1, _⟩ := w3 q hq
    exact (List.getElem?_eq_some_iff.mp d1).1
  obtain ⟨m, m1, m2, m3⟩ := minL_ex (l := (wayB es F n 1).map (roomOf es fs)) (by simpa using hne)
  have hm : 0 < m := by
    obtain ⟨q, hq, rfl⟩ := List.mem_map.mp m2
    obtain ⟨e, f, d1, d2, d3, _⟩ := w3 q hq
    rw [ev_room_im d1 d2]; exact d3
  obtain ⟨g1, g2⟩ := push_flow IF hm w1 w2 fun q hq e f d1 d2 => by
    have := m3 _ (List.mem_map.mpr ⟨q, hq, rfl⟩)
    rw [ev_room_im d1 d2] at this; exact this
  refine ⟨pushes es m (wayB es F n 1) fs, ?_, g1, by omega⟩
  obtain ⟨y4, y5, e1⟩ := ev_pLoop (fs := fs) (x5 := .no) (x6 := .no) (x7 := .no) hn ok B h1
  have e2 := ev_pMin (F := F) (x4 := y4) (x5 := y5) (x6 := .no) (x7 := .no) IF.len hlen hpi
  obtain ⟨z5, z7, e3⟩ := ev_pFor (F := F) (x4 := y4) (x5 := .no) (x7 := .no) (m := m) IF.len hpi
  have e4 := fMin_i m1
  unfold m_push b_push
  unfold pLoop at e1
  unfold pFor at e3
  unfold pE at e1 e2 e3
  simp only [x_bind, bk_ok, bk_ite, x_ret, x_lift, lk_some, lk_ite, app_ite, x_eC, x_eV, vk_imm, vk_own, vk_bor, x_give, gk_own, x_bin, x_un, x_ix, x_tru, x_eB, dBl_bl, dTru_bl, dTru_int, dTru_lst, x_and, x_or, x_not, x_eAnd, x_eOr, x_eNot, x_eIf, x_chain, x_aNil, x_aCons, x_aVr, rk_own, rk_io, x_aVb, tk_own, tk_io, tk_imm, tk_bor, x_eTup, x_eLst, imms_nil, imms_im, x_eF, x_call, ixV_C, jk_imm, jk_own, jk_io, jk_bor, flk_int, x_lenV, nk_imm, nk_own, nk_io, nk_bor, x_inV, hk_imm, hk_own, hk_io, hk_bor, x_sNx, x_pass, x_cont, x_brk, x_seq, sk_nx, sk_rt, sk_rtO, sk_ct, sk_bk, sk_ite, x_drop, x_sRet, x_sRetO, x_sIf, x_asg, x_asgO, x_gN, x_gO, x_gNil, x_gCons, x_gTt, x_gTl, x_sApp, x_sSet, x_chM, ck_own, ck_io, x_iOf, x_iRg, x_fn, fk_rt, fk_nx, fk_ite, ios_z, ios_s, keep_io, keep_imm, keep_own, keep_bor, keep_no, dSub_i, dAdd_i, dLt_i, dLe_i, dGt_i, dGe_i, dEq_int, dNe_int, ix_lst, ix_scr, ix_tup, atI_0, atI_1, atI_2, atI_3, List.getElem?_cons_zero, List.getElem?_cons_succ, List.set_cons_zero, List.set_cons_succ, List.length_cons, List.length_nil, List.cons_append, List.nil_append, List.replicate_succ, List.replicate_zero, Option.map_some, Option.bind_some, Nat.reduceAdd, Nat.reduceSub, Nat.reduceLT, Nat.reduceLeDiff, if_true, if_false, Bool.false_eq_true, decide_eq_true_eq, reduceIte, ne_eq, not_false_eq_true, Nat.lt_add_left_iff_pos, Nat.zero_lt_succ, x_call2, x_call3, dk2, dk3, ixV_V, Nat.reduceEqDiff, not_false_eq_true, x_isLst, x_isSet, List.map_cons, List.map_nil, Option.map_none, Option.bind_none, e1, e2, e3, e4]
end M

set_option Elab.async false
set_option linter.all false
set_option maxRecDepth 100000
set_option maxHeartbeats 1000000
namespace M
open PySem L2
theorem call_of {m : Mo D} {as : List Ag} {δ δc δc' δ' : Env} {r : D} (h1 : argSls δ as = some δc) (h2 : (vrs as).Nodup ∧ ∀ i ∈ vbs as, i ∉ vrs as) (h3 : m δc = some (.ok r, δc')) (h4 : backs as δc' δ = some δ') : callM m as δ = some (.ok r, δ') := by
  unfold callM
  rw [h1]
  simp only []
  rw [if_pos h2, h3]
  simp only [h4]
theorem call_vr {m : Mo D} {a c d d' r : D} {s t : Sl} {δ : Env} {i : Nat} (hi : δ[i]? = some (.own d)) (hm : m [.imm a, .io d, .imm c] = some (.ok r, [s, .io d', t])) : callM m [.im a, .vr i, .im c] δ = some (.ok r, δ.set i (.own d')) :=
  call_of (by simp only [argSls, argSl, hi]) ⟨by simp [vrs], by simp [vbs]⟩ hm (by simp only [backs, hi])
theorem call_vb {m : Mo D} {a b c d f r : D} {s1 s2 s3 s4 s5 : Sl} {δ : Env} {i : Nat} (hi : δ[i]? = some (.own f)) (hm : m [.imm a, .imm b, .bor f, .imm c, .imm d] = some (.ok r, [s1, s2, s3, s4, s5])) : callM m [.im a, .im b, .vb i, .im c, .im d] δ = some (.ok r, δ) :=
  call_of (by simp only [argSls, argSl, hi]) ⟨by simp [vrs], by simp [vrs]⟩ hm (by simp only [backs])
theorem call_5 {m : Mo D} {a b c d f r : D} {s1 s2 s3 s4 s5 : Sl} {δ : Env} (hm : m [.imm a, .imm b, .imm f, .imm c, .imm d] = some (.ok r, [s1, s2, s3, s4, s5])) : callM m [.im a, .im b, .im f, .im c, .im d] δ = some (.ok r, δ) :=
  call_of (by simp only [argSls, argSl]) ⟨by simp [vrs], by simp [vbs]⟩ hm (by simp only [backs])
/-! ### check_net -/
theorem ev_check {n : Nat} {es : List Ed} (h2 : 2 ≤ n) (ok : ∀ e ∈ es, EdOk n e) : m_check_net [.imm (.int (n : Int)), .imm (edsD es)] = some (.ok .non, [.no, .no]) := by
  obtain ⟨δ', h1, y2, y3, y4, rfl⟩ := sFor_inv (I := iOf (eV 1)) (T := gT 3 (gCons (gN 2) (gCons (gN 3) (gCons (gN 4) gNil)))) (S := (sIf (tOrM (eB (eBin dEq (eV 2) (eV 3))) (tOrM (tNotM (eB (eChain dLe dLt (eC (.int 0)) (eV 2) (eV 0)))) (tOrM (tNotM (eB (eChain dLe dLt (eC (.int 0)) (eV 3) (eV 0)))) (eB (eBin dLt (eV 4) (eC (.int 0))))))) sNever sNx)) (ds := es.map Ed.d)
    (δ := [.imm (.int (n : Int)), .imm (edsD es), .no, .no, .no]) (δ0 := [.imm (.int (n : Int)), .imm (edsD es), .no, .no, .no])
    (fun _ δ => ∃ y2 y3 y4, δ = [.imm (.int (n : Int)), .imm (edsD es), y2, y3, y4]) (by unfold edsD; simp only [x_bind, bk_ok, bk_ite, x_ret, x_lift, lk_some, lk_ite, app_ite, x_eC, x_eV, vk_imm, vk_own, vk_bor, x_give, gk_own, x_bin, x_un, x_ix, x_tru, x_eB, dBl_bl, dTru_bl, dTru_int, dTru_lst, x_and, x_or, x_not, x_eAnd, x_eOr, x_eNot, x_eIf, x_chain, x_aNil, x_aCons, x_aVr, rk_own, rk_io, x_aVb, tk_own, tk_io, tk_imm, tk_bor, x_eTup, x_eLst, imms_nil, imms_im, x_eF, x_call, ixV_C, jk_imm, jk_own, jk_io, jk_bor, flk_int, x_lenV, nk_imm, nk_own, nk_io, nk_bor, x_inV, hk_imm, hk_own, hk_io, hk_bor, x_sNx, x_pass, x_cont, x_brk, x_seq, sk_nx, sk_rt, sk_rtO, sk_ct, sk_bk, sk_ite, x_drop, x_sRet, x_sRetO, x_sIf, x_asg, x_asgO, x_gN, x_gO, x_gNil, x_gCons, x_gTt, x_gTl, x_sApp, x_sSet, x_chM, ck_own, ck_io, x_iOf, x_iRg, x_fn, fk_rt, fk_nx, fk_ite, ios_z, ios_s, keep_io, keep_imm, keep_own, keep_bor, keep_no, dSub_i, dAdd_i, dLt_i, dLe_i, dGt_i, dGe_i, dEq_int, dNe_int, ix_lst, ix_scr, ix_tup, atI_0, atI_1, atI_2, atI_3, List.getElem?_cons_zero, List.getElem?_cons_succ, List.set_cons_zero, List.set_cons_succ, List.length_cons, List.length_nil, List.cons_append, List.nil_append, List.replicate_succ, List.replicate_zero, Option.map_some, Option.bind_some, Nat.reduceAdd, Nat.reduceSub, Nat.reduceLT, Nat.reduceLeDiff, if_true, if_false, Bool.false_eq_true, decide_eq_true_eq, reduceIte, ne_eq, not_false_eq_true, Nat.lt_add_left_iff_pos, Nat.zero_lt_succ, x_call2, x_call3, dk2, dk3, ixV_V, Nat.reduceEqDiff, not_false_eq_true, x_isLst, x_isSet, List.map_cons, List.map_nil, Option.map_none, Option.bind_none, itD]) ⟨_, _, _, rfl⟩ (fun k d δ hd hδ => by
      obtain ⟨y2, y3, y4, rfl⟩ := hδ
      rw [List.getElem?_map] at hd
      cases hx : es[k]? with
      | none => rw [hx] at hd; cases hd
      | some e =>
        rw [hx] at hd; cases hd
        obtain ⟨g1, g2, g3, g4⟩ := ok e (List.mem_of_getElem? hx)
        have c1 : ¬ ((e.a : Int) = (e.b : Int)) := by omega
        have c2 : (0 : Int) ≤ (e.a : Int) := by omega
        have c3 : (e.a : Int) < (n : Int) := by omega
        have c4 : (0 : Int) ≤ (e.b : Int) := by omega
        have c5 : (e.b : Int) < (n : Int) := by omega
        have c6 : ¬ (e.r < 0) := by omega
        refine ⟨[.imm (.int (n : Int)), .imm (edsD es), .imm (.int e.a), .imm (.int e.b), .imm (.int e.r)], [.imm (.int (n : Int)), .imm (edsD es), .imm (.int e.a), .imm (.int e.b), .imm (.int e.r)], ?_, .inl ?_, ⟨_, _, _, rfl⟩⟩
        · unfold Ed.d; simp only [x_bind, bk_ok, bk_ite, x_ret, x_lift, lk_some, lk_ite, app_ite, x_eC, x_eV, vk_imm, vk_own, vk_bor, x_give, gk_own, x_bin, x_un, x_ix, x_tru, x_eB, dBl_bl, dTru_bl, dTru_int, dTru_lst, x_and, x_or, x_not, x_eAnd, x_eOr, x_eNot, x_eIf, x_chain, x_aNil, x_aCons, x_aVr, rk_own, rk_io, x_aVb, tk_own, tk_io, tk_imm, tk_bor, x_eTup, x_eLst, imms_nil, imms_im, x_eF, x_call, ixV_C, jk_imm, jk_own, jk_io, jk_bor, flk_int, x_lenV, nk_imm, nk_own, nk_io, nk_bor, x_inV, hk_imm, hk_own, hk_io, hk_bor, x_sNx, x_pass, x_cont, x_brk, x_seq, sk_nx, sk_rt, sk_rtO, sk_ct, sk_bk, sk_ite, x_drop, x_sRet, x_sRetO, x_sIf, x_asg, x_asgO, x_gN, x_gO, x_gNil, x_gCons, x_gTt, x_gTl, x_sApp, x_sSet, x_chM, ck_own, ck_io, x_iOf, x_iRg, x_fn, fk_rt, fk_nx, fk_ite, ios_z, ios_s, keep_io, keep_imm, keep_own, keep_bor, keep_no, dSub_i, dAdd_i, dLt_i, dLe_i, dGt_i, dGe_i, dEq_int, dNe_int, ix_lst, ix_scr, ix_tup, atI_0, atI_1, atI_2, atI_3, List.getElem?_cons_zero, List.getElem?_cons_succ, List.set_cons_zero, List.set_cons_succ, List.length_cons, List.length_nil, List.cons_append, List.nil_append, List.replicate_succ, List.replicate_zero, Option.map_some, Option.bind_some, Nat.reduceAdd, Nat.reduceSub, Nat.reduceLT, Nat.reduceLeDiff, if_true, if_false, Bool.false_eq_true, decide_eq_true_eq, reduceIte, ne_eq, not_false_eq_true, Nat.lt_add_left_iff_pos, Nat.zero_lt_succ, x_call2, x_call3, dk2, dk3, ixV_V, Nat.reduceEqDiff, not_false_eq_true, x_isLst, x_isSet, List.map_cons, List.map_nil, Option.map_none, Option.bind_none]
        · simp only [x_bind, bk_ok, bk_ite, x_ret, x_lift, lk_some, lk_ite, app_ite, x_eC, x_eV, vk_imm, vk_own, vk_bor, x_give, gk_own, x_bin, x_un, x_ix, x_tru, x_eB, dBl_bl, dTru_bl, dTru_int, dTru_lst, x_and, x_or, x_not, x_eAnd, x_eOr, x_eNot, x_eIf, x_chain, x_aNil, x_aCons, x_aVr, rk_own, rk_io, x_aVb, tk_own, tk_io, tk_imm, tk_bor, x_eTup, x_eLst, imms_nil, imms_im, x_eF, x_call, ixV_C, jk_imm, jk_own, jk_io, jk_bor, flk_int, x_lenV, nk_imm, nk_own, nk_io, nk_bor, x_inV, hk_imm, hk_own, hk_io, hk_bor, x_sNx, x_pass, x_cont, x_brk, x_seq, sk_nx, sk_rt, sk_rtO, sk_ct, sk_bk, sk_ite, x_drop, x_sRet, x_sRetO, x_sIf, x_asg, x_asgO, x_gN, x_gO, x_gNil, x_gCons, x_gTt, x_gTl, x_sApp, x_sSet, x_chM, ck_own, ck_io, x_iOf, x_iRg, x_fn, fk_rt, fk_nx, fk_ite, ios_z, ios_s, keep_io, keep_imm, keep_own, keep_bor, keep_no, dSub_i, dAdd_i, dLt_i, dLe_i, dGt_i, dGe_i, dEq_int, dNe_int, ix_lst, ix_scr, ix_tup, atI_0, atI_1, atI_2, atI_3, List.getElem?_cons_zero, List.getElem?_cons_succ, List.set_cons_zero, List.set_cons_succ, List.length_cons, List.length_nil, List.cons_append, List.nil_append, List.replicate_succ, List.replicate_zero, Option.map_some, Option.bind_some, Nat.reduceAdd, Nat.reduceSub, Nat.reduceLT, Nat.reduceLeDiff, if_true, if_false, Bool.false_eq_true, decide_eq_true_eq, reduceIte, ne_eq, not_false_eq_true, Nat.lt_add_left_iff_pos, Nat.zero_lt_succ, x_call2, x_call3, dk2, dk3, ixV_V, Nat.reduceEqDiff, not_false_eq_true, x_isLst, x_isSet, List.map_cons, List.map_nil, Option.map_none, Option.bind_none, c1, c2, c3, c4, c5, c6, decide_true, decide_false, Bool.not_true, Bool.not_false])
  unfold m_check_net b_check_net
  have c0 : ¬ ((n : Int) < 2) := by omega
  simp only [x_bind, bk_ok, bk_ite, x_ret, x_lift, lk_some, lk_ite, app_ite, x_eC, x_eV, vk_imm, vk_own, vk_bor, x_give, gk_own, x_bin, x_un, x_ix, x_tru, x_eB, dBl_bl, dTru_bl, dTru_int, dTru_lst, x_and, x_or, x_not, x_eAnd, x_eOr, x_eNot, x_eIf, x_chain, x_aNil, x_aCons, x_aVr, rk_own, rk_io, x_aVb, tk_own, tk_io, tk_imm, tk_bor, x_eTup, x_eLst, imms_nil, imms_im, x_eF, x_call, ixV_C, jk_imm, jk_own, jk_io, jk_bor, flk_int, x_lenV, nk_imm, nk_own, nk_io, nk_bor, x_inV, hk_imm, hk_own, hk_io, hk_bor, x_sNx, x_pass, x_cont, x_brk, x_seq, sk_nx, sk_rt, sk_rtO, sk_ct, sk_bk, sk_ite, x_drop, x_sRet, x_sRetO, x_sIf, x_asg, x_asgO, x_gN, x_gO, x_gNil, x_gCons, x_gTt, x_gTl, x_sApp, x_sSet, x_chM, ck_own, ck_io, x_iOf, x_iRg, x_fn, fk_rt, fk_nx, fk_ite, ios_z, ios_s, keep_io, keep_imm, keep_own, keep_bor, keep_no, dSub_i, dAdd_i, dLt_i, dLe_i, dGt_i, dGe_i, dEq_int, dNe_int, ix_lst, ix_scr, ix_tup, atI_0, atI_1, atI_2, atI_3, List.getElem?_cons_zero, List.getElem?_cons_succ, List.set_cons_zero, List.set_cons_succ, List.length_cons, List.length_nil, List.cons_append, List.nil_append, List.replicate_succ, List.replicate_zero, Option.map_some, Option.bind_some, Nat.reduceAdd, Nat.reduceSub, Nat.reduceLT, Nat.reduceLeDiff, if_true, if_false, Bool.false_eq_true, decide_eq_true_eq, reduceIte, ne_eq, not_false_eq_true, Nat.lt_add_left_iff_pos, Nat.zero_lt_succ, x_call2, x_call3, dk2, dk3, ixV_V, Nat.reduceEqDiff, not_false_eq_true, x_isLst, x_isSet, List.map_cons, List.map_nil, Option.map_none, Option.bind_none, c0, decide_false, h1]
/-! ### touching -/
theorem edsAB_of : ∀ {n : Nat} {es : List Ed}, edsAB (es.map Ed.d) = some (es.map fun e => (e.a, e.b))
  | n, [] => rfl
  | n, e :: es => by
    rw [List.map_cons]
    unfold edsAB
    have : edAB e.d = some (e.a, e.b) := by
      show (if 0 ≤ (e.a : Int) ∧ 0 ≤ (e.b : Int) then some ((e.a : Int).toNat, (e.b : Int).toNat) else none) = _
      rw [if_pos ⟨by omega, by omega⟩]; simp
    rw [this, edsAB_of (n := n) (es := es)]; rfl
theorem addAt_mem {ls : List (List Int)} {i u : Nat} {x y : Int} (hi : i < ls.length) : y ∈ (addAt ls i x).getD u [] ↔ y ∈ ls.getD u [] ∨ (i = u ∧ y = x) := by
  unfold addAt
  by_cases c : i = u
  · subst c
    rw [List.getD_eq_getElem?_getD, List.getElem?_set_self hi]
    simp
  · rw [List.getD_eq_getElem?_getD, List.getElem?_set_ne c, ← List.getD_eq_getElem?_getD]
    simp [c]
theorem touchL_ok : ∀ (ps : List (Nat × Nat)) (k : Nat) (ls : List (List Int)), (∀ p ∈ ps, p.1 < ls.length ∧ p.2 < ls.length) → (touchL k ps ls).length = ls.length ∧
    ∀ (u : Nat) (y : Int), y ∈ (touchL k ps ls).getD u [] ↔ y ∈ ls.getD u [] ∨ ∃ (j : Nat) (p : Nat × Nat), ps[j]? = some p ∧ y = ((k + j : Nat) : Int) ∧ (p.1 = u ∨ p.2 = u)
  | [], k, ls, _ => ⟨rfl, fun u y => by unfold touchL; simp⟩
  | (a, b) :: r, k, ls, h => by
    obtain ⟨h1, h2⟩ := h (a, b) List.mem_cons_self
    obtain ⟨i1, i2⟩ := touchL_ok r (k + 1) (addAt (addAt ls a k) b k) fun p hp => by
      rw [addAt_len, addAt_len]; exact h p (List.mem_cons_of_mem _ hp)
    unfold touchL
    refine ⟨by rw [i1, addAt_len, addAt_len], fun u y => ?_⟩
    rw [i2, addAt_mem (by rw [addAt_len]; exact h2), addAt_mem h1]
    constructor
    · rintro (((h | ⟨h, rfl⟩) | ⟨h, rfl⟩) | ⟨j, p, g1, g2, g3⟩)
      · exact .inl h
      · exact .inr ⟨0, (a, b), rfl, rfl, .inl h⟩
      · exact .inr ⟨0, (a, b), rfl, rfl, .inr h⟩
      · exact .inr ⟨j + 1, p, by simpa using g1, by rw [g2]; congr 1; omega, g3⟩
    · rintro (h | ⟨j, p, g1, g2, g3⟩)
      · exact .inl (.inl (.inl h))
      · cases j with
        | zero =>
          simp at g1; subst g1
          rcases g3 with g3 | g3
          · exact .inl (.inl (.inr ⟨g3, g2⟩))
          · exact .inl (.inr ⟨g3, g2⟩)
        | succ j => exact .inr ⟨j, p, by simpa using g1, by rw [g2]; congr 1; omega, g3⟩
theorem ev_touch {n : Nat} {es : List Ed} (hn : n ≤ 1000) (he : es.length ≤ 1000) (ok : ∀ e ∈ es, EdOk n e) : ∃ near, m_touching [.imm (.int (n : Int)), .imm (edsD es)] = some (.ok (llD near), [.no, .no]) ∧ NearOk n es near := by
  have hb : ∀ p ∈ es.map (fun e => (e.a, e.b)), p.1 < n ∧ p.2 < n := fun p hp => by
    obtain ⟨e, hm, rfl⟩ := List.mem_map.mp hp
    exact ⟨(ok e hm).1, (ok e hm).2.1⟩
  obtain ⟨t1, t2⟩ := touchL_ok (es.map fun e => (e.a, e.b)) 0 (List.replicate n []) fun p hp => by rw [List.length_replicate]; exact hb p hp
  refine ⟨touchL 0 (es.map fun e => (e.a, e.b)) (List.replicate n []), ?_, ⟨by rw [t1, List.length_replicate], fun u ls hu x => ?_⟩⟩
  · show (match edsAB (es.map Ed.d) with
      | some ps => if (0 ≤ (n : Int) ∧ (n : Int) ≤ 1000) ∧ (es.map Ed.d).length ≤ 1000 ∧ (∀ p ∈ ps, (p.1 : Int) < n ∧ (p.2 : Int) < n) then some ((.ok (llD (touchL 0 ps (List.replicate ((n : Int)).toNat []))) : Except Exn D), ([.no, .no] : Env)) else none
      | none => none) = _
    rw [edsAB_of (n := n)]
    simp only []
    rw [if_pos ⟨⟨by omega, by omega⟩, by rw [List.length_map]; exact he, fun p hp => by have := hb p hp; omega⟩, Int.toNat_natCast]
  · have h := t2 u x
    rw [List.getD_eq_getElem?_getD, hu] at h
    have hr : (List.replicate n ([] : List Int)).getD u [] = [] := by
      rw [List.getD_eq_getElem?_getD]
      cases q : (List.replicate n ([] : List Int))[u]? with
      | none => rfl
      | some l => rw [List.eq_of_mem_replicate (List.mem_of_getElem? q)]; rfl
    rw [hr] at h
    have h : x ∈ ls ↔ _ := h
    rw [h]
    constructor
    · rintro (h | ⟨j, p, g1, g2, g3⟩)
      · simp at h
      · rw [List.getElem?_map] at g1
        cases q : es[j]? with
        | none => rw [q] at g1; cases g1
        | some e => rw [q] at g1; cases g1; exact ⟨j, e, by rw [g2]; congr 1; omega, q, g3⟩
    · rintro ⟨i, e, g1, g2, g3⟩
      exact .inr ⟨i, (e.a, e.b), by rw [List.getElem?_map, g2]; rfl, by rw [g1]; congr 1; omega, g3⟩
/-! ### greatest_flow -/
def unI : D → List Int
  | .lst l => l.map fun d => match d with
    | .int i => i
    | _ => 0
  | _ => []
theorem unI_iD (fs : List Int) : unI (iD fs) = fs := by
  unfold unI iD
  simp only [List.map_map]
  conv => rhs; rw [← List.map_id fs]
  rfl
theorem rep_zero (k : Nat) : (List.replicate k [D.int 0]).flatten = (List.replicate k (0 : Int)).map D.int := by
  induction k with
  | zero => rfl
  | succ k ih => rw [List.replicate_succ, List.flatten_cons, ih, List.replicate_succ]; rfl
theorem mulL_zero {k : Nat} (h : k ≤ 1000) : dMulL (.lst [.int 0]) (.int (k : Int)) = some (iD (List.replicate k 0)) := by
  show (if 0 ≤ (k : Int) ∧ (k : Int) ≤ 16777216 ∧ [D.int 0].length * ((k : Int)).toNat ≤ sizeLine then some (D.lst (List.replicate ((k : Int)).toNat [D.int 0]).flatten) else none) = _
  rw [if_pos ⟨by omega, by omega, by rw [sizeLine_eq, Int.toNat_natCast]; simp; omega⟩, Int.toNat_natCast, rep_zero]; rfl
theorem dIn1_fd {F : Fd} : dIn false (.int 1) (fdD F) = some (.bl (decide (1 ∈ F.map (·.1)))) := dIn_fd (neg := false) (v := 1)
structure GF (n : Nat) (es : List Ed) (fs : List Int) : Prop where
  flow : IsFlow n es fs
  cut : ¬ Rch es fs true 0 1
theorem ev_greatest {n : Nat} {es : List Ed} (h2 : 2 ≤ n) (hn : n ≤ 1000) (he : es.length ≤ 1000) (ok : ∀ e ∈ es, EdOk n e) : ∃ fs, m_greatest_flow [.imm (.int (n : Int)), .imm (edsD es)] = some (.ok (iD fs), [.no, .no]) ∧ GF n es fs := by
  obtain ⟨near, t1, nok⟩ := ev_touch hn he ok
  have chk := ev_check h2 ok
  obtain ⟨F0, w1, B0, d0⟩ := ev_ways (out := true) (s := 0) hn ok (fs := List.replicate es.length 0) List.length_replicate nok (.inr rfl) (by omega)
  have S0 : Side n (fun v => v == 0) := ⟨h2, rfl, rfl⟩
  obtain ⟨δ', h1, fs, F, rfl, IF, B, hd, hno⟩ := sWhile_inv (c := (eB (eBin (dIn false) (eC (.int 1)) (eV 4)))) (S := (sSeq (sDrop (eCall m_push (aCons (eV 1) (aVr 3 (aCons (eV 4) aNil))))) (sAsg (gN 4) (eCall m_ways_from (aCons (eV 2) (aCons (eV 1) (aVb 3 (aCons (eC (.int 0)) (aCons (eC (.bl true)) aNil)))))))))
    (fun δ => ∃ fs F, δ = [.imm (.int (n : Int)), .imm (edsD es), .imm (llD near), .own (iD fs), .imm (fdD F)] ∧ IsFlow n es fs ∧ BInv n es fs true 0 F ∧ ∀ u ∈ F.map (·.1), ∀ v, Step es fs true u v → v ∈ F.map (·.1))
    (fun δ => ∃ fs F, δ = [.imm (.int (n : Int)), .imm (edsD es), .imm (llD near), .own (iD fs), .imm (fdD F)] ∧ IsFlow n es fs ∧ BInv n es fs true 0 F ∧ (∀ u ∈ F.map (·.1), ∀ v, Step es fs true u v → v ∈ F.map (·.1)) ∧ 1 ∉ F.map (·.1))
    (fun δ : Env => match δ[3]? with | some (Sl.own d) => (cost es (fun v => v == 0) - gain es (unI d) 0).toNat | _ => 0) (fun δ hδ => by
      obtain ⟨fs, F, rfl, IF, B, hd⟩ := hδ
      refine ⟨decide (1 ∈ F.map (·.1)), [.imm (.int (n : Int)), .imm (edsD es), .imm (llD near), .own (iD fs), .imm (fdD F)], ?_, fun hb => ⟨fs, F, rfl, IF, B, hd, of_decide_eq_false hb⟩, fun hb => ?_⟩
      · simp only [x_bind, bk_ok, bk_ite, x_ret, x_lift, lk_some, lk_ite, app_ite, x_eC, x_eV, vk_imm, vk_own, vk_bor, x_give, gk_own, x_bin, x_un, x_ix, x_tru, x_eB, dBl_bl, dTru_bl, dTru_int, dTru_lst, x_and, x_or, x_not, x_eAnd, x_eOr, x_eNot, x_eIf, x_chain, x_aNil, x_aCons, x_aVr, rk_own, rk_io, x_aVb, tk_own, tk_io, tk_imm, tk_bor, x_eTup, x_eLst, imms_nil, imms_im, x_eF, x_call, ixV_C, jk_imm, jk_own, jk_io, jk_bor, flk_int, x_lenV, nk_imm, nk_own, nk_io, nk_bor, x_inV, hk_imm, hk_own, hk_io, hk_bor, x_sNx, x_pass, x_cont, x_brk, x_seq, sk_nx, sk_rt, sk_rtO, sk_ct, sk_bk, sk_ite, x_drop, x_sRet, x_sRetO, x_sIf, x_asg, x_asgO, x_gN, x_gO, x_gNil, x_gCons, x_gTt, x_gTl, x_sApp, x_sSet, x_chM, ck_own, ck_io, x_iOf, x_iRg, x_fn, fk_rt, fk_nx, fk_ite, ios_z, ios_s, keep_io, keep_imm, keep_own, keep_bor, keep_no, dSub_i, dAdd_i, dLt_i, dLe_i, dGt_i, dGe_i, dEq_int, dNe_int, ix_lst, ix_scr, ix_tup, atI_0, atI_1, atI_2, atI_3, List.getElem?_cons_zero, List.getElem?_cons_succ, List.set_cons_zero, List.set_cons_succ, List.length_cons, List.length_nil, List.cons_append, List.nil_append, List.replicate_succ, List.replicate_zero, Option.map_some, Option.bind_some, Nat.reduceAdd, Nat.reduceSub, Nat.reduceLT, Nat.reduceLeDiff, if_true, if_false, Bool.false_eq_true, decide_eq_true_eq, reduceIte, ne_eq, not_false_eq_true, Nat.lt_add_left_iff_pos, Nat.zero_lt_succ, x_call2, x_call3, dk2, dk3, ixV_V, Nat.reduceEqDiff, not_false_eq_true, x_isLst, x_isSet, List.map_cons, List.map_nil, Option.map_none, Option.bind_none, dIn1_fd]
      · obtain ⟨fs', p1, IF', hg⟩ := ev_push hn ok IF B (of_decide_eq_true hb)
        obtain ⟨F', w1, B', d'⟩ := ev_ways (out := true) (s := 0) hn ok IF'.len nok (.inr rfl) (by omega)
        refine ⟨[.imm (.int (n : Int)), .imm (edsD es), .imm (llD near), .own (iD fs'), .imm (fdD F')], ?_, ⟨fs', F', rfl, IF', B', d'⟩, ?_⟩
        · have c1 := call_vr (δ := [.imm (.int (n : Int)), .imm (edsD es), .imm (llD near), .own (iD fs), .imm (fdD F)]) (i := 3) rfl p1
          have c2 := call_vb (δ := [.imm (.int (n : Int)), .imm (edsD es), .imm (llD near), .own (iD fs'), .imm (fdD F)]) (i := 3) rfl w1
          simp only [x_bind, bk_ok, bk_ite, x_ret, x_lift, lk_some, lk_ite, app_ite, x_eC, x_eV, vk_imm, vk_own, vk_bor, x_give, gk_own, x_bin, x_un, x_ix, x_tru, x_eB, dBl_bl, dTru_bl, dTru_int, dTru_lst, x_and, x_or, x_not, x_eAnd, x_eOr, x_eNot, x_eIf, x_chain, x_aNil, x_aCons, x_aVr, rk_own, rk_io, x_aVb, tk_own, tk_io, tk_imm, tk_bor, x_eTup, x_eLst, imms_nil, imms_im, x_eF, x_call, ixV_C, jk_imm, jk_own, jk_io, jk_bor, flk_int, x_lenV, nk_imm, nk_own, nk_io, nk_bor, x_inV, hk_imm, hk_own, hk_io, hk_bor, x_sNx, x_pass, x_cont, x_brk, x_seq, sk_nx, sk_rt, sk_rtO, sk_ct, sk_bk, sk_ite, x_drop, x_sRet, x_sRetO, x_sIf, x_asg, x_asgO, x_gN, x_gO, x_gNil, x_gCons, x_gTt, x_gTl, x_sApp, x_sSet, x_chM, ck_own, ck_io, x_iOf, x_iRg, x_fn, fk_rt, fk_nx, fk_ite, ios_z, ios_s, keep_io, keep_imm, keep_own, keep_bor, keep_no, dSub_i, dAdd_i, dLt_i, dLe_i, dGt_i, dGe_i, dEq_int, dNe_int, ix_lst, ix_scr, ix_tup, atI_0, atI_1, atI_2, atI_3, List.getElem?_cons_zero, List.getElem?_cons_succ, List.set_cons_zero, List.set_cons_succ, List.length_cons, List.length_nil, List.cons_append, List.nil_append, List.replicate_succ, List.replicate_zero, Option.map_some, Option.bind_some, Nat.reduceAdd, Nat.reduceSub, Nat.reduceLT, Nat.reduceLeDiff, if_true, if_false, Bool.false_eq_true, decide_eq_true_eq, reduceIte, ne_eq, not_false_eq_true, Nat.lt_add_left_iff_pos, Nat.zero_lt_succ, x_call2, x_call3, dk2, dk3, ixV_V, Nat.reduceEqDiff, not_false_eq_true, x_isLst, x_isSet, List.map_cons, List.map_nil, Option.map_none, Option.bind_none] at c1
          simp only [x_bind, bk_ok, bk_ite, x_ret, x_lift, lk_some, lk_ite, app_ite, x_eC, x_eV, vk_imm, vk_own, vk_bor, x_give, gk_own, x_bin, x_un, x_ix, x_tru, x_eB, dBl_bl, dTru_bl, dTru_int, dTru_lst, x_and, x_or, x_not, x_eAnd, x_eOr, x_eNot, x_eIf, x_chain, x_aNil, x_aCons, x_aVr, rk_own, rk_io, x_aVb, tk_own, tk_io, tk_imm, tk_bor, x_eTup, x_eLst, imms_nil, imms_im, x_eF, x_call, ixV_C, jk_imm, jk_own, jk_io, jk_bor, flk_int, x_lenV, nk_imm, nk_own, nk_io, nk_bor, x_inV, hk_imm, hk_own, hk_io, hk_bor, x_sNx, x_pass, x_cont, x_brk, x_seq, sk_nx, sk_rt, sk_rtO, sk_ct, sk_bk, sk_ite, x_drop, x_sRet, x_sRetO, x_sIf, x_asg, x_asgO, x_gN, x_gO, x_gNil, x_gCons, x_gTt, x_gTl, x_sApp, x_sSet, x_chM, ck_own, ck_io, x_iOf, x_iRg, x_fn, fk_rt, fk_nx, fk_ite, ios_z, ios_s, keep_io, keep_imm, keep_own, keep_bor, keep_no, dSub_i, dAdd_i, dLt_i, dLe_i, dGt_i, dGe_i, dEq_int, dNe_int, ix_lst, ix_scr, ix_tup, atI_0, atI_1, atI_2, atI_3, List.getElem?_cons_zero, List.getElem?_cons_succ, List.set_cons_zero, List.set_cons_succ, List.length_cons, List.length_nil, List.cons_append, List.nil_append, List.replicate_succ, List.replicate_zero, Option.map_some, Option.bind_some, Nat.reduceAdd, Nat.reduceSub, Nat.reduceLT, Nat.reduceLeDiff, if_true, if_false, Bool.false_eq_true, decide_eq_true_eq, reduceIte, ne_eq, not_false_eq_true, Nat.lt_add_left_iff_pos, Nat.zero_lt_succ, x_call2, x_call3, dk2, dk3, ixV_V, Nat.reduceEqDiff, not_false_eq_true, x_isLst, x_isSet, List.map_cons, List.map_nil, Option.map_none, Option.bind_none, c1]
          have c2 : callM m_ways_from [.im (llD near), .im (edsD es), .vb 3, .im (.int 0), .im (.bl true)] [.imm (.int (n : Int)), .imm (edsD es), .imm (llD near), .own (iD fs'), .imm (fdD F)] = _ := c2
          simp only [x_bind, bk_ok, bk_ite, x_ret, x_lift, lk_some, lk_ite, app_ite, x_eC, x_eV, vk_imm, vk_own, vk_bor, x_give, gk_own, x_bin, x_un, x_ix, x_tru, x_eB, dBl_bl, dTru_bl, dTru_int, dTru_lst, x_and, x_or, x_not, x_eAnd, x_eOr, x_eNot, x_eIf, x_chain, x_aNil, x_aCons, x_aVr, rk_own, rk_io, x_aVb, tk_own, tk_io, tk_imm, tk_bor, x_eTup, x_eLst, imms_nil, imms_im, x_eF, x_call, ixV_C, jk_imm, jk_own, jk_io, jk_bor, flk_int, x_lenV, nk_imm, nk_own, nk_io, nk_bor, x_inV, hk_imm, hk_own, hk_io, hk_bor, x_sNx, x_pass, x_cont, x_brk, x_seq, sk_nx, sk_rt, sk_rtO, sk_ct, sk_bk, sk_ite, x_drop, x_sRet, x_sRetO, x_sIf, x_asg, x_asgO, x_gN, x_gO, x_gNil, x_gCons, x_gTt, x_gTl, x_sApp, x_sSet, x_chM, ck_own, ck_io, x_iOf, x_iRg, x_fn, fk_rt, fk_nx, fk_ite, ios_z, ios_s, keep_io, keep_imm, keep_own, keep_bor, keep_no, dSub_i, dAdd_i, dLt_i, dLe_i, dGt_i, dGe_i, dEq_int, dNe_int, ix_lst, ix_scr, ix_tup, atI_0, atI_1, atI_2, atI_3, List.getElem?_cons_zero, List.getElem?_cons_succ, List.set_cons_zero, List.set_cons_succ, List.length_cons, List.length_nil, List.cons_append, List.nil_append, List.replicate_succ, List.replicate_zero, Option.map_some, Option.bind_some, Nat.reduceAdd, Nat.reduceSub, Nat.reduceLT, Nat.reduceLeDiff, if_true, if_false, Bool.false_eq_true, decide_eq_true_eq, reduceIte, ne_eq, not_false_eq_true, Nat.lt_add_left_iff_pos, Nat.zero_lt_succ, x_call2, x_call3, dk2, dk3, ixV_V, Nat.reduceEqDiff, not_false_eq_true, x_isLst, x_isSet, List.map_cons, List.map_nil, Option.map_none, Option.bind_none, c2]
        · show (cost es (fun v => v == 0) - gain es (unI (iD fs')) 0).toNat < (cost es (fun v => v == 0) - gain es (unI (iD fs)) 0).toNat
          rw [unI_iD, unI_iD]
          have := value_le IF' S0
          omega)
    (δ := [.imm (.int (n : Int)), .imm (edsD es), .imm (llD near), .own (iD (List.replicate es.length 0)), .imm (fdD F0)]) ⟨_, F0, rfl, (zero_flow ok).1, B0, d0⟩
  refine ⟨fs, ?_, IF, fun c => hno ((B.all hd).mpr c)⟩
  unfold m_greatest_flow b_greatest_flow
  have c2 := call_vb (δ := [.imm (.int (n : Int)), .imm (edsD es), .imm (llD near), .own (iD (List.replicate es.length 0)), .no]) (i := 3) rfl w1
  have c2 : callM m_ways_from [.im (llD near), .im (edsD es), .vb 3, .im (.int 0), .im (.bl true)] [.imm (.int (n : Int)), .imm (edsD es), .imm (llD near), .own (iD (List.replicate es.length 0)), .no] = _ := c2
  have em : dMulL (.lst [.int 0]) (.int ((es.length : Nat) : Int)) = some (iD (List.replicate es.length 0)) := mulL_zero he
  have el : fLen [edsD es] = some (.int ((es.length : Nat) : Int)) := by
    show some (D.int (((es.map Ed.d).length : Nat) : Int)) = _
    rw [List.length_map]
  simp only [x_bind, bk_ok, bk_ite, x_ret, x_lift, lk_some, lk_ite, app_ite, x_eC, x_eV, vk_imm, vk_own, vk_bor, x_give, gk_own, x_bin, x_un, x_ix, x_tru, x_eB, dBl_bl, dTru_bl, dTru_int, dTru_lst, x_and, x_or, x_not, x_eAnd, x_eOr, x_eNot, x_eIf, x_chain, x_aNil, x_aCons, x_aVr, rk_own, rk_io, x_aVb, tk_own, tk_io, tk_imm, tk_bor, x_eTup, x_eLst, imms_nil, imms_im, x_eF, x_call, ixV_C, jk_imm, jk_own, jk_io, jk_bor, flk_int, x_lenV, nk_imm, nk_own, nk_io, nk_bor, x_inV, hk_imm, hk_own, hk_io, hk_bor, x_sNx, x_pass, x_cont, x_brk, x_seq, sk_nx, sk_rt, sk_rtO, sk_ct, sk_bk, sk_ite, x_drop, x_sRet, x_sRetO, x_sIf, x_asg, x_asgO, x_gN, x_gO, x_gNil, x_gCons, x_gTt, x_gTl, x_sApp, x_sSet, x_chM, ck_own, ck_io, x_iOf, x_iRg, x_fn, fk_rt, fk_nx, fk_ite, ios_z, ios_s, keep_io, keep_imm, keep_own, keep_bor, keep_no, dSub_i, dAdd_i, dLt_i, dLe_i, dGt_i, dGe_i, dEq_int, dNe_int, ix_lst, ix_scr, ix_tup, atI_0, atI_1, atI_2, atI_3, List.getElem?_cons_zero, List.getElem?_cons_succ, List.set_cons_zero, List.set_cons_succ, List.length_cons, List.length_nil, List.cons_append, List.nil_append, List.replicate_succ, List.replicate_zero, Option.map_some, Option.bind_some, Nat.reduceAdd, Nat.reduceSub, Nat.reduceLT, Nat.reduceLeDiff, if_true, if_false, Bool.false_eq_true, decide_eq_true_eq, reduceIte, ne_eq, not_false_eq_true, Nat.lt_add_left_iff_pos, Nat.zero_lt_succ, x_call2, x_call3, dk2, dk3, ixV_V, Nat.reduceEqDiff, not_false_eq_true, x_isLst, x_isSet, List.map_cons, List.map_nil, Option.map_none, Option.bind_none, chk, t1, el, em, c2, h1]
end M

set_option Elab.async false
set_option linter.all false
set_option maxRecDepth 100000
set_option maxHeartbeats 1000000
namespace M
open PySem L2
def drD (ns : List Int) (p : Nat) (x y : Int) : D := .lst [.scr (ns.map D.int), .int p, .int x, .int y]
theorem dSet4_1 {a b c d v : D} : dSet (.int 1) v (.lst [a, b, c, d]) = some (.lst [a, v, c, d]) := rfl
theorem dSet4_2 {a b c d v : D} : dSet (.int 2) v (.lst [a, b, c, d]) = some (.lst [a, b, v, d]) := rfl
theorem dSet4_3 {a b c d v : D} : dSet (.int 3) v (.lst [a, b, c, d]) = some (.lst [a, b, c, v]) := rfl
theorem fInt_i {x : Int} : fInt [.int x] = some (.int x) := rfl
theorem fAbs_i {x : Int} : fAbs [.int x] = some (.int (if x < 0 then -x else x)) := rfl
theorem fLen_scr {l : List D} : fLen [.scr l] = some (.int (l.length : Nat)) := rfl
theorem fLen_lst {l : List D} : fLen [.lst l] = some (.int (l.length : Nat)) := rfl
theorem draw_tail {ns : List Int} {p : Nat} {x y m : Int} {y2 y3 y4 y5 y6 : Sl} (h : 0 < m) (h2 : m ≤ 1000) :
    fk 2 ((sSeq (sAsg (gN 6) (eBin dMod (eF fInt (aCons (eIxV 0 (eC (.int 2))) aNil)) (eV 1))) (sSeq (sSet 0 (eC (.int 2)) (eBin dDiv (eF fInt (aCons (eIxV 0 (eC (.int 2))) aNil)) (eV 1))) (sRet (eV 6)))) [.io (drD ns p x y), .imm (.int m), y2, y3, y4, y5, y6])
      = some (.ok (.int (x % m)), [.io (drD ns p (x / m) y), .no]) := by
  unfold drD
  simp only [x_bind, bk_ok, bk_ite, x_ret, x_lift, lk_some, lk_ite, app_ite, x_eC, x_eV, vk_imm, vk_own, vk_bor, x_give, gk_own, x_bin, x_un, x_ix, x_tru, x_eB, dBl_bl, dTru_bl, dTru_int, dTru_lst, x_and, x_or, x_not, x_eAnd, x_eOr, x_eNot, x_eIf, x_chain, x_aNil, x_aCons, x_aVr, rk_own, rk_io, x_aVb, tk_own, tk_io, tk_imm, tk_bor, x_eTup, x_eLst, imms_nil, imms_im, x_eF, x_call, ixV_C, jk_imm, jk_own, jk_io, jk_bor, flk_int, x_lenV, nk_imm, nk_own, nk_io, nk_bor, x_inV, hk_imm, hk_own, hk_io, hk_bor, x_sNx, x_pass, x_cont, x_brk, x_seq, sk_nx, sk_rt, sk_rtO, sk_ct, sk_bk, sk_ite, x_drop, x_sRet, x_sRetO, x_sIf, x_asg, x_asgO, x_gN, x_gO, x_gNil, x_gCons, x_gTt, x_gTl, x_sApp, x_sSet, x_chM, ck_own, ck_io, x_iOf, x_iRg, x_fn, fk_rt, fk_nx, fk_ite, ios_z, ios_s, keep_io, keep_imm, keep_own, keep_bor, keep_no, dSub_i, dAdd_i, dLt_i, dLe_i, dGt_i, dGe_i, dEq_int, dNe_int, ix_lst, ix_scr, ix_tup, atI_0, atI_1, atI_2, atI_3, List.getElem?_cons_zero, List.getElem?_cons_succ, List.set_cons_zero, List.set_cons_succ, List.length_cons, List.length_nil, List.cons_append, List.nil_append, List.replicate_succ, List.replicate_zero, Option.map_some, Option.bind_some, Nat.reduceAdd, Nat.reduceSub, Nat.reduceLT, Nat.reduceLeDiff, if_true, if_false, Bool.false_eq_true, decide_eq_true_eq, reduceIte, ne_eq, not_false_eq_true, Nat.lt_add_left_iff_pos, Nat.zero_lt_succ, x_call2, x_call3, dk2, dk3, ixV_V, Nat.reduceEqDiff, not_false_eq_true, x_isLst, x_isSet, List.map_cons, List.map_nil, Option.map_none, Option.bind_none, fInt_i, dMod_i h, dDiv_i h (show m < 1073741824 by omega), dSet4_2, iSk_io]
theorem ssq {a b : Mo Out} {δ δ1 : Env} {r : Re Out} (h : a δ = some (.ok .nx, δ1)) (h2 : b δ1 = r) : sSeq a b δ = r := by rw [sSeq_ok h]; exact h2
theorem sIf_t {T : Mo Bool} {a b : Mo Out} {δ δ1 : Env} (h : T δ = some (.ok true, δ1)) : sIf T a b δ = a δ1 := by rw [x_sIf, h]; rfl
theorem sIf_f {T : Mo Bool} {a b : Mo Out} {δ δ1 : Env} (h : T δ = some (.ok false, δ1)) : sIf T a b δ = b δ1 := by rw [x_sIf, h]; rfl
def DrOk (ns : List Int) (m : Int) (δ : Env) : Prop := ∃ (p' : Nat) (x' y' : Int) (z2 z3 z4 z5 : Sl), δ = [.io (.lst [.scr (ns.map D.int), .int p', .int x', .int y']), .imm (.int m), z2, z3, z4, z5, .no]
theorem dr4 {ns : List Int} {p : Nat} {x y m c0 : Int} : ∃ c, (sIf (eB (eBin dLt (eV 2) (eF fLen (aCons (eIxV 0 (eC (.int 0))) aNil))))
 (sAsg (gN 3) (eIx (eIxV 0 (eC (.int 0))) (eV 2)))
 sNx) [.io (drD ns (p + 1) x y), .imm (.int m), .imm (.int (p : Int)), .imm (.int c0), .no, .no, .no] = some (.ok .nx, [.io (drD ns (p + 1) x y), .imm (.int m), .imm (.int (p : Int)), .imm (.int c), .no, .no, .no]) := by
  by_cases c1 : (p : Int) < ((ns.map D.int).length : Nat)
  · have hp : p < ns.length := by rw [List.length_map] at c1; omega
    have a1 : atI (ns.map D.int) (p : Int) = some (.int ns[p]) := at_map (List.getElem?_eq_getElem hp)
    refine ⟨ns[p], ?_⟩
    rw [sIf_t (δ1 := [.io (drD ns (p + 1) x y), .imm (.int m), .imm (.int (p : Int)), .imm (.int c0), .no, .no, .no])]
    · unfold drD
      simp only [x_bind, bk_ok, bk_ite, x_ret, x_lift, lk_some, lk_ite, app_ite, x_eC, x_eV, vk_imm, vk_own, vk_bor, x_give, gk_own, x_bin, x_un, x_ix, x_tru, x_eB, dBl_bl, dTru_bl, dTru_int, dTru_lst, x_and, x_or, x_not, x_eAnd, x_eOr, x_eNot, x_eIf, x_chain, x_aNil, x_aCons, x_aVr, rk_own, rk_io, x_aVb, tk_own, tk_io, tk_imm, tk_bor, x_eTup, x_eLst, imms_nil, imms_im, x_eF, x_call, ixV_C, jk_imm, jk_own, jk_io, jk_bor, flk_int, x_lenV, nk_imm, nk_own, nk_io, nk_bor, x_inV, hk_imm, hk_own, hk_io, hk_bor, x_sNx, x_pass, x_cont, x_brk, x_seq, sk_nx, sk_rt, sk_rtO, sk_ct, sk_bk, sk_ite, x_drop, x_sRet, x_sRetO, x_sIf, x_asg, x_asgO, x_gN, x_gO, x_gNil, x_gCons, x_gTt, x_gTl, x_sApp, x_sSet, x_chM, ck_own, ck_io, x_iOf, x_iRg, x_fn, fk_rt, fk_nx, fk_ite, ios_z, ios_s, keep_io, keep_imm, keep_own, keep_bor, keep_no, dSub_i, dAdd_i, dLt_i, dLe_i, dGt_i, dGe_i, dEq_int, dNe_int, ix_lst, ix_scr, ix_tup, atI_0, atI_1, atI_2, atI_3, List.getElem?_cons_zero, List.getElem?_cons_succ, List.set_cons_zero, List.set_cons_succ, List.length_cons, List.length_nil, List.cons_append, List.nil_append, List.replicate_succ, List.replicate_zero, Option.map_some, Option.bind_some, Nat.reduceAdd, Nat.reduceSub, Nat.reduceLT, Nat.reduceLeDiff, if_true, if_false, Bool.false_eq_true, decide_eq_true_eq, reduceIte, ne_eq, not_false_eq_true, Nat.lt_add_left_iff_pos, Nat.zero_lt_succ, x_call2, x_call3, dk2, dk3, ixV_V, Nat.reduceEqDiff, not_false_eq_true, x_isLst, x_isSet, List.map_cons, List.map_nil, Option.map_none, Option.bind_none, a1]
    · unfold drD
      simp only [x_bind, bk_ok, bk_ite, x_ret, x_lift, lk_some, lk_ite, app_ite, x_eC, x_eV, vk_imm, vk_own, vk_bor, x_give, gk_own, x_bin, x_un, x_ix, x_tru, x_eB, dBl_bl, dTru_bl, dTru_int, dTru_lst, x_and, x_or, x_not, x_eAnd, x_eOr, x_eNot, x_eIf, x_chain, x_aNil, x_aCons, x_aVr, rk_own, rk_io, x_aVb, tk_own, tk_io, tk_imm, tk_bor, x_eTup, x_eLst, imms_nil, imms_im, x_eF, x_call, ixV_C, jk_imm, jk_own, jk_io, jk_bor, flk_int, x_lenV, nk_imm, nk_own, nk_io, nk_bor, x_inV, hk_imm, hk_own, hk_io, hk_bor, x_sNx, x_pass, x_cont, x_brk, x_seq, sk_nx, sk_rt, sk_rtO, sk_ct, sk_bk, sk_ite, x_drop, x_sRet, x_sRetO, x_sIf, x_asg, x_asgO, x_gN, x_gO, x_gNil, x_gCons, x_gTt, x_gTl, x_sApp, x_sSet, x_chM, ck_own, ck_io, x_iOf, x_iRg, x_fn, fk_rt, fk_nx, fk_ite, ios_z, ios_s, keep_io, keep_imm, keep_own, keep_bor, keep_no, dSub_i, dAdd_i, dLt_i, dLe_i, dGt_i, dGe_i, dEq_int, dNe_int, ix_lst, ix_scr, ix_tup, atI_0, atI_1, atI_2, atI_3, List.getElem?_cons_zero, List.getElem?_cons_succ, List.set_cons_zero, List.set_cons_succ, List.length_cons, List.length_nil, List.cons_append, List.nil_append, List.replicate_succ, List.replicate_zero, Option.map_some, Option.bind_some, Nat.reduceAdd, Nat.reduceSub, Nat.reduceLT, Nat.reduceLeDiff, if_true, if_false, Bool.false_eq_true, decide_eq_true_eq, reduceIte, ne_eq, not_false_eq_true, Nat.lt_add_left_iff_pos, Nat.zero_lt_succ, x_call2, x_call3, dk2, dk3, ixV_V, Nat.reduceEqDiff, not_false_eq_true, x_isLst, x_isSet, List.map_cons, List.map_nil, Option.map_none, Option.bind_none, fLen_scr, c1, decide_true]
  · refine ⟨c0, ?_⟩
    rw [sIf_f (δ1 := [.io (drD ns (p + 1) x y), .imm (.int m), .imm (.int (p : Int)), .imm (.int c0), .no, .no, .no])]
    · rfl
    · unfold drD
      simp only [x_bind, bk_ok, bk_ite, x_ret, x_lift, lk_some, lk_ite, app_ite, x_eC, x_eV, vk_imm, vk_own, vk_bor, x_give, gk_own, x_bin, x_un, x_ix, x_tru, x_eB, dBl_bl, dTru_bl, dTru_int, dTru_lst, x_and, x_or, x_not, x_eAnd, x_eOr, x_eNot, x_eIf, x_chain, x_aNil, x_aCons, x_aVr, rk_own, rk_io, x_aVb, tk_own, tk_io, tk_imm, tk_bor, x_eTup, x_eLst, imms_nil, imms_im, x_eF, x_call, ixV_C, jk_imm, jk_own, jk_io, jk_bor, flk_int, x_lenV, nk_imm, nk_own, nk_io, nk_bor, x_inV, hk_imm, hk_own, hk_io, hk_bor, x_sNx, x_pass, x_cont, x_brk, x_seq, sk_nx, sk_rt, sk_rtO, sk_ct, sk_bk, sk_ite, x_drop, x_sRet, x_sRetO, x_sIf, x_asg, x_asgO, x_gN, x_gO, x_gNil, x_gCons, x_gTt, x_gTl, x_sApp, x_sSet, x_chM, ck_own, ck_io, x_iOf, x_iRg, x_fn, fk_rt, fk_nx, fk_ite, ios_z, ios_s, keep_io, keep_imm, keep_own, keep_bor, keep_no, dSub_i, dAdd_i, dLt_i, dLe_i, dGt_i, dGe_i, dEq_int, dNe_int, ix_lst, ix_scr, ix_tup, atI_0, atI_1, atI_2, atI_3, List.getElem?_cons_zero, List.getElem?_cons_succ, List.set_cons_zero, List.set_cons_succ, List.length_cons, List.length_nil, List.cons_append, List.nil_append, List.replicate_succ, List.replicate_zero, Option.map_some, Option.bind_some, Nat.reduceAdd, Nat.reduceSub, Nat.reduceLT, Nat.reduceLeDiff, if_true, if_false, Bool.false_eq_true, decide_eq_true_eq, reduceIte, ne_eq, not_false_eq_true, Nat.lt_add_left_iff_pos, Nat.zero_lt_succ, x_call2, x_call3, dk2, dk3, ixV_V, Nat.reduceEqDiff, not_false_eq_true, x_isLst, x_isSet, List.map_cons, List.map_nil, Option.map_none, Option.bind_none, fLen_scr, c1, decide_false]
def drI (ns : List Int) (p x y : Int) : D := .lst [.scr (ns.map D.int), .int p, .int x, .int y]
theorem dr5 {KL KA KB KM KC KD : Int} (k2 : ∀ x : Int, dMul (.int x) (.int KA) = some (.int (x * KA))) (k3 : ∀ x : Int, dMul (.int x) (.int KB) = some (.int (x * KB))) (k4 : ∀ x : Int, dMul (.int x) (.int KC) = some (.int (x * KC))) (k5 : ∀ x : Int, dMul (.int x) (.int KD) = some (.int (x * KD))) (m1 : ∀ x : Int, dMod (.int x) (.int KM) = some (.int (x % KM))) (m2 : ∀ x : Int, dMod (.int x) (.int KD) = some (.int (x % KD))) {ns : List Int} {p q x y m c : Int} : ∃ (x' : Int) (z4 z5 : Sl), (sIf (eB (eChain dLe dLt (eC (.int 0)) (eV 3) (eC (.int KL))))
 (sSeq (sAsg (gN 4) (eBin dMod (eF fInt (aCons (eBin dAdd (eBin dAdd (eBin dMul (eV 3) (eC (.int KA))) (eBin dMul (eV 2) (eC (.int KB)))) (eIxV 0 (eC (.int 3)))) aNil)) (eC (.int KM))))
 (sSeq (sAsg (gN 5) (eBin dMod (eF fInt (aCons (eBin dAdd (eBin dAdd (eBin dMul (eV 4) (eC (.int KC))) (eV 3)) (eC (.int 11))) aNil)) (eC (.int KD))))
 (sSet 0 (eC (.int 2)) (eBin dAdd (eBin dMul (eV 4) (eC (.int KD))) (eV 5)))))
 (sSet 0 (eC (.int 2)) (eF fAbs (aCons (eV 3) aNil)))) [.io (drI ns q x y), .imm (.int m), .imm (.int p), .imm (.int c), .no, .no, .no] = some (.ok .nx, [.io (drI ns q x' y), .imm (.int m), .imm (.int p), .imm (.int c), z4, z5, .no]) := by
  have neg : ∀ b, (eB (eChain dLe dLt (eC (.int 0)) (eV 3) (eC (.int KL)))) [.io (drI ns q x y), .imm (.int m), .imm (.int p), .imm (.int c), .no, .no, .no] = some (.ok b, [.io (drI ns q x y), .imm (.int m), .imm (.int p), .imm (.int c), .no, .no, .no]) → b = false → ∃ (x' : Int) (z4 z5 : Sl), (sSet 0 (eC (.int 2)) (eF fAbs (aCons (eV 3) aNil))) [.io (drI ns q x y), .imm (.int m), .imm (.int p), .imm (.int c), .no, .no, .no] = some (.ok .nx, [.io (drI ns q x' y), .imm (.int m), .imm (.int p), .imm (.int c), z4, z5, .no]) := fun b _ _ => by
    refine ⟨if c < 0 then -c else c, .no, .no, ?_⟩
    unfold drI
    simp only [x_bind, bk_ok, bk_ite, x_ret, x_lift, lk_some, lk_ite, app_ite, x_eC, x_eV, vk_imm, vk_own, vk_bor, x_give, gk_own, x_bin, x_un, x_ix, x_tru, x_eB, dBl_bl, dTru_bl, dTru_int, dTru_lst, x_and, x_or, x_not, x_eAnd, x_eOr, x_eNot, x_eIf, x_chain, x_aNil, x_aCons, x_aVr, rk_own, rk_io, x_aVb, tk_own, tk_io, tk_imm, tk_bor, x_eTup, x_eLst, imms_nil, imms_im, x_eF, x_call, ixV_C, jk_imm, jk_own, jk_io, jk_bor, flk_int, x_lenV, nk_imm, nk_own, nk_io, nk_bor, x_inV, hk_imm, hk_own, hk_io, hk_bor, x_sNx, x_pass, x_cont, x_brk, x_seq, sk_nx, sk_rt, sk_rtO, sk_ct, sk_bk, sk_ite, x_drop, x_sRet, x_sRetO, x_sIf, x_asg, x_asgO, x_gN, x_gO, x_gNil, x_gCons, x_gTt, x_gTl, x_sApp, x_sSet, x_chM, ck_own, ck_io, x_iOf, x_iRg, x_fn, fk_rt, fk_nx, fk_ite, ios_z, ios_s, keep_io, keep_imm, keep_own, keep_bor, keep_no, dSub_i, dAdd_i, dLt_i, dLe_i, dGt_i, dGe_i, dEq_int, dNe_int, ix_lst, ix_scr, ix_tup, atI_0, atI_1, atI_2, atI_3, List.getElem?_cons_zero, List.getElem?_cons_succ, List.set_cons_zero, List.set_cons_succ, List.length_cons, List.length_nil, List.cons_append, List.nil_append, List.replicate_succ, List.replicate_zero, Option.map_some, Option.bind_some, Nat.reduceAdd, Nat.reduceSub, Nat.reduceLT, Nat.reduceLeDiff, if_true, if_false, Bool.false_eq_true, decide_eq_true_eq, reduceIte, ne_eq, not_false_eq_true, Nat.lt_add_left_iff_pos, Nat.zero_lt_succ, x_call2, x_call3, dk2, dk3, ixV_V, Nat.reduceEqDiff, not_false_eq_true, x_isLst, x_isSet, List.map_cons, List.map_nil, Option.map_none, Option.bind_none, fAbs_i, dSet4_2, iSk_io]
  have ev : (eB (eChain dLe dLt (eC (.int 0)) (eV 3) (eC (.int KL)))) [.io (drI ns q x y), .imm (.int m), .imm (.int p), .imm (.int c), .no, .no, .no] = some (.ok (decide (0 ≤ c) && decide (c < KL)), [.io (drI ns q x y), .imm (.int m), .imm (.int p), .imm (.int c), .no, .no, .no]) := by
    by_cases c2 : (0 : Int) ≤ c
    · simp only [x_bind, bk_ok, bk_ite, x_ret, x_lift, lk_some, lk_ite, app_ite, x_eC, x_eV, vk_imm, vk_own, vk_bor, x_give, gk_own, x_bin, x_un, x_ix, x_tru, x_eB, dBl_bl, dTru_bl, dTru_int, dTru_lst, x_and, x_or, x_not, x_eAnd, x_eOr, x_eNot, x_eIf, x_chain, x_aNil, x_aCons, x_aVr, rk_own, rk_io, x_aVb, tk_own, tk_io, tk_imm, tk_bor, x_eTup, x_eLst, imms_nil, imms_im, x_eF, x_call, ixV_C, jk_imm, jk_own, jk_io, jk_bor, flk_int, x_lenV, nk_imm, nk_own, nk_io, nk_bor, x_inV, hk_imm, hk_own, hk_io, hk_bor, x_sNx, x_pass, x_cont, x_brk, x_seq, sk_nx, sk_rt, sk_rtO, sk_ct, sk_bk, sk_ite, x_drop, x_sRet, x_sRetO, x_sIf, x_asg, x_asgO, x_gN, x_gO, x_gNil, x_gCons, x_gTt, x_gTl, x_sApp, x_sSet, x_chM, ck_own, ck_io, x_iOf, x_iRg, x_fn, fk_rt, fk_nx, fk_ite, ios_z, ios_s, keep_io, keep_imm, keep_own, keep_bor, keep_no, dSub_i, dAdd_i, dLt_i, dLe_i, dGt_i, dGe_i, dEq_int, dNe_int, ix_lst, ix_scr, ix_tup, atI_0, atI_1, atI_2, atI_3, List.getElem?_cons_zero, List.getElem?_cons_succ, List.set_cons_zero, List.set_cons_succ, List.length_cons, List.length_nil, List.cons_append, List.nil_append, List.replicate_succ, List.replicate_zero, Option.map_some, Option.bind_some, Nat.reduceAdd, Nat.reduceSub, Nat.reduceLT, Nat.reduceLeDiff, if_true, if_false, Bool.false_eq_true, decide_eq_true_eq, reduceIte, ne_eq, not_false_eq_true, Nat.lt_add_left_iff_pos, Nat.zero_lt_succ, x_call2, x_call3, dk2, dk3, ixV_V, Nat.reduceEqDiff, not_false_eq_true, x_isLst, x_isSet, List.map_cons, List.map_nil, Option.map_none, Option.bind_none, c2, decide_true, Bool.true_and]
    · simp only [x_bind, bk_ok, bk_ite, x_ret, x_lift, lk_some, lk_ite, app_ite, x_eC, x_eV, vk_imm, vk_own, vk_bor, x_give, gk_own, x_bin, x_un, x_ix, x_tru, x_eB, dBl_bl, dTru_bl, dTru_int, dTru_lst, x_and, x_or, x_not, x_eAnd, x_eOr, x_eNot, x_eIf, x_chain, x_aNil, x_aCons, x_aVr, rk_own, rk_io, x_aVb, tk_own, tk_io, tk_imm, tk_bor, x_eTup, x_eLst, imms_nil, imms_im, x_eF, x_call, ixV_C, jk_imm, jk_own, jk_io, jk_bor, flk_int, x_lenV, nk_imm, nk_own, nk_io, nk_bor, x_inV, hk_imm, hk_own, hk_io, hk_bor, x_sNx, x_pass, x_cont, x_brk, x_seq, sk_nx, sk_rt, sk_rtO, sk_ct, sk_bk, sk_ite, x_drop, x_sRet, x_sRetO, x_sIf, x_asg, x_asgO, x_gN, x_gO, x_gNil, x_gCons, x_gTt, x_gTl, x_sApp, x_sSet, x_chM, ck_own, ck_io, x_iOf, x_iRg, x_fn, fk_rt, fk_nx, fk_ite, ios_z, ios_s, keep_io, keep_imm, keep_own, keep_bor, keep_no, dSub_i, dAdd_i, dLt_i, dLe_i, dGt_i, dGe_i, dEq_int, dNe_int, ix_lst, ix_scr, ix_tup, atI_0, atI_1, atI_2, atI_3, List.getElem?_cons_zero, List.getElem?_cons_succ, List.set_cons_zero, List.set_cons_succ, List.length_cons, List.length_nil, List.cons_append, List.nil_append, List.replicate_succ, List.replicate_zero, Option.map_some, Option.bind_some, Nat.reduceAdd, Nat.reduceSub, Nat.reduceLT, Nat.reduceLeDiff, if_true, if_false, Bool.false_eq_true, decide_eq_true_eq, reduceIte, ne_eq, not_false_eq_true, Nat.lt_add_left_iff_pos, Nat.zero_lt_succ, x_call2, x_call3, dk2, dk3, ixV_V, Nat.reduceEqDiff, not_false_eq_true, x_isLst, x_isSet, List.map_cons, List.map_nil, Option.map_none, Option.bind_none, c2, decide_false, Bool.false_and]
  cases hb : (decide (0 ≤ c) && decide (c < KL)) with
  | false =>
    rw [hb] at ev
    obtain ⟨x', z4, z5, h⟩ := neg false ev rfl
    exact ⟨x', z4, z5, by rw [sIf_f ev]; exact h⟩
  | true =>
    rw [hb] at ev
    refine ⟨(c * KA + p * KB + y) % KM * KD + ((c * KA + p * KB + y) % KM * KC + c + 11) % KD, .imm (.int ((c * KA + p * KB + y) % KM)), .imm (.int (((c * KA + p * KB + y) % KM * KC + c + 11) % KD)), ?_⟩
    · rw [sIf_t ev]
      refine ssq (δ1 := [.io (drI ns q x y), .imm (.int m), .imm (.int p), .imm (.int c), .imm (.int ((c * KA + p * KB + y) % KM)), .no, .no]) ?_ (ssq (δ1 := [.io (drI ns q x y), .imm (.int m), .imm (.int p), .imm (.int c), .imm (.int ((c * KA + p * KB + y) % KM)), .imm (.int (((c * KA + p * KB + y) % KM * KC + c + 11) % KD)), .no]) ?_ ?_)
      · unfold drI
        simp only [x_bind, bk_ok, bk_ite, x_ret, x_lift, lk_some, lk_ite, app_ite, x_eC, x_eV, vk_imm, vk_own, vk_bor, x_give, gk_own, x_bin, x_un, x_ix, x_tru, x_eB, dBl_bl, dTru_bl, dTru_int, dTru_lst, x_and, x_or, x_not, x_eAnd, x_eOr, x_eNot, x_eIf, x_chain, x_aNil, x_aCons, x_aVr, rk_own, rk_io, x_aVb, tk_own, tk_io, tk_imm, tk_bor, x_eTup, x_eLst, imms_nil, imms_im, x_eF, x_call, ixV_C, jk_imm, jk_own, jk_io, jk_bor, flk_int, x_lenV, nk_imm, nk_own, nk_io, nk_bor, x_inV, hk_imm, hk_own, hk_io, hk_bor, x_sNx, x_pass, x_cont, x_brk, x_seq, sk_nx, sk_rt, sk_rtO, sk_ct, sk_bk, sk_ite, x_drop, x_sRet, x_sRetO, x_sIf, x_asg, x_asgO, x_gN, x_gO, x_gNil, x_gCons, x_gTt, x_gTl, x_sApp, x_sSet, x_chM, ck_own, ck_io, x_iOf, x_iRg, x_fn, fk_rt, fk_nx, fk_ite, ios_z, ios_s, keep_io, keep_imm, keep_own, keep_bor, keep_no, dSub_i, dAdd_i, dLt_i, dLe_i, dGt_i, dGe_i, dEq_int, dNe_int, ix_lst, ix_scr, ix_tup, atI_0, atI_1, atI_2, atI_3, List.getElem?_cons_zero, List.getElem?_cons_succ, List.set_cons_zero, List.set_cons_succ, List.length_cons, List.length_nil, List.cons_append, List.nil_append, List.replicate_succ, List.replicate_zero, Option.map_some, Option.bind_some, Nat.reduceAdd, Nat.reduceSub, Nat.reduceLT, Nat.reduceLeDiff, if_true, if_false, Bool.false_eq_true, decide_eq_true_eq, reduceIte, ne_eq, not_false_eq_true, Nat.lt_add_left_iff_pos, Nat.zero_lt_succ, x_call2, x_call3, dk2, dk3, ixV_V, Nat.reduceEqDiff, not_false_eq_true, x_isLst, x_isSet, List.map_cons, List.map_nil, Option.map_none, Option.bind_none, k2, k3, m1, fInt_i]
      · simp only [x_bind, bk_ok, bk_ite, x_ret, x_lift, lk_some, lk_ite, app_ite, x_eC, x_eV, vk_imm, vk_own, vk_bor, x_give, gk_own, x_bin, x_un, x_ix, x_tru, x_eB, dBl_bl, dTru_bl, dTru_int, dTru_lst, x_and, x_or, x_not, x_eAnd, x_eOr, x_eNot, x_eIf, x_chain, x_aNil, x_aCons, x_aVr, rk_own, rk_io, x_aVb, tk_own, tk_io, tk_imm, tk_bor, x_eTup, x_eLst, imms_nil, imms_im, x_eF, x_call, ixV_C, jk_imm, jk_own, jk_io, jk_bor, flk_int, x_lenV, nk_imm, nk_own, nk_io, nk_bor, x_inV, hk_imm, hk_own, hk_io, hk_bor, x_sNx, x_pass, x_cont, x_brk, x_seq, sk_nx, sk_rt, sk_rtO, sk_ct, sk_bk, sk_ite, x_drop, x_sRet, x_sRetO, x_sIf, x_asg, x_asgO, x_gN, x_gO, x_gNil, x_gCons, x_gTt, x_gTl, x_sApp, x_sSet, x_chM, ck_own, ck_io, x_iOf, x_iRg, x_fn, fk_rt, fk_nx, fk_ite, ios_z, ios_s, keep_io, keep_imm, keep_own, keep_bor, keep_no, dSub_i, dAdd_i, dLt_i, dLe_i, dGt_i, dGe_i, dEq_int, dNe_int, ix_lst, ix_scr, ix_tup, atI_0, atI_1, atI_2, atI_3, List.getElem?_cons_zero, List.getElem?_cons_succ, List.set_cons_zero, List.set_cons_succ, List.length_cons, List.length_nil, List.cons_append, List.nil_append, List.replicate_succ, List.replicate_zero, Option.map_some, Option.bind_some, Nat.reduceAdd, Nat.reduceSub, Nat.reduceLT, Nat.reduceLeDiff, if_true, if_false, Bool.false_eq_true, decide_eq_true_eq, reduceIte, ne_eq, not_false_eq_true, Nat.lt_add_left_iff_pos, Nat.zero_lt_succ, x_call2, x_call3, dk2, dk3, ixV_V, Nat.reduceEqDiff, not_false_eq_true, x_isLst, x_isSet, List.map_cons, List.map_nil, Option.map_none, Option.bind_none, k4, m2, fInt_i]
      · unfold drI
        simp only [x_bind, bk_ok, bk_ite, x_ret, x_lift, lk_some, lk_ite, app_ite, x_eC, x_eV, vk_imm, vk_own, vk_bor, x_give, gk_own, x_bin, x_un, x_ix, x_tru, x_eB, dBl_bl, dTru_bl, dTru_int, dTru_lst, x_and, x_or, x_not, x_eAnd, x_eOr, x_eNot, x_eIf, x_chain, x_aNil, x_aCons, x_aVr, rk_own, rk_io, x_aVb, tk_own, tk_io, tk_imm, tk_bor, x_eTup, x_eLst, imms_nil, imms_im, x_eF, x_call, ixV_C, jk_imm, jk_own, jk_io, jk_bor, flk_int, x_lenV, nk_imm, nk_own, nk_io, nk_bor, x_inV, hk_imm, hk_own, hk_io, hk_bor, x_sNx, x_pass, x_cont, x_brk, x_seq, sk_nx, sk_rt, sk_rtO, sk_ct, sk_bk, sk_ite, x_drop, x_sRet, x_sRetO, x_sIf, x_asg, x_asgO, x_gN, x_gO, x_gNil, x_gCons, x_gTt, x_gTl, x_sApp, x_sSet, x_chM, ck_own, ck_io, x_iOf, x_iRg, x_fn, fk_rt, fk_nx, fk_ite, ios_z, ios_s, keep_io, keep_imm, keep_own, keep_bor, keep_no, dSub_i, dAdd_i, dLt_i, dLe_i, dGt_i, dGe_i, dEq_int, dNe_int, ix_lst, ix_scr, ix_tup, atI_0, atI_1, atI_2, atI_3, List.getElem?_cons_zero, List.getElem?_cons_succ, List.set_cons_zero, List.set_cons_succ, List.length_cons, List.length_nil, List.cons_append, List.nil_append, List.replicate_succ, List.replicate_zero, Option.map_some, Option.bind_some, Nat.reduceAdd, Nat.reduceSub, Nat.reduceLT, Nat.reduceLeDiff, if_true, if_false, Bool.false_eq_true, decide_eq_true_eq, reduceIte, ne_eq, not_false_eq_true, Nat.lt_add_left_iff_pos, Nat.zero_lt_succ, x_call2, x_call3, dk2, dk3, ixV_V, Nat.reduceEqDiff, not_false_eq_true, x_isLst, x_isSet, List.map_cons, List.map_nil, Option.map_none, Option.bind_none, k5, dSet4_2, iSk_io]
def DrOI (ns : List Int) (m p : Int) (δ : Env) : Prop := ∃ (p' : Int) (x' y' : Int) (z2 z3 z4 z5 : Sl), (p' = p ∨ p' = p + 1) ∧ δ = [.io (.lst [.scr (ns.map D.int), .int p', .int x', .int y']), .imm (.int m), z2, z3, z4, z5, .no]
theorem draw_head {KL KA KB KM KC KD KE KF KN : Int} (k2 : ∀ x : Int, dMul (.int x) (.int KA) = some (.int (x * KA))) (k3 : ∀ x : Int, dMul (.int x) (.int KB) = some (.int (x * KB))) (k4 : ∀ x : Int, dMul (.int x) (.int KC) = some (.int (x * KC))) (k5 : ∀ x : Int, dMul (.int x) (.int KD) = some (.int (x * KD))) (m1 : ∀ x : Int, dMod (.int x) (.int KM) = some (.int (x % KM))) (m2 : ∀ x : Int, dMod (.int x) (.int KD) = some (.int (x % KD))) (k1 : ∀ x : Int, dMul (.int x) (.int KE) = some (.int (x * KE))) (k6 : ∀ x : Int, dMul (.int x) (.int KF) = some (.int (x * KF))) (m3 : ∀ x : Int, dMod (.int x) (.int KN) = some (.int (x % KN))) {ns : List Int} {p x y m cc : Int} (h4 : (sIf (eB (eBin dLt (eV 2) (eF fLen (aCons (eIxV 0 (eC (.int 0))) aNil)))) (sAsg (gN 3) (eIx (eIxV 0 (eC (.int 0))) (eV 2))) sNx) [.io (drI ns (p + 1) x y), .imm (.int m), .imm (.int p), .imm (.int (p * KE + 13)), .no, .no, .no] = some (.ok .nx, [.io (drI ns (p + 1) x y), .imm (.int m), .imm (.int p), .imm (.int cc), .no, .no, .no])) : ∃ δ', (sIf (eB (eBin dLe (eIxV 0 (eC (.int 2))) (eC (.int 0))))
 (sSeq (sAsg (gN 2) (eIxV 0 (eC (.int 1))))
 (sSeq (sSet 0 (eC (.int 1)) (eBin dAdd (eV 2) (eC (.int 1))))
 (sSeq (sAsg (gN 3) (eBin dAdd (eBin dMul (eV 2) (eC (.int KE))) (eC (.int 13))))
 (sSeq (sIf (eB (eBin dLt (eV 2) (eF fLen (aCons (eIxV 0 (eC (.int 0))) aNil))))
 (sAsg (gN 3) (eIx (eIxV 0 (eC (.int 0))) (eV 2)))
 sNx)
 (sSeq (sIf (eB (eChain dLe dLt (eC (.int 0)) (eV 3) (eC (.int KL))))
 (sSeq (sAsg (gN 4) (eBin dMod (eF fInt (aCons (eBin dAdd (eBin dAdd (eBin dMul (eV 3) (eC (.int KA))) (eBin dMul (eV 2) (eC (.int KB)))) (eIxV 0 (eC (.int 3)))) aNil)) (eC (.int KM))))
 (sSeq (sAsg (gN 5) (eBin dMod (eF fInt (aCons (eBin dAdd (eBin dAdd (eBin dMul (eV 4) (eC (.int KC))) (eV 3)) (eC (.int 11))) aNil)) (eC (.int KD))))
 (sSet 0 (eC (.int 2)) (eBin dAdd (eBin dMul (eV 4) (eC (.int KD))) (eV 5)))))
 (sSet 0 (eC (.int 2)) (eF fAbs (aCons (eV 3) aNil))))
 (sSet 0 (eC (.int 3)) (eBin dMod (eF fInt (aCons (eBin dAdd (eBin dMul (eIxV 0 (eC (.int 3))) (eC (.int KF))) (eV 3)) aNil)) (eC (.int KN)))))))))
 sNx) [.io (drI ns p x y), .imm (.int m), .no, .no, .no, .no, .no] = some (.ok .nx, δ') ∧ DrOI ns m p δ' := by
  have hc : (eB (eBin dLe (eIxV 0 (eC (.int 2))) (eC (.int 0)))) [.io (drI ns p x y), .imm (.int m), .no, .no, .no, .no, .no] = some (.ok (decide (x ≤ 0)), [.io (drI ns p x y), .imm (.int m), .no, .no, .no, .no, .no]) := by
    unfold drI
    simp only [x_bind, bk_ok, bk_ite, x_ret, x_lift, lk_some, lk_ite, app_ite, x_eC, x_eV, vk_imm, vk_own, vk_bor, x_give, gk_own, x_bin, x_un, x_ix, x_tru, x_eB, dBl_bl, dTru_bl, dTru_int, dTru_lst, x_and, x_or, x_not, x_eAnd, x_eOr, x_eNot, x_eIf, x_chain, x_aNil, x_aCons, x_aVr, rk_own, rk_io, x_aVb, tk_own, tk_io, tk_imm, tk_bor, x_eTup, x_eLst, imms_nil, imms_im, x_eF, x_call, ixV_C, jk_imm, jk_own, jk_io, jk_bor, flk_int, x_lenV, nk_imm, nk_own, nk_io, nk_bor, x_inV, hk_imm, hk_own, hk_io, hk_bor, x_sNx, x_pass, x_cont, x_brk, x_seq, sk_nx, sk_rt, sk_rtO, sk_ct, sk_bk, sk_ite, x_drop, x_sRet, x_sRetO, x_sIf, x_asg, x_asgO, x_gN, x_gO, x_gNil, x_gCons, x_gTt, x_gTl, x_sApp, x_sSet, x_chM, ck_own, ck_io, x_iOf, x_iRg, x_fn, fk_rt, fk_nx, fk_ite, ios_z, ios_s, keep_io, keep_imm, keep_own, keep_bor, keep_no, dSub_i, dAdd_i, dLt_i, dLe_i, dGt_i, dGe_i, dEq_int, dNe_int, ix_lst, ix_scr, ix_tup, atI_0, atI_1, atI_2, atI_3, List.getElem?_cons_zero, List.getElem?_cons_succ, List.set_cons_zero, List.set_cons_succ, List.length_cons, List.length_nil, List.cons_append, List.nil_append, List.replicate_succ, List.replicate_zero, Option.map_some, Option.bind_some, Nat.reduceAdd, Nat.reduceSub, Nat.reduceLT, Nat.reduceLeDiff, if_true, if_false, Bool.false_eq_true, decide_eq_true_eq, reduceIte, ne_eq, not_false_eq_true, Nat.lt_add_left_iff_pos, Nat.zero_lt_succ, x_call2, x_call3, dk2, dk3, ixV_V, Nat.reduceEqDiff, not_false_eq_true, x_isLst, x_isSet, List.map_cons, List.map_nil, Option.map_none, Option.bind_none]
  by_cases c : x ≤ 0
  · rw [decide_eq_true c] at hc
    rw [sIf_t hc]
    obtain ⟨x', z4, z5, h5⟩ := dr5 (KL := KL) k2 k3 k4 k5 m1 m2 (ns := ns) (p := p) (q := p + 1) (x := x) (y := y) (m := m) (c := cc)
    refine ⟨[.io (.lst [.scr (ns.map D.int), .int (p + 1), .int x', .int ((y * KF + cc) % KN)]), .imm (.int m), .imm (.int p), .imm (.int cc), z4, z5, .no], ssq (δ1 := [.io (drI ns p x y), .imm (.int m), .imm (.int p), .no, .no, .no, .no]) ?_ (ssq (δ1 := [.io (drI ns (p + 1) x y), .imm (.int m), .imm (.int p), .no, .no, .no, .no]) ?_ (ssq (δ1 := [.io (drI ns (p + 1) x y), .imm (.int m), .imm (.int p), .imm (.int (p * KE + 13)), .no, .no, .no]) ?_ (ssq h4 (ssq h5 ?_)))), ⟨p + 1, x', (y * KF + cc) % KN, _, _, z4, z5, .inr rfl, rfl⟩⟩
    · unfold drI
      simp only [x_bind, bk_ok, bk_ite, x_ret, x_lift, lk_some, lk_ite, app_ite, x_eC, x_eV, vk_imm, vk_own, vk_bor, x_give, gk_own, x_bin, x_un, x_ix, x_tru, x_eB, dBl_bl, dTru_bl, dTru_int, dTru_lst, x_and, x_or, x_not, x_eAnd, x_eOr, x_eNot, x_eIf, x_chain, x_aNil, x_aCons, x_aVr, rk_own, rk_io, x_aVb, tk_own, tk_io, tk_imm, tk_bor, x_eTup, x_eLst, imms_nil, imms_im, x_eF, x_call, ixV_C, jk_imm, jk_own, jk_io, jk_bor, flk_int, x_lenV, nk_imm, nk_own, nk_io, nk_bor, x_inV, hk_imm, hk_own, hk_io, hk_bor, x_sNx, x_pass, x_cont, x_brk, x_seq, sk_nx, sk_rt, sk_rtO, sk_ct, sk_bk, sk_ite, x_drop, x_sRet, x_sRetO, x_sIf, x_asg, x_asgO, x_gN, x_gO, x_gNil, x_gCons, x_gTt, x_gTl, x_sApp, x_sSet, x_chM, ck_own, ck_io, x_iOf, x_iRg, x_fn, fk_rt, fk_nx, fk_ite, ios_z, ios_s, keep_io, keep_imm, keep_own, keep_bor, keep_no, dSub_i, dAdd_i, dLt_i, dLe_i, dGt_i, dGe_i, dEq_int, dNe_int, ix_lst, ix_scr, ix_tup, atI_0, atI_1, atI_2, atI_3, List.getElem?_cons_zero, List.getElem?_cons_succ, List.set_cons_zero, List.set_cons_succ, List.length_cons, List.length_nil, List.cons_append, List.nil_append, List.replicate_succ, List.replicate_zero, Option.map_some, Option.bind_some, Nat.reduceAdd, Nat.reduceSub, Nat.reduceLT, Nat.reduceLeDiff, if_true, if_false, Bool.false_eq_true, decide_eq_true_eq, reduceIte, ne_eq, not_false_eq_true, Nat.lt_add_left_iff_pos, Nat.zero_lt_succ, x_call2, x_call3, dk2, dk3, ixV_V, Nat.reduceEqDiff, not_false_eq_true, x_isLst, x_isSet, List.map_cons, List.map_nil, Option.map_none, Option.bind_none]
    · unfold drI
      simp only [x_bind, bk_ok, bk_ite, x_ret, x_lift, lk_some, lk_ite, app_ite, x_eC, x_eV, vk_imm, vk_own, vk_bor, x_give, gk_own, x_bin, x_un, x_ix, x_tru, x_eB, dBl_bl, dTru_bl, dTru_int, dTru_lst, x_and, x_or, x_not, x_eAnd, x_eOr, x_eNot, x_eIf, x_chain, x_aNil, x_aCons, x_aVr, rk_own, rk_io, x_aVb, tk_own, tk_io, tk_imm, tk_bor, x_eTup, x_eLst, imms_nil, imms_im, x_eF, x_call, ixV_C, jk_imm, jk_own, jk_io, jk_bor, flk_int, x_lenV, nk_imm, nk_own, nk_io, nk_bor, x_inV, hk_imm, hk_own, hk_io, hk_bor, x_sNx, x_pass, x_cont, x_brk, x_seq, sk_nx, sk_rt, sk_rtO, sk_ct, sk_bk, sk_ite, x_drop, x_sRet, x_sRetO, x_sIf, x_asg, x_asgO, x_gN, x_gO, x_gNil, x_gCons, x_gTt, x_gTl, x_sApp, x_sSet, x_chM, ck_own, ck_io, x_iOf, x_iRg, x_fn, fk_rt, fk_nx, fk_ite, ios_z, ios_s, keep_io, keep_imm, keep_own, keep_bor, keep_no, dSub_i, dAdd_i, dLt_i, dLe_i, dGt_i, dGe_i, dEq_int, dNe_int, ix_lst, ix_scr, ix_tup, atI_0, atI_1, atI_2, atI_3, List.getElem?_cons_zero, List.getElem?_cons_succ, List.set_cons_zero, List.set_cons_succ, List.length_cons, List.length_nil, List.cons_append, List.nil_append, List.replicate_succ, List.replicate_zero, Option.map_some, Option.bind_some, Nat.reduceAdd, Nat.reduceSub, Nat.reduceLT, Nat.reduceLeDiff, if_true, if_false, Bool.false_eq_true, decide_eq_true_eq, reduceIte, ne_eq, not_false_eq_true, Nat.lt_add_left_iff_pos, Nat.zero_lt_succ, x_call2, x_call3, dk2, dk3, ixV_V, Nat.reduceEqDiff, not_false_eq_true, x_isLst, x_isSet, List.map_cons, List.map_nil, Option.map_none, Option.bind_none, dSet4_1, iSk_io]
    · simp only [x_bind, bk_ok, bk_ite, x_ret, x_lift, lk_some, lk_ite, app_ite, x_eC, x_eV, vk_imm, vk_own, vk_bor, x_give, gk_own, x_bin, x_un, x_ix, x_tru, x_eB, dBl_bl, dTru_bl, dTru_int, dTru_lst, x_and, x_or, x_not, x_eAnd, x_eOr, x_eNot, x_eIf, x_chain, x_aNil, x_aCons, x_aVr, rk_own, rk_io, x_aVb, tk_own, tk_io, tk_imm, tk_bor, x_eTup, x_eLst, imms_nil, imms_im, x_eF, x_call, ixV_C, jk_imm, jk_own, jk_io, jk_bor, flk_int, x_lenV, nk_imm, nk_own, nk_io, nk_bor, x_inV, hk_imm, hk_own, hk_io, hk_bor, x_sNx, x_pass, x_cont, x_brk, x_seq, sk_nx, sk_rt, sk_rtO, sk_ct, sk_bk, sk_ite, x_drop, x_sRet, x_sRetO, x_sIf, x_asg, x_asgO, x_gN, x_gO, x_gNil, x_gCons, x_gTt, x_gTl, x_sApp, x_sSet, x_chM, ck_own, ck_io, x_iOf, x_iRg, x_fn, fk_rt, fk_nx, fk_ite, ios_z, ios_s, keep_io, keep_imm, keep_own, keep_bor, keep_no, dSub_i, dAdd_i, dLt_i, dLe_i, dGt_i, dGe_i, dEq_int, dNe_int, ix_lst, ix_scr, ix_tup, atI_0, atI_1, atI_2, atI_3, List.getElem?_cons_zero, List.getElem?_cons_succ, List.set_cons_zero, List.set_cons_succ, List.length_cons, List.length_nil, List.cons_append, List.nil_append, List.replicate_succ, List.replicate_zero, Option.map_some, Option.bind_some, Nat.reduceAdd, Nat.reduceSub, Nat.reduceLT, Nat.reduceLeDiff, if_true, if_false, Bool.false_eq_true, decide_eq_true_eq, reduceIte, ne_eq, not_false_eq_true, Nat.lt_add_left_iff_pos, Nat.zero_lt_succ, x_call2, x_call3, dk2, dk3, ixV_V, Nat.reduceEqDiff, not_false_eq_true, x_isLst, x_isSet, List.map_cons, List.map_nil, Option.map_none, Option.bind_none, k1]
    · unfold drI
      simp only [x_bind, bk_ok, bk_ite, x_ret, x_lift, lk_some, lk_ite, app_ite, x_eC, x_eV, vk_imm, vk_own, vk_bor, x_give, gk_own, x_bin, x_un, x_ix, x_tru, x_eB, dBl_bl, dTru_bl, dTru_int, dTru_lst, x_and, x_or, x_not, x_eAnd, x_eOr, x_eNot, x_eIf, x_chain, x_aNil, x_aCons, x_aVr, rk_own, rk_io, x_aVb, tk_own, tk_io, tk_imm, tk_bor, x_eTup, x_eLst, imms_nil, imms_im, x_eF, x_call, ixV_C, jk_imm, jk_own, jk_io, jk_bor, flk_int, x_lenV, nk_imm, nk_own, nk_io, nk_bor, x_inV, hk_imm, hk_own, hk_io, hk_bor, x_sNx, x_pass, x_cont, x_brk, x_seq, sk_nx, sk_rt, sk_rtO, sk_ct, sk_bk, sk_ite, x_drop, x_sRet, x_sRetO, x_sIf, x_asg, x_asgO, x_gN, x_gO, x_gNil, x_gCons, x_gTt, x_gTl, x_sApp, x_sSet, x_chM, ck_own, ck_io, x_iOf, x_iRg, x_fn, fk_rt, fk_nx, fk_ite, ios_z, ios_s, keep_io, keep_imm, keep_own, keep_bor, keep_no, dSub_i, dAdd_i, dLt_i, dLe_i, dGt_i, dGe_i, dEq_int, dNe_int, ix_lst, ix_scr, ix_tup, atI_0, atI_1, atI_2, atI_3, List.getElem?_cons_zero, List.getElem?_cons_succ, List.set_cons_zero, List.set_cons_succ, List.length_cons, List.length_nil, List.cons_append, List.nil_append, List.replicate_succ, List.replicate_zero, Option.map_some, Option.bind_some, Nat.reduceAdd, Nat.reduceSub, Nat.reduceLT, Nat.reduceLeDiff, if_true, if_false, Bool.false_eq_true, decide_eq_true_eq, reduceIte, ne_eq, not_false_eq_true, Nat.lt_add_left_iff_pos, Nat.zero_lt_succ, x_call2, x_call3, dk2, dk3, ixV_V, Nat.reduceEqDiff, not_false_eq_true, x_isLst, x_isSet, List.map_cons, List.map_nil, Option.map_none, Option.bind_none, k6, m3, fInt_i, dSet4_3, iSk_io]
  · rw [decide_eq_false c] at hc
    rw [sIf_f hc]
    exact ⟨_, rfl, p, x, y, _, _, _, _, .inl rfl, rfl⟩
theorem ev_draw {ns : List Int} {p : Nat} {x y m : Int} (h : 0 < m) (h2 : m ≤ 1000) : ∃ (t : Int) (p' : Nat) (x' y' : Int), m__law_draw [.io (drD ns p x y), .imm (.int m)] = some (.ok (.int t), [.io (drD ns p' x' y'), .no]) ∧ 0 ≤ t ∧ t < m := by
  obtain ⟨cc, h4⟩ := dr4 (ns := ns) (p := p) (x := x) (y := y) (m := m) (c0 := (p : Int) * 7919 + 13)
  have h4 : (sIf (eB (eBin dLt (eV 2) (eF fLen (aCons (eIxV 0 (eC (.int 0))) aNil)))) (sAsg (gN 3) (eIx (eIxV 0 (eC (.int 0))) (eV 2))) sNx) [.io (drI ns ((p : Int) + 1) x y), .imm (.int m), .imm (.int (p : Int)), .imm (.int ((p : Int) * 7919 + 13)), .no, .no, .no] = some (.ok .nx, [.io (drI ns ((p : Int) + 1) x y), .imm (.int m), .imm (.int (p : Int)), .imm (.int cc), .no, .no, .no]) := h4
  obtain ⟨δ', h1, P', x', y', z2, z3, z4, z5, hP, rfl⟩ := draw_head (KL := 1000000000000000000) (KA := 48271) (KB := 69621) (KM := 2147483647) (KC := 16807) (KD := 2147483629) (KE := 7919) (KF := 31) (KN := 1000003) (fun x => dMul_r (by decide) (by decide)) (fun x => dMul_r (by decide) (by decide)) (fun x => dMul_r (by decide) (by decide)) (fun x => dMul_r (by decide) (by decide)) (fun x => dMod_i (by decide)) (fun x => dMod_i (by decide)) (fun x => dMul_r (by decide) (by decide)) (fun x => dMul_r (by decide) (by decide)) (fun x => dMod_i (by decide)) (ns := ns) (p := (p : Int)) (x := x) (y := y) (m := m) h4
  obtain ⟨p', rfl⟩ : ∃ p' : Nat, P' = (p' : Int) := by
    rcases hP with rfl | rfl
    · exact ⟨p, rfl⟩
    · exact ⟨p + 1, by omega⟩
  refine ⟨x' % m, p', x' / m, y', ?_, Int.emod_nonneg _ (by omega), Int.emod_lt_of_pos _ h⟩
  unfold m__law_draw b__law_draw
  rw [x_fn, x_seq]
  have e0 : ([.io (drD ns p x y), .imm (.int m)] ++ List.replicate (7 - 2) Sl.no : Env) = [.io (drD ns p x y), .imm (.int m), .no, .no, .no, .no, .no] := rfl
  have h1' := congrArg (sk ((sSeq (sAsg (gN 6) (eBin dMod (eF fInt (aCons (eIxV 0 (eC (.int 2))) aNil)) (eV 1))) (sSeq (sSet 0 (eC (.int 2)) (eBin dDiv (eF fInt (aCons (eIxV 0 (eC (.int 2))) aNil)) (eV 1))) (sRet (eV 6)))))) h1
  exact (congrArg (fk 2) h1').trans (draw_tail h h2)
end M

set_option Elab.async false
set_option linter.all false
set_option maxRecDepth 100000
set_option maxHeartbeats 1000000
namespace M
open PySem L2
theorem call_v1 {m : Mo D} {a d d' r : D} {s : Sl} {δ : Env} (hm : m [.io d, .imm a] = some (.ok r, [.io d', s])) : callM m [.vr 0, .im a] (.io d :: δ) = some (.ok r, .io d' :: δ) :=
  call_of (by simp only [argSls, argSl, List.getElem?_cons_zero]) ⟨by simp [vrs], by simp [vbs]⟩ hm (by simp only [backs, List.getElem?_cons_zero, List.set_cons_zero])
theorem mod_ne {t1 t2 n : Int} (h1 : 0 ≤ t1) (h2 : t1 < n) (h3 : 0 ≤ t2) (h4 : t2 < n - 1) : (t1 + 1 + t2) % n ≠ t1 := by
  by_cases c : t1 + 1 + t2 < n
  · rw [Int.emod_eq_of_lt (by omega) c]; omega
  · have e : t1 + 1 + t2 = (t1 + 1 + t2 - n) + n := by omega
    rw [e, Int.add_emod_right, Int.emod_eq_of_lt (by omega) (by omega)]; omega
/-- the rooms' list -/
theorem room_at {t3 t4 z t5 : Int} (h3 : 0 ≤ t3) (h4 : 0 ≤ t4) (hz : 0 ≤ z) (h5 : 0 ≤ t5) (h6 : t5 < 8) : ∃ r, dIx (.lst [.int t3, .int t4, .int 0, .int z]) (.int (t5 / 2)) = some (.int r) ∧ 0 ≤ r := by
  have : t5 / 2 = 0 ∨ t5 / 2 = 1 ∨ t5 / 2 = 2 ∨ t5 / 2 = 3 := by omega
  rcases this with e | e | e | e <;> rw [e]
  · exact ⟨t3, atI_0, h3⟩
  · exact ⟨t4, atI_1, h4⟩
  · exact ⟨0, atI_2, Int.le_refl _⟩
  · exact ⟨z, atI_3, hz⟩
def IsDr (ns : List Int) (d : D) : Prop := ∃ (p : Nat) (x y : Int), d = drD ns p x y
theorem ev_dr {ns : List Int} {d : D} {m : Int} (hd : IsDr ns d) (h : 0 < m) (h2 : m ≤ 1000) : ∃ t d', (∀ δ, callM m__law_draw [.vr 0, .im (.int m)] (.io d :: δ) = some (.ok (.int t), .io d' :: δ)) ∧ IsDr ns d' ∧ 0 ≤ t ∧ t < m := by
  obtain ⟨p, x, y, rfl⟩ := hd
  obtain ⟨t, p', x', y', h1, h3, h4⟩ := ev_draw (ns := ns) (p := p) (x := x) (y := y) h h2
  exact ⟨t, _, fun δ => call_v1 h1, ⟨p', x', y', rfl⟩, h3, h4⟩
noncomputable def netBody : Mo Out := (sSeq (sAsg (gN 6) (eCall m__law_draw (aVr 0 (aCons (eV 3) aNil))))
 (sSeq (sAsg (gN 7) (eBin dMod (eF fInt (aCons (eBin dAdd (eBin dAdd (eV 6) (eC (.int 1))) (eCall m__law_draw (aVr 0 (aCons (eBin dSub (eV 3) (eC (.int 1))) aNil)))) aNil)) (eV 3)))
 (sApp 4 (eTup (aCons (eV 6) (aCons (eV 7) (aCons (eIx (eLst (aCons (eCall m__law_draw (aVr 0 (aCons (eC (.int 4)) aNil))) (aCons (eCall m__law_draw (aVr 0 (aCons (eC (.int 30)) aNil))) (aCons (eC (.int 0)) (aCons (eC (.int 1000000007)) aNil))))) (eBin dDiv (eCall m__law_draw (aVr 0 (aCons (eC (.int 8)) aNil))) (eC (.int 2)))) aNil)))))))
theorem ev_netBody {ns : List Int} {d : D} {x1 x2 x5 x6 x7 : Sl} {n : Int} {l : List D} (hd : IsDr ns d) (h2 : 2 ≤ n) (hn : n ≤ 1000) (hl : l.length ≤ 900) :
    ∃ d' t1 w r y6 y7, netBody [.io d, x1, x2, .imm (.int n), .own (.lst l), x5, x6, x7] = some (.ok .nx, [.io d', x1, x2, .imm (.int n), .own (.lst (l ++ [.tup [.int t1, .int w, .int r]])), x5, y6, y7]) ∧ IsDr ns d' ∧ 0 ≤ t1 ∧ t1 < n ∧ 0 ≤ w ∧ w < n ∧ t1 ≠ w ∧ 0 ≤ r := by
  obtain ⟨t1, d1, c1, i1, a1, b1⟩ := ev_dr hd (m := n) (by omega) hn
  obtain ⟨t2, d2, c2, i2, a2, b2⟩ := ev_dr i1 (m := n - 1) (by omega) (by omega)
  obtain ⟨t3, d3, c3, i3, a3, b3⟩ := ev_dr i2 (m := 4) (by omega) (by omega)
  obtain ⟨t4, d4, c4, i4, a4, b4⟩ := ev_dr i3 (m := 30) (by omega) (by omega)
  obtain ⟨t5, d5, c5, i5, a5, b5⟩ := ev_dr i4 (m := 8) (by omega) (by omega)
  obtain ⟨r, hr, r0⟩ := room_at (z := 1000000007) a3 a4 (by decide) a5 b5
  have k1 : dMod (.int (t1 + 1 + t2)) (.int n) = some (.int ((t1 + 1 + t2) % n)) := dMod_i (by omega)
  have k2 : dDiv (.int t5) (.int 2) = some (.int (t5 / 2)) := dDiv_i (by decide) (by decide)
  refine ⟨d5, t1, (t1 + 1 + t2) % n, r, .imm (.int t1), .imm (.int ((t1 + 1 + t2) % n)), ?_, i5, a1, b1, Int.emod_nonneg _ (by omega), Int.emod_lt_of_pos _ (by omega), fun c => mod_ne a1 b1 a2 b2 c.symm, r0⟩
  unfold netBody
  refine ssq (δ1 := [.io d1, x1, x2, .imm (.int n), .own (.lst l), x5, .imm (.int t1), x7]) ?_ (ssq (δ1 := [.io d2, x1, x2, .imm (.int n), .own (.lst l), x5, .imm (.int t1), .imm (.int ((t1 + 1 + t2) % n))]) ?_ ?_)
  · simp only [x_bind, bk_ok, bk_ite, x_ret, x_lift, lk_some, lk_ite, app_ite, x_eC, x_eV, vk_imm, vk_own, vk_bor, x_give, gk_own, x_bin, x_un, x_ix, x_tru, x_eB, dBl_bl, dTru_bl, dTru_int, dTru_lst, x_and, x_or, x_not, x_eAnd, x_eOr, x_eNot, x_eIf, x_chain, x_aNil, x_aCons, x_aVr, rk_own, rk_io, x_aVb, tk_own, tk_io, tk_imm, tk_bor, x_eTup, x_eLst, imms_nil, imms_im, x_eF, x_call, ixV_C, jk_imm, jk_own, jk_io, jk_bor, flk_int, x_lenV, nk_imm, nk_own, nk_io, nk_bor, x_inV, hk_imm, hk_own, hk_io, hk_bor, x_sNx, x_pass, x_cont, x_brk, x_seq, sk_nx, sk_rt, sk_rtO, sk_ct, sk_bk, sk_ite, x_drop, x_sRet, x_sRetO, x_sIf, x_asg, x_asgO, x_gN, x_gO, x_gNil, x_gCons, x_gTt, x_gTl, x_sApp, x_sSet, x_chM, ck_own, ck_io, x_iOf, x_iRg, x_fn, fk_rt, fk_nx, fk_ite, ios_z, ios_s, keep_io, keep_imm, keep_own, keep_bor, keep_no, dSub_i, dAdd_i, dLt_i, dLe_i, dGt_i, dGe_i, dEq_int, dNe_int, ix_lst, ix_scr, ix_tup, atI_0, atI_1, atI_2, atI_3, List.getElem?_cons_zero, List.getElem?_cons_succ, List.set_cons_zero, List.set_cons_succ, List.length_cons, List.length_nil, List.cons_append, List.nil_append, List.replicate_succ, List.replicate_zero, Option.map_some, Option.bind_some, Nat.reduceAdd, Nat.reduceSub, Nat.reduceLT, Nat.reduceLeDiff, if_true, if_false, Bool.false_eq_true, decide_eq_true_eq, reduceIte, ne_eq, not_false_eq_true, Nat.lt_add_left_iff_pos, Nat.zero_lt_succ, x_call2, x_call3, dk2, dk3, ixV_V, Nat.reduceEqDiff, not_false_eq_true, x_isLst, x_isSet, List.map_cons, List.map_nil, Option.map_none, Option.bind_none, c1]
  · simp only [x_bind, bk_ok, bk_ite, x_ret, x_lift, lk_some, lk_ite, app_ite, x_eC, x_eV, vk_imm, vk_own, vk_bor, x_give, gk_own, x_bin, x_un, x_ix, x_tru, x_eB, dBl_bl, dTru_bl, dTru_int, dTru_lst, x_and, x_or, x_not, x_eAnd, x_eOr, x_eNot, x_eIf, x_chain, x_aNil, x_aCons, x_aVr, rk_own, rk_io, x_aVb, tk_own, tk_io, tk_imm, tk_bor, x_eTup, x_eLst, imms_nil, imms_im, x_eF, x_call, ixV_C, jk_imm, jk_own, jk_io, jk_bor, flk_int, x_lenV, nk_imm, nk_own, nk_io, nk_bor, x_inV, hk_imm, hk_own, hk_io, hk_bor, x_sNx, x_pass, x_cont, x_brk, x_seq, sk_nx, sk_rt, sk_rtO, sk_ct, sk_bk, sk_ite, x_drop, x_sRet, x_sRetO, x_sIf, x_asg, x_asgO, x_gN, x_gO, x_gNil, x_gCons, x_gTt, x_gTl, x_sApp, x_sSet, x_chM, ck_own, ck_io, x_iOf, x_iRg, x_fn, fk_rt, fk_nx, fk_ite, ios_z, ios_s, keep_io, keep_imm, keep_own, keep_bor, keep_no, dSub_i, dAdd_i, dLt_i, dLe_i, dGt_i, dGe_i, dEq_int, dNe_int, ix_lst, ix_scr, ix_tup, atI_0, atI_1, atI_2, atI_3, List.getElem?_cons_zero, List.getElem?_cons_succ, List.set_cons_zero, List.set_cons_succ, List.length_cons, List.length_nil, List.cons_append, List.nil_append, List.replicate_succ, List.replicate_zero, Option.map_some, Option.bind_some, Nat.reduceAdd, Nat.reduceSub, Nat.reduceLT, Nat.reduceLeDiff, if_true, if_false, Bool.false_eq_true, decide_eq_true_eq, reduceIte, ne_eq, not_false_eq_true, Nat.lt_add_left_iff_pos, Nat.zero_lt_succ, x_call2, x_call3, dk2, dk3, ixV_V, Nat.reduceEqDiff, not_false_eq_true, x_isLst, x_isSet, List.map_cons, List.map_nil, Option.map_none, Option.bind_none, c2, fInt_i, k1]
  · simp only [x_bind, bk_ok, bk_ite, x_ret, x_lift, lk_some, lk_ite, app_ite, x_eC, x_eV, vk_imm, vk_own, vk_bor, x_give, gk_own, x_bin, x_un, x_ix, x_tru, x_eB, dBl_bl, dTru_bl, dTru_int, dTru_lst, x_and, x_or, x_not, x_eAnd, x_eOr, x_eNot, x_eIf, x_chain, x_aNil, x_aCons, x_aVr, rk_own, rk_io, x_aVb, tk_own, tk_io, tk_imm, tk_bor, x_eTup, x_eLst, imms_nil, imms_im, x_eF, x_call, ixV_C, jk_imm, jk_own, jk_io, jk_bor, flk_int, x_lenV, nk_imm, nk_own, nk_io, nk_bor, x_inV, hk_imm, hk_own, hk_io, hk_bor, x_sNx, x_pass, x_cont, x_brk, x_seq, sk_nx, sk_rt, sk_rtO, sk_ct, sk_bk, sk_ite, x_drop, x_sRet, x_sRetO, x_sIf, x_asg, x_asgO, x_gN, x_gO, x_gNil, x_gCons, x_gTt, x_gTl, x_sApp, x_sSet, x_chM, ck_own, ck_io, x_iOf, x_iRg, x_fn, fk_rt, fk_nx, fk_ite, ios_z, ios_s, keep_io, keep_imm, keep_own, keep_bor, keep_no, dSub_i, dAdd_i, dLt_i, dLe_i, dGt_i, dGe_i, dEq_int, dNe_int, ix_lst, ix_scr, ix_tup, atI_0, atI_1, atI_2, atI_3, List.getElem?_cons_zero, List.getElem?_cons_succ, List.set_cons_zero, List.set_cons_succ, List.length_cons, List.length_nil, List.cons_append, List.nil_append, List.replicate_succ, List.replicate_zero, Option.map_some, Option.bind_some, Nat.reduceAdd, Nat.reduceSub, Nat.reduceLT, Nat.reduceLeDiff, if_true, if_false, Bool.false_eq_true, decide_eq_true_eq, reduceIte, ne_eq, not_false_eq_true, Nat.lt_add_left_iff_pos, Nat.zero_lt_succ, x_call2, x_call3, dk2, dk3, ixV_V, Nat.reduceEqDiff, not_false_eq_true, x_isLst, x_isSet, List.map_cons, List.map_nil, Option.map_none, Option.bind_none, c3, c4, c5, k2, hr, iLk_l, dApp_l (show l.length ≤ 1000 by omega)]
theorem ev_net {ns : List Int} {d : D} {mo ma : Int} (hd : IsDr ns d) (h1 : 1 ≤ mo) (h1' : mo ≤ 900) (h2 : 0 ≤ ma) (h2' : ma ≤ 800) :
    ∃ (d' : D) (n : Nat) (es : List Ed), m__law_net [.io d, .imm (.int mo), .imm (.int ma)] = some (.ok (.tup [.int (n : Int), edsD es]), [.io d', .no, .no]) ∧ IsDr ns d' ∧ 2 ≤ n ∧ (n : Int) ≤ mo + 1 ∧ (es.length : Int) ≤ ma ∧ ∀ e ∈ es, EdOk n e := by
  obtain ⟨t0, d0, c0, i0, a0, b0⟩ := ev_dr hd (m := mo) (by omega) (by omega)
  obtain ⟨t1, d1, c1, i1, a1, b1⟩ := ev_dr i0 (m := ma + 1) (by omega) (by omega)
  obtain ⟨δ', h3, d', es, y5, y6, y7, rfl, hd', hl, hok⟩ := sFor_inv (I := (iRg rg1 (aCons (eCall m__law_draw (aVr 0 (aCons (eBin dAdd (eV 2) (eC (.int 1))) aNil))) aNil))) (T := gN 5) (S := netBody) (ds := rgD 0 t1.toNat)
    (δ := [.io d0, .imm (.int mo), .imm (.int ma), .imm (.int (2 + t0)), .own (.lst []), .no, .no, .no]) (δ0 := [.io d1, .imm (.int mo), .imm (.int ma), .imm (.int (2 + t0)), .own (.lst []), .no, .no, .no])
    (fun k δ => ∃ (d' : D) (es : List Ed) (y5 y6 y7 : Sl), δ = [.io d', .imm (.int mo), .imm (.int ma), .imm (.int (2 + t0)), .own (.lst (es.map Ed.d)), y5, y6, y7] ∧ IsDr ns d' ∧ es.length = k ∧ ∀ e ∈ es, EdOk (2 + t0).toNat e)
    (by simp only [x_bind, bk_ok, bk_ite, x_ret, x_lift, lk_some, lk_ite, app_ite, x_eC, x_eV, vk_imm, vk_own, vk_bor, x_give, gk_own, x_bin, x_un, x_ix, x_tru, x_eB, dBl_bl, dTru_bl, dTru_int, dTru_lst, x_and, x_or, x_not, x_eAnd, x_eOr, x_eNot, x_eIf, x_chain, x_aNil, x_aCons, x_aVr, rk_own, rk_io, x_aVb, tk_own, tk_io, tk_imm, tk_bor, x_eTup, x_eLst, imms_nil, imms_im, x_eF, x_call, ixV_C, jk_imm, jk_own, jk_io, jk_bor, flk_int, x_lenV, nk_imm, nk_own, nk_io, nk_bor, x_inV, hk_imm, hk_own, hk_io, hk_bor, x_sNx, x_pass, x_cont, x_brk, x_seq, sk_nx, sk_rt, sk_rtO, sk_ct, sk_bk, sk_ite, x_drop, x_sRet, x_sRetO, x_sIf, x_asg, x_asgO, x_gN, x_gO, x_gNil, x_gCons, x_gTt, x_gTl, x_sApp, x_sSet, x_chM, ck_own, ck_io, x_iOf, x_iRg, x_fn, fk_rt, fk_nx, fk_ite, ios_z, ios_s, keep_io, keep_imm, keep_own, keep_bor, keep_no, dSub_i, dAdd_i, dLt_i, dLe_i, dGt_i, dGe_i, dEq_int, dNe_int, ix_lst, ix_scr, ix_tup, atI_0, atI_1, atI_2, atI_3, List.getElem?_cons_zero, List.getElem?_cons_succ, List.set_cons_zero, List.set_cons_succ, List.length_cons, List.length_nil, List.cons_append, List.nil_append, List.replicate_succ, List.replicate_zero, Option.map_some, Option.bind_some, Nat.reduceAdd, Nat.reduceSub, Nat.reduceLT, Nat.reduceLeDiff, if_true, if_false, Bool.false_eq_true, decide_eq_true_eq, reduceIte, ne_eq, not_false_eq_true, Nat.lt_add_left_iff_pos, Nat.zero_lt_succ, x_call2, x_call3, dk2, dk3, ixV_V, Nat.reduceEqDiff, not_false_eq_true, x_isLst, x_isSet, List.map_cons, List.map_nil, Option.map_none, Option.bind_none, c1, rg1]
        rw [if_pos ⟨by omega, by omega⟩])
    ⟨d1, [], _, _, _, rfl, i1, rfl, fun e h => by simp at h⟩ (fun k d δ hk hδ => by
      obtain ⟨d', es, y5, y6, y7, rfl, hd', hl, hok⟩ := hδ
      have hkl : k < t1.toNat := by
        have := (List.getElem?_eq_some_iff.mp hk).1
        unfold rgD at this; rw [List.length_map, List.length_range] at this; exact this
      obtain ⟨d2, u, w, r, z6, z7, e1, i2, g1, g2, g3, g4, g5, g6⟩ := ev_netBody (x1 := .imm (.int mo)) (x2 := .imm (.int ma)) (x5 := .imm d) (x6 := y6) (x7 := y7) (n := 2 + t0) (l := es.map Ed.d) hd' (by omega) (by omega) (by rw [List.length_map]; omega)
      have ed : (Ed.d ⟨u.toNat, w.toNat, r⟩) = .tup [.int u, .int w, .int r] := by
        unfold Ed.d
        rw [Int.toNat_of_nonneg g1, Int.toNat_of_nonneg g3]
      refine ⟨[.io d', .imm (.int mo), .imm (.int ma), .imm (.int (2 + t0)), .own (.lst (es.map Ed.d)), .imm d, y6, y7], _, ?_, .inl e1, ⟨d2, es ++ [⟨u.toNat, w.toNat, r⟩], .imm d, z6, z7, ?_, i2, by rw [List.length_append, hl]; rfl, fun e he => ?_⟩⟩
      · simp only [x_bind, bk_ok, bk_ite, x_ret, x_lift, lk_some, lk_ite, app_ite, x_eC, x_eV, vk_imm, vk_own, vk_bor, x_give, gk_own, x_bin, x_un, x_ix, x_tru, x_eB, dBl_bl, dTru_bl, dTru_int, dTru_lst, x_and, x_or, x_not, x_eAnd, x_eOr, x_eNot, x_eIf, x_chain, x_aNil, x_aCons, x_aVr, rk_own, rk_io, x_aVb, tk_own, tk_io, tk_imm, tk_bor, x_eTup, x_eLst, imms_nil, imms_im, x_eF, x_call, ixV_C, jk_imm, jk_own, jk_io, jk_bor, flk_int, x_lenV, nk_imm, nk_own, nk_io, nk_bor, x_inV, hk_imm, hk_own, hk_io, hk_bor, x_sNx, x_pass, x_cont, x_brk, x_seq, sk_nx, sk_rt, sk_rtO, sk_ct, sk_bk, sk_ite, x_drop, x_sRet, x_sRetO, x_sIf, x_asg, x_asgO, x_gN, x_gO, x_gNil, x_gCons, x_gTt, x_gTl, x_sApp, x_sSet, x_chM, ck_own, ck_io, x_iOf, x_iRg, x_fn, fk_rt, fk_nx, fk_ite, ios_z, ios_s, keep_io, keep_imm, keep_own, keep_bor, keep_no, dSub_i, dAdd_i, dLt_i, dLe_i, dGt_i, dGe_i, dEq_int, dNe_int, ix_lst, ix_scr, ix_tup, atI_0, atI_1, atI_2, atI_3, List.getElem?_cons_zero, List.getElem?_cons_succ, List.set_cons_zero, List.set_cons_succ, List.length_cons, List.length_nil, List.cons_append, List.nil_append, List.replicate_succ, List.replicate_zero, Option.map_some, Option.bind_some, Nat.reduceAdd, Nat.reduceSub, Nat.reduceLT, Nat.reduceLeDiff, if_true, if_false, Bool.false_eq_true, decide_eq_true_eq, reduceIte, ne_eq, not_false_eq_true, Nat.lt_add_left_iff_pos, Nat.zero_lt_succ, x_call2, x_call3, dk2, dk3, ixV_V, Nat.reduceEqDiff, not_false_eq_true, x_isLst, x_isSet, List.map_cons, List.map_nil, Option.map_none, Option.bind_none]
      · rw [List.map_append, List.map_cons, ed]; rfl
      · rcases List.mem_append.mp he with he | he
        · exact hok e he
        · simp at he; subst he
          exact ⟨by show u.toNat < _; omega, by show w.toNat < _; omega, by show u.toNat ≠ w.toNat; omega, g6⟩)
  refine ⟨d', (2 + t0).toNat, es, ?_, hd', by omega, by omega, ?_, hok⟩
  · unfold m__law_net b__law_net
    unfold netBody at h3
    rw [Int.toNat_of_nonneg (by omega)]
    simp only [x_bind, bk_ok, bk_ite, x_ret, x_lift, lk_some, lk_ite, app_ite, x_eC, x_eV, vk_imm, vk_own, vk_bor, x_give, gk_own, x_bin, x_un, x_ix, x_tru, x_eB, dBl_bl, dTru_bl, dTru_int, dTru_lst, x_and, x_or, x_not, x_eAnd, x_eOr, x_eNot, x_eIf, x_chain, x_aNil, x_aCons, x_aVr, rk_own, rk_io, x_aVb, tk_own, tk_io, tk_imm, tk_bor, x_eTup, x_eLst, imms_nil, imms_im, x_eF, x_call, ixV_C, jk_imm, jk_own, jk_io, jk_bor, flk_int, x_lenV, nk_imm, nk_own, nk_io, nk_bor, x_inV, hk_imm, hk_own, hk_io, hk_bor, x_sNx, x_pass, x_cont, x_brk, x_seq, sk_nx, sk_rt, sk_rtO, sk_ct, sk_bk, sk_ite, x_drop, x_sRet, x_sRetO, x_sIf, x_asg, x_asgO, x_gN, x_gO, x_gNil, x_gCons, x_gTt, x_gTl, x_sApp, x_sSet, x_chM, ck_own, ck_io, x_iOf, x_iRg, x_fn, fk_rt, fk_nx, fk_ite, ios_z, ios_s, keep_io, keep_imm, keep_own, keep_bor, keep_no, dSub_i, dAdd_i, dLt_i, dLe_i, dGt_i, dGe_i, dEq_int, dNe_int, ix_lst, ix_scr, ix_tup, atI_0, atI_1, atI_2, atI_3, List.getElem?_cons_zero, List.getElem?_cons_succ, List.set_cons_zero, List.set_cons_succ, List.length_cons, List.length_nil, List.cons_append, List.nil_append, List.replicate_succ, List.replicate_zero, Option.map_some, Option.bind_some, Nat.reduceAdd, Nat.reduceSub, Nat.reduceLT, Nat.reduceLeDiff, if_true, if_false, Bool.false_eq_true, decide_eq_true_eq, reduceIte, ne_eq, not_false_eq_true, Nat.lt_add_left_iff_pos, Nat.zero_lt_succ, x_call2, x_call3, dk2, dk3, ixV_V, Nat.reduceEqDiff, not_false_eq_true, x_isLst, x_isSet, List.map_cons, List.map_nil, Option.map_none, Option.bind_none, c0, h3]
    rfl
  · rw [hl]; unfold rgD; rw [List.length_map, List.length_range]; omega
end M

set_option Elab.async false
set_option linter.all false
set_option maxRecDepth 100000
set_option maxHeartbeats 1000000
namespace M
open PySem L2
theorem lay_all : ∀ {l : List D}, (∀ d ∈ l, (toPy d).canLay0 = true) → PyData.canLayAll0 (toPys l) = true
  | [], _ => rfl
  | d :: l, h => by
    unfold toPys PyData.canLayAll0
    rw [h d List.mem_cons_self, lay_all fun e m => h e (List.mem_cons_of_mem _ m)]; rfl
theorem dep_all {k : Nat} : ∀ {l : List D}, (∀ d ∈ l, (toPy d).depth ≤ k) → PyData.depthAll (toPys l) ≤ k
  | [], _ => Nat.zero_le _
  | d :: l, h => by
    unfold toPys PyData.depthAll
    have h1 := h d List.mem_cons_self
    have h2 := dep_all fun e m => h e (List.mem_cons_of_mem _ m)
    omega
theorem shp_of {l : List D} (h1 : ∀ d ∈ l, (toPy d).canLay0 = true) (h2 : ∀ d ∈ l, (toPy d).depth ≤ 60) : shp (.lst l) = true := by
  unfold shp SeqAt.shaped toPy
  have := dep_all h2
  rw [Bool.and_eq_true]
  refine ⟨lay_all h1, decide_eq_true ?_⟩
  show PyData.depth (.list (toPys l)) ≤ 64
  unfold PyData.depth
  omega
theorem eqv_all : ∀ {l : List D}, (∀ d ∈ l, PyData.eqv (toPy d) (toPy d) = true) → PyData.eqvAll (toPys l) (toPys l) = true
  | [], _ => by unfold toPys PyData.eqvAll; rfl
  | d :: l, h => by
    unfold toPys PyData.eqvAll
    rw [h d List.mem_cons_self, eqv_all fun e m => h e (List.mem_cons_of_mem _ m)]; rfl
/-- data that may be compared and is itself -/
structure Fine (d : D) : Prop where
  lay : (toPy d).canLay0 = true
  dep : (toPy d).depth ≤ 20
  rfl : PyData.eqv (toPy d) (toPy d) = true
theorem fine_int (i : Int) : Fine (.int i) := ⟨rfl, by unfold toPy PyData.depth; omega, by unfold toPy PyData.eqv; simp⟩
theorem fine_shp {d : D} (h : Fine d) : shp d = true := by
  unfold shp SeqAt.shaped
  rw [Bool.and_eq_true]
  exact ⟨h.lay, decide_eq_true (by have := h.dep; omega)⟩
theorem fine_lst {k : Nat} {l : List D} (hk : k < 20) (h : ∀ d ∈ l, Fine d ∧ (toPy d).depth ≤ k) : Fine (.lst l) ∧ (toPy (.lst l)).depth ≤ k + 1 := by
  have h1 : (toPy (.lst l)).depth ≤ k + 1 := by
    have := dep_all fun d m => (h d m).2
    unfold toPy PyData.depth; omega
  exact ⟨⟨lay_all fun d m => (h d m).1.lay, by omega, by unfold toPy PyData.eqv; exact eqv_all fun d m => (h d m).1.rfl⟩, h1⟩
theorem fine_tup {k : Nat} {l : List D} (hk : k < 20) (h : ∀ d ∈ l, Fine d ∧ (toPy d).depth ≤ k) : Fine (.tup l) ∧ (toPy (.tup l)).depth ≤ k + 1 := by
  have h1 : (toPy (.tup l)).depth ≤ k + 1 := by
    have := dep_all fun d m => (h d m).2
    unfold toPy PyData.depth; omega
  exact ⟨⟨lay_all fun d m => (h d m).1.lay, by omega, by unfold toPy PyData.eqv; exact eqv_all fun d m => (h d m).1.rfl⟩, h1⟩
theorem fine_int' (i : Int) : Fine (.int i) ∧ (toPy (.int i)).depth ≤ 0 := ⟨fine_int i, by unfold toPy PyData.depth; omega⟩
theorem fine_iD (l : List Int) : Fine (iD l) := (fine_lst (k := 0) (by omega) fun d m => by
  obtain ⟨i, _, rfl⟩ := List.mem_map.mp m; exact fine_int' i).1
theorem fine_nD (l : List Nat) : Fine (nD l) := (fine_lst (k := 0) (by omega) fun d m => by
  obtain ⟨i, _, rfl⟩ := List.mem_map.mp m; exact fine_int' _).1
theorem fine_eds (es : List Ed) : Fine (edsD es) := (fine_lst (k := 1) (by omega) fun d m => by
  obtain ⟨e, _, rfl⟩ := List.mem_map.mp m
  exact fine_tup (k := 0) (by omega) fun d m => by
    simp at m
    rcases m with rfl | rfl | rfl <;> exact fine_int' _).1
theorem dNe_rfl {d : D} (h : Fine d) : dNe d d = some (.bl false) := by
  unfold dNe; rw [if_pos ⟨fine_shp h, fine_shp h⟩, h.rfl]; rfl
theorem dEq_rfl {d : D} (h : Fine d) : dEq d d = some (.bl true) := by
  unfold dEq; rw [if_pos ⟨fine_shp h, fine_shp h⟩, h.rfl]
theorem dNe_bl {a b : Bool} : dNe (.bl a) (.bl b) = some (.bl (a != b)) := by
  have h : ∀ b : Bool, shp (.bl b) = true := fun b => by cases b <;> rfl
  unfold dNe; rw [if_pos ⟨h a, h b⟩]
  cases a <;> cases b <;> rfl
theorem has_nD {v : Nat} : ∀ {l : List Nat}, hasPy (.int (v : Int)) (l.map fun v : Nat => D.int (v : Int)) = decide (v ∈ l)
  | [] => by simp [hasPy, toPys]
  | a :: l => by
    unfold hasPy
    rw [List.map_cons]
    unfold toPys
    rw [List.any_cons]
    have ih := has_nD (v := v) (l := l)
    unfold hasPy at ih
    rw [ih]
    have : PyData.eqv (toPy (.int (a : Int))) (toPy (.int (v : Int))) = decide (v = a) := by
      unfold toPy PyData.eqv
      by_cases c : v = a
      · subst c; simp
      · have : ¬ (a : Int) = (v : Int) := by omega
        simp [c, this]
    rw [this]
    by_cases c : v = a <;> simp [c]
theorem dIn_nD {neg : Bool} {v : Nat} {l : List Nat} : dIn neg (.int (v : Int)) (nD l) = some (.bl (if neg then !decide (v ∈ l) else decide (v ∈ l))) := by
  show (if shp (.int (v : Int)) = true ∧ shp (nD l) = true then some (D.bl (if neg then !hasPy (.int (v : Int)) (l.map fun v : Nat => D.int (v : Int)) else hasPy (.int (v : Int)) (l.map fun v : Nat => D.int (v : Int)))) else none) = _
  rw [if_pos ⟨fine_shp (fine_int _), fine_shp (fine_nD l)⟩, has_nD]
def edOf : D → Ed
  | .tup [.int a, .int b, .int r] => ⟨a.toNat, b.toNat, r⟩
  | _ => ⟨0, 0, 0⟩
theorem edOf_d (e : Ed) : edOf e.d = e := by
  unfold Ed.d edOf
  simp
theorem fSum_i {l : List Int} : fSum [iD l] = some (.int l.sum) := by
  unfold fSum lstInts iD
  simp only [intsD_map, Option.map_some]
theorem cost_sum {S : Nat → Bool} : ∀ {es : List Ed}, ((es.filter fun e => S e.a != S e.b).map (·.r)).sum = cost es S
  | [] => rfl
  | e :: es => by
    rw [cost_cons, ← cost_sum (es := es)]
    cases c : (S e.a != S e.b) with
    | true => rw [List.filter_cons_of_pos (by rw [c]), List.map_cons, List.sum_cons]; simp
    | false => rw [List.filter_cons_of_neg (by rw [c]; simp)]; simp
theorem eds_filter {S : Nat → Bool} {es : List Ed} : (((es.map Ed.d).filter fun d => S (edOf d).a != S (edOf d).b).map fun d => D.int (edOf d).r) = ((es.filter fun e => S e.a != S e.b).map (·.r)).map D.int := by
  rw [List.filter_map, List.map_map, List.map_map]
  have : ((fun d => S (edOf d).a != S (edOf d).b) ∘ Ed.d) = fun e => S e.a != S e.b := by
    funext e; show (S (edOf e.d).a != S (edOf e.d).b) = _; rw [edOf_d]
  rw [this]
  exact List.map_congr_left fun e _ => by show D.int (edOf e.d).r = D.int e.r; rw [edOf_d]
theorem ev_cost {es : List Ed} {side : List Nat} (he : es.length ≤ 1000) : m__law_cost [.imm (edsD es), .imm (nD side)] = some (.ok (.int (cost es fun v => decide (v ∈ side))), [.no, .no]) := by
  have hi : (iOf (eV 0)) [.imm (edsD es), .imm (nD side), .no, .no, .no] = some (.ok (es.map Ed.d), [.imm (edsD es), .imm (nD side), .no, .no, .no]) := by
    unfold edsD
    simp only [x_bind, bk_ok, bk_ite, x_ret, x_lift, lk_some, lk_ite, app_ite, x_eC, x_eV, vk_imm, vk_own, vk_bor, x_give, gk_own, x_bin, x_un, x_ix, x_tru, x_eB, dBl_bl, dTru_bl, dTru_int, dTru_lst, x_and, x_or, x_not, x_eAnd, x_eOr, x_eNot, x_eIf, x_chain, x_aNil, x_aCons, x_aVr, rk_own, rk_io, x_aVb, tk_own, tk_io, tk_imm, tk_bor, x_eTup, x_eLst, imms_nil, imms_im, x_eF, x_call, ixV_C, jk_imm, jk_own, jk_io, jk_bor, flk_int, x_lenV, nk_imm, nk_own, nk_io, nk_bor, x_inV, hk_imm, hk_own, hk_io, hk_bor, x_sNx, x_pass, x_cont, x_brk, x_seq, sk_nx, sk_rt, sk_rtO, sk_ct, sk_bk, sk_ite, x_drop, x_sRet, x_sRetO, x_sIf, x_asg, x_asgO, x_gN, x_gO, x_gNil, x_gCons, x_gTt, x_gTl, x_sApp, x_sSet, x_chM, ck_own, ck_io, x_iOf, x_iRg, x_fn, fk_rt, fk_nx, fk_ite, ios_z, ios_s, keep_io, keep_imm, keep_own, keep_bor, keep_no, dSub_i, dAdd_i, dLt_i, dLe_i, dGt_i, dGe_i, dEq_int, dNe_int, ix_lst, ix_scr, ix_tup, atI_0, atI_1, atI_2, atI_3, List.getElem?_cons_zero, List.getElem?_cons_succ, List.set_cons_zero, List.set_cons_succ, List.length_cons, List.length_nil, List.cons_append, List.nil_append, List.replicate_succ, List.replicate_zero, Option.map_some, Option.bind_some, Nat.reduceAdd, Nat.reduceSub, Nat.reduceLT, Nat.reduceLeDiff, if_true, if_false, Bool.false_eq_true, decide_eq_true_eq, reduceIte, ne_eq, not_false_eq_true, Nat.lt_add_left_iff_pos, Nat.zero_lt_succ, x_call2, x_call3, dk2, dk3, ixV_V, Nat.reduceEqDiff, not_false_eq_true, x_isLst, x_isSet, List.map_cons, List.map_nil, Option.map_none, Option.bind_none, itD]
  have h := eLc_pure (T := (gT 3 (gCons (gN 2) (gCons (gN 3) (gCons (gN 4) gNil))))) (C := (eB (eBin dNe (eBin (dIn false) (eV 2) (eV 1)) (eBin (dIn false) (eV 3) (eV 1))))) (E := eV 4) (vs := [2, 3, 4]) (p := fun d => (decide ((edOf d).a ∈ side) != decide ((edOf d).b ∈ side))) (f := fun d => D.int (edOf d).r) hi (by rw [List.length_map]; exact he) (fun d hd => by
    obtain ⟨e, _, rfl⟩ := List.mem_map.mp hd
    rw [edOf_d]
    refine ⟨[.imm (edsD es), .imm (nD side), .imm (.int e.a), .imm (.int e.b), .imm (.int e.r)], [.imm (edsD es), .imm (nD side), .imm (.int e.a), .imm (.int e.b), .imm (.int e.r)], ?_, ?_, fun _ => ?_, fun _ => ⟨[.imm (edsD es), .imm (nD side), .imm (.int e.a), .imm (.int e.b), .imm (.int e.r)], ?_, ?_⟩⟩
    · unfold Ed.d; simp only [x_bind, bk_ok, bk_ite, x_ret, x_lift, lk_some, lk_ite, app_ite, x_eC, x_eV, vk_imm, vk_own, vk_bor, x_give, gk_own, x_bin, x_un, x_ix, x_tru, x_eB, dBl_bl, dTru_bl, dTru_int, dTru_lst, x_and, x_or, x_not, x_eAnd, x_eOr, x_eNot, x_eIf, x_chain, x_aNil, x_aCons, x_aVr, rk_own, rk_io, x_aVb, tk_own, tk_io, tk_imm, tk_bor, x_eTup, x_eLst, imms_nil, imms_im, x_eF, x_call, ixV_C, jk_imm, jk_own, jk_io, jk_bor, flk_int, x_lenV, nk_imm, nk_own, nk_io, nk_bor, x_inV, hk_imm, hk_own, hk_io, hk_bor, x_sNx, x_pass, x_cont, x_brk, x_seq, sk_nx, sk_rt, sk_rtO, sk_ct, sk_bk, sk_ite, x_drop, x_sRet, x_sRetO, x_sIf, x_asg, x_asgO, x_gN, x_gO, x_gNil, x_gCons, x_gTt, x_gTl, x_sApp, x_sSet, x_chM, ck_own, ck_io, x_iOf, x_iRg, x_fn, fk_rt, fk_nx, fk_ite, ios_z, ios_s, keep_io, keep_imm, keep_own, keep_bor, keep_no, dSub_i, dAdd_i, dLt_i, dLe_i, dGt_i, dGe_i, dEq_int, dNe_int, ix_lst, ix_scr, ix_tup, atI_0, atI_1, atI_2, atI_3, List.getElem?_cons_zero, List.getElem?_cons_succ, List.set_cons_zero, List.set_cons_succ, List.length_cons, List.length_nil, List.cons_append, List.nil_append, List.replicate_succ, List.replicate_zero, Option.map_some, Option.bind_some, Nat.reduceAdd, Nat.reduceSub, Nat.reduceLT, Nat.reduceLeDiff, if_true, if_false, Bool.false_eq_true, decide_eq_true_eq, reduceIte, ne_eq, not_false_eq_true, Nat.lt_add_left_iff_pos, Nat.zero_lt_succ, x_call2, x_call3, dk2, dk3, ixV_V, Nat.reduceEqDiff, not_false_eq_true, x_isLst, x_isSet, List.map_cons, List.map_nil, Option.map_none, Option.bind_none, wipeE]
    · simp only [x_bind, bk_ok, bk_ite, x_ret, x_lift, lk_some, lk_ite, app_ite, x_eC, x_eV, vk_imm, vk_own, vk_bor, x_give, gk_own, x_bin, x_un, x_ix, x_tru, x_eB, dBl_bl, dTru_bl, dTru_int, dTru_lst, x_and, x_or, x_not, x_eAnd, x_eOr, x_eNot, x_eIf, x_chain, x_aNil, x_aCons, x_aVr, rk_own, rk_io, x_aVb, tk_own, tk_io, tk_imm, tk_bor, x_eTup, x_eLst, imms_nil, imms_im, x_eF, x_call, ixV_C, jk_imm, jk_own, jk_io, jk_bor, flk_int, x_lenV, nk_imm, nk_own, nk_io, nk_bor, x_inV, hk_imm, hk_own, hk_io, hk_bor, x_sNx, x_pass, x_cont, x_brk, x_seq, sk_nx, sk_rt, sk_rtO, sk_ct, sk_bk, sk_ite, x_drop, x_sRet, x_sRetO, x_sIf, x_asg, x_asgO, x_gN, x_gO, x_gNil, x_gCons, x_gTt, x_gTl, x_sApp, x_sSet, x_chM, ck_own, ck_io, x_iOf, x_iRg, x_fn, fk_rt, fk_nx, fk_ite, ios_z, ios_s, keep_io, keep_imm, keep_own, keep_bor, keep_no, dSub_i, dAdd_i, dLt_i, dLe_i, dGt_i, dGe_i, dEq_int, dNe_int, ix_lst, ix_scr, ix_tup, atI_0, atI_1, atI_2, atI_3, List.getElem?_cons_zero, List.getElem?_cons_succ, List.set_cons_zero, List.set_cons_succ, List.length_cons, List.length_nil, List.cons_append, List.nil_append, List.replicate_succ, List.replicate_zero, Option.map_some, Option.bind_some, Nat.reduceAdd, Nat.reduceSub, Nat.reduceLT, Nat.reduceLeDiff, if_true, if_false, Bool.false_eq_true, decide_eq_true_eq, reduceIte, ne_eq, not_false_eq_true, Nat.lt_add_left_iff_pos, Nat.zero_lt_succ, x_call2, x_call3, dk2, dk3, ixV_V, Nat.reduceEqDiff, not_false_eq_true, x_isLst, x_isSet, List.map_cons, List.map_nil, Option.map_none, Option.bind_none, dIn_nD, dNe_bl]
    · simp only [x_bind, bk_ok, bk_ite, x_ret, x_lift, lk_some, lk_ite, app_ite, x_eC, x_eV, vk_imm, vk_own, vk_bor, x_give, gk_own, x_bin, x_un, x_ix, x_tru, x_eB, dBl_bl, dTru_bl, dTru_int, dTru_lst, x_and, x_or, x_not, x_eAnd, x_eOr, x_eNot, x_eIf, x_chain, x_aNil, x_aCons, x_aVr, rk_own, rk_io, x_aVb, tk_own, tk_io, tk_imm, tk_bor, x_eTup, x_eLst, imms_nil, imms_im, x_eF, x_call, ixV_C, jk_imm, jk_own, jk_io, jk_bor, flk_int, x_lenV, nk_imm, nk_own, nk_io, nk_bor, x_inV, hk_imm, hk_own, hk_io, hk_bor, x_sNx, x_pass, x_cont, x_brk, x_seq, sk_nx, sk_rt, sk_rtO, sk_ct, sk_bk, sk_ite, x_drop, x_sRet, x_sRetO, x_sIf, x_asg, x_asgO, x_gN, x_gO, x_gNil, x_gCons, x_gTt, x_gTl, x_sApp, x_sSet, x_chM, ck_own, ck_io, x_iOf, x_iRg, x_fn, fk_rt, fk_nx, fk_ite, ios_z, ios_s, keep_io, keep_imm, keep_own, keep_bor, keep_no, dSub_i, dAdd_i, dLt_i, dLe_i, dGt_i, dGe_i, dEq_int, dNe_int, ix_lst, ix_scr, ix_tup, atI_0, atI_1, atI_2, atI_3, List.getElem?_cons_zero, List.getElem?_cons_succ, List.set_cons_zero, List.set_cons_succ, List.length_cons, List.length_nil, List.cons_append, List.nil_append, List.replicate_succ, List.replicate_zero, Option.map_some, Option.bind_some, Nat.reduceAdd, Nat.reduceSub, Nat.reduceLT, Nat.reduceLeDiff, if_true, if_false, Bool.false_eq_true, decide_eq_true_eq, reduceIte, ne_eq, not_false_eq_true, Nat.lt_add_left_iff_pos, Nat.zero_lt_succ, x_call2, x_call3, dk2, dk3, ixV_V, Nat.reduceEqDiff, not_false_eq_true, x_isLst, x_isSet, List.map_cons, List.map_nil, Option.map_none, Option.bind_none, wipeE]
    · simp only [x_bind, bk_ok, bk_ite, x_ret, x_lift, lk_some, lk_ite, app_ite, x_eC, x_eV, vk_imm, vk_own, vk_bor, x_give, gk_own, x_bin, x_un, x_ix, x_tru, x_eB, dBl_bl, dTru_bl, dTru_int, dTru_lst, x_and, x_or, x_not, x_eAnd, x_eOr, x_eNot, x_eIf, x_chain, x_aNil, x_aCons, x_aVr, rk_own, rk_io, x_aVb, tk_own, tk_io, tk_imm, tk_bor, x_eTup, x_eLst, imms_nil, imms_im, x_eF, x_call, ixV_C, jk_imm, jk_own, jk_io, jk_bor, flk_int, x_lenV, nk_imm, nk_own, nk_io, nk_bor, x_inV, hk_imm, hk_own, hk_io, hk_bor, x_sNx, x_pass, x_cont, x_brk, x_seq, sk_nx, sk_rt, sk_rtO, sk_ct, sk_bk, sk_ite, x_drop, x_sRet, x_sRetO, x_sIf, x_asg, x_asgO, x_gN, x_gO, x_gNil, x_gCons, x_gTt, x_gTl, x_sApp, x_sSet, x_chM, ck_own, ck_io, x_iOf, x_iRg, x_fn, fk_rt, fk_nx, fk_ite, ios_z, ios_s, keep_io, keep_imm, keep_own, keep_bor, keep_no, dSub_i, dAdd_i, dLt_i, dLe_i, dGt_i, dGe_i, dEq_int, dNe_int, ix_lst, ix_scr, ix_tup, atI_0, atI_1, atI_2, atI_3, List.getElem?_cons_zero, List.getElem?_cons_succ, List.set_cons_zero, List.set_cons_succ, List.length_cons, List.length_nil, List.cons_append, List.nil_append, List.replicate_succ, List.replicate_zero, Option.map_some, Option.bind_some, Nat.reduceAdd, Nat.reduceSub, Nat.reduceLT, Nat.reduceLeDiff, if_true, if_false, Bool.false_eq_true, decide_eq_true_eq, reduceIte, ne_eq, not_false_eq_true, Nat.lt_add_left_iff_pos, Nat.zero_lt_succ, x_call2, x_call3, dk2, dk3, ixV_V, Nat.reduceEqDiff, not_false_eq_true, x_isLst, x_isSet, List.map_cons, List.map_nil, Option.map_none, Option.bind_none]
    · simp only [x_bind, bk_ok, bk_ite, x_ret, x_lift, lk_some, lk_ite, app_ite, x_eC, x_eV, vk_imm, vk_own, vk_bor, x_give, gk_own, x_bin, x_un, x_ix, x_tru, x_eB, dBl_bl, dTru_bl, dTru_int, dTru_lst, x_and, x_or, x_not, x_eAnd, x_eOr, x_eNot, x_eIf, x_chain, x_aNil, x_aCons, x_aVr, rk_own, rk_io, x_aVb, tk_own, tk_io, tk_imm, tk_bor, x_eTup, x_eLst, imms_nil, imms_im, x_eF, x_call, ixV_C, jk_imm, jk_own, jk_io, jk_bor, flk_int, x_lenV, nk_imm, nk_own, nk_io, nk_bor, x_inV, hk_imm, hk_own, hk_io, hk_bor, x_sNx, x_pass, x_cont, x_brk, x_seq, sk_nx, sk_rt, sk_rtO, sk_ct, sk_bk, sk_ite, x_drop, x_sRet, x_sRetO, x_sIf, x_asg, x_asgO, x_gN, x_gO, x_gNil, x_gCons, x_gTt, x_gTl, x_sApp, x_sSet, x_chM, ck_own, ck_io, x_iOf, x_iRg, x_fn, fk_rt, fk_nx, fk_ite, ios_z, ios_s, keep_io, keep_imm, keep_own, keep_bor, keep_no, dSub_i, dAdd_i, dLt_i, dLe_i, dGt_i, dGe_i, dEq_int, dNe_int, ix_lst, ix_scr, ix_tup, atI_0, atI_1, atI_2, atI_3, List.getElem?_cons_zero, List.getElem?_cons_succ, List.set_cons_zero, List.set_cons_succ, List.length_cons, List.length_nil, List.cons_append, List.nil_append, List.replicate_succ, List.replicate_zero, Option.map_some, Option.bind_some, Nat.reduceAdd, Nat.reduceSub, Nat.reduceLT, Nat.reduceLeDiff, if_true, if_false, Bool.false_eq_true, decide_eq_true_eq, reduceIte, ne_eq, not_false_eq_true, Nat.lt_add_left_iff_pos, Nat.zero_lt_succ, x_call2, x_call3, dk2, dk3, ixV_V, Nat.reduceEqDiff, not_false_eq_true, x_isLst, x_isSet, List.map_cons, List.map_nil, Option.map_none, Option.bind_none, wipeE])
  rw [eds_filter (S := fun v => decide (v ∈ side))] at h
  have h2 := fSum_i (l := ((es.filter fun e => decide (e.a ∈ side) != decide (e.b ∈ side)).map (·.r)))
  rw [cost_sum (S := fun v => decide (v ∈ side))] at h2
  unfold iD at h2
  unfold m__law_cost b__law_cost
  simp only [x_bind, bk_ok, bk_ite, x_ret, x_lift, lk_some, lk_ite, app_ite, x_eC, x_eV, vk_imm, vk_own, vk_bor, x_give, gk_own, x_bin, x_un, x_ix, x_tru, x_eB, dBl_bl, dTru_bl, dTru_int, dTru_lst, x_and, x_or, x_not, x_eAnd, x_eOr, x_eNot, x_eIf, x_chain, x_aNil, x_aCons, x_aVr, rk_own, rk_io, x_aVb, tk_own, tk_io, tk_imm, tk_bor, x_eTup, x_eLst, imms_nil, imms_im, x_eF, x_call, ixV_C, jk_imm, jk_own, jk_io, jk_bor, flk_int, x_lenV, nk_imm, nk_own, nk_io, nk_bor, x_inV, hk_imm, hk_own, hk_io, hk_bor, x_sNx, x_pass, x_cont, x_brk, x_seq, sk_nx, sk_rt, sk_rtO, sk_ct, sk_bk, sk_ite, x_drop, x_sRet, x_sRetO, x_sIf, x_asg, x_asgO, x_gN, x_gO, x_gNil, x_gCons, x_gTt, x_gTl, x_sApp, x_sSet, x_chM, ck_own, ck_io, x_iOf, x_iRg, x_fn, fk_rt, fk_nx, fk_ite, ios_z, ios_s, keep_io, keep_imm, keep_own, keep_bor, keep_no, dSub_i, dAdd_i, dLt_i, dLe_i, dGt_i, dGe_i, dEq_int, dNe_int, ix_lst, ix_scr, ix_tup, atI_0, atI_1, atI_2, atI_3, List.getElem?_cons_zero, List.getElem?_cons_succ, List.set_cons_zero, List.set_cons_succ, List.length_cons, List.length_nil, List.cons_append, List.nil_append, List.replicate_succ, List.replicate_zero, Option.map_some, Option.bind_some, Nat.reduceAdd, Nat.reduceSub, Nat.reduceLT, Nat.reduceLeDiff, if_true, if_false, Bool.false_eq_true, decide_eq_true_eq, reduceIte, ne_eq, not_false_eq_true, Nat.lt_add_left_iff_pos, Nat.zero_lt_succ, x_call2, x_call3, dk2, dk3, ixV_V, Nat.reduceEqDiff, not_false_eq_true, x_isLst, x_isSet, List.map_cons, List.map_nil, Option.map_none, Option.bind_none, h, h2, wipeE]
/-! ### worth -/
theorem gain_snoc {v : Nat} : ∀ {es : List Ed} {fs : List Int} {e : Ed} {f : Int}, es.length = fs.length → gain (es ++ [e]) (fs ++ [f]) v = gain es fs v + sg e v * f
  | [], [], e, f, _ => by show sg e v * f + 0 = 0 + sg e v * f; omega
  | [], _ :: _, _, _, h => by simp at h
  | _ :: _, [], _, _, h => by simp at h
  | e0 :: es, f0 :: fs, e, f, h => by
    rw [List.cons_append, List.cons_append, gain_cons, gain_cons, gain_snoc (by simpa using h)]; omega
theorem take_snoc {α : Type} {l : List α} {k : Nat} {x : α} (h : l[k]? = some x) : l.take (k + 1) = l.take k ++ [x] := by rw [List.take_add_one, h]; rfl
theorem rgD_get {n k : Nat} {d : D} (h : (rgD 0 n)[k]? = some d) : k < n ∧ d = .int (k : Int) := by
  unfold rgD at h
  rw [List.getElem?_map] at h
  by_cases c : k < n
  · rw [List.getElem?_range c] at h; cases h; exact ⟨c, by simp⟩
  · rw [List.getElem?_eq_none (by rw [List.length_range]; omega)] at h; cases h
theorem rgD_len {lo : Int} {n : Nat} : (rgD lo n).length = n := by unfold rgD; rw [List.length_map, List.length_range]
theorem fLen_eds {es : List Ed} : fLen [edsD es] = some (.int ((es.length : Nat) : Int)) := by
  show some (D.int (((es.map Ed.d).length : Nat) : Int)) = _
  rw [List.length_map]
theorem fLen_iD {l : List Int} : fLen [iD l] = some (.int ((l.length : Nat) : Int)) := by
  show some (D.int (((l.map D.int).length : Nat) : Int)) = _
  rw [List.length_map]
theorem rg1_n {n : Nat} (h : n ≤ 1000) : rg1 [.int (n : Int)] = some (rgD 0 n) := by
  show (if (n : Int) ≤ 16777216 ∧ -16777216 ≤ (n : Int) then some (rgD 0 ((n : Int)).toNat) else none) = _
  rw [if_pos ⟨by omega, by omega⟩, Int.toNat_natCast]
end M

set_option Elab.async false
set_option linter.all false
set_option maxRecDepth 100000
set_option maxHeartbeats 1000000
namespace M
open PySem L2
theorem ev_lworth {n : Nat} {es : List Ed} {fs : List Int} (he : es.length ≤ 1000) (hl : fs.length = es.length) (ok : ∀ e ∈ es, EdOk n e) : m__law_worth [.imm (edsD es), .imm (iD fs)] = some (.ok (.int (gain es fs 0)), [.no, .no]) := by
  obtain ⟨δ', h1, y3, rfl⟩ := sFor_inv (I := (iRg rg1 (aCons (eF fLen (aCons (eV 0) aNil)) aNil))) (T := gN 3) (S := (sSeq (sIf (eB (eBin dEq (eIx (eIxV 0 (eV 3)) (eC (.int 0))) (eC (.int 0)))) (sAsg (gN 2) (eBin dAdd (eV 2) (eIxV 1 (eV 3)))) sNx) (sIf (eB (eBin dEq (eIx (eIxV 0 (eV 3)) (eC (.int 1))) (eC (.int 0)))) (sAsg (gN 2) (eBin dSub (eV 2) (eIxV 1 (eV 3)))) sNx))) (ds := rgD 0 es.length)
    (δ := [.imm (edsD es), .imm (iD fs), .imm (.int 0), .no]) (δ0 := [.imm (edsD es), .imm (iD fs), .imm (.int 0), .no])
    (fun k δ => ∃ y3, δ = [.imm (edsD es), .imm (iD fs), .imm (.int (gain (es.take k) (fs.take k) 0)), y3]) (by simp only [x_bind, bk_ok, bk_ite, x_ret, x_lift, lk_some, lk_ite, app_ite, x_eC, x_eV, vk_imm, vk_own, vk_bor, x_give, gk_own, x_bin, x_un, x_ix, x_tru, x_eB, dBl_bl, dTru_bl, dTru_int, dTru_lst, x_and, x_or, x_not, x_eAnd, x_eOr, x_eNot, x_eIf, x_chain, x_aNil, x_aCons, x_aVr, rk_own, rk_io, x_aVb, tk_own, tk_io, tk_imm, tk_bor, x_eTup, x_eLst, imms_nil, imms_im, x_eF, x_call, ixV_C, jk_imm, jk_own, jk_io, jk_bor, flk_int, x_lenV, nk_imm, nk_own, nk_io, nk_bor, x_inV, hk_imm, hk_own, hk_io, hk_bor, x_sNx, x_pass, x_cont, x_brk, x_seq, sk_nx, sk_rt, sk_rtO, sk_ct, sk_bk, sk_ite, x_drop, x_sRet, x_sRetO, x_sIf, x_asg, x_asgO, x_gN, x_gO, x_gNil, x_gCons, x_gTt, x_gTl, x_sApp, x_sSet, x_chM, ck_own, ck_io, x_iOf, x_iRg, x_fn, fk_rt, fk_nx, fk_ite, ios_z, ios_s, keep_io, keep_imm, keep_own, keep_bor, keep_no, dSub_i, dAdd_i, dLt_i, dLe_i, dGt_i, dGe_i, dEq_int, dNe_int, ix_lst, ix_scr, ix_tup, atI_0, atI_1, atI_2, atI_3, List.getElem?_cons_zero, List.getElem?_cons_succ, List.set_cons_zero, List.set_cons_succ, List.length_cons, List.length_nil, List.cons_append, List.nil_append, List.replicate_succ, List.replicate_zero, Option.map_some, Option.bind_some, Nat.reduceAdd, Nat.reduceSub, Nat.reduceLT, Nat.reduceLeDiff, if_true, if_false, Bool.false_eq_true, decide_eq_true_eq, reduceIte, ne_eq, not_false_eq_true, Nat.lt_add_left_iff_pos, Nat.zero_lt_succ, x_call2, x_call3, dk2, dk3, ixV_V, Nat.reduceEqDiff, not_false_eq_true, x_isLst, x_isSet, List.map_cons, List.map_nil, Option.map_none, Option.bind_none, fLen_eds, rg1_n he]) ⟨.no, rfl⟩ (fun k d δ hd hδ => by
      obtain ⟨y3, rfl⟩ := hδ
      obtain ⟨hk, rfl⟩ := rgD_get hd
      have g1 : es[k]? = some es[k] := List.getElem?_eq_getElem hk
      have hkf : k < fs.length := by omega
      have g2 : fs[k]? = some fs[k] := List.getElem?_eq_getElem hkf
      have a1 : dIx (edsD es) (.int (k : Int)) = some es[k].d := at_map g1
      have a2 : dIx (iD fs) (.int (k : Int)) = some (.int fs[k]) := at_map g2
      have a3 : dIx es[k].d (.int 0) = some (.int (es[k].a : Int)) := by unfold Ed.d; exact atI_0
      have a4 : dIx es[k].d (.int 1) = some (.int (es[k].b : Int)) := by unfold Ed.d; exact atI_1
      have nab := (ok _ (List.getElem_mem hk)).2.2.1
      have hg : gain (es.take (k + 1)) (fs.take (k + 1)) 0 = gain (es.take k) (fs.take k) 0 + sg es[k] 0 * fs[k] := by
        rw [take_snoc g1, take_snoc g2, gain_snoc (by rw [List.length_take, List.length_take]; omega)]
      refine ⟨[.imm (edsD es), .imm (iD fs), .imm (.int (gain (es.take k) (fs.take k) 0)), .imm (.int (k : Int))], [.imm (edsD es), .imm (iD fs), .imm (.int (gain (es.take (k + 1)) (fs.take (k + 1)) 0)), .imm (.int (k : Int))], by simp only [x_bind, bk_ok, bk_ite, x_ret, x_lift, lk_some, lk_ite, app_ite, x_eC, x_eV, vk_imm, vk_own, vk_bor, x_give, gk_own, x_bin, x_un, x_ix, x_tru, x_eB, dBl_bl, dTru_bl, dTru_int, dTru_lst, x_and, x_or, x_not, x_eAnd, x_eOr, x_eNot, x_eIf, x_chain, x_aNil, x_aCons, x_aVr, rk_own, rk_io, x_aVb, tk_own, tk_io, tk_imm, tk_bor, x_eTup, x_eLst, imms_nil, imms_im, x_eF, x_call, ixV_C, jk_imm, jk_own, jk_io, jk_bor, flk_int, x_lenV, nk_imm, nk_own, nk_io, nk_bor, x_inV, hk_imm, hk_own, hk_io, hk_bor, x_sNx, x_pass, x_cont, x_brk, x_seq, sk_nx, sk_rt, sk_rtO, sk_ct, sk_bk, sk_ite, x_drop, x_sRet, x_sRetO, x_sIf, x_asg, x_asgO, x_gN, x_gO, x_gNil, x_gCons, x_gTt, x_gTl, x_sApp, x_sSet, x_chM, ck_own, ck_io, x_iOf, x_iRg, x_fn, fk_rt, fk_nx, fk_ite, ios_z, ios_s, keep_io, keep_imm, keep_own, keep_bor, keep_no, dSub_i, dAdd_i, dLt_i, dLe_i, dGt_i, dGe_i, dEq_int, dNe_int, ix_lst, ix_scr, ix_tup, atI_0, atI_1, atI_2, atI_3, List.getElem?_cons_zero, List.getElem?_cons_succ, List.set_cons_zero, List.set_cons_succ, List.length_cons, List.length_nil, List.cons_append, List.nil_append, List.replicate_succ, List.replicate_zero, Option.map_some, Option.bind_some, Nat.reduceAdd, Nat.reduceSub, Nat.reduceLT, Nat.reduceLeDiff, if_true, if_false, Bool.false_eq_true, decide_eq_true_eq, reduceIte, ne_eq, not_false_eq_true, Nat.lt_add_left_iff_pos, Nat.zero_lt_succ, x_call2, x_call3, dk2, dk3, ixV_V, Nat.reduceEqDiff, not_false_eq_true, x_isLst, x_isSet, List.map_cons, List.map_nil, Option.map_none, Option.bind_none], .inl ?_, ⟨_, rfl⟩⟩
      rw [hg]
      unfold sg
      by_cases c1 : es[k].a = 0
      · have c2 : ¬ es[k].b = 0 := by omega
        have c3 : ((es[k].a : Nat) : Int) = 0 := by omega
        have c4 : ¬ ((es[k].b : Nat) : Int) = 0 := by omega
        simp only [x_bind, bk_ok, bk_ite, x_ret, x_lift, lk_some, lk_ite, app_ite, x_eC, x_eV, vk_imm, vk_own, vk_bor, x_give, gk_own, x_bin, x_un, x_ix, x_tru, x_eB, dBl_bl, dTru_bl, dTru_int, dTru_lst, x_and, x_or, x_not, x_eAnd, x_eOr, x_eNot, x_eIf, x_chain, x_aNil, x_aCons, x_aVr, rk_own, rk_io, x_aVb, tk_own, tk_io, tk_imm, tk_bor, x_eTup, x_eLst, imms_nil, imms_im, x_eF, x_call, ixV_C, jk_imm, jk_own, jk_io, jk_bor, flk_int, x_lenV, nk_imm, nk_own, nk_io, nk_bor, x_inV, hk_imm, hk_own, hk_io, hk_bor, x_sNx, x_pass, x_cont, x_brk, x_seq, sk_nx, sk_rt, sk_rtO, sk_ct, sk_bk, sk_ite, x_drop, x_sRet, x_sRetO, x_sIf, x_asg, x_asgO, x_gN, x_gO, x_gNil, x_gCons, x_gTt, x_gTl, x_sApp, x_sSet, x_chM, ck_own, ck_io, x_iOf, x_iRg, x_fn, fk_rt, fk_nx, fk_ite, ios_z, ios_s, keep_io, keep_imm, keep_own, keep_bor, keep_no, dSub_i, dAdd_i, dLt_i, dLe_i, dGt_i, dGe_i, dEq_int, dNe_int, ix_lst, ix_scr, ix_tup, atI_0, atI_1, atI_2, atI_3, List.getElem?_cons_zero, List.getElem?_cons_succ, List.set_cons_zero, List.set_cons_succ, List.length_cons, List.length_nil, List.cons_append, List.nil_append, List.replicate_succ, List.replicate_zero, Option.map_some, Option.bind_some, Nat.reduceAdd, Nat.reduceSub, Nat.reduceLT, Nat.reduceLeDiff, if_true, if_false, Bool.false_eq_true, decide_eq_true_eq, reduceIte, ne_eq, not_false_eq_true, Nat.lt_add_left_iff_pos, Nat.zero_lt_succ, x_call2, x_call3, dk2, dk3, ixV_V, Nat.reduceEqDiff, not_false_eq_true, x_isLst, x_isSet, List.map_cons, List.map_nil, Option.map_none, Option.bind_none, a1, a2, a3, a4, c1, c2, c3, c4]
        simp
      · have c3 : ¬ ((es[k].a : Nat) : Int) = 0 := by omega
        by_cases c2 : es[k].b = 0
        · have c4 : ((es[k].b : Nat) : Int) = 0 := by omega
          simp only [x_bind, bk_ok, bk_ite, x_ret, x_lift, lk_some, lk_ite, app_ite, x_eC, x_eV, vk_imm, vk_own, vk_bor, x_give, gk_own, x_bin, x_un, x_ix, x_tru, x_eB, dBl_bl, dTru_bl, dTru_int, dTru_lst, x_and, x_or, x_not, x_eAnd, x_eOr, x_eNot, x_eIf, x_chain, x_aNil, x_aCons, x_aVr, rk_own, rk_io, x_aVb, tk_own, tk_io, tk_imm, tk_bor, x_eTup, x_eLst, imms_nil, imms_im, x_eF, x_call, ixV_C, jk_imm, jk_own, jk_io, jk_bor, flk_int, x_lenV, nk_imm, nk_own, nk_io, nk_bor, x_inV, hk_imm, hk_own, hk_io, hk_bor, x_sNx, x_pass, x_cont, x_brk, x_seq, sk_nx, sk_rt, sk_rtO, sk_ct, sk_bk, sk_ite, x_drop, x_sRet, x_sRetO, x_sIf, x_asg, x_asgO, x_gN, x_gO, x_gNil, x_gCons, x_gTt, x_gTl, x_sApp, x_sSet, x_chM, ck_own, ck_io, x_iOf, x_iRg, x_fn, fk_rt, fk_nx, fk_ite, ios_z, ios_s, keep_io, keep_imm, keep_own, keep_bor, keep_no, dSub_i, dAdd_i, dLt_i, dLe_i, dGt_i, dGe_i, dEq_int, dNe_int, ix_lst, ix_scr, ix_tup, atI_0, atI_1, atI_2, atI_3, List.getElem?_cons_zero, List.getElem?_cons_succ, List.set_cons_zero, List.set_cons_succ, List.length_cons, List.length_nil, List.cons_append, List.nil_append, List.replicate_succ, List.replicate_zero, Option.map_some, Option.bind_some, Nat.reduceAdd, Nat.reduceSub, Nat.reduceLT, Nat.reduceLeDiff, if_true, if_false, Bool.false_eq_true, decide_eq_true_eq, reduceIte, ne_eq, not_false_eq_true, Nat.lt_add_left_iff_pos, Nat.zero_lt_succ, x_call2, x_call3, dk2, dk3, ixV_V, Nat.reduceEqDiff, not_false_eq_true, x_isLst, x_isSet, List.map_cons, List.map_nil, Option.map_none, Option.bind_none, a1, a2, a3, a4, c1, c2, c3, c4]
          simp
          omega
        · have c4 : ¬ ((es[k].b : Nat) : Int) = 0 := by omega
          simp only [x_bind, bk_ok, bk_ite, x_ret, x_lift, lk_some, lk_ite, app_ite, x_eC, x_eV, vk_imm, vk_own, vk_bor, x_give, gk_own, x_bin, x_un, x_ix, x_tru, x_eB, dBl_bl, dTru_bl, dTru_int, dTru_lst, x_and, x_or, x_not, x_eAnd, x_eOr, x_eNot, x_eIf, x_chain, x_aNil, x_aCons, x_aVr, rk_own, rk_io, x_aVb, tk_own, tk_io, tk_imm, tk_bor, x_eTup, x_eLst, imms_nil, imms_im, x_eF, x_call, ixV_C, jk_imm, jk_own, jk_io, jk_bor, flk_int, x_lenV, nk_imm, nk_own, nk_io, nk_bor, x_inV, hk_imm, hk_own, hk_io, hk_bor, x_sNx, x_pass, x_cont, x_brk, x_seq, sk_nx, sk_rt, sk_rtO, sk_ct, sk_bk, sk_ite, x_drop, x_sRet, x_sRetO, x_sIf, x_asg, x_asgO, x_gN, x_gO, x_gNil, x_gCons, x_gTt, x_gTl, x_sApp, x_sSet, x_chM, ck_own, ck_io, x_iOf, x_iRg, x_fn, fk_rt, fk_nx, fk_ite, ios_z, ios_s, keep_io, keep_imm, keep_own, keep_bor, keep_no, dSub_i, dAdd_i, dLt_i, dLe_i, dGt_i, dGe_i, dEq_int, dNe_int, ix_lst, ix_scr, ix_tup, atI_0, atI_1, atI_2, atI_3, List.getElem?_cons_zero, List.getElem?_cons_succ, List.set_cons_zero, List.set_cons_succ, List.length_cons, List.length_nil, List.cons_append, List.nil_append, List.replicate_succ, List.replicate_zero, Option.map_some, Option.bind_some, Nat.reduceAdd, Nat.reduceSub, Nat.reduceLT, Nat.reduceLeDiff, if_true, if_false, Bool.false_eq_true, decide_eq_true_eq, reduceIte, ne_eq, not_false_eq_true, Nat.lt_add_left_iff_pos, Nat.zero_lt_succ, x_call2, x_call3, dk2, dk3, ixV_V, Nat.reduceEqDiff, not_false_eq_true, x_isLst, x_isSet, List.map_cons, List.map_nil, Option.map_none, Option.bind_none, a1, a2, a3, a4, c1, c2, c3, c4]
          simp)
  rw [rgD_len, List.take_length, ← hl, List.take_length] at h1
  unfold m__law_worth b__law_worth
  simp only [x_bind, bk_ok, bk_ite, x_ret, x_lift, lk_some, lk_ite, app_ite, x_eC, x_eV, vk_imm, vk_own, vk_bor, x_give, gk_own, x_bin, x_un, x_ix, x_tru, x_eB, dBl_bl, dTru_bl, dTru_int, dTru_lst, x_and, x_or, x_not, x_eAnd, x_eOr, x_eNot, x_eIf, x_chain, x_aNil, x_aCons, x_aVr, rk_own, rk_io, x_aVb, tk_own, tk_io, tk_imm, tk_bor, x_eTup, x_eLst, imms_nil, imms_im, x_eF, x_call, ixV_C, jk_imm, jk_own, jk_io, jk_bor, flk_int, x_lenV, nk_imm, nk_own, nk_io, nk_bor, x_inV, hk_imm, hk_own, hk_io, hk_bor, x_sNx, x_pass, x_cont, x_brk, x_seq, sk_nx, sk_rt, sk_rtO, sk_ct, sk_bk, sk_ite, x_drop, x_sRet, x_sRetO, x_sIf, x_asg, x_asgO, x_gN, x_gO, x_gNil, x_gCons, x_gTt, x_gTl, x_sApp, x_sSet, x_chM, ck_own, ck_io, x_iOf, x_iRg, x_fn, fk_rt, fk_nx, fk_ite, ios_z, ios_s, keep_io, keep_imm, keep_own, keep_bor, keep_no, dSub_i, dAdd_i, dLt_i, dLe_i, dGt_i, dGe_i, dEq_int, dNe_int, ix_lst, ix_scr, ix_tup, atI_0, atI_1, atI_2, atI_3, List.getElem?_cons_zero, List.getElem?_cons_succ, List.set_cons_zero, List.set_cons_succ, List.length_cons, List.length_nil, List.cons_append, List.nil_append, List.replicate_succ, List.replicate_zero, Option.map_some, Option.bind_some, Nat.reduceAdd, Nat.reduceSub, Nat.reduceLT, Nat.reduceLeDiff, if_true, if_false, Bool.false_eq_true, decide_eq_true_eq, reduceIte, ne_eq, not_false_eq_true, Nat.lt_add_left_iff_pos, Nat.zero_lt_succ, x_call2, x_call3, dk2, dk3, ixV_V, Nat.reduceEqDiff, not_false_eq_true, x_isLst, x_isSet, List.map_cons, List.map_nil, Option.map_none, Option.bind_none, h1]
/-! ### gains -/
def gnL (n : Nat) (es : List Ed) (fs : List Int) : List Int := (List.range n).map (gain es fs)
theorem gnL_len {n : Nat} {es : List Ed} {fs : List Int} : (gnL n es fs).length = n := by unfold gnL; rw [List.length_map, List.length_range]
theorem gnL_get {n v : Nat} {es : List Ed} {fs : List Int} (h : v < n) : (gnL n es fs)[v]? = some (gain es fs v) := by
  unfold gnL; rw [List.getElem?_map, List.getElem?_range h]; rfl
theorem gnL_nil {n : Nat} : gnL n [] [] = List.replicate n 0 := by
  unfold gnL
  refine List.ext_getElem? fun v => ?_
  rw [List.getElem?_map, List.getElem?_replicate]
  by_cases c : v < n
  · rw [List.getElem?_range c, if_pos c]; rfl
  · rw [List.getElem?_eq_none (by rw [List.length_range]; omega), if_neg c]; rfl
theorem gnL_step {n k : Nat} {es : List Ed} {fs : List Int} {e : Ed} {f : Int} (ok : EdOk n e) (g1 : es[k]? = some e) (g2 : fs[k]? = some f) (hl : fs.length = es.length) :
    ((gnL n (es.take k) (fs.take k)).set e.a (gain (es.take k) (fs.take k) e.a + f)).set e.b (gain (es.take k) (fs.take k) e.b - f) = gnL n (es.take (k + 1)) (fs.take (k + 1)) := by
  obtain ⟨h1, h2, h3, _⟩ := ok
  refine List.ext_getElem? fun v => ?_
  have hk := (List.getElem?_eq_some_iff.mp g1).1
  have hlt : (es.take k).length = (fs.take k).length := by rw [List.length_take, List.length_take]; omega
  have hs : ∀ v, gain (es.take (k + 1)) (fs.take (k + 1)) v = gain (es.take k) (fs.take k) v + sg e v * f := fun v => by rw [take_snoc g1, take_snoc g2, gain_snoc hlt]
  by_cases c : v < n
  · rw [gnL_get c, hs]
    by_cases cb : e.b = v
    · subst cb
      rw [List.getElem?_set_self (by rw [List.length_set, gnL_len]; exact h2)]
      unfold sg; rw [if_neg h3, if_pos rfl]
      congr 1; omega
    · rw [List.getElem?_set_ne cb]
      by_cases ca : e.a = v
      · subst ca
        rw [List.getElem?_set_self (by rw [gnL_len]; exact h1)]
        unfold sg; rw [if_pos rfl, if_neg cb]
        congr 1; omega
      · rw [List.getElem?_set_ne ca, gnL_get c]
        unfold sg; rw [if_neg ca, if_neg cb]; simp
  · have : ∀ l : List Int, l.length = n → l[v]? = none := fun l hl => List.getElem?_eq_none (by omega)
    rw [this _ (by rw [List.length_set, List.length_set, gnL_len]), this _ gnL_len]
theorem dSet_gn {n v : Nat} {l : List Int} {x : Int} (hl : l.length = n) (h : v < n) : dSet (.int (v : Int)) (.int x) (iD l) = some (iD (l.set v x)) := dSet_i (by omega)
theorem blsD_map : ∀ l : List Bool, blsD (l.map D.bl) = some l
  | [] => rfl
  | x :: l => by rw [List.map_cons]; unfold blsD; rw [blsD_map l]; rfl
theorem fAny_b {l : List Bool} : fAny [.lst (l.map D.bl)] = some (.bl (l.any id)) := by
  unfold fAny
  simp only [blsD_map]
theorem blsD_int {l : List Int} (h : l ≠ []) : blsD (l.map D.int) = none := by
  cases l with
  | nil => exact absurd rfl h
  | cons x l => rfl
theorem fAny_i {l : List Int} : fAny [iD l] = some (.bl (l.any (· != 0))) := by
  unfold fAny iD
  cases l with
  | nil => rfl
  | cons x l =>
    simp only [blsD_int (l := x :: l) (by simp), intsD_map]
theorem dGt_abs {x y : Int} : dGt (.int x) (.int y) = some (.bl (decide (y < x))) := rfl
theorem cut_iD {l : List Int} : dSlL (iD l) (some 2) none = some (iD (l.drop 2)) := by
  have h1 : HT.sIx l.length 0 (some 2) = min 2 l.length := HT.sIx_nat _ _ 2
  have h2 : HT.sIx l.length l.length none = l.length := rfl
  show some (D.lst (cutD (l.map D.int) (some 2) none)) = _
  unfold cutD iD
  rw [List.length_map, h1, h2, ← List.map_drop, ← List.map_take]
  congr 3
  rw [List.take_of_length_le (by rw [List.length_drop]; omega)]
  by_cases c : 2 ≤ l.length
  · rw [Nat.min_eq_left c]
  · rw [List.drop_of_length_le (show l.length ≤ min 2 l.length by omega), List.drop_of_length_le (by omega)]
end M

set_option Elab.async false
set_option linter.all false
set_option maxRecDepth 100000
set_option maxHeartbeats 1000000
namespace M
open PySem L2
def sideL (n : Nat) (S : Nat → Bool) : List Nat := (List.range n).filter S
theorem side_mem {n v : Nat} {S : Nat → Bool} : v ∈ sideL n S ↔ v < n ∧ S v = true := by unfold sideL; rw [List.mem_filter, List.mem_range]
theorem keyInts_map : ∀ l : List Nat, keyInts (l.map fun v : Nat => (.inl (v : Int) : Key)) = some (l.map fun v : Nat => (v : Int))
  | [] => rfl
  | x :: l => by rw [List.map_cons]; unfold keyInts; rw [keyInts_map l]; rfl
theorem sort_keys {n : Nat} {l : List Nat} (nd : l.Nodup) (lt : ∀ v ∈ l, v < n) : sortI (l.map fun v : Nat => (v : Int)) = (sideL n fun v => decide (v ∈ l)).map fun v : Nat => (v : Int) := by
  refine sortI_uniq ((sortI_perm _).trans ?_) (sortI_sorted _) ?_
  · refine List.Perm.map _ ((List.perm_ext_iff_of_nodup nd (List.Pairwise.filter _ List.nodup_range)).mpr fun v => ?_)
    rw [show v ∈ List.filter (fun v => decide (v ∈ l)) (List.range n) ↔ _ from side_mem (S := fun v => decide (v ∈ l))]
    exact ⟨fun h => ⟨lt v h, decide_eq_true h⟩, fun h => of_decide_eq_true h.2⟩
  · refine List.Pairwise.map _ (fun a b h => ?_) (List.Pairwise.filter _ (List.pairwise_lt_range (n := n)))
    have h : a < b := h
    omega
theorem fSort_fd {n : Nat} {F : Fd} (nd : (F.map (·.1)).Nodup) (lt : ∀ v ∈ F.map (·.1), v < n) (hl : F.length < 64) : fSortI [fdD F] = some (nD (sideL n fun v => decide (v ∈ F.map (·.1)))) := by
  have hk : (F.map fun p => ((.inl (p.1 : Int) : Key), oD p.2)).map (·.1) = (F.map (·.1)).map fun v : Nat => (.inl (v : Int) : Key) := by rw [List.map_map, List.map_map]; rfl
  show (keyInts ((F.map fun p => ((.inl (p.1 : Int) : Key), oD p.2)).map (·.1))).bind (fun ns => if ns.length < 64 then some (D.lst ((sortI ns).map D.int)) else none) = _
  rw [hk, keyInts_map, Option.bind_some, if_pos (by rw [List.length_map, List.length_map]; exact hl), sort_keys nd lt]
  unfold nD
  rw [List.map_map]; rfl
theorem ev_narrow {n : Nat} {es : List Ed} {fs : List Int} (h2 : 2 ≤ n) (hn : n ≤ 60) (he : es.length ≤ 1000) (hl : fs.length = es.length) (ok : ∀ e ∈ es, EdOk n e) : ∃ S, m_narrow_side [.imm (.int (n : Int)), .imm (edsD es), .imm (iD fs)] = some (.ok (nD (sideL n S)), [.no, .no, .no]) ∧ ∀ v, S v = true ↔ Rch es fs true 0 v := by
  obtain ⟨near, t1, nok⟩ := ev_touch (n := n) (by omega) he ok
  obtain ⟨F, w1, B, hd⟩ := ev_ways (out := true) (s := 0) (fs := fs) (by omega) ok hl nok (.inl rfl) (by omega)
  refine ⟨fun v => decide (v ∈ F.map (·.1)), ?_, fun v => by rw [decide_eq_true_eq]; exact B.all hd⟩
  have h3 := fSort_fd B.nd (fun v hv => by obtain ⟨p, hp, rfl⟩ := List.mem_map.mp hv; exact B.lt p hp) (by have := B.len; omega)
  have c2 := call_5 (δ := [.imm (.int (n : Int)), .imm (edsD es), .imm (iD fs)]) w1
  have c2 : callM m_ways_from [.im (llD near), .im (edsD es), .im (iD fs), .im (.int 0), .im (.bl true)] [.imm (.int (n : Int)), .imm (edsD es), .imm (iD fs)] = _ := c2
  unfold m_narrow_side b_narrow_side
  simp only [x_bind, bk_ok, bk_ite, x_ret, x_lift, lk_some, lk_ite, app_ite, x_eC, x_eV, vk_imm, vk_own, vk_bor, x_give, gk_own, x_bin, x_un, x_ix, x_tru, x_eB, dBl_bl, dTru_bl, dTru_int, dTru_lst, x_and, x_or, x_not, x_eAnd, x_eOr, x_eNot, x_eIf, x_chain, x_aNil, x_aCons, x_aVr, rk_own, rk_io, x_aVb, tk_own, tk_io, tk_imm, tk_bor, x_eTup, x_eLst, imms_nil, imms_im, x_eF, x_call, ixV_C, jk_imm, jk_own, jk_io, jk_bor, flk_int, x_lenV, nk_imm, nk_own, nk_io, nk_bor, x_inV, hk_imm, hk_own, hk_io, hk_bor, x_sNx, x_pass, x_cont, x_brk, x_seq, sk_nx, sk_rt, sk_rtO, sk_ct, sk_bk, sk_ite, x_drop, x_sRet, x_sRetO, x_sIf, x_asg, x_asgO, x_gN, x_gO, x_gNil, x_gCons, x_gTt, x_gTl, x_sApp, x_sSet, x_chM, ck_own, ck_io, x_iOf, x_iRg, x_fn, fk_rt, fk_nx, fk_ite, ios_z, ios_s, keep_io, keep_imm, keep_own, keep_bor, keep_no, dSub_i, dAdd_i, dLt_i, dLe_i, dGt_i, dGe_i, dEq_int, dNe_int, ix_lst, ix_scr, ix_tup, atI_0, atI_1, atI_2, atI_3, List.getElem?_cons_zero, List.getElem?_cons_succ, List.set_cons_zero, List.set_cons_succ, List.length_cons, List.length_nil, List.cons_append, List.nil_append, List.replicate_succ, List.replicate_zero, Option.map_some, Option.bind_some, Nat.reduceAdd, Nat.reduceSub, Nat.reduceLT, Nat.reduceLeDiff, if_true, if_false, Bool.false_eq_true, decide_eq_true_eq, reduceIte, ne_eq, not_false_eq_true, Nat.lt_add_left_iff_pos, Nat.zero_lt_succ, x_call2, x_call3, dk2, dk3, ixV_V, Nat.reduceEqDiff, not_false_eq_true, x_isLst, x_isSet, List.map_cons, List.map_nil, Option.map_none, Option.bind_none, t1, c2, h3]
def idI (S : Nat → Bool) : D → Bool := fun d => match d with
  | .int i => S i.toNat
  | _ => false
theorem rg_filter {n : Nat} {S : Nat → Bool} : ((rgD 0 n).filter (idI S)) = (sideL n S).map fun v : Nat => D.int (v : Int) := by
  unfold rgD sideL
  rw [List.filter_map]
  have : (idI S ∘ fun i : Nat => D.int (0 + (i : Int))) = S := by
    funext v; show S ((0 + (v : Int)).toNat) = S v; congr 1; omega
  rw [this]
  exact List.map_congr_left fun v _ => by rw [Int.zero_add]
theorem ev_wide {n : Nat} {es : List Ed} {fs : List Int} (h2 : 2 ≤ n) (hn : n ≤ 60) (he : es.length ≤ 1000) (hl : fs.length = es.length) (ok : ∀ e ∈ es, EdOk n e) : ∃ S, m_wide_side [.imm (.int (n : Int)), .imm (edsD es), .imm (iD fs)] = some (.ok (nD (sideL n S)), [.no, .no, .no]) ∧ ∀ v, S v = false ↔ Rch es fs false 1 v := by
  obtain ⟨near, t1, nok⟩ := ev_touch (n := n) (by omega) he ok
  obtain ⟨F, w1, B, hd⟩ := ev_ways (out := false) (s := 1) (fs := fs) (by omega) ok hl nok (.inl rfl) (by omega)
  refine ⟨fun v => !decide (v ∈ F.map (·.1)), ?_, fun v => by rw [← B.all hd]; simp⟩
  have c2 := call_5 (δ := [.imm (.int (n : Int)), .imm (edsD es), .imm (iD fs), .no, .no]) w1
  have c2 : callM m_ways_from [.im (llD near), .im (edsD es), .im (iD fs), .im (.int 1), .im (.bl false)] [.imm (.int (n : Int)), .imm (edsD es), .imm (iD fs), .no, .no] = _ := c2
  have hi : (iRg rg1 (aCons (eV 0) aNil)) [.imm (.int (n : Int)), .imm (edsD es), .imm (iD fs), .imm (fdD F), .no] = some (.ok (rgD 0 n), [.imm (.int (n : Int)), .imm (edsD es), .imm (iD fs), .imm (fdD F), .no]) := by simp only [x_bind, bk_ok, bk_ite, x_ret, x_lift, lk_some, lk_ite, app_ite, x_eC, x_eV, vk_imm, vk_own, vk_bor, x_give, gk_own, x_bin, x_un, x_ix, x_tru, x_eB, dBl_bl, dTru_bl, dTru_int, dTru_lst, x_and, x_or, x_not, x_eAnd, x_eOr, x_eNot, x_eIf, x_chain, x_aNil, x_aCons, x_aVr, rk_own, rk_io, x_aVb, tk_own, tk_io, tk_imm, tk_bor, x_eTup, x_eLst, imms_nil, imms_im, x_eF, x_call, ixV_C, jk_imm, jk_own, jk_io, jk_bor, flk_int, x_lenV, nk_imm, nk_own, nk_io, nk_bor, x_inV, hk_imm, hk_own, hk_io, hk_bor, x_sNx, x_pass, x_cont, x_brk, x_seq, sk_nx, sk_rt, sk_rtO, sk_ct, sk_bk, sk_ite, x_drop, x_sRet, x_sRetO, x_sIf, x_asg, x_asgO, x_gN, x_gO, x_gNil, x_gCons, x_gTt, x_gTl, x_sApp, x_sSet, x_chM, ck_own, ck_io, x_iOf, x_iRg, x_fn, fk_rt, fk_nx, fk_ite, ios_z, ios_s, keep_io, keep_imm, keep_own, keep_bor, keep_no, dSub_i, dAdd_i, dLt_i, dLe_i, dGt_i, dGe_i, dEq_int, dNe_int, ix_lst, ix_scr, ix_tup, atI_0, atI_1, atI_2, atI_3, List.getElem?_cons_zero, List.getElem?_cons_succ, List.set_cons_zero, List.set_cons_succ, List.length_cons, List.length_nil, List.cons_append, List.nil_append, List.replicate_succ, List.replicate_zero, Option.map_some, Option.bind_some, Nat.reduceAdd, Nat.reduceSub, Nat.reduceLT, Nat.reduceLeDiff, if_true, if_false, Bool.false_eq_true, decide_eq_true_eq, reduceIte, ne_eq, not_false_eq_true, Nat.lt_add_left_iff_pos, Nat.zero_lt_succ, x_call2, x_call3, dk2, dk3, ixV_V, Nat.reduceEqDiff, not_false_eq_true, x_isLst, x_isSet, List.map_cons, List.map_nil, Option.map_none, Option.bind_none, rg1_n (show n ≤ 1000 by omega)]
  have h := eLc_pure (T := gN 4) (C := (eB (eBin (dIn true) (eV 4) (eV 3)))) (E := eV 4) (vs := [4]) (p := idI fun v => !decide (v ∈ F.map (·.1))) (f := id) hi (by rw [rgD_len]; omega) (fun d hd => by
    obtain ⟨k, hk, ek⟩ := List.mem_iff_getElem.mp hd
    obtain ⟨hk, rfl⟩ := rgD_get (by rw [List.getElem?_eq_getElem hk, ek] : (rgD 0 n)[k]? = some d)
    have ep : idI (fun v => !decide (v ∈ F.map (·.1))) (.int (k : Int)) = !decide (k ∈ F.map (·.1)) := by show (!decide (((k : Int)).toNat ∈ F.map (·.1))) = _; rw [Int.toNat_natCast]
    rw [ep]
    refine ⟨[.imm (.int (n : Int)), .imm (edsD es), .imm (iD fs), .imm (fdD F), .imm (.int (k : Int))], [.imm (.int (n : Int)), .imm (edsD es), .imm (iD fs), .imm (fdD F), .imm (.int (k : Int))], ?_, ?_, fun _ => ?_, fun _ => ⟨[.imm (.int (n : Int)), .imm (edsD es), .imm (iD fs), .imm (fdD F), .imm (.int (k : Int))], ?_, ?_⟩⟩
    · simp only [x_bind, bk_ok, bk_ite, x_ret, x_lift, lk_some, lk_ite, app_ite, x_eC, x_eV, vk_imm, vk_own, vk_bor, x_give, gk_own, x_bin, x_un, x_ix, x_tru, x_eB, dBl_bl, dTru_bl, dTru_int, dTru_lst, x_and, x_or, x_not, x_eAnd, x_eOr, x_eNot, x_eIf, x_chain, x_aNil, x_aCons, x_aVr, rk_own, rk_io, x_aVb, tk_own, tk_io, tk_imm, tk_bor, x_eTup, x_eLst, imms_nil, imms_im, x_eF, x_call, ixV_C, jk_imm, jk_own, jk_io, jk_bor, flk_int, x_lenV, nk_imm, nk_own, nk_io, nk_bor, x_inV, hk_imm, hk_own, hk_io, hk_bor, x_sNx, x_pass, x_cont, x_brk, x_seq, sk_nx, sk_rt, sk_rtO, sk_ct, sk_bk, sk_ite, x_drop, x_sRet, x_sRetO, x_sIf, x_asg, x_asgO, x_gN, x_gO, x_gNil, x_gCons, x_gTt, x_gTl, x_sApp, x_sSet, x_chM, ck_own, ck_io, x_iOf, x_iRg, x_fn, fk_rt, fk_nx, fk_ite, ios_z, ios_s, keep_io, keep_imm, keep_own, keep_bor, keep_no, dSub_i, dAdd_i, dLt_i, dLe_i, dGt_i, dGe_i, dEq_int, dNe_int, ix_lst, ix_scr, ix_tup, atI_0, atI_1, atI_2, atI_3, List.getElem?_cons_zero, List.getElem?_cons_succ, List.set_cons_zero, List.set_cons_succ, List.length_cons, List.length_nil, List.cons_append, List.nil_append, List.replicate_succ, List.replicate_zero, Option.map_some, Option.bind_some, Nat.reduceAdd, Nat.reduceSub, Nat.reduceLT, Nat.reduceLeDiff, if_true, if_false, Bool.false_eq_true, decide_eq_true_eq, reduceIte, ne_eq, not_false_eq_true, Nat.lt_add_left_iff_pos, Nat.zero_lt_succ, x_call2, x_call3, dk2, dk3, ixV_V, Nat.reduceEqDiff, not_false_eq_true, x_isLst, x_isSet, List.map_cons, List.map_nil, Option.map_none, Option.bind_none, wipeE]
    · simp only [x_bind, bk_ok, bk_ite, x_ret, x_lift, lk_some, lk_ite, app_ite, x_eC, x_eV, vk_imm, vk_own, vk_bor, x_give, gk_own, x_bin, x_un, x_ix, x_tru, x_eB, dBl_bl, dTru_bl, dTru_int, dTru_lst, x_and, x_or, x_not, x_eAnd, x_eOr, x_eNot, x_eIf, x_chain, x_aNil, x_aCons, x_aVr, rk_own, rk_io, x_aVb, tk_own, tk_io, tk_imm, tk_bor, x_eTup, x_eLst, imms_nil, imms_im, x_eF, x_call, ixV_C, jk_imm, jk_own, jk_io, jk_bor, flk_int, x_lenV, nk_imm, nk_own, nk_io, nk_bor, x_inV, hk_imm, hk_own, hk_io, hk_bor, x_sNx, x_pass, x_cont, x_brk, x_seq, sk_nx, sk_rt, sk_rtO, sk_ct, sk_bk, sk_ite, x_drop, x_sRet, x_sRetO, x_sIf, x_asg, x_asgO, x_gN, x_gO, x_gNil, x_gCons, x_gTt, x_gTl, x_sApp, x_sSet, x_chM, ck_own, ck_io, x_iOf, x_iRg, x_fn, fk_rt, fk_nx, fk_ite, ios_z, ios_s, keep_io, keep_imm, keep_own, keep_bor, keep_no, dSub_i, dAdd_i, dLt_i, dLe_i, dGt_i, dGe_i, dEq_int, dNe_int, ix_lst, ix_scr, ix_tup, atI_0, atI_1, atI_2, atI_3, List.getElem?_cons_zero, List.getElem?_cons_succ, List.set_cons_zero, List.set_cons_succ, List.length_cons, List.length_nil, List.cons_append, List.nil_append, List.replicate_succ, List.replicate_zero, Option.map_some, Option.bind_some, Nat.reduceAdd, Nat.reduceSub, Nat.reduceLT, Nat.reduceLeDiff, if_true, if_false, Bool.false_eq_true, decide_eq_true_eq, reduceIte, ne_eq, not_false_eq_true, Nat.lt_add_left_iff_pos, Nat.zero_lt_succ, x_call2, x_call3, dk2, dk3, ixV_V, Nat.reduceEqDiff, not_false_eq_true, x_isLst, x_isSet, List.map_cons, List.map_nil, Option.map_none, Option.bind_none, dIn_fd]
    · simp only [x_bind, bk_ok, bk_ite, x_ret, x_lift, lk_some, lk_ite, app_ite, x_eC, x_eV, vk_imm, vk_own, vk_bor, x_give, gk_own, x_bin, x_un, x_ix, x_tru, x_eB, dBl_bl, dTru_bl, dTru_int, dTru_lst, x_and, x_or, x_not, x_eAnd, x_eOr, x_eNot, x_eIf, x_chain, x_aNil, x_aCons, x_aVr, rk_own, rk_io, x_aVb, tk_own, tk_io, tk_imm, tk_bor, x_eTup, x_eLst, imms_nil, imms_im, x_eF, x_call, ixV_C, jk_imm, jk_own, jk_io, jk_bor, flk_int, x_lenV, nk_imm, nk_own, nk_io, nk_bor, x_inV, hk_imm, hk_own, hk_io, hk_bor, x_sNx, x_pass, x_cont, x_brk, x_seq, sk_nx, sk_rt, sk_rtO, sk_ct, sk_bk, sk_ite, x_drop, x_sRet, x_sRetO, x_sIf, x_asg, x_asgO, x_gN, x_gO, x_gNil, x_gCons, x_gTt, x_gTl, x_sApp, x_sSet, x_chM, ck_own, ck_io, x_iOf, x_iRg, x_fn, fk_rt, fk_nx, fk_ite, ios_z, ios_s, keep_io, keep_imm, keep_own, keep_bor, keep_no, dSub_i, dAdd_i, dLt_i, dLe_i, dGt_i, dGe_i, dEq_int, dNe_int, ix_lst, ix_scr, ix_tup, atI_0, atI_1, atI_2, atI_3, List.getElem?_cons_zero, List.getElem?_cons_succ, List.set_cons_zero, List.set_cons_succ, List.length_cons, List.length_nil, List.cons_append, List.nil_append, List.replicate_succ, List.replicate_zero, Option.map_some, Option.bind_some, Nat.reduceAdd, Nat.reduceSub, Nat.reduceLT, Nat.reduceLeDiff, if_true, if_false, Bool.false_eq_true, decide_eq_true_eq, reduceIte, ne_eq, not_false_eq_true, Nat.lt_add_left_iff_pos, Nat.zero_lt_succ, x_call2, x_call3, dk2, dk3, ixV_V, Nat.reduceEqDiff, not_false_eq_true, x_isLst, x_isSet, List.map_cons, List.map_nil, Option.map_none, Option.bind_none, wipeE]
    · simp only [x_bind, bk_ok, bk_ite, x_ret, x_lift, lk_some, lk_ite, app_ite, x_eC, x_eV, vk_imm, vk_own, vk_bor, x_give, gk_own, x_bin, x_un, x_ix, x_tru, x_eB, dBl_bl, dTru_bl, dTru_int, dTru_lst, x_and, x_or, x_not, x_eAnd, x_eOr, x_eNot, x_eIf, x_chain, x_aNil, x_aCons, x_aVr, rk_own, rk_io, x_aVb, tk_own, tk_io, tk_imm, tk_bor, x_eTup, x_eLst, imms_nil, imms_im, x_eF, x_call, ixV_C, jk_imm, jk_own, jk_io, jk_bor, flk_int, x_lenV, nk_imm, nk_own, nk_io, nk_bor, x_inV, hk_imm, hk_own, hk_io, hk_bor, x_sNx, x_pass, x_cont, x_brk, x_seq, sk_nx, sk_rt, sk_rtO, sk_ct, sk_bk, sk_ite, x_drop, x_sRet, x_sRetO, x_sIf, x_asg, x_asgO, x_gN, x_gO, x_gNil, x_gCons, x_gTt, x_gTl, x_sApp, x_sSet, x_chM, ck_own, ck_io, x_iOf, x_iRg, x_fn, fk_rt, fk_nx, fk_ite, ios_z, ios_s, keep_io, keep_imm, keep_own, keep_bor, keep_no, dSub_i, dAdd_i, dLt_i, dLe_i, dGt_i, dGe_i, dEq_int, dNe_int, ix_lst, ix_scr, ix_tup, atI_0, atI_1, atI_2, atI_3, List.getElem?_cons_zero, List.getElem?_cons_succ, List.set_cons_zero, List.set_cons_succ, List.length_cons, List.length_nil, List.cons_append, List.nil_append, List.replicate_succ, List.replicate_zero, Option.map_some, Option.bind_some, Nat.reduceAdd, Nat.reduceSub, Nat.reduceLT, Nat.reduceLeDiff, if_true, if_false, Bool.false_eq_true, decide_eq_true_eq, reduceIte, ne_eq, not_false_eq_true, Nat.lt_add_left_iff_pos, Nat.zero_lt_succ, x_call2, x_call3, dk2, dk3, ixV_V, Nat.reduceEqDiff, not_false_eq_true, x_isLst, x_isSet, List.map_cons, List.map_nil, Option.map_none, Option.bind_none, id]
    · simp only [x_bind, bk_ok, bk_ite, x_ret, x_lift, lk_some, lk_ite, app_ite, x_eC, x_eV, vk_imm, vk_own, vk_bor, x_give, gk_own, x_bin, x_un, x_ix, x_tru, x_eB, dBl_bl, dTru_bl, dTru_int, dTru_lst, x_and, x_or, x_not, x_eAnd, x_eOr, x_eNot, x_eIf, x_chain, x_aNil, x_aCons, x_aVr, rk_own, rk_io, x_aVb, tk_own, tk_io, tk_imm, tk_bor, x_eTup, x_eLst, imms_nil, imms_im, x_eF, x_call, ixV_C, jk_imm, jk_own, jk_io, jk_bor, flk_int, x_lenV, nk_imm, nk_own, nk_io, nk_bor, x_inV, hk_imm, hk_own, hk_io, hk_bor, x_sNx, x_pass, x_cont, x_brk, x_seq, sk_nx, sk_rt, sk_rtO, sk_ct, sk_bk, sk_ite, x_drop, x_sRet, x_sRetO, x_sIf, x_asg, x_asgO, x_gN, x_gO, x_gNil, x_gCons, x_gTt, x_gTl, x_sApp, x_sSet, x_chM, ck_own, ck_io, x_iOf, x_iRg, x_fn, fk_rt, fk_nx, fk_ite, ios_z, ios_s, keep_io, keep_imm, keep_own, keep_bor, keep_no, dSub_i, dAdd_i, dLt_i, dLe_i, dGt_i, dGe_i, dEq_int, dNe_int, ix_lst, ix_scr, ix_tup, atI_0, atI_1, atI_2, atI_3, List.getElem?_cons_zero, List.getElem?_cons_succ, List.set_cons_zero, List.set_cons_succ, List.length_cons, List.length_nil, List.cons_append, List.nil_append, List.replicate_succ, List.replicate_zero, Option.map_some, Option.bind_some, Nat.reduceAdd, Nat.reduceSub, Nat.reduceLT, Nat.reduceLeDiff, if_true, if_false, Bool.false_eq_true, decide_eq_true_eq, reduceIte, ne_eq, not_false_eq_true, Nat.lt_add_left_iff_pos, Nat.zero_lt_succ, x_call2, x_call3, dk2, dk3, ixV_V, Nat.reduceEqDiff, not_false_eq_true, x_isLst, x_isSet, List.map_cons, List.map_nil, Option.map_none, Option.bind_none, wipeE])
  have e1 : ((rgD 0 n).filter (idI fun v => !decide (v ∈ F.map (·.1)))) = (sideL n fun v => !decide (v ∈ F.map (·.1))).map fun v : Nat => D.int (v : Int) := rg_filter
  rw [e1, List.map_id] at h
  unfold m_wide_side b_wide_side
  simp only [x_bind, bk_ok, bk_ite, x_ret, x_lift, lk_some, lk_ite, app_ite, x_eC, x_eV, vk_imm, vk_own, vk_bor, x_give, gk_own, x_bin, x_un, x_ix, x_tru, x_eB, dBl_bl, dTru_bl, dTru_int, dTru_lst, x_and, x_or, x_not, x_eAnd, x_eOr, x_eNot, x_eIf, x_chain, x_aNil, x_aCons, x_aVr, rk_own, rk_io, x_aVb, tk_own, tk_io, tk_imm, tk_bor, x_eTup, x_eLst, imms_nil, imms_im, x_eF, x_call, ixV_C, jk_imm, jk_own, jk_io, jk_bor, flk_int, x_lenV, nk_imm, nk_own, nk_io, nk_bor, x_inV, hk_imm, hk_own, hk_io, hk_bor, x_sNx, x_pass, x_cont, x_brk, x_seq, sk_nx, sk_rt, sk_rtO, sk_ct, sk_bk, sk_ite, x_drop, x_sRet, x_sRetO, x_sIf, x_asg, x_asgO, x_gN, x_gO, x_gNil, x_gCons, x_gTt, x_gTl, x_sApp, x_sSet, x_chM, ck_own, ck_io, x_iOf, x_iRg, x_fn, fk_rt, fk_nx, fk_ite, ios_z, ios_s, keep_io, keep_imm, keep_own, keep_bor, keep_no, dSub_i, dAdd_i, dLt_i, dLe_i, dGt_i, dGe_i, dEq_int, dNe_int, ix_lst, ix_scr, ix_tup, atI_0, atI_1, atI_2, atI_3, List.getElem?_cons_zero, List.getElem?_cons_succ, List.set_cons_zero, List.set_cons_succ, List.length_cons, List.length_nil, List.cons_append, List.nil_append, List.replicate_succ, List.replicate_zero, Option.map_some, Option.bind_some, Nat.reduceAdd, Nat.reduceSub, Nat.reduceLT, Nat.reduceLeDiff, if_true, if_false, Bool.false_eq_true, decide_eq_true_eq, reduceIte, ne_eq, not_false_eq_true, Nat.lt_add_left_iff_pos, Nat.zero_lt_succ, x_call2, x_call3, dk2, dk3, ixV_V, Nat.reduceEqDiff, not_false_eq_true, x_isLst, x_isSet, List.map_cons, List.map_nil, Option.map_none, Option.bind_none, t1, c2, h, wipeE]
  rfl
theorem rg2_n {n : Nat} (h2 : 2 ≤ n) (h : n ≤ 1000) : rg2 [.int 2, .int (n : Int)] = some (rgD 2 (n - 2)) := by
  show (if (-16777216 ≤ (2 : Int) ∧ (2 : Int) ≤ 16777216) ∧ (-16777216 ≤ (n : Int) ∧ (n : Int) ≤ 16777216) ∧ (n : Int) - 2 ≤ 16777216 then some (rgD 2 ((n : Int) - 2).toNat) else none) = _
  rw [if_pos (by omega), show ((n : Int) - 2).toNat = n - 2 by omega]
theorem rgD2_mem {m : Nat} {d : D} (h : d ∈ rgD 2 m) : ∃ v : Nat, 2 ≤ v ∧ v < 2 + m ∧ d = .int (v : Int) := by
  unfold rgD at h
  obtain ⟨i, hi, rfl⟩ := List.mem_map.mp h
  exact ⟨2 + i, by omega, by have := List.mem_range.mp hi; omega, by congr 1⟩
theorem ev_lis_flow {n : Nat} {es : List Ed} {fs : List Int} (h2 : 2 ≤ n) (hn : n ≤ 1000) (he : es.length ≤ 1000) (IF : IsFlow n es fs) : m__law_is_flow [.imm (.int (n : Int)), .imm (edsD es), .imm (iD fs)] = some (.ok (.bl true), [.no, .no, .no]) := by
  have hl := IF.len
  obtain ⟨δ', h1, y4, y5, y6, y7, rfl⟩ := sFor_inv (I := (iRg rg1 (aCons (eF fLen (aCons (eV 1) aNil)) aNil))) (T := gN 4) (S := (sSeq (sAsg (gT 3 (gCons (gN 5) (gCons (gN 6) (gCons (gN 7) gNil)))) (eIxV 1 (eV 4))) (sSeq (sIf (tOrM (eB (eBin dGt (eIxV 2 (eV 4)) (eV 7))) (eB (eBin dLt (eIxV 2 (eV 4)) (eBin dSub (eC (.int 0)) (eV 7))))) (sRet (eC (.bl false))) sNx) (sSeq (sSet 3 (eV 5) (eBin dAdd (eIxV 3 (eV 5)) (eIxV 2 (eV 4)))) (sSet 3 (eV 6) (eBin dSub (eIxV 3 (eV 6)) (eIxV 2 (eV 4)))))))) (ds := rgD 0 es.length)
    (δ := [.imm (.int (n : Int)), .imm (edsD es), .imm (iD fs), .own (iD (List.replicate n 0)), .no, .no, .no, .no, .no]) (δ0 := [.imm (.int (n : Int)), .imm (edsD es), .imm (iD fs), .own (iD (List.replicate n 0)), .no, .no, .no, .no, .no])
    (fun k δ => ∃ y4 y5 y6 y7, δ = [.imm (.int (n : Int)), .imm (edsD es), .imm (iD fs), .own (iD (gnL n (es.take k) (fs.take k))), y4, y5, y6, y7, .no]) (by simp only [x_bind, bk_ok, bk_ite, x_ret, x_lift, lk_some, lk_ite, app_ite, x_eC, x_eV, vk_imm, vk_own, vk_bor, x_give, gk_own, x_bin, x_un, x_ix, x_tru, x_eB, dBl_bl, dTru_bl, dTru_int, dTru_lst, x_and, x_or, x_not, x_eAnd, x_eOr, x_eNot, x_eIf, x_chain, x_aNil, x_aCons, x_aVr, rk_own, rk_io, x_aVb, tk_own, tk_io, tk_imm, tk_bor, x_eTup, x_eLst, imms_nil, imms_im, x_eF, x_call, ixV_C, jk_imm, jk_own, jk_io, jk_bor, flk_int, x_lenV, nk_imm, nk_own, nk_io, nk_bor, x_inV, hk_imm, hk_own, hk_io, hk_bor, x_sNx, x_pass, x_cont, x_brk, x_seq, sk_nx, sk_rt, sk_rtO, sk_ct, sk_bk, sk_ite, x_drop, x_sRet, x_sRetO, x_sIf, x_asg, x_asgO, x_gN, x_gO, x_gNil, x_gCons, x_gTt, x_gTl, x_sApp, x_sSet, x_chM, ck_own, ck_io, x_iOf, x_iRg, x_fn, fk_rt, fk_nx, fk_ite, ios_z, ios_s, keep_io, keep_imm, keep_own, keep_bor, keep_no, dSub_i, dAdd_i, dLt_i, dLe_i, dGt_i, dGe_i, dEq_int, dNe_int, ix_lst, ix_scr, ix_tup, atI_0, atI_1, atI_2, atI_3, List.getElem?_cons_zero, List.getElem?_cons_succ, List.set_cons_zero, List.set_cons_succ, List.length_cons, List.length_nil, List.cons_append, List.nil_append, List.replicate_succ, List.replicate_zero, Option.map_some, Option.bind_some, Nat.reduceAdd, Nat.reduceSub, Nat.reduceLT, Nat.reduceLeDiff, if_true, if_false, Bool.false_eq_true, decide_eq_true_eq, reduceIte, ne_eq, not_false_eq_true, Nat.lt_add_left_iff_pos, Nat.zero_lt_succ, x_call2, x_call3, dk2, dk3, ixV_V, Nat.reduceEqDiff, not_false_eq_true, x_isLst, x_isSet, List.map_cons, List.map_nil, Option.map_none, Option.bind_none, fLen_eds, rg1_n he]) ⟨.no, .no, .no, .no, by rw [List.take_zero, List.take_zero, gnL_nil]⟩ (fun k d δ hd hδ => by
      obtain ⟨y4, y5, y6, y7, rfl⟩ := hδ
      obtain ⟨hk, rfl⟩ := rgD_get hd
      have g1 : es[k]? = some es[k] := List.getElem?_eq_getElem hk
      have hkf : k < fs.length := by omega
      have g2 : fs[k]? = some fs[k] := List.getElem?_eq_getElem hkf
      have a1 : dIx (edsD es) (.int (k : Int)) = some es[k].d := at_map g1
      have a2 : dIx (iD fs) (.int (k : Int)) = some (.int fs[k]) := at_map g2
      obtain ⟨b1, b2, b3, _⟩ := IF.ok _ (List.getElem_mem hk)
      obtain ⟨q1, q2⟩ := IF.caps k _ _ g1 g2
      have c1 : ¬ (es[k].r < fs[k]) := by omega
      have c2 : ¬ (fs[k] < 0 - es[k].r) := by omega
      have st := gnL_step (IF.ok _ (List.getElem_mem hk)) g1 g2 hl
      have a3 : dIx (iD (gnL n (es.take k) (fs.take k))) (.int (es[k].a : Int)) = some (.int (gain (es.take k) (fs.take k) es[k].a)) := at_map (gnL_get b1)
      have a4 : dIx (iD ((gnL n (es.take k) (fs.take k)).set es[k].a (gain (es.take k) (fs.take k) es[k].a + fs[k]))) (.int (es[k].b : Int)) = some (.int (gain (es.take k) (fs.take k) es[k].b)) := at_map (by rw [List.getElem?_set_ne b3]; exact gnL_get b2)
      have s1 := dSet_gn (x := gain (es.take k) (fs.take k) es[k].a + fs[k]) (gnL_len (es := es.take k) (fs := fs.take k)) b1
      have s2 := dSet_gn (l := (gnL n (es.take k) (fs.take k)).set es[k].a (gain (es.take k) (fs.take k) es[k].a + fs[k])) (x := gain (es.take k) (fs.take k) es[k].b - fs[k]) (by rw [List.length_set, gnL_len]) b2
      rw [st] at s2
      refine ⟨[.imm (.int (n : Int)), .imm (edsD es), .imm (iD fs), .own (iD (gnL n (es.take k) (fs.take k))), .imm (.int (k : Int)), y5, y6, y7, .no], [.imm (.int (n : Int)), .imm (edsD es), .imm (iD fs), .own (iD (gnL n (es.take (k + 1)) (fs.take (k + 1)))), .imm (.int (k : Int)), .imm (.int es[k].a), .imm (.int es[k].b), .imm (.int es[k].r), .no], by simp only [x_bind, bk_ok, bk_ite, x_ret, x_lift, lk_some, lk_ite, app_ite, x_eC, x_eV, vk_imm, vk_own, vk_bor, x_give, gk_own, x_bin, x_un, x_ix, x_tru, x_eB, dBl_bl, dTru_bl, dTru_int, dTru_lst, x_and, x_or, x_not, x_eAnd, x_eOr, x_eNot, x_eIf, x_chain, x_aNil, x_aCons, x_aVr, rk_own, rk_io, x_aVb, tk_own, tk_io, tk_imm, tk_bor, x_eTup, x_eLst, imms_nil, imms_im, x_eF, x_call, ixV_C, jk_imm, jk_own, jk_io, jk_bor, flk_int, x_lenV, nk_imm, nk_own, nk_io, nk_bor, x_inV, hk_imm, hk_own, hk_io, hk_bor, x_sNx, x_pass, x_cont, x_brk, x_seq, sk_nx, sk_rt, sk_rtO, sk_ct, sk_bk, sk_ite, x_drop, x_sRet, x_sRetO, x_sIf, x_asg, x_asgO, x_gN, x_gO, x_gNil, x_gCons, x_gTt, x_gTl, x_sApp, x_sSet, x_chM, ck_own, ck_io, x_iOf, x_iRg, x_fn, fk_rt, fk_nx, fk_ite, ios_z, ios_s, keep_io, keep_imm, keep_own, keep_bor, keep_no, dSub_i, dAdd_i, dLt_i, dLe_i, dGt_i, dGe_i, dEq_int, dNe_int, ix_lst, ix_scr, ix_tup, atI_0, atI_1, atI_2, atI_3, List.getElem?_cons_zero, List.getElem?_cons_succ, List.set_cons_zero, List.set_cons_succ, List.length_cons, List.length_nil, List.cons_append, List.nil_append, List.replicate_succ, List.replicate_zero, Option.map_some, Option.bind_some, Nat.reduceAdd, Nat.reduceSub, Nat.reduceLT, Nat.reduceLeDiff, if_true, if_false, Bool.false_eq_true, decide_eq_true_eq, reduceIte, ne_eq, not_false_eq_true, Nat.lt_add_left_iff_pos, Nat.zero_lt_succ, x_call2, x_call3, dk2, dk3, ixV_V, Nat.reduceEqDiff, not_false_eq_true, x_isLst, x_isSet, List.map_cons, List.map_nil, Option.map_none, Option.bind_none], .inl ?_, ⟨_, _, _, _, rfl⟩⟩
      refine ssq (δ1 := [.imm (.int (n : Int)), .imm (edsD es), .imm (iD fs), .own (iD (gnL n (es.take k) (fs.take k))), .imm (.int (k : Int)), .imm (.int es[k].a), .imm (.int es[k].b), .imm (.int es[k].r), .no]) ?_ (ssq (δ1 := [.imm (.int (n : Int)), .imm (edsD es), .imm (iD fs), .own (iD (gnL n (es.take k) (fs.take k))), .imm (.int (k : Int)), .imm (.int es[k].a), .imm (.int es[k].b), .imm (.int es[k].r), .no]) ?_ ?_)
      · simp only [x_bind, bk_ok, bk_ite, x_ret, x_lift, lk_some, lk_ite, app_ite, x_eC, x_eV, vk_imm, vk_own, vk_bor, x_give, gk_own, x_bin, x_un, x_ix, x_tru, x_eB, dBl_bl, dTru_bl, dTru_int, dTru_lst, x_and, x_or, x_not, x_eAnd, x_eOr, x_eNot, x_eIf, x_chain, x_aNil, x_aCons, x_aVr, rk_own, rk_io, x_aVb, tk_own, tk_io, tk_imm, tk_bor, x_eTup, x_eLst, imms_nil, imms_im, x_eF, x_call, ixV_C, jk_imm, jk_own, jk_io, jk_bor, flk_int, x_lenV, nk_imm, nk_own, nk_io, nk_bor, x_inV, hk_imm, hk_own, hk_io, hk_bor, x_sNx, x_pass, x_cont, x_brk, x_seq, sk_nx, sk_rt, sk_rtO, sk_ct, sk_bk, sk_ite, x_drop, x_sRet, x_sRetO, x_sIf, x_asg, x_asgO, x_gN, x_gO, x_gNil, x_gCons, x_gTt, x_gTl, x_sApp, x_sSet, x_chM, ck_own, ck_io, x_iOf, x_iRg, x_fn, fk_rt, fk_nx, fk_ite, ios_z, ios_s, keep_io, keep_imm, keep_own, keep_bor, keep_no, dSub_i, dAdd_i, dLt_i, dLe_i, dGt_i, dGe_i, dEq_int, dNe_int, ix_lst, ix_scr, ix_tup, atI_0, atI_1, atI_2, atI_3, List.getElem?_cons_zero, List.getElem?_cons_succ, List.set_cons_zero, List.set_cons_succ, List.length_cons, List.length_nil, List.cons_append, List.nil_append, List.replicate_succ, List.replicate_zero, Option.map_some, Option.bind_some, Nat.reduceAdd, Nat.reduceSub, Nat.reduceLT, Nat.reduceLeDiff, if_true, if_false, Bool.false_eq_true, decide_eq_true_eq, reduceIte, ne_eq, not_false_eq_true, Nat.lt_add_left_iff_pos, Nat.zero_lt_succ, x_call2, x_call3, dk2, dk3, ixV_V, Nat.reduceEqDiff, not_false_eq_true, x_isLst, x_isSet, List.map_cons, List.map_nil, Option.map_none, Option.bind_none, a1]
        unfold Ed.d
        simp only [x_bind, bk_ok, bk_ite, x_ret, x_lift, lk_some, lk_ite, app_ite, x_eC, x_eV, vk_imm, vk_own, vk_bor, x_give, gk_own, x_bin, x_un, x_ix, x_tru, x_eB, dBl_bl, dTru_bl, dTru_int, dTru_lst, x_and, x_or, x_not, x_eAnd, x_eOr, x_eNot, x_eIf, x_chain, x_aNil, x_aCons, x_aVr, rk_own, rk_io, x_aVb, tk_own, tk_io, tk_imm, tk_bor, x_eTup, x_eLst, imms_nil, imms_im, x_eF, x_call, ixV_C, jk_imm, jk_own, jk_io, jk_bor, flk_int, x_lenV, nk_imm, nk_own, nk_io, nk_bor, x_inV, hk_imm, hk_own, hk_io, hk_bor, x_sNx, x_pass, x_cont, x_brk, x_seq, sk_nx, sk_rt, sk_rtO, sk_ct, sk_bk, sk_ite, x_drop, x_sRet, x_sRetO, x_sIf, x_asg, x_asgO, x_gN, x_gO, x_gNil, x_gCons, x_gTt, x_gTl, x_sApp, x_sSet, x_chM, ck_own, ck_io, x_iOf, x_iRg, x_fn, fk_rt, fk_nx, fk_ite, ios_z, ios_s, keep_io, keep_imm, keep_own, keep_bor, keep_no, dSub_i, dAdd_i, dLt_i, dLe_i, dGt_i, dGe_i, dEq_int, dNe_int, ix_lst, ix_scr, ix_tup, atI_0, atI_1, atI_2, atI_3, List.getElem?_cons_zero, List.getElem?_cons_succ, List.set_cons_zero, List.set_cons_succ, List.length_cons, List.length_nil, List.cons_append, List.nil_append, List.replicate_succ, List.replicate_zero, Option.map_some, Option.bind_some, Nat.reduceAdd, Nat.reduceSub, Nat.reduceLT, Nat.reduceLeDiff, if_true, if_false, Bool.false_eq_true, decide_eq_true_eq, reduceIte, ne_eq, not_false_eq_true, Nat.lt_add_left_iff_pos, Nat.zero_lt_succ, x_call2, x_call3, dk2, dk3, ixV_V, Nat.reduceEqDiff, not_false_eq_true, x_isLst, x_isSet, List.map_cons, List.map_nil, Option.map_none, Option.bind_none]
      · rw [sIf_f (δ1 := [.imm (.int (n : Int)), .imm (edsD es), .imm (iD fs), .own (iD (gnL n (es.take k) (fs.take k))), .imm (.int (k : Int)), .imm (.int es[k].a), .imm (.int es[k].b), .imm (.int es[k].r), .no])]
        · rfl
        · simp only [x_bind, bk_ok, bk_ite, x_ret, x_lift, lk_some, lk_ite, app_ite, x_eC, x_eV, vk_imm, vk_own, vk_bor, x_give, gk_own, x_bin, x_un, x_ix, x_tru, x_eB, dBl_bl, dTru_bl, dTru_int, dTru_lst, x_and, x_or, x_not, x_eAnd, x_eOr, x_eNot, x_eIf, x_chain, x_aNil, x_aCons, x_aVr, rk_own, rk_io, x_aVb, tk_own, tk_io, tk_imm, tk_bor, x_eTup, x_eLst, imms_nil, imms_im, x_eF, x_call, ixV_C, jk_imm, jk_own, jk_io, jk_bor, flk_int, x_lenV, nk_imm, nk_own, nk_io, nk_bor, x_inV, hk_imm, hk_own, hk_io, hk_bor, x_sNx, x_pass, x_cont, x_brk, x_seq, sk_nx, sk_rt, sk_rtO, sk_ct, sk_bk, sk_ite, x_drop, x_sRet, x_sRetO, x_sIf, x_asg, x_asgO, x_gN, x_gO, x_gNil, x_gCons, x_gTt, x_gTl, x_sApp, x_sSet, x_chM, ck_own, ck_io, x_iOf, x_iRg, x_fn, fk_rt, fk_nx, fk_ite, ios_z, ios_s, keep_io, keep_imm, keep_own, keep_bor, keep_no, dSub_i, dAdd_i, dLt_i, dLe_i, dGt_i, dGe_i, dEq_int, dNe_int, ix_lst, ix_scr, ix_tup, atI_0, atI_1, atI_2, atI_3, List.getElem?_cons_zero, List.getElem?_cons_succ, List.set_cons_zero, List.set_cons_succ, List.length_cons, List.length_nil, List.cons_append, List.nil_append, List.replicate_succ, List.replicate_zero, Option.map_some, Option.bind_some, Nat.reduceAdd, Nat.reduceSub, Nat.reduceLT, Nat.reduceLeDiff, if_true, if_false, Bool.false_eq_true, decide_eq_true_eq, reduceIte, ne_eq, not_false_eq_true, Nat.lt_add_left_iff_pos, Nat.zero_lt_succ, x_call2, x_call3, dk2, dk3, ixV_V, Nat.reduceEqDiff, not_false_eq_true, x_isLst, x_isSet, List.map_cons, List.map_nil, Option.map_none, Option.bind_none, a2, c1, c2, decide_false]
      · simp only [x_bind, bk_ok, bk_ite, x_ret, x_lift, lk_some, lk_ite, app_ite, x_eC, x_eV, vk_imm, vk_own, vk_bor, x_give, gk_own, x_bin, x_un, x_ix, x_tru, x_eB, dBl_bl, dTru_bl, dTru_int, dTru_lst, x_and, x_or, x_not, x_eAnd, x_eOr, x_eNot, x_eIf, x_chain, x_aNil, x_aCons, x_aVr, rk_own, rk_io, x_aVb, tk_own, tk_io, tk_imm, tk_bor, x_eTup, x_eLst, imms_nil, imms_im, x_eF, x_call, ixV_C, jk_imm, jk_own, jk_io, jk_bor, flk_int, x_lenV, nk_imm, nk_own, nk_io, nk_bor, x_inV, hk_imm, hk_own, hk_io, hk_bor, x_sNx, x_pass, x_cont, x_brk, x_seq, sk_nx, sk_rt, sk_rtO, sk_ct, sk_bk, sk_ite, x_drop, x_sRet, x_sRetO, x_sIf, x_asg, x_asgO, x_gN, x_gO, x_gNil, x_gCons, x_gTt, x_gTl, x_sApp, x_sSet, x_chM, ck_own, ck_io, x_iOf, x_iRg, x_fn, fk_rt, fk_nx, fk_ite, ios_z, ios_s, keep_io, keep_imm, keep_own, keep_bor, keep_no, dSub_i, dAdd_i, dLt_i, dLe_i, dGt_i, dGe_i, dEq_int, dNe_int, ix_lst, ix_scr, ix_tup, atI_0, atI_1, atI_2, atI_3, List.getElem?_cons_zero, List.getElem?_cons_succ, List.set_cons_zero, List.set_cons_succ, List.length_cons, List.length_nil, List.cons_append, List.nil_append, List.replicate_succ, List.replicate_zero, Option.map_some, Option.bind_some, Nat.reduceAdd, Nat.reduceSub, Nat.reduceLT, Nat.reduceLeDiff, if_true, if_false, Bool.false_eq_true, decide_eq_true_eq, reduceIte, ne_eq, not_false_eq_true, Nat.lt_add_left_iff_pos, Nat.zero_lt_succ, x_call2, x_call3, dk2, dk3, ixV_V, Nat.reduceEqDiff, not_false_eq_true, x_isLst, x_isSet, List.map_cons, List.map_nil, Option.map_none, Option.bind_none, a2, a3, s1, a4, s2, iSk_own])
  rw [rgD_len, List.take_length, ← hl, List.take_length] at h1
  have em := mulL_zero hn
  have hi : (iRg rg2 (aCons (eC (.int 2)) (aCons (eV 0) aNil))) [.imm (.int (n : Int)), .imm (edsD es), .imm (iD fs), .own (iD (gnL n es fs)), y4, y5, y6, y7, .no] = some (.ok (rgD 2 (n - 2)), [.imm (.int (n : Int)), .imm (edsD es), .imm (iD fs), .own (iD (gnL n es fs)), y4, y5, y6, y7, .no]) := by simp only [x_bind, bk_ok, bk_ite, x_ret, x_lift, lk_some, lk_ite, app_ite, x_eC, x_eV, vk_imm, vk_own, vk_bor, x_give, gk_own, x_bin, x_un, x_ix, x_tru, x_eB, dBl_bl, dTru_bl, dTru_int, dTru_lst, x_and, x_or, x_not, x_eAnd, x_eOr, x_eNot, x_eIf, x_chain, x_aNil, x_aCons, x_aVr, rk_own, rk_io, x_aVb, tk_own, tk_io, tk_imm, tk_bor, x_eTup, x_eLst, imms_nil, imms_im, x_eF, x_call, ixV_C, jk_imm, jk_own, jk_io, jk_bor, flk_int, x_lenV, nk_imm, nk_own, nk_io, nk_bor, x_inV, hk_imm, hk_own, hk_io, hk_bor, x_sNx, x_pass, x_cont, x_brk, x_seq, sk_nx, sk_rt, sk_rtO, sk_ct, sk_bk, sk_ite, x_drop, x_sRet, x_sRetO, x_sIf, x_asg, x_asgO, x_gN, x_gO, x_gNil, x_gCons, x_gTt, x_gTl, x_sApp, x_sSet, x_chM, ck_own, ck_io, x_iOf, x_iRg, x_fn, fk_rt, fk_nx, fk_ite, ios_z, ios_s, keep_io, keep_imm, keep_own, keep_bor, keep_no, dSub_i, dAdd_i, dLt_i, dLe_i, dGt_i, dGe_i, dEq_int, dNe_int, ix_lst, ix_scr, ix_tup, atI_0, atI_1, atI_2, atI_3, List.getElem?_cons_zero, List.getElem?_cons_succ, List.set_cons_zero, List.set_cons_succ, List.length_cons, List.length_nil, List.cons_append, List.nil_append, List.replicate_succ, List.replicate_zero, Option.map_some, Option.bind_some, Nat.reduceAdd, Nat.reduceSub, Nat.reduceLT, Nat.reduceLeDiff, if_true, if_false, Bool.false_eq_true, decide_eq_true_eq, reduceIte, ne_eq, not_false_eq_true, Nat.lt_add_left_iff_pos, Nat.zero_lt_succ, x_call2, x_call3, dk2, dk3, ixV_V, Nat.reduceEqDiff, not_false_eq_true, x_isLst, x_isSet, List.map_cons, List.map_nil, Option.map_none, Option.bind_none, rg2_n h2 hn]
  have h := eLc_pure (T := gN 8) (C := (eB (eBin dNe (eIxV 3 (eV 8)) (eC (.int 0))))) (E := eV 8) (vs := [8]) (p := fun _ => false) (f := id) hi (by rw [rgD_len]; omega) (fun d hd => by
    obtain ⟨v, v1, v2, rfl⟩ := rgD2_mem hd
    have a1 : dIx (iD (gnL n es fs)) (.int (v : Int)) = some (.int (gain es fs v)) := at_map (gnL_get (by omega))
    have hz := IF.zero v v1 (by omega)
    refine ⟨[.imm (.int (n : Int)), .imm (edsD es), .imm (iD fs), .own (iD (gnL n es fs)), y4, y5, y6, y7, .imm (.int (v : Int))], [.imm (.int (n : Int)), .imm (edsD es), .imm (iD fs), .own (iD (gnL n es fs)), y4, y5, y6, y7, .imm (.int (v : Int))], ?_, ?_, fun _ => ?_, fun c => (by cases c)⟩
    · simp only [x_bind, bk_ok, bk_ite, x_ret, x_lift, lk_some, lk_ite, app_ite, x_eC, x_eV, vk_imm, vk_own, vk_bor, x_give, gk_own, x_bin, x_un, x_ix, x_tru, x_eB, dBl_bl, dTru_bl, dTru_int, dTru_lst, x_and, x_or, x_not, x_eAnd, x_eOr, x_eNot, x_eIf, x_chain, x_aNil, x_aCons, x_aVr, rk_own, rk_io, x_aVb, tk_own, tk_io, tk_imm, tk_bor, x_eTup, x_eLst, imms_nil, imms_im, x_eF, x_call, ixV_C, jk_imm, jk_own, jk_io, jk_bor, flk_int, x_lenV, nk_imm, nk_own, nk_io, nk_bor, x_inV, hk_imm, hk_own, hk_io, hk_bor, x_sNx, x_pass, x_cont, x_brk, x_seq, sk_nx, sk_rt, sk_rtO, sk_ct, sk_bk, sk_ite, x_drop, x_sRet, x_sRetO, x_sIf, x_asg, x_asgO, x_gN, x_gO, x_gNil, x_gCons, x_gTt, x_gTl, x_sApp, x_sSet, x_chM, ck_own, ck_io, x_iOf, x_iRg, x_fn, fk_rt, fk_nx, fk_ite, ios_z, ios_s, keep_io, keep_imm, keep_own, keep_bor, keep_no, dSub_i, dAdd_i, dLt_i, dLe_i, dGt_i, dGe_i, dEq_int, dNe_int, ix_lst, ix_scr, ix_tup, atI_0, atI_1, atI_2, atI_3, List.getElem?_cons_zero, List.getElem?_cons_succ, List.set_cons_zero, List.set_cons_succ, List.length_cons, List.length_nil, List.cons_append, List.nil_append, List.replicate_succ, List.replicate_zero, Option.map_some, Option.bind_some, Nat.reduceAdd, Nat.reduceSub, Nat.reduceLT, Nat.reduceLeDiff, if_true, if_false, Bool.false_eq_true, decide_eq_true_eq, reduceIte, ne_eq, not_false_eq_true, Nat.lt_add_left_iff_pos, Nat.zero_lt_succ, x_call2, x_call3, dk2, dk3, ixV_V, Nat.reduceEqDiff, not_false_eq_true, x_isLst, x_isSet, List.map_cons, List.map_nil, Option.map_none, Option.bind_none, wipeE]
    · simp only [x_bind, bk_ok, bk_ite, x_ret, x_lift, lk_some, lk_ite, app_ite, x_eC, x_eV, vk_imm, vk_own, vk_bor, x_give, gk_own, x_bin, x_un, x_ix, x_tru, x_eB, dBl_bl, dTru_bl, dTru_int, dTru_lst, x_and, x_or, x_not, x_eAnd, x_eOr, x_eNot, x_eIf, x_chain, x_aNil, x_aCons, x_aVr, rk_own, rk_io, x_aVb, tk_own, tk_io, tk_imm, tk_bor, x_eTup, x_eLst, imms_nil, imms_im, x_eF, x_call, ixV_C, jk_imm, jk_own, jk_io, jk_bor, flk_int, x_lenV, nk_imm, nk_own, nk_io, nk_bor, x_inV, hk_imm, hk_own, hk_io, hk_bor, x_sNx, x_pass, x_cont, x_brk, x_seq, sk_nx, sk_rt, sk_rtO, sk_ct, sk_bk, sk_ite, x_drop, x_sRet, x_sRetO, x_sIf, x_asg, x_asgO, x_gN, x_gO, x_gNil, x_gCons, x_gTt, x_gTl, x_sApp, x_sSet, x_chM, ck_own, ck_io, x_iOf, x_iRg, x_fn, fk_rt, fk_nx, fk_ite, ios_z, ios_s, keep_io, keep_imm, keep_own, keep_bor, keep_no, dSub_i, dAdd_i, dLt_i, dLe_i, dGt_i, dGe_i, dEq_int, dNe_int, ix_lst, ix_scr, ix_tup, atI_0, atI_1, atI_2, atI_3, List.getElem?_cons_zero, List.getElem?_cons_succ, List.set_cons_zero, List.set_cons_succ, List.length_cons, List.length_nil, List.cons_append, List.nil_append, List.replicate_succ, List.replicate_zero, Option.map_some, Option.bind_some, Nat.reduceAdd, Nat.reduceSub, Nat.reduceLT, Nat.reduceLeDiff, if_true, if_false, Bool.false_eq_true, decide_eq_true_eq, reduceIte, ne_eq, not_false_eq_true, Nat.lt_add_left_iff_pos, Nat.zero_lt_succ, x_call2, x_call3, dk2, dk3, ixV_V, Nat.reduceEqDiff, not_false_eq_true, x_isLst, x_isSet, List.map_cons, List.map_nil, Option.map_none, Option.bind_none, a1, hz, decide_true, Bool.not_true]
    · simp only [x_bind, bk_ok, bk_ite, x_ret, x_lift, lk_some, lk_ite, app_ite, x_eC, x_eV, vk_imm, vk_own, vk_bor, x_give, gk_own, x_bin, x_un, x_ix, x_tru, x_eB, dBl_bl, dTru_bl, dTru_int, dTru_lst, x_and, x_or, x_not, x_eAnd, x_eOr, x_eNot, x_eIf, x_chain, x_aNil, x_aCons, x_aVr, rk_own, rk_io, x_aVb, tk_own, tk_io, tk_imm, tk_bor, x_eTup, x_eLst, imms_nil, imms_im, x_eF, x_call, ixV_C, jk_imm, jk_own, jk_io, jk_bor, flk_int, x_lenV, nk_imm, nk_own, nk_io, nk_bor, x_inV, hk_imm, hk_own, hk_io, hk_bor, x_sNx, x_pass, x_cont, x_brk, x_seq, sk_nx, sk_rt, sk_rtO, sk_ct, sk_bk, sk_ite, x_drop, x_sRet, x_sRetO, x_sIf, x_asg, x_asgO, x_gN, x_gO, x_gNil, x_gCons, x_gTt, x_gTl, x_sApp, x_sSet, x_chM, ck_own, ck_io, x_iOf, x_iRg, x_fn, fk_rt, fk_nx, fk_ite, ios_z, ios_s, keep_io, keep_imm, keep_own, keep_bor, keep_no, dSub_i, dAdd_i, dLt_i, dLe_i, dGt_i, dGe_i, dEq_int, dNe_int, ix_lst, ix_scr, ix_tup, atI_0, atI_1, atI_2, atI_3, List.getElem?_cons_zero, List.getElem?_cons_succ, List.set_cons_zero, List.set_cons_succ, List.length_cons, List.length_nil, List.cons_append, List.nil_append, List.replicate_succ, List.replicate_zero, Option.map_some, Option.bind_some, Nat.reduceAdd, Nat.reduceSub, Nat.reduceLT, Nat.reduceLeDiff, if_true, if_false, Bool.false_eq_true, decide_eq_true_eq, reduceIte, ne_eq, not_false_eq_true, Nat.lt_add_left_iff_pos, Nat.zero_lt_succ, x_call2, x_call3, dk2, dk3, ixV_V, Nat.reduceEqDiff, not_false_eq_true, x_isLst, x_isSet, List.map_cons, List.map_nil, Option.map_none, Option.bind_none, wipeE])
  have e1 : (List.filter (fun _ => false) (rgD 2 (n - 2))).map id = [] := by rw [List.filter_eq_nil_iff.mpr (fun _ _ => by simp)]; rfl
  rw [e1] at h
  have hw : wipeE [.imm (.int (n : Int)), .imm (edsD es), .imm (iD fs), .own (iD (gnL n es fs)), y4, y5, y6, y7, .no] [8] = [.imm (.int (n : Int)), .imm (edsD es), .imm (iD fs), .own (iD (gnL n es fs)), y4, y5, y6, y7, .no] := rfl
  rw [hw] at h
  have hlen : ((fs.length : Nat) : Int) = ((es.length : Nat) : Int) := by rw [IF.len]
  unfold m__law_is_flow b__law_is_flow
  rw [x_fn]
  have s1 : (sIf (eB (eBin dNe (eF fLen (aCons (eV 2) aNil)) (eF fLen (aCons (eV 1) aNil)))) (sRet (eC (.bl false))) sNx) [.imm (.int (n : Int)), .imm (edsD es), .imm (iD fs), .no, .no, .no, .no, .no, .no] = some (.ok .nx, [.imm (.int (n : Int)), .imm (edsD es), .imm (iD fs), .no, .no, .no, .no, .no, .no]) := by
    rw [sIf_f (δ1 := [.imm (.int (n : Int)), .imm (edsD es), .imm (iD fs), .no, .no, .no, .no, .no, .no])]
    · rfl
    · simp only [x_bind, bk_ok, bk_ite, x_ret, x_lift, lk_some, lk_ite, app_ite, x_eC, x_eV, vk_imm, vk_own, vk_bor, x_give, gk_own, x_bin, x_un, x_ix, x_tru, x_eB, dBl_bl, dTru_bl, dTru_int, dTru_lst, x_and, x_or, x_not, x_eAnd, x_eOr, x_eNot, x_eIf, x_chain, x_aNil, x_aCons, x_aVr, rk_own, rk_io, x_aVb, tk_own, tk_io, tk_imm, tk_bor, x_eTup, x_eLst, imms_nil, imms_im, x_eF, x_call, ixV_C, jk_imm, jk_own, jk_io, jk_bor, flk_int, x_lenV, nk_imm, nk_own, nk_io, nk_bor, x_inV, hk_imm, hk_own, hk_io, hk_bor, x_sNx, x_pass, x_cont, x_brk, x_seq, sk_nx, sk_rt, sk_rtO, sk_ct, sk_bk, sk_ite, x_drop, x_sRet, x_sRetO, x_sIf, x_asg, x_asgO, x_gN, x_gO, x_gNil, x_gCons, x_gTt, x_gTl, x_sApp, x_sSet, x_chM, ck_own, ck_io, x_iOf, x_iRg, x_fn, fk_rt, fk_nx, fk_ite, ios_z, ios_s, keep_io, keep_imm, keep_own, keep_bor, keep_no, dSub_i, dAdd_i, dLt_i, dLe_i, dGt_i, dGe_i, dEq_int, dNe_int, ix_lst, ix_scr, ix_tup, atI_0, atI_1, atI_2, atI_3, List.getElem?_cons_zero, List.getElem?_cons_succ, List.set_cons_zero, List.set_cons_succ, List.length_cons, List.length_nil, List.cons_append, List.nil_append, List.replicate_succ, List.replicate_zero, Option.map_some, Option.bind_some, Nat.reduceAdd, Nat.reduceSub, Nat.reduceLT, Nat.reduceLeDiff, if_true, if_false, Bool.false_eq_true, decide_eq_true_eq, reduceIte, ne_eq, not_false_eq_true, Nat.lt_add_left_iff_pos, Nat.zero_lt_succ, x_call2, x_call3, dk2, dk3, ixV_V, Nat.reduceEqDiff, not_false_eq_true, x_isLst, x_isSet, List.map_cons, List.map_nil, Option.map_none, Option.bind_none, fLen_iD, fLen_eds, hlen, decide_true, Bool.not_true]
  refine (congrArg (fk 3) (ssq s1 (ssq (δ1 := [.imm (.int (n : Int)), .imm (edsD es), .imm (iD fs), .own (iD (List.replicate n 0)), .no, .no, .no, .no, .no]) ?_ (ssq h1 (r := some (.ok (.rt (.bl true)), [.imm (.int (n : Int)), .imm (edsD es), .imm (iD fs), .own (iD (gnL n es fs)), y4, y5, y6, y7, .no])) ?_)))).trans rfl
  · simp only [x_bind, bk_ok, bk_ite, x_ret, x_lift, lk_some, lk_ite, app_ite, x_eC, x_eV, vk_imm, vk_own, vk_bor, x_give, gk_own, x_bin, x_un, x_ix, x_tru, x_eB, dBl_bl, dTru_bl, dTru_int, dTru_lst, x_and, x_or, x_not, x_eAnd, x_eOr, x_eNot, x_eIf, x_chain, x_aNil, x_aCons, x_aVr, rk_own, rk_io, x_aVb, tk_own, tk_io, tk_imm, tk_bor, x_eTup, x_eLst, imms_nil, imms_im, x_eF, x_call, ixV_C, jk_imm, jk_own, jk_io, jk_bor, flk_int, x_lenV, nk_imm, nk_own, nk_io, nk_bor, x_inV, hk_imm, hk_own, hk_io, hk_bor, x_sNx, x_pass, x_cont, x_brk, x_seq, sk_nx, sk_rt, sk_rtO, sk_ct, sk_bk, sk_ite, x_drop, x_sRet, x_sRetO, x_sIf, x_asg, x_asgO, x_gN, x_gO, x_gNil, x_gCons, x_gTt, x_gTl, x_sApp, x_sSet, x_chM, ck_own, ck_io, x_iOf, x_iRg, x_fn, fk_rt, fk_nx, fk_ite, ios_z, ios_s, keep_io, keep_imm, keep_own, keep_bor, keep_no, dSub_i, dAdd_i, dLt_i, dLe_i, dGt_i, dGe_i, dEq_int, dNe_int, ix_lst, ix_scr, ix_tup, atI_0, atI_1, atI_2, atI_3, List.getElem?_cons_zero, List.getElem?_cons_succ, List.set_cons_zero, List.set_cons_succ, List.length_cons, List.length_nil, List.cons_append, List.nil_append, List.replicate_succ, List.replicate_zero, Option.map_some, Option.bind_some, Nat.reduceAdd, Nat.reduceSub, Nat.reduceLT, Nat.reduceLeDiff, if_true, if_false, Bool.false_eq_true, decide_eq_true_eq, reduceIte, ne_eq, not_false_eq_true, Nat.lt_add_left_iff_pos, Nat.zero_lt_succ, x_call2, x_call3, dk2, dk3, ixV_V, Nat.reduceEqDiff, not_false_eq_true, x_isLst, x_isSet, List.map_cons, List.map_nil, Option.map_none, Option.bind_none, em]
  · simp only [x_bind, bk_ok, bk_ite, x_ret, x_lift, lk_some, lk_ite, app_ite, x_eC, x_eV, vk_imm, vk_own, vk_bor, x_give, gk_own, x_bin, x_un, x_ix, x_tru, x_eB, dBl_bl, dTru_bl, dTru_int, dTru_lst, x_and, x_or, x_not, x_eAnd, x_eOr, x_eNot, x_eIf, x_chain, x_aNil, x_aCons, x_aVr, rk_own, rk_io, x_aVb, tk_own, tk_io, tk_imm, tk_bor, x_eTup, x_eLst, imms_nil, imms_im, x_eF, x_call, ixV_C, jk_imm, jk_own, jk_io, jk_bor, flk_int, x_lenV, nk_imm, nk_own, nk_io, nk_bor, x_inV, hk_imm, hk_own, hk_io, hk_bor, x_sNx, x_pass, x_cont, x_brk, x_seq, sk_nx, sk_rt, sk_rtO, sk_ct, sk_bk, sk_ite, x_drop, x_sRet, x_sRetO, x_sIf, x_asg, x_asgO, x_gN, x_gO, x_gNil, x_gCons, x_gTt, x_gTl, x_sApp, x_sSet, x_chM, ck_own, ck_io, x_iOf, x_iRg, x_fn, fk_rt, fk_nx, fk_ite, ios_z, ios_s, keep_io, keep_imm, keep_own, keep_bor, keep_no, dSub_i, dAdd_i, dLt_i, dLe_i, dGt_i, dGe_i, dEq_int, dNe_int, ix_lst, ix_scr, ix_tup, atI_0, atI_1, atI_2, atI_3, List.getElem?_cons_zero, List.getElem?_cons_succ, List.set_cons_zero, List.set_cons_succ, List.length_cons, List.length_nil, List.cons_append, List.nil_append, List.replicate_succ, List.replicate_zero, Option.map_some, Option.bind_some, Nat.reduceAdd, Nat.reduceSub, Nat.reduceLT, Nat.reduceLeDiff, if_true, if_false, Bool.false_eq_true, decide_eq_true_eq, reduceIte, ne_eq, not_false_eq_true, Nat.lt_add_left_iff_pos, Nat.zero_lt_succ, x_call2, x_call3, dk2, dk3, ixV_V, Nat.reduceEqDiff, not_false_eq_true, x_isLst, x_isSet, List.map_cons, List.map_nil, Option.map_none, Option.bind_none, h, fLen_lst]
    rfl
end M

set_option Elab.async false
set_option linter.all false
set_option maxRecDepth 100000
set_option maxHeartbeats 1000000
namespace M
open PySem L2
/-! ### k25: the grid -/
theorem grid_lt {w h k : Int} (w1 : 2 ≤ w) (w2 : w ≤ 4) (h1 : 2 ≤ h) (h2 : h ≤ 4) (k0 : 0 ≤ k) (k1 : k < w * h) (c : k % w < w - 1) : k + 1 < w * h := by
  have hw : w = 2 ∨ w = 3 ∨ w = 4 := by omega
  have hh : h = 2 ∨ h = 3 ∨ h = 4 := by omega
  rcases hw with rfl | rfl | rfl <;> rcases hh with rfl | rfl | rfl <;> omega
theorem grid_row {w h k : Int} (w1 : 2 ≤ w) (w2 : w ≤ 4) (h1 : 2 ≤ h) (h2 : h ≤ 4) (k0 : 0 ≤ k) (k1 : k < h) : 0 ≤ k * w ∧ k * w < w * h ∧ 1 ≤ (k + 1) * w ∧ 2 ≤ (k + 1) * w ∧ (k + 1) * w ≤ w * h := by
  have hw : w = 2 ∨ w = 3 ∨ w = 4 := by omega
  have hh : h = 2 ∨ h = 3 ∨ h = 4 := by omega
  rcases hw with rfl | rfl | rfl <;> rcases hh with rfl | rfl | rfl <;> omega
theorem grid_sz {w h : Int} (w1 : 2 ≤ w) (w2 : w ≤ 4) (h1 : 2 ≤ h) (h2 : h ≤ 4) : 4 ≤ w * h ∧ w * h ≤ 16 := by
  have hw : w = 2 ∨ w = 3 ∨ w = 4 := by omega
  have hh : h = 2 ∨ h = 3 ∨ h = 4 := by omega
  rcases hw with rfl | rfl | rfl <;> rcases hh with rfl | rfl | rfl <;> omega
theorem ed_d {a b r : Int} (ha : 0 ≤ a) (hb : 0 ≤ b) : Ed.d ⟨a.toNat, b.toNat, r⟩ = .tup [.int a, .int b, .int r] := by
  unfold Ed.d
  rw [Int.toNat_of_nonneg ha, Int.toNat_of_nonneg hb]
noncomputable def gA1 : Mo Out := (sIf (eB (eBin dLt (eBin dMod (eF fInt (aCons (eV 4) aNil)) (eV 1)) (eBin dSub (eV 1) (eC (.int 1)))))
 (sApp 3 (eTup (aCons (eBin dAdd (eC (.int 2)) (eV 4)) (aCons (eBin dAdd (eC (.int 3)) (eV 4)) (aCons (eCall m__law_draw (aVr 0 (aCons (eC (.int 9)) aNil))) aNil)))))
 sNx)
noncomputable def gA2 : Mo Out := (sIf (eB (eBin dLt (eBin dAdd (eV 4) (eV 1)) (eBin dMul (eV 1) (eV 2))))
 (sApp 3 (eTup (aCons (eBin dAdd (eBin dAdd (eC (.int 2)) (eV 4)) (eV 1)) (aCons (eBin dAdd (eC (.int 2)) (eV 4)) (aCons (eCall m__law_draw (aVr 0 (aCons (eC (.int 9)) aNil))) aNil)))))
 sNx)
theorem ev_gA1 {ns : List Int} {d : D} {w h k m : Int} {es : List Ed} (hd : IsDr ns d) (w1 : 2 ≤ w) (w2 : w ≤ 4) (k0 : 0 ≤ k) (lt : k % w < w - 1 → k + 1 < m) (hl : es.length ≤ 900) (ok : ∀ e ∈ es, EdOk (2 + m).toNat e) :
    ∃ d' es', gA1 [.io d, .imm (.int w), .imm (.int h), .own (edsD es), .imm (.int k)] = some (.ok .nx, [.io d', .imm (.int w), .imm (.int h), .own (edsD es'), .imm (.int k)]) ∧ IsDr ns d' ∧ es'.length ≤ es.length + 1 ∧ ∀ e ∈ es', EdOk (2 + m).toNat e := by
  have k1 : dMod (.int k) (.int w) = some (.int (k % w)) := dMod_i (by omega)
  unfold gA1
  by_cases c : k % w < w - 1
  · obtain ⟨t1, d1, c1, i1, a1, b1⟩ := ev_dr hd (m := 9) (by omega) (by omega)
    have := lt c
    refine ⟨d1, es ++ [⟨(2 + k).toNat, (3 + k).toNat, t1⟩], ?_, i1, by rw [List.length_append]; exact Nat.le_refl _, fun e he => ?_⟩
    · rw [sIf_t (δ1 := [.io d, .imm (.int w), .imm (.int h), .own (edsD es), .imm (.int k)])]
      · unfold edsD
        simp only [x_bind, bk_ok, bk_ite, x_ret, x_lift, lk_some, lk_ite, app_ite, x_eC, x_eV, vk_imm, vk_own, vk_bor, x_give, gk_own, x_bin, x_un, x_ix, x_tru, x_eB, dBl_bl, dTru_bl, dTru_int, dTru_lst, x_and, x_or, x_not, x_eAnd, x_eOr, x_eNot, x_eIf, x_chain, x_aNil, x_aCons, x_aVr, rk_own, rk_io, x_aVb, tk_own, tk_io, tk_imm, tk_bor, x_eTup, x_eLst, imms_nil, imms_im, x_eF, x_call, ixV_C, jk_imm, jk_own, jk_io, jk_bor, flk_int, x_lenV, nk_imm, nk_own, nk_io, nk_bor, x_inV, hk_imm, hk_own, hk_io, hk_bor, x_sNx, x_pass, x_cont, x_brk, x_seq, sk_nx, sk_rt, sk_rtO, sk_ct, sk_bk, sk_ite, x_drop, x_sRet, x_sRetO, x_sIf, x_asg, x_asgO, x_gN, x_gO, x_gNil, x_gCons, x_gTt, x_gTl, x_sApp, x_sSet, x_chM, ck_own, ck_io, x_iOf, x_iRg, x_fn, fk_rt, fk_nx, fk_ite, ios_z, ios_s, keep_io, keep_imm, keep_own, keep_bor, keep_no, dSub_i, dAdd_i, dLt_i, dLe_i, dGt_i, dGe_i, dEq_int, dNe_int, ix_lst, ix_scr, ix_tup, atI_0, atI_1, atI_2, atI_3, List.getElem?_cons_zero, List.getElem?_cons_succ, List.set_cons_zero, List.set_cons_succ, List.length_cons, List.length_nil, List.cons_append, List.nil_append, List.replicate_succ, List.replicate_zero, Option.map_some, Option.bind_some, Nat.reduceAdd, Nat.reduceSub, Nat.reduceLT, Nat.reduceLeDiff, if_true, if_false, Bool.false_eq_true, decide_eq_true_eq, reduceIte, ne_eq, not_false_eq_true, Nat.lt_add_left_iff_pos, Nat.zero_lt_succ, x_call2, x_call3, dk2, dk3, ixV_V, Nat.reduceEqDiff, not_false_eq_true, x_isLst, x_isSet, List.map_cons, List.map_nil, Option.map_none, Option.bind_none, c1, iLk_l, dApp_l (show (es.map Ed.d).length ≤ 1000 by rw [List.length_map]; omega), List.map_append, ed_d (show 0 ≤ 2 + k by omega) (show 0 ≤ 3 + k by omega)]
      · simp only [x_bind, bk_ok, bk_ite, x_ret, x_lift, lk_some, lk_ite, app_ite, x_eC, x_eV, vk_imm, vk_own, vk_bor, x_give, gk_own, x_bin, x_un, x_ix, x_tru, x_eB, dBl_bl, dTru_bl, dTru_int, dTru_lst, x_and, x_or, x_not, x_eAnd, x_eOr, x_eNot, x_eIf, x_chain, x_aNil, x_aCons, x_aVr, rk_own, rk_io, x_aVb, tk_own, tk_io, tk_imm, tk_bor, x_eTup, x_eLst, imms_nil, imms_im, x_eF, x_call, ixV_C, jk_imm, jk_own, jk_io, jk_bor, flk_int, x_lenV, nk_imm, nk_own, nk_io, nk_bor, x_inV, hk_imm, hk_own, hk_io, hk_bor, x_sNx, x_pass, x_cont, x_brk, x_seq, sk_nx, sk_rt, sk_rtO, sk_ct, sk_bk, sk_ite, x_drop, x_sRet, x_sRetO, x_sIf, x_asg, x_asgO, x_gN, x_gO, x_gNil, x_gCons, x_gTt, x_gTl, x_sApp, x_sSet, x_chM, ck_own, ck_io, x_iOf, x_iRg, x_fn, fk_rt, fk_nx, fk_ite, ios_z, ios_s, keep_io, keep_imm, keep_own, keep_bor, keep_no, dSub_i, dAdd_i, dLt_i, dLe_i, dGt_i, dGe_i, dEq_int, dNe_int, ix_lst, ix_scr, ix_tup, atI_0, atI_1, atI_2, atI_3, List.getElem?_cons_zero, List.getElem?_cons_succ, List.set_cons_zero, List.set_cons_succ, List.length_cons, List.length_nil, List.cons_append, List.nil_append, List.replicate_succ, List.replicate_zero, Option.map_some, Option.bind_some, Nat.reduceAdd, Nat.reduceSub, Nat.reduceLT, Nat.reduceLeDiff, if_true, if_false, Bool.false_eq_true, decide_eq_true_eq, reduceIte, ne_eq, not_false_eq_true, Nat.lt_add_left_iff_pos, Nat.zero_lt_succ, x_call2, x_call3, dk2, dk3, ixV_V, Nat.reduceEqDiff, not_false_eq_true, x_isLst, x_isSet, List.map_cons, List.map_nil, Option.map_none, Option.bind_none, fInt_i, k1, c, decide_true]
    · rcases List.mem_append.mp he with he | he
      · exact ok e he
      · simp at he; subst he
        exact ⟨by show (2 + k).toNat < _; omega, by show (3 + k).toNat < _; omega, by show (2 + k).toNat ≠ (3 + k).toNat; omega, a1⟩
  · refine ⟨d, es, ?_, hd, by omega, ok⟩
    rw [sIf_f (δ1 := [.io d, .imm (.int w), .imm (.int h), .own (edsD es), .imm (.int k)])]
    · rfl
    · simp only [x_bind, bk_ok, bk_ite, x_ret, x_lift, lk_some, lk_ite, app_ite, x_eC, x_eV, vk_imm, vk_own, vk_bor, x_give, gk_own, x_bin, x_un, x_ix, x_tru, x_eB, dBl_bl, dTru_bl, dTru_int, dTru_lst, x_and, x_or, x_not, x_eAnd, x_eOr, x_eNot, x_eIf, x_chain, x_aNil, x_aCons, x_aVr, rk_own, rk_io, x_aVb, tk_own, tk_io, tk_imm, tk_bor, x_eTup, x_eLst, imms_nil, imms_im, x_eF, x_call, ixV_C, jk_imm, jk_own, jk_io, jk_bor, flk_int, x_lenV, nk_imm, nk_own, nk_io, nk_bor, x_inV, hk_imm, hk_own, hk_io, hk_bor, x_sNx, x_pass, x_cont, x_brk, x_seq, sk_nx, sk_rt, sk_rtO, sk_ct, sk_bk, sk_ite, x_drop, x_sRet, x_sRetO, x_sIf, x_asg, x_asgO, x_gN, x_gO, x_gNil, x_gCons, x_gTt, x_gTl, x_sApp, x_sSet, x_chM, ck_own, ck_io, x_iOf, x_iRg, x_fn, fk_rt, fk_nx, fk_ite, ios_z, ios_s, keep_io, keep_imm, keep_own, keep_bor, keep_no, dSub_i, dAdd_i, dLt_i, dLe_i, dGt_i, dGe_i, dEq_int, dNe_int, ix_lst, ix_scr, ix_tup, atI_0, atI_1, atI_2, atI_3, List.getElem?_cons_zero, List.getElem?_cons_succ, List.set_cons_zero, List.set_cons_succ, List.length_cons, List.length_nil, List.cons_append, List.nil_append, List.replicate_succ, List.replicate_zero, Option.map_some, Option.bind_some, Nat.reduceAdd, Nat.reduceSub, Nat.reduceLT, Nat.reduceLeDiff, if_true, if_false, Bool.false_eq_true, decide_eq_true_eq, reduceIte, ne_eq, not_false_eq_true, Nat.lt_add_left_iff_pos, Nat.zero_lt_succ, x_call2, x_call3, dk2, dk3, ixV_V, Nat.reduceEqDiff, not_false_eq_true, x_isLst, x_isSet, List.map_cons, List.map_nil, Option.map_none, Option.bind_none, fInt_i, k1, c, decide_false]
theorem ev_gA2 {ns : List Int} {d : D} {w h k : Int} {es : List Ed} (hd : IsDr ns d) (w1 : 2 ≤ w) (w2 : w ≤ 4) (h1 : 2 ≤ h) (h2 : h ≤ 4) (k0 : 0 ≤ k) (k2 : k < w * h) (hl : es.length ≤ 900) (ok : ∀ e ∈ es, EdOk (2 + w * h).toNat e) :
    ∃ d' es', gA2 [.io d, .imm (.int w), .imm (.int h), .own (edsD es), .imm (.int k)] = some (.ok .nx, [.io d', .imm (.int w), .imm (.int h), .own (edsD es'), .imm (.int k)]) ∧ IsDr ns d' ∧ es'.length ≤ es.length + 1 ∧ ∀ e ∈ es', EdOk (2 + w * h).toNat e := by
  have k1 : dMul (.int w) (.int h) = some (.int (w * h)) := dMul_r (by omega) (by omega)
  generalize w * h = m at *
  unfold gA2
  by_cases c : k + w < m
  · obtain ⟨t1, d1, c1, i1, a1, b1⟩ := ev_dr hd (m := 9) (by omega) (by omega)
    refine ⟨d1, es ++ [⟨(2 + k + w).toNat, (2 + k).toNat, t1⟩], ?_, i1, by rw [List.length_append]; exact Nat.le_refl _, fun e he => ?_⟩
    · rw [sIf_t (δ1 := [.io d, .imm (.int w), .imm (.int h), .own (edsD es), .imm (.int k)])]
      · unfold edsD
        simp only [x_bind, bk_ok, bk_ite, x_ret, x_lift, lk_some, lk_ite, app_ite, x_eC, x_eV, vk_imm, vk_own, vk_bor, x_give, gk_own, x_bin, x_un, x_ix, x_tru, x_eB, dBl_bl, dTru_bl, dTru_int, dTru_lst, x_and, x_or, x_not, x_eAnd, x_eOr, x_eNot, x_eIf, x_chain, x_aNil, x_aCons, x_aVr, rk_own, rk_io, x_aVb, tk_own, tk_io, tk_imm, tk_bor, x_eTup, x_eLst, imms_nil, imms_im, x_eF, x_call, ixV_C, jk_imm, jk_own, jk_io, jk_bor, flk_int, x_lenV, nk_imm, nk_own, nk_io, nk_bor, x_inV, hk_imm, hk_own, hk_io, hk_bor, x_sNx, x_pass, x_cont, x_brk, x_seq, sk_nx, sk_rt, sk_rtO, sk_ct, sk_bk, sk_ite, x_drop, x_sRet, x_sRetO, x_sIf, x_asg, x_asgO, x_gN, x_gO, x_gNil, x_gCons, x_gTt, x_gTl, x_sApp, x_sSet, x_chM, ck_own, ck_io, x_iOf, x_iRg, x_fn, fk_rt, fk_nx, fk_ite, ios_z, ios_s, keep_io, keep_imm, keep_own, keep_bor, keep_no, dSub_i, dAdd_i, dLt_i, dLe_i, dGt_i, dGe_i, dEq_int, dNe_int, ix_lst, ix_scr, ix_tup, atI_0, atI_1, atI_2, atI_3, List.getElem?_cons_zero, List.getElem?_cons_succ, List.set_cons_zero, List.set_cons_succ, List.length_cons, List.length_nil, List.cons_append, List.nil_append, List.replicate_succ, List.replicate_zero, Option.map_some, Option.bind_some, Nat.reduceAdd, Nat.reduceSub, Nat.reduceLT, Nat.reduceLeDiff, if_true, if_false, Bool.false_eq_true, decide_eq_true_eq, reduceIte, ne_eq, not_false_eq_true, Nat.lt_add_left_iff_pos, Nat.zero_lt_succ, x_call2, x_call3, dk2, dk3, ixV_V, Nat.reduceEqDiff, not_false_eq_true, x_isLst, x_isSet, List.map_cons, List.map_nil, Option.map_none, Option.bind_none, c1, iLk_l, dApp_l (show (es.map Ed.d).length ≤ 1000 by rw [List.length_map]; omega), List.map_append, ed_d (show 0 ≤ 2 + k + w by omega) (show 0 ≤ 2 + k by omega)]
      · simp only [x_bind, bk_ok, bk_ite, x_ret, x_lift, lk_some, lk_ite, app_ite, x_eC, x_eV, vk_imm, vk_own, vk_bor, x_give, gk_own, x_bin, x_un, x_ix, x_tru, x_eB, dBl_bl, dTru_bl, dTru_int, dTru_lst, x_and, x_or, x_not, x_eAnd, x_eOr, x_eNot, x_eIf, x_chain, x_aNil, x_aCons, x_aVr, rk_own, rk_io, x_aVb, tk_own, tk_io, tk_imm, tk_bor, x_eTup, x_eLst, imms_nil, imms_im, x_eF, x_call, ixV_C, jk_imm, jk_own, jk_io, jk_bor, flk_int, x_lenV, nk_imm, nk_own, nk_io, nk_bor, x_inV, hk_imm, hk_own, hk_io, hk_bor, x_sNx, x_pass, x_cont, x_brk, x_seq, sk_nx, sk_rt, sk_rtO, sk_ct, sk_bk, sk_ite, x_drop, x_sRet, x_sRetO, x_sIf, x_asg, x_asgO, x_gN, x_gO, x_gNil, x_gCons, x_gTt, x_gTl, x_sApp, x_sSet, x_chM, ck_own, ck_io, x_iOf, x_iRg, x_fn, fk_rt, fk_nx, fk_ite, ios_z, ios_s, keep_io, keep_imm, keep_own, keep_bor, keep_no, dSub_i, dAdd_i, dLt_i, dLe_i, dGt_i, dGe_i, dEq_int, dNe_int, ix_lst, ix_scr, ix_tup, atI_0, atI_1, atI_2, atI_3, List.getElem?_cons_zero, List.getElem?_cons_succ, List.set_cons_zero, List.set_cons_succ, List.length_cons, List.length_nil, List.cons_append, List.nil_append, List.replicate_succ, List.replicate_zero, Option.map_some, Option.bind_some, Nat.reduceAdd, Nat.reduceSub, Nat.reduceLT, Nat.reduceLeDiff, if_true, if_false, Bool.false_eq_true, decide_eq_true_eq, reduceIte, ne_eq, not_false_eq_true, Nat.lt_add_left_iff_pos, Nat.zero_lt_succ, x_call2, x_call3, dk2, dk3, ixV_V, Nat.reduceEqDiff, not_false_eq_true, x_isLst, x_isSet, List.map_cons, List.map_nil, Option.map_none, Option.bind_none, k1, c, decide_true]
    · rcases List.mem_append.mp he with he | he
      · exact ok e he
      · simp at he; subst he
        exact ⟨by show (2 + k + w).toNat < _; omega, by show (2 + k).toNat < _; omega, by show (2 + k + w).toNat ≠ (2 + k).toNat; omega, a1⟩
  · refine ⟨d, es, ?_, hd, by omega, ok⟩
    rw [sIf_f (δ1 := [.io d, .imm (.int w), .imm (.int h), .own (edsD es), .imm (.int k)])]
    · rfl
    · simp only [x_bind, bk_ok, bk_ite, x_ret, x_lift, lk_some, lk_ite, app_ite, x_eC, x_eV, vk_imm, vk_own, vk_bor, x_give, gk_own, x_bin, x_un, x_ix, x_tru, x_eB, dBl_bl, dTru_bl, dTru_int, dTru_lst, x_and, x_or, x_not, x_eAnd, x_eOr, x_eNot, x_eIf, x_chain, x_aNil, x_aCons, x_aVr, rk_own, rk_io, x_aVb, tk_own, tk_io, tk_imm, tk_bor, x_eTup, x_eLst, imms_nil, imms_im, x_eF, x_call, ixV_C, jk_imm, jk_own, jk_io, jk_bor, flk_int, x_lenV, nk_imm, nk_own, nk_io, nk_bor, x_inV, hk_imm, hk_own, hk_io, hk_bor, x_sNx, x_pass, x_cont, x_brk, x_seq, sk_nx, sk_rt, sk_rtO, sk_ct, sk_bk, sk_ite, x_drop, x_sRet, x_sRetO, x_sIf, x_asg, x_asgO, x_gN, x_gO, x_gNil, x_gCons, x_gTt, x_gTl, x_sApp, x_sSet, x_chM, ck_own, ck_io, x_iOf, x_iRg, x_fn, fk_rt, fk_nx, fk_ite, ios_z, ios_s, keep_io, keep_imm, keep_own, keep_bor, keep_no, dSub_i, dAdd_i, dLt_i, dLe_i, dGt_i, dGe_i, dEq_int, dNe_int, ix_lst, ix_scr, ix_tup, atI_0, atI_1, atI_2, atI_3, List.getElem?_cons_zero, List.getElem?_cons_succ, List.set_cons_zero, List.set_cons_succ, List.length_cons, List.length_nil, List.cons_append, List.nil_append, List.replicate_succ, List.replicate_zero, Option.map_some, Option.bind_some, Nat.reduceAdd, Nat.reduceSub, Nat.reduceLT, Nat.reduceLeDiff, if_true, if_false, Bool.false_eq_true, decide_eq_true_eq, reduceIte, ne_eq, not_false_eq_true, Nat.lt_add_left_iff_pos, Nat.zero_lt_succ, x_call2, x_call3, dk2, dk3, ixV_V, Nat.reduceEqDiff, not_false_eq_true, x_isLst, x_isSet, List.map_cons, List.map_nil, Option.map_none, Option.bind_none, k1, c, decide_false]
noncomputable def gB : Mo Out := (sSeq (sApp 3 (eTup (aCons (eC (.int 0)) (aCons (eBin dAdd (eC (.int 2)) (eBin dMul (eV 4) (eV 1))) (aCons (eCall m__law_draw (aVr 0 (aCons (eC (.int 20)) aNil))) aNil)))))
 (sApp 3 (eTup (aCons (eC (.int 1)) (aCons (eBin dAdd (eC (.int 1)) (eBin dMul (eBin dAdd (eV 4) (eC (.int 1))) (eV 1))) (aCons (eCall m__law_draw (aVr 0 (aCons (eC (.int 20)) aNil))) aNil))))))
theorem ev_gB {ns : List Int} {d : D} {w h k : Int} {es : List Ed} (hd : IsDr ns d) (w1 : 2 ≤ w) (w2 : w ≤ 4) (h1 : 2 ≤ h) (h2 : h ≤ 4) (k0 : 0 ≤ k) (k2 : k < h) (hl : es.length ≤ 900) (ok : ∀ e ∈ es, EdOk (2 + w * h).toNat e) :
    ∃ d' es', gB [.io d, .imm (.int w), .imm (.int h), .own (edsD es), .imm (.int k)] = some (.ok .nx, [.io d', .imm (.int w), .imm (.int h), .own (edsD es'), .imm (.int k)]) ∧ IsDr ns d' ∧ es'.length = es.length + 2 ∧ ∀ e ∈ es', EdOk (2 + w * h).toNat e := by
  have k1 : dMul (.int k) (.int w) = some (.int (k * w)) := dMul_r (by omega) (by omega)
  have k3 : dMul (.int (k + 1)) (.int w) = some (.int ((k + 1) * w)) := dMul_r (by omega) (by omega)
  obtain ⟨g1, g2, g3, g4, g5⟩ := grid_row w1 w2 h1 h2 k0 k2
  obtain ⟨s1, s2⟩ := grid_sz w1 w2 h1 h2
  generalize w * h = m at *
  generalize (k + 1) * w = b at *
  generalize k * w = a at *
  obtain ⟨t1, d1, c1, i1, a1, b1⟩ := ev_dr hd (m := 20) (by omega) (by omega)
  obtain ⟨t2, d2, c2, i2, a2, b2⟩ := ev_dr i1 (m := 20) (by omega) (by omega)
  refine ⟨d2, (es ++ [⟨(0 : Int).toNat, (2 + a).toNat, t1⟩]) ++ [⟨(1 : Int).toNat, (1 + b).toNat, t2⟩], ?_, i2, by rw [List.length_append, List.length_append]; rfl, fun e he => ?_⟩
  · unfold gB
    refine ssq (δ1 := [.io d1, .imm (.int w), .imm (.int h), .own (edsD (es ++ [⟨(0 : Int).toNat, (2 + a).toNat, t1⟩])), .imm (.int k)]) ?_ ?_
    · unfold edsD
      simp only [x_bind, bk_ok, bk_ite, x_ret, x_lift, lk_some, lk_ite, app_ite, x_eC, x_eV, vk_imm, vk_own, vk_bor, x_give, gk_own, x_bin, x_un, x_ix, x_tru, x_eB, dBl_bl, dTru_bl, dTru_int, dTru_lst, x_and, x_or, x_not, x_eAnd, x_eOr, x_eNot, x_eIf, x_chain, x_aNil, x_aCons, x_aVr, rk_own, rk_io, x_aVb, tk_own, tk_io, tk_imm, tk_bor, x_eTup, x_eLst, imms_nil, imms_im, x_eF, x_call, ixV_C, jk_imm, jk_own, jk_io, jk_bor, flk_int, x_lenV, nk_imm, nk_own, nk_io, nk_bor, x_inV, hk_imm, hk_own, hk_io, hk_bor, x_sNx, x_pass, x_cont, x_brk, x_seq, sk_nx, sk_rt, sk_rtO, sk_ct, sk_bk, sk_ite, x_drop, x_sRet, x_sRetO, x_sIf, x_asg, x_asgO, x_gN, x_gO, x_gNil, x_gCons, x_gTt, x_gTl, x_sApp, x_sSet, x_chM, ck_own, ck_io, x_iOf, x_iRg, x_fn, fk_rt, fk_nx, fk_ite, ios_z, ios_s, keep_io, keep_imm, keep_own, keep_bor, keep_no, dSub_i, dAdd_i, dLt_i, dLe_i, dGt_i, dGe_i, dEq_int, dNe_int, ix_lst, ix_scr, ix_tup, atI_0, atI_1, atI_2, atI_3, List.getElem?_cons_zero, List.getElem?_cons_succ, List.set_cons_zero, List.set_cons_succ, List.length_cons, List.length_nil, List.cons_append, List.nil_append, List.replicate_succ, List.replicate_zero, Option.map_some, Option.bind_some, Nat.reduceAdd, Nat.reduceSub, Nat.reduceLT, Nat.reduceLeDiff, if_true, if_false, Bool.false_eq_true, decide_eq_true_eq, reduceIte, ne_eq, not_false_eq_true, Nat.lt_add_left_iff_pos, Nat.zero_lt_succ, x_call2, x_call3, dk2, dk3, ixV_V, Nat.reduceEqDiff, not_false_eq_true, x_isLst, x_isSet, List.map_cons, List.map_nil, Option.map_none, Option.bind_none, k1, c1, iLk_l, dApp_l (show (es.map Ed.d).length ≤ 1000 by rw [List.length_map]; omega), List.map_append, ed_d (show (0 : Int) ≤ 0 by omega) (show 0 ≤ 2 + a by omega)]
    · unfold edsD
      rw [List.map_append (l₁ := es ++ _)]
      generalize hL : (es ++ [⟨(0 : Int).toNat, (2 + a).toNat, t1⟩] : List Ed) = L
      have hLl : L.length = es.length + 1 := by rw [← hL, List.length_append]; rfl
      simp only [x_bind, bk_ok, bk_ite, x_ret, x_lift, lk_some, lk_ite, app_ite, x_eC, x_eV, vk_imm, vk_own, vk_bor, x_give, gk_own, x_bin, x_un, x_ix, x_tru, x_eB, dBl_bl, dTru_bl, dTru_int, dTru_lst, x_and, x_or, x_not, x_eAnd, x_eOr, x_eNot, x_eIf, x_chain, x_aNil, x_aCons, x_aVr, rk_own, rk_io, x_aVb, tk_own, tk_io, tk_imm, tk_bor, x_eTup, x_eLst, imms_nil, imms_im, x_eF, x_call, ixV_C, jk_imm, jk_own, jk_io, jk_bor, flk_int, x_lenV, nk_imm, nk_own, nk_io, nk_bor, x_inV, hk_imm, hk_own, hk_io, hk_bor, x_sNx, x_pass, x_cont, x_brk, x_seq, sk_nx, sk_rt, sk_rtO, sk_ct, sk_bk, sk_ite, x_drop, x_sRet, x_sRetO, x_sIf, x_asg, x_asgO, x_gN, x_gO, x_gNil, x_gCons, x_gTt, x_gTl, x_sApp, x_sSet, x_chM, ck_own, ck_io, x_iOf, x_iRg, x_fn, fk_rt, fk_nx, fk_ite, ios_z, ios_s, keep_io, keep_imm, keep_own, keep_bor, keep_no, dSub_i, dAdd_i, dLt_i, dLe_i, dGt_i, dGe_i, dEq_int, dNe_int, ix_lst, ix_scr, ix_tup, atI_0, atI_1, atI_2, atI_3, List.getElem?_cons_zero, List.getElem?_cons_succ, List.set_cons_zero, List.set_cons_succ, List.length_cons, List.length_nil, List.cons_append, List.nil_append, List.replicate_succ, List.replicate_zero, Option.map_some, Option.bind_some, Nat.reduceAdd, Nat.reduceSub, Nat.reduceLT, Nat.reduceLeDiff, if_true, if_false, Bool.false_eq_true, decide_eq_true_eq, reduceIte, ne_eq, not_false_eq_true, Nat.lt_add_left_iff_pos, Nat.zero_lt_succ, x_call2, x_call3, dk2, dk3, ixV_V, Nat.reduceEqDiff, not_false_eq_true, x_isLst, x_isSet, List.map_cons, List.map_nil, Option.map_none, Option.bind_none, k3, c2, iLk_l, dApp_l (show (L.map Ed.d).length ≤ 1000 by rw [List.length_map]; omega), ed_d (show (0 : Int) ≤ 1 by omega) (show 0 ≤ 1 + b by omega)]
  · rcases List.mem_append.mp he with he | he
    · rcases List.mem_append.mp he with he | he
      · exact ok e he
      · simp at he; subst he
        exact ⟨by show (0 : Int).toNat < _; omega, by show (2 + a).toNat < _; omega, by show (0 : Nat) ≠ (2 + a).toNat; omega, a1⟩
    · simp at he; subst he
      exact ⟨by show (1 : Int).toNat < _; omega, by show (1 + b).toNat < _; omega, by show (1 : Nat) ≠ (1 + b).toNat; omega, a2⟩
theorem rg1_i {z : Int} (h0 : 0 ≤ z) (h : z ≤ 1000) : rg1 [.int z] = some (rgD 0 z.toNat) := by
  show (if z ≤ 16777216 ∧ -16777216 ≤ z then some (rgD 0 z.toNat) else none) = _
  rw [if_pos ⟨by omega, by omega⟩]
theorem ev_grid {ns : List Int} {d : D} (hd : IsDr ns d) :
    ∃ (d' : D) (n : Nat) (es : List Ed), m__law_grid [.io d] = some (.ok (.tup [.int (n : Int), edsD es]), [.io d']) ∧ IsDr ns d' ∧ 2 ≤ n ∧ n ≤ 20 ∧ es.length ≤ 60 ∧ ∀ e ∈ es, EdOk n e := by
  obtain ⟨t0, d0, c0, i0, a0, b0⟩ := ev_dr hd (m := 3) (by omega) (by omega)
  obtain ⟨t1, d1, c1, i1, a1, b1⟩ := ev_dr i0 (m := 3) (by omega) (by omega)
  generalize ew : 2 + t0 = w at *
  generalize eh : 2 + t1 = h at *
  have w1 : 2 ≤ w := by omega
  have w2 : w ≤ 4 := by omega
  have h1 : 2 ≤ h := by omega
  have h2 : h ≤ 4 := by omega
  obtain ⟨s1, s2⟩ := grid_sz w1 w2 h1 h2
  have k1 : dMul (.int w) (.int h) = some (.int (w * h)) := dMul_r (by omega) (by omega)
  obtain ⟨δ1, f1, d2, es2, y2, rfl, i2, l2, ok2⟩ := sFor_inv (I := (iRg rg1 (aCons (eBin dMul (eV 1) (eV 2)) aNil))) (T := gN 4) (S := sSeq gA1 gA2) (ds := rgD 0 (w * h).toNat)
    (δ := [.io d1, .imm (.int w), .imm (.int h), .own (edsD []), .no]) (δ0 := [.io d1, .imm (.int w), .imm (.int h), .own (edsD []), .no])
    (fun k δ => ∃ (d' : D) (es : List Ed) (y : Sl), δ = [.io d', .imm (.int w), .imm (.int h), .own (edsD es), y] ∧ IsDr ns d' ∧ es.length ≤ 2 * k ∧ ∀ e ∈ es, EdOk (2 + w * h).toNat e)
    (by simp only [x_bind, bk_ok, bk_ite, x_ret, x_lift, lk_some, lk_ite, app_ite, x_eC, x_eV, vk_imm, vk_own, vk_bor, x_give, gk_own, x_bin, x_un, x_ix, x_tru, x_eB, dBl_bl, dTru_bl, dTru_int, dTru_lst, x_and, x_or, x_not, x_eAnd, x_eOr, x_eNot, x_eIf, x_chain, x_aNil, x_aCons, x_aVr, rk_own, rk_io, x_aVb, tk_own, tk_io, tk_imm, tk_bor, x_eTup, x_eLst, imms_nil, imms_im, x_eF, x_call, ixV_C, jk_imm, jk_own, jk_io, jk_bor, flk_int, x_lenV, nk_imm, nk_own, nk_io, nk_bor, x_inV, hk_imm, hk_own, hk_io, hk_bor, x_sNx, x_pass, x_cont, x_brk, x_seq, sk_nx, sk_rt, sk_rtO, sk_ct, sk_bk, sk_ite, x_drop, x_sRet, x_sRetO, x_sIf, x_asg, x_asgO, x_gN, x_gO, x_gNil, x_gCons, x_gTt, x_gTl, x_sApp, x_sSet, x_chM, ck_own, ck_io, x_iOf, x_iRg, x_fn, fk_rt, fk_nx, fk_ite, ios_z, ios_s, keep_io, keep_imm, keep_own, keep_bor, keep_no, dSub_i, dAdd_i, dLt_i, dLe_i, dGt_i, dGe_i, dEq_int, dNe_int, ix_lst, ix_scr, ix_tup, atI_0, atI_1, atI_2, atI_3, List.getElem?_cons_zero, List.getElem?_cons_succ, List.set_cons_zero, List.set_cons_succ, List.length_cons, List.length_nil, List.cons_append, List.nil_append, List.replicate_succ, List.replicate_zero, Option.map_some, Option.bind_some, Nat.reduceAdd, Nat.reduceSub, Nat.reduceLT, Nat.reduceLeDiff, if_true, if_false, Bool.false_eq_true, decide_eq_true_eq, reduceIte, ne_eq, not_false_eq_true, Nat.lt_add_left_iff_pos, Nat.zero_lt_succ, x_call2, x_call3, dk2, dk3, ixV_V, Nat.reduceEqDiff, not_false_eq_true, x_isLst, x_isSet, List.map_cons, List.map_nil, Option.map_none, Option.bind_none, k1, rg1_i (show 0 ≤ w * h by omega) (show w * h ≤ 1000 by omega)]) ⟨d1, [], .no, rfl, i1, Nat.zero_le _, fun e he => by simp at he⟩ (fun k d δ hk hδ => by
      obtain ⟨d', es, y, rfl, hd', hl, hok⟩ := hδ
      obtain ⟨hk, rfl⟩ := rgD_get hk
      obtain ⟨d2, es2, e1, j1, g1, o1⟩ := ev_gA1 (h := h) (k := (k : Int)) (m := w * h) hd' w1 w2 (by omega) (fun c => grid_lt w1 w2 h1 h2 (by omega) (by omega) c) (by omega) hok
      obtain ⟨d3, es3, e2, j2, g2, o2⟩ := ev_gA2 (k := (k : Int)) j1 w1 w2 h1 h2 (by omega) (by omega) (by omega) o1
      exact ⟨[.io d', .imm (.int w), .imm (.int h), .own (edsD es), .imm (.int (k : Int))], _, by simp only [x_bind, bk_ok, bk_ite, x_ret, x_lift, lk_some, lk_ite, app_ite, x_eC, x_eV, vk_imm, vk_own, vk_bor, x_give, gk_own, x_bin, x_un, x_ix, x_tru, x_eB, dBl_bl, dTru_bl, dTru_int, dTru_lst, x_and, x_or, x_not, x_eAnd, x_eOr, x_eNot, x_eIf, x_chain, x_aNil, x_aCons, x_aVr, rk_own, rk_io, x_aVb, tk_own, tk_io, tk_imm, tk_bor, x_eTup, x_eLst, imms_nil, imms_im, x_eF, x_call, ixV_C, jk_imm, jk_own, jk_io, jk_bor, flk_int, x_lenV, nk_imm, nk_own, nk_io, nk_bor, x_inV, hk_imm, hk_own, hk_io, hk_bor, x_sNx, x_pass, x_cont, x_brk, x_seq, sk_nx, sk_rt, sk_rtO, sk_ct, sk_bk, sk_ite, x_drop, x_sRet, x_sRetO, x_sIf, x_asg, x_asgO, x_gN, x_gO, x_gNil, x_gCons, x_gTt, x_gTl, x_sApp, x_sSet, x_chM, ck_own, ck_io, x_iOf, x_iRg, x_fn, fk_rt, fk_nx, fk_ite, ios_z, ios_s, keep_io, keep_imm, keep_own, keep_bor, keep_no, dSub_i, dAdd_i, dLt_i, dLe_i, dGt_i, dGe_i, dEq_int, dNe_int, ix_lst, ix_scr, ix_tup, atI_0, atI_1, atI_2, atI_3, List.getElem?_cons_zero, List.getElem?_cons_succ, List.set_cons_zero, List.set_cons_succ, List.length_cons, List.length_nil, List.cons_append, List.nil_append, List.replicate_succ, List.replicate_zero, Option.map_some, Option.bind_some, Nat.reduceAdd, Nat.reduceSub, Nat.reduceLT, Nat.reduceLeDiff, if_true, if_false, Bool.false_eq_true, decide_eq_true_eq, reduceIte, ne_eq, not_false_eq_true, Nat.lt_add_left_iff_pos, Nat.zero_lt_succ, x_call2, x_call3, dk2, dk3, ixV_V, Nat.reduceEqDiff, not_false_eq_true, x_isLst, x_isSet, List.map_cons, List.map_nil, Option.map_none, Option.bind_none], .inl (ssq e1 e2), d3, es3, _, rfl, j2, by omega, o2⟩)
  rw [rgD_len] at l2
  obtain ⟨δ2, f2, d3, es3, y3, rfl, i3, l3, ok3⟩ := sFor_inv (I := (iRg rg1 (aCons (eV 2) aNil))) (T := gN 4) (S := gB) (ds := rgD 0 h.toNat)
    (δ := [.io d2, .imm (.int w), .imm (.int h), .own (edsD es2), y2]) (δ0 := [.io d2, .imm (.int w), .imm (.int h), .own (edsD es2), y2])
    (fun k δ => ∃ (d' : D) (es : List Ed) (y : Sl), δ = [.io d', .imm (.int w), .imm (.int h), .own (edsD es), y] ∧ IsDr ns d' ∧ es.length ≤ 32 + 2 * k ∧ ∀ e ∈ es, EdOk (2 + w * h).toNat e)
    (by simp only [x_bind, bk_ok, bk_ite, x_ret, x_lift, lk_some, lk_ite, app_ite, x_eC, x_eV, vk_imm, vk_own, vk_bor, x_give, gk_own, x_bin, x_un, x_ix, x_tru, x_eB, dBl_bl, dTru_bl, dTru_int, dTru_lst, x_and, x_or, x_not, x_eAnd, x_eOr, x_eNot, x_eIf, x_chain, x_aNil, x_aCons, x_aVr, rk_own, rk_io, x_aVb, tk_own, tk_io, tk_imm, tk_bor, x_eTup, x_eLst, imms_nil, imms_im, x_eF, x_call, ixV_C, jk_imm, jk_own, jk_io, jk_bor, flk_int, x_lenV, nk_imm, nk_own, nk_io, nk_bor, x_inV, hk_imm, hk_own, hk_io, hk_bor, x_sNx, x_pass, x_cont, x_brk, x_seq, sk_nx, sk_rt, sk_rtO, sk_ct, sk_bk, sk_ite, x_drop, x_sRet, x_sRetO, x_sIf, x_asg, x_asgO, x_gN, x_gO, x_gNil, x_gCons, x_gTt, x_gTl, x_sApp, x_sSet, x_chM, ck_own, ck_io, x_iOf, x_iRg, x_fn, fk_rt, fk_nx, fk_ite, ios_z, ios_s, keep_io, keep_imm, keep_own, keep_bor, keep_no, dSub_i, dAdd_i, dLt_i, dLe_i, dGt_i, dGe_i, dEq_int, dNe_int, ix_lst, ix_scr, ix_tup, atI_0, atI_1, atI_2, atI_3, List.getElem?_cons_zero, List.getElem?_cons_succ, List.set_cons_zero, List.set_cons_succ, List.length_cons, List.length_nil, List.cons_append, List.nil_append, List.replicate_succ, List.replicate_zero, Option.map_some, Option.bind_some, Nat.reduceAdd, Nat.reduceSub, Nat.reduceLT, Nat.reduceLeDiff, if_true, if_false, Bool.false_eq_true, decide_eq_true_eq, reduceIte, ne_eq, not_false_eq_true, Nat.lt_add_left_iff_pos, Nat.zero_lt_succ, x_call2, x_call3, dk2, dk3, ixV_V, Nat.reduceEqDiff, not_false_eq_true, x_isLst, x_isSet, List.map_cons, List.map_nil, Option.map_none, Option.bind_none, rg1_i (show 0 ≤ h by omega) (show h ≤ 1000 by omega)]) ⟨d2, es2, y2, rfl, i2, by omega, ok2⟩ (fun k d δ hk hδ => by
      obtain ⟨d', es, y, rfl, hd', hl, hok⟩ := hδ
      obtain ⟨hk, rfl⟩ := rgD_get hk
      obtain ⟨d2, es2, e1, j1, g1, o1⟩ := ev_gB (k := (k : Int)) hd' w1 w2 h1 h2 (by omega) (by omega) (by omega) hok
      exact ⟨[.io d', .imm (.int w), .imm (.int h), .own (edsD es), .imm (.int (k : Int))], _, by simp only [x_bind, bk_ok, bk_ite, x_ret, x_lift, lk_some, lk_ite, app_ite, x_eC, x_eV, vk_imm, vk_own, vk_bor, x_give, gk_own, x_bin, x_un, x_ix, x_tru, x_eB, dBl_bl, dTru_bl, dTru_int, dTru_lst, x_and, x_or, x_not, x_eAnd, x_eOr, x_eNot, x_eIf, x_chain, x_aNil, x_aCons, x_aVr, rk_own, rk_io, x_aVb, tk_own, tk_io, tk_imm, tk_bor, x_eTup, x_eLst, imms_nil, imms_im, x_eF, x_call, ixV_C, jk_imm, jk_own, jk_io, jk_bor, flk_int, x_lenV, nk_imm, nk_own, nk_io, nk_bor, x_inV, hk_imm, hk_own, hk_io, hk_bor, x_sNx, x_pass, x_cont, x_brk, x_seq, sk_nx, sk_rt, sk_rtO, sk_ct, sk_bk, sk_ite, x_drop, x_sRet, x_sRetO, x_sIf, x_asg, x_asgO, x_gN, x_gO, x_gNil, x_gCons, x_gTt, x_gTl, x_sApp, x_sSet, x_chM, ck_own, ck_io, x_iOf, x_iRg, x_fn, fk_rt, fk_nx, fk_ite, ios_z, ios_s, keep_io, keep_imm, keep_own, keep_bor, keep_no, dSub_i, dAdd_i, dLt_i, dLe_i, dGt_i, dGe_i, dEq_int, dNe_int, ix_lst, ix_scr, ix_tup, atI_0, atI_1, atI_2, atI_3, List.getElem?_cons_zero, List.getElem?_cons_succ, List.set_cons_zero, List.set_cons_succ, List.length_cons, List.length_nil, List.cons_append, List.nil_append, List.replicate_succ, List.replicate_zero, Option.map_some, Option.bind_some, Nat.reduceAdd, Nat.reduceSub, Nat.reduceLT, Nat.reduceLeDiff, if_true, if_false, Bool.false_eq_true, decide_eq_true_eq, reduceIte, ne_eq, not_false_eq_true, Nat.lt_add_left_iff_pos, Nat.zero_lt_succ, x_call2, x_call3, dk2, dk3, ixV_V, Nat.reduceEqDiff, not_false_eq_true, x_isLst, x_isSet, List.map_cons, List.map_nil, Option.map_none, Option.bind_none], .inl e1, d2, es2, _, rfl, j1, by omega, o1⟩)
  rw [rgD_len] at l3
  refine ⟨d3, (2 + w * h).toNat, es3, ?_, i3, by omega, by omega, by omega, ok3⟩
  unfold m__law_grid b__law_grid
  rw [x_fn]
  have e0 : ([.io d] ++ List.replicate (5 - 1) Sl.no : Env) = [.io d, .no, .no, .no, .no] := rfl
  rw [e0]
  refine (congrArg (fk 1) (ssq (δ1 := [.io d0, .imm (.int w), .no, .no, .no]) ?_ (ssq (δ1 := [.io d1, .imm (.int w), .imm (.int h), .no, .no]) ?_ (ssq (δ1 := [.io d1, .imm (.int w), .imm (.int h), .own (edsD []), .no]) ?_
    (ssq f1 (ssq f2 (r := some (.ok (.rt (.tup [.int ((2 + w * h).toNat : Nat), edsD es3])), [.io d3, .imm (.int w), .imm (.int h), .imm (edsD es3), y3])) ?_)))))).trans rfl
  · simp only [x_bind, bk_ok, bk_ite, x_ret, x_lift, lk_some, lk_ite, app_ite, x_eC, x_eV, vk_imm, vk_own, vk_bor, x_give, gk_own, x_bin, x_un, x_ix, x_tru, x_eB, dBl_bl, dTru_bl, dTru_int, dTru_lst, x_and, x_or, x_not, x_eAnd, x_eOr, x_eNot, x_eIf, x_chain, x_aNil, x_aCons, x_aVr, rk_own, rk_io, x_aVb, tk_own, tk_io, tk_imm, tk_bor, x_eTup, x_eLst, imms_nil, imms_im, x_eF, x_call, ixV_C, jk_imm, jk_own, jk_io, jk_bor, flk_int, x_lenV, nk_imm, nk_own, nk_io, nk_bor, x_inV, hk_imm, hk_own, hk_io, hk_bor, x_sNx, x_pass, x_cont, x_brk, x_seq, sk_nx, sk_rt, sk_rtO, sk_ct, sk_bk, sk_ite, x_drop, x_sRet, x_sRetO, x_sIf, x_asg, x_asgO, x_gN, x_gO, x_gNil, x_gCons, x_gTt, x_gTl, x_sApp, x_sSet, x_chM, ck_own, ck_io, x_iOf, x_iRg, x_fn, fk_rt, fk_nx, fk_ite, ios_z, ios_s, keep_io, keep_imm, keep_own, keep_bor, keep_no, dSub_i, dAdd_i, dLt_i, dLe_i, dGt_i, dGe_i, dEq_int, dNe_int, ix_lst, ix_scr, ix_tup, atI_0, atI_1, atI_2, atI_3, List.getElem?_cons_zero, List.getElem?_cons_succ, List.set_cons_zero, List.set_cons_succ, List.length_cons, List.length_nil, List.cons_append, List.nil_append, List.replicate_succ, List.replicate_zero, Option.map_some, Option.bind_some, Nat.reduceAdd, Nat.reduceSub, Nat.reduceLT, Nat.reduceLeDiff, if_true, if_false, Bool.false_eq_true, decide_eq_true_eq, reduceIte, ne_eq, not_false_eq_true, Nat.lt_add_left_iff_pos, Nat.zero_lt_succ, x_call2, x_call3, dk2, dk3, ixV_V, Nat.reduceEqDiff, not_false_eq_true, x_isLst, x_isSet, List.map_cons, List.map_nil, Option.map_none, Option.bind_none, c0, ew]
  · simp only [x_bind, bk_ok, bk_ite, x_ret, x_lift, lk_some, lk_ite, app_ite, x_eC, x_eV, vk_imm, vk_own, vk_bor, x_give, gk_own, x_bin, x_un, x_ix, x_tru, x_eB, dBl_bl, dTru_bl, dTru_int, dTru_lst, x_and, x_or, x_not, x_eAnd, x_eOr, x_eNot, x_eIf, x_chain, x_aNil, x_aCons, x_aVr, rk_own, rk_io, x_aVb, tk_own, tk_io, tk_imm, tk_bor, x_eTup, x_eLst, imms_nil, imms_im, x_eF, x_call, ixV_C, jk_imm, jk_own, jk_io, jk_bor, flk_int, x_lenV, nk_imm, nk_own, nk_io, nk_bor, x_inV, hk_imm, hk_own, hk_io, hk_bor, x_sNx, x_pass, x_cont, x_brk, x_seq, sk_nx, sk_rt, sk_rtO, sk_ct, sk_bk, sk_ite, x_drop, x_sRet, x_sRetO, x_sIf, x_asg, x_asgO, x_gN, x_gO, x_gNil, x_gCons, x_gTt, x_gTl, x_sApp, x_sSet, x_chM, ck_own, ck_io, x_iOf, x_iRg, x_fn, fk_rt, fk_nx, fk_ite, ios_z, ios_s, keep_io, keep_imm, keep_own, keep_bor, keep_no, dSub_i, dAdd_i, dLt_i, dLe_i, dGt_i, dGe_i, dEq_int, dNe_int, ix_lst, ix_scr, ix_tup, atI_0, atI_1, atI_2, atI_3, List.getElem?_cons_zero, List.getElem?_cons_succ, List.set_cons_zero, List.set_cons_succ, List.length_cons, List.length_nil, List.cons_append, List.nil_append, List.replicate_succ, List.replicate_zero, Option.map_some, Option.bind_some, Nat.reduceAdd, Nat.reduceSub, Nat.reduceLT, Nat.reduceLeDiff, if_true, if_false, Bool.false_eq_true, decide_eq_true_eq, reduceIte, ne_eq, not_false_eq_true, Nat.lt_add_left_iff_pos, Nat.zero_lt_succ, x_call2, x_call3, dk2, dk3, ixV_V, Nat.reduceEqDiff, not_false_eq_true, x_isLst, x_isSet, List.map_cons, List.map_nil, Option.map_none, Option.bind_none, c1, eh]
  · simp only [x_bind, bk_ok, bk_ite, x_ret, x_lift, lk_some, lk_ite, app_ite, x_eC, x_eV, vk_imm, vk_own, vk_bor, x_give, gk_own, x_bin, x_un, x_ix, x_tru, x_eB, dBl_bl, dTru_bl, dTru_int, dTru_lst, x_and, x_or, x_not, x_eAnd, x_eOr, x_eNot, x_eIf, x_chain, x_aNil, x_aCons, x_aVr, rk_own, rk_io, x_aVb, tk_own, tk_io, tk_imm, tk_bor, x_eTup, x_eLst, imms_nil, imms_im, x_eF, x_call, ixV_C, jk_imm, jk_own, jk_io, jk_bor, flk_int, x_lenV, nk_imm, nk_own, nk_io, nk_bor, x_inV, hk_imm, hk_own, hk_io, hk_bor, x_sNx, x_pass, x_cont, x_brk, x_seq, sk_nx, sk_rt, sk_rtO, sk_ct, sk_bk, sk_ite, x_drop, x_sRet, x_sRetO, x_sIf, x_asg, x_asgO, x_gN, x_gO, x_gNil, x_gCons, x_gTt, x_gTl, x_sApp, x_sSet, x_chM, ck_own, ck_io, x_iOf, x_iRg, x_fn, fk_rt, fk_nx, fk_ite, ios_z, ios_s, keep_io, keep_imm, keep_own, keep_bor, keep_no, dSub_i, dAdd_i, dLt_i, dLe_i, dGt_i, dGe_i, dEq_int, dNe_int, ix_lst, ix_scr, ix_tup, atI_0, atI_1, atI_2, atI_3, List.getElem?_cons_zero, List.getElem?_cons_succ, List.set_cons_zero, List.set_cons_succ, List.length_cons, List.length_nil, List.cons_append, List.nil_append, List.replicate_succ, List.replicate_zero, Option.map_some, Option.bind_some, Nat.reduceAdd, Nat.reduceSub, Nat.reduceLT, Nat.reduceLeDiff, if_true, if_false, Bool.false_eq_true, decide_eq_true_eq, reduceIte, ne_eq, not_false_eq_true, Nat.lt_add_left_iff_pos, Nat.zero_lt_succ, x_call2, x_call3, dk2, dk3, ixV_V, Nat.reduceEqDiff, not_false_eq_true, x_isLst, x_isSet, List.map_cons, List.map_nil, Option.map_none, Option.bind_none]
    rfl
  · rw [Int.toNat_of_nonneg (by omega)]
    simp only [x_bind, bk_ok, bk_ite, x_ret, x_lift, lk_some, lk_ite, app_ite, x_eC, x_eV, vk_imm, vk_own, vk_bor, x_give, gk_own, x_bin, x_un, x_ix, x_tru, x_eB, dBl_bl, dTru_bl, dTru_int, dTru_lst, x_and, x_or, x_not, x_eAnd, x_eOr, x_eNot, x_eIf, x_chain, x_aNil, x_aCons, x_aVr, rk_own, rk_io, x_aVb, tk_own, tk_io, tk_imm, tk_bor, x_eTup, x_eLst, imms_nil, imms_im, x_eF, x_call, ixV_C, jk_imm, jk_own, jk_io, jk_bor, flk_int, x_lenV, nk_imm, nk_own, nk_io, nk_bor, x_inV, hk_imm, hk_own, hk_io, hk_bor, x_sNx, x_pass, x_cont, x_brk, x_seq, sk_nx, sk_rt, sk_rtO, sk_ct, sk_bk, sk_ite, x_drop, x_sRet, x_sRetO, x_sIf, x_asg, x_asgO, x_gN, x_gO, x_gNil, x_gCons, x_gTt, x_gTl, x_sApp, x_sSet, x_chM, ck_own, ck_io, x_iOf, x_iRg, x_fn, fk_rt, fk_nx, fk_ite, ios_z, ios_s, keep_io, keep_imm, keep_own, keep_bor, keep_no, dSub_i, dAdd_i, dLt_i, dLe_i, dGt_i, dGe_i, dEq_int, dNe_int, ix_lst, ix_scr, ix_tup, atI_0, atI_1, atI_2, atI_3, List.getElem?_cons_zero, List.getElem?_cons_succ, List.set_cons_zero, List.set_cons_succ, List.length_cons, List.length_nil, List.cons_append, List.nil_append, List.replicate_succ, List.replicate_zero, Option.map_some, Option.bind_some, Nat.reduceAdd, Nat.reduceSub, Nat.reduceLT, Nat.reduceLeDiff, if_true, if_false, Bool.false_eq_true, decide_eq_true_eq, reduceIte, ne_eq, not_false_eq_true, Nat.lt_add_left_iff_pos, Nat.zero_lt_succ, x_call2, x_call3, dk2, dk3, ixV_V, Nat.reduceEqDiff, not_false_eq_true, x_isLst, x_isSet, List.map_cons, List.map_nil, Option.map_none, Option.bind_none, k1]
end M

set_option Elab.async false
set_option linter.all false
set_option maxRecDepth 100000
set_option maxHeartbeats 1000000
namespace M
open PySem L2
theorem ev_left {n : Nat} {es : List Ed} {fs : List Int} {side : List Nat} (he : es.length ≤ 1000) (hl : fs.length = es.length) (ok : ∀ e ∈ es, EdOk n e) (F : Full es fs fun v => decide (v ∈ side)) :
    m__law_left [.imm (edsD es), .imm (iD fs), .imm (nD side)] = some (.ok (.bl false), [.no, .no, .no]) := by
  obtain ⟨δ', h1, y3, y4, y5, y6, rfl⟩ := sFor_inv (I := (iRg rg1 (aCons (eF fLen (aCons (eV 0) aNil)) aNil))) (T := gN 3) (S := (sSeq (sAsg (gT 3 (gCons (gN 4) (gCons (gN 5) (gCons (gN 6) gNil)))) (eIxV 0 (eV 3)))
 (sSeq (sIf (tAndM (eB (eBin (dIn false) (eV 4) (eV 2))) (tAndM (eB (eBin (dIn true) (eV 5) (eV 2))) (eB (eBin dLt (eIxV 1 (eV 3)) (eV 6)))))
 (sRet (eC (.bl true)))
 sNx)
 (sIf (tAndM (eB (eBin (dIn false) (eV 5) (eV 2))) (tAndM (eB (eBin (dIn true) (eV 4) (eV 2))) (eB (eBin dGt (eIxV 1 (eV 3)) (eBin dSub (eC (.int 0)) (eV 6))))))
 (sRet (eC (.bl true)))
 sNx)))) (ds := rgD 0 es.length)
    (δ := [.imm (edsD es), .imm (iD fs), .imm (nD side), .no, .no, .no, .no]) (δ0 := [.imm (edsD es), .imm (iD fs), .imm (nD side), .no, .no, .no, .no])
    (fun k δ => ∃ y3 y4 y5 y6, δ = [.imm (edsD es), .imm (iD fs), .imm (nD side), y3, y4, y5, y6]) (by simp only [x_bind, bk_ok, bk_ite, x_ret, x_lift, lk_some, lk_ite, app_ite, x_eC, x_eV, vk_imm, vk_own, vk_bor, x_give, gk_own, x_bin, x_un, x_ix, x_tru, x_eB, dBl_bl, dTru_bl, dTru_int, dTru_lst, x_and, x_or, x_not, x_eAnd, x_eOr, x_eNot, x_eIf, x_chain, x_aNil, x_aCons, x_aVr, rk_own, rk_io, x_aVb, tk_own, tk_io, tk_imm, tk_bor, x_eTup, x_eLst, imms_nil, imms_im, x_eF, x_call, ixV_C, jk_imm, jk_own, jk_io, jk_bor, flk_int, x_lenV, nk_imm, nk_own, nk_io, nk_bor, x_inV, hk_imm, hk_own, hk_io, hk_bor, x_sNx, x_pass, x_cont, x_brk, x_seq, sk_nx, sk_rt, sk_rtO, sk_ct, sk_bk, sk_ite, x_drop, x_sRet, x_sRetO, x_sIf, x_asg, x_asgO, x_gN, x_gO, x_gNil, x_gCons, x_gTt, x_gTl, x_sApp, x_sSet, x_chM, ck_own, ck_io, x_iOf, x_iRg, x_fn, fk_rt, fk_nx, fk_ite, ios_z, ios_s, keep_io, keep_imm, keep_own, keep_bor, keep_no, dSub_i, dAdd_i, dLt_i, dLe_i, dGt_i, dGe_i, dEq_int, dNe_int, ix_lst, ix_scr, ix_tup, atI_0, atI_1, atI_2, atI_3, List.getElem?_cons_zero, List.getElem?_cons_succ, List.set_cons_zero, List.set_cons_succ, List.length_cons, List.length_nil, List.cons_append, List.nil_append, List.replicate_succ, List.replicate_zero, Option.map_some, Option.bind_some, Nat.reduceAdd, Nat.reduceSub, Nat.reduceLT, Nat.reduceLeDiff, if_true, if_false, Bool.false_eq_true, decide_eq_true_eq, reduceIte, ne_eq, not_false_eq_true, Nat.lt_add_left_iff_pos, Nat.zero_lt_succ, x_call2, x_call3, dk2, dk3, ixV_V, Nat.reduceEqDiff, not_false_eq_true, x_isLst, x_isSet, List.map_cons, List.map_nil, Option.map_none, Option.bind_none, fLen_eds, rg1_n he]) ⟨.no, .no, .no, .no, rfl⟩ (fun k d δ hd hδ => by
      obtain ⟨y3, y4, y5, y6, rfl⟩ := hδ
      obtain ⟨hk, rfl⟩ := rgD_get hd
      have g1 : es[k]? = some es[k] := List.getElem?_eq_getElem hk
      have hkf : k < fs.length := by omega
      have g2 : fs[k]? = some fs[k] := List.getElem?_eq_getElem hkf
      have a1 : dIx (edsD es) (.int (k : Int)) = some es[k].d := at_map g1
      have a2 : dIx (iD fs) (.int (k : Int)) = some (.int fs[k]) := at_map g2
      obtain ⟨b1, b2, b3, _⟩ := ok _ (List.getElem_mem hk)
      obtain ⟨q1, q2⟩ := F k _ _ g1 g2
      generalize es[k] = e at *
      generalize fs[k] = f at *
      let E : Env := [.imm (edsD es), .imm (iD fs), .imm (nD side), .imm (.int (k : Int)), .imm (.int (e.a : Int)), .imm (.int (e.b : Int)), .imm (.int e.r)]
      refine ⟨[.imm (edsD es), .imm (iD fs), .imm (nD side), .imm (.int (k : Int)), y4, y5, y6], E, by simp only [x_bind, bk_ok, bk_ite, x_ret, x_lift, lk_some, lk_ite, app_ite, x_eC, x_eV, vk_imm, vk_own, vk_bor, x_give, gk_own, x_bin, x_un, x_ix, x_tru, x_eB, dBl_bl, dTru_bl, dTru_int, dTru_lst, x_and, x_or, x_not, x_eAnd, x_eOr, x_eNot, x_eIf, x_chain, x_aNil, x_aCons, x_aVr, rk_own, rk_io, x_aVb, tk_own, tk_io, tk_imm, tk_bor, x_eTup, x_eLst, imms_nil, imms_im, x_eF, x_call, ixV_C, jk_imm, jk_own, jk_io, jk_bor, flk_int, x_lenV, nk_imm, nk_own, nk_io, nk_bor, x_inV, hk_imm, hk_own, hk_io, hk_bor, x_sNx, x_pass, x_cont, x_brk, x_seq, sk_nx, sk_rt, sk_rtO, sk_ct, sk_bk, sk_ite, x_drop, x_sRet, x_sRetO, x_sIf, x_asg, x_asgO, x_gN, x_gO, x_gNil, x_gCons, x_gTt, x_gTl, x_sApp, x_sSet, x_chM, ck_own, ck_io, x_iOf, x_iRg, x_fn, fk_rt, fk_nx, fk_ite, ios_z, ios_s, keep_io, keep_imm, keep_own, keep_bor, keep_no, dSub_i, dAdd_i, dLt_i, dLe_i, dGt_i, dGe_i, dEq_int, dNe_int, ix_lst, ix_scr, ix_tup, atI_0, atI_1, atI_2, atI_3, List.getElem?_cons_zero, List.getElem?_cons_succ, List.set_cons_zero, List.set_cons_succ, List.length_cons, List.length_nil, List.cons_append, List.nil_append, List.replicate_succ, List.replicate_zero, Option.map_some, Option.bind_some, Nat.reduceAdd, Nat.reduceSub, Nat.reduceLT, Nat.reduceLeDiff, if_true, if_false, Bool.false_eq_true, decide_eq_true_eq, reduceIte, ne_eq, not_false_eq_true, Nat.lt_add_left_iff_pos, Nat.zero_lt_succ, x_call2, x_call3, dk2, dk3, ixV_V, Nat.reduceEqDiff, not_false_eq_true, x_isLst, x_isSet, List.map_cons, List.map_nil, Option.map_none, Option.bind_none], .inl ?_, ⟨_, _, _, _, rfl⟩⟩
      have t1 : (tAndM (eB (eBin (dIn false) (eV 4) (eV 2))) (tAndM (eB (eBin (dIn true) (eV 5) (eV 2))) (eB (eBin dLt (eIxV 1 (eV 3)) (eV 6))))) E = some (.ok false, E) := by
        by_cases m1 : e.a ∈ side
        · by_cases m2 : e.b ∈ side
          · simp only [E, x_bind, bk_ok, bk_ite, x_ret, x_lift, lk_some, lk_ite, app_ite, x_eC, x_eV, vk_imm, vk_own, vk_bor, x_give, gk_own, x_bin, x_un, x_ix, x_tru, x_eB, dBl_bl, dTru_bl, dTru_int, dTru_lst, x_and, x_or, x_not, x_eAnd, x_eOr, x_eNot, x_eIf, x_chain, x_aNil, x_aCons, x_aVr, rk_own, rk_io, x_aVb, tk_own, tk_io, tk_imm, tk_bor, x_eTup, x_eLst, imms_nil, imms_im, x_eF, x_call, ixV_C, jk_imm, jk_own, jk_io, jk_bor, flk_int, x_lenV, nk_imm, nk_own, nk_io, nk_bor, x_inV, hk_imm, hk_own, hk_io, hk_bor, x_sNx, x_pass, x_cont, x_brk, x_seq, sk_nx, sk_rt, sk_rtO, sk_ct, sk_bk, sk_ite, x_drop, x_sRet, x_sRetO, x_sIf, x_asg, x_asgO, x_gN, x_gO, x_gNil, x_gCons, x_gTt, x_gTl, x_sApp, x_sSet, x_chM, ck_own, ck_io, x_iOf, x_iRg, x_fn, fk_rt, fk_nx, fk_ite, ios_z, ios_s, keep_io, keep_imm, keep_own, keep_bor, keep_no, dSub_i, dAdd_i, dLt_i, dLe_i, dGt_i, dGe_i, dEq_int, dNe_int, ix_lst, ix_scr, ix_tup, atI_0, atI_1, atI_2, atI_3, List.getElem?_cons_zero, List.getElem?_cons_succ, List.set_cons_zero, List.set_cons_succ, List.length_cons, List.length_nil, List.cons_append, List.nil_append, List.replicate_succ, List.replicate_zero, Option.map_some, Option.bind_some, Nat.reduceAdd, Nat.reduceSub, Nat.reduceLT, Nat.reduceLeDiff, if_true, if_false, Bool.false_eq_true, decide_eq_true_eq, reduceIte, ne_eq, not_false_eq_true, Nat.lt_add_left_iff_pos, Nat.zero_lt_succ, x_call2, x_call3, dk2, dk3, ixV_V, Nat.reduceEqDiff, not_false_eq_true, x_isLst, x_isSet, List.map_cons, List.map_nil, Option.map_none, Option.bind_none, dIn_nD, m1, m2, decide_true, Bool.not_true]
          · have := q1 (decide_eq_true m1) (decide_eq_false m2)
            unfold res at this
            rw [if_pos rfl] at this
            have h3 : ¬ (f < e.r) := by omega
            simp only [E, x_bind, bk_ok, bk_ite, x_ret, x_lift, lk_some, lk_ite, app_ite, x_eC, x_eV, vk_imm, vk_own, vk_bor, x_give, gk_own, x_bin, x_un, x_ix, x_tru, x_eB, dBl_bl, dTru_bl, dTru_int, dTru_lst, x_and, x_or, x_not, x_eAnd, x_eOr, x_eNot, x_eIf, x_chain, x_aNil, x_aCons, x_aVr, rk_own, rk_io, x_aVb, tk_own, tk_io, tk_imm, tk_bor, x_eTup, x_eLst, imms_nil, imms_im, x_eF, x_call, ixV_C, jk_imm, jk_own, jk_io, jk_bor, flk_int, x_lenV, nk_imm, nk_own, nk_io, nk_bor, x_inV, hk_imm, hk_own, hk_io, hk_bor, x_sNx, x_pass, x_cont, x_brk, x_seq, sk_nx, sk_rt, sk_rtO, sk_ct, sk_bk, sk_ite, x_drop, x_sRet, x_sRetO, x_sIf, x_asg, x_asgO, x_gN, x_gO, x_gNil, x_gCons, x_gTt, x_gTl, x_sApp, x_sSet, x_chM, ck_own, ck_io, x_iOf, x_iRg, x_fn, fk_rt, fk_nx, fk_ite, ios_z, ios_s, keep_io, keep_imm, keep_own, keep_bor, keep_no, dSub_i, dAdd_i, dLt_i, dLe_i, dGt_i, dGe_i, dEq_int, dNe_int, ix_lst, ix_scr, ix_tup, atI_0, atI_1, atI_2, atI_3, List.getElem?_cons_zero, List.getElem?_cons_succ, List.set_cons_zero, List.set_cons_succ, List.length_cons, List.length_nil, List.cons_append, List.nil_append, List.replicate_succ, List.replicate_zero, Option.map_some, Option.bind_some, Nat.reduceAdd, Nat.reduceSub, Nat.reduceLT, Nat.reduceLeDiff, if_true, if_false, Bool.false_eq_true, decide_eq_true_eq, reduceIte, ne_eq, not_false_eq_true, Nat.lt_add_left_iff_pos, Nat.zero_lt_succ, x_call2, x_call3, dk2, dk3, ixV_V, Nat.reduceEqDiff, not_false_eq_true, x_isLst, x_isSet, List.map_cons, List.map_nil, Option.map_none, Option.bind_none, dIn_nD, m1, m2, decide_true, decide_false, Bool.not_false, a2, h3]
        · simp only [E, x_bind, bk_ok, bk_ite, x_ret, x_lift, lk_some, lk_ite, app_ite, x_eC, x_eV, vk_imm, vk_own, vk_bor, x_give, gk_own, x_bin, x_un, x_ix, x_tru, x_eB, dBl_bl, dTru_bl, dTru_int, dTru_lst, x_and, x_or, x_not, x_eAnd, x_eOr, x_eNot, x_eIf, x_chain, x_aNil, x_aCons, x_aVr, rk_own, rk_io, x_aVb, tk_own, tk_io, tk_imm, tk_bor, x_eTup, x_eLst, imms_nil, imms_im, x_eF, x_call, ixV_C, jk_imm, jk_own, jk_io, jk_bor, flk_int, x_lenV, nk_imm, nk_own, nk_io, nk_bor, x_inV, hk_imm, hk_own, hk_io, hk_bor, x_sNx, x_pass, x_cont, x_brk, x_seq, sk_nx, sk_rt, sk_rtO, sk_ct, sk_bk, sk_ite, x_drop, x_sRet, x_sRetO, x_sIf, x_asg, x_asgO, x_gN, x_gO, x_gNil, x_gCons, x_gTt, x_gTl, x_sApp, x_sSet, x_chM, ck_own, ck_io, x_iOf, x_iRg, x_fn, fk_rt, fk_nx, fk_ite, ios_z, ios_s, keep_io, keep_imm, keep_own, keep_bor, keep_no, dSub_i, dAdd_i, dLt_i, dLe_i, dGt_i, dGe_i, dEq_int, dNe_int, ix_lst, ix_scr, ix_tup, atI_0, atI_1, atI_2, atI_3, List.getElem?_cons_zero, List.getElem?_cons_succ, List.set_cons_zero, List.set_cons_succ, List.length_cons, List.length_nil, List.cons_append, List.nil_append, List.replicate_succ, List.replicate_zero, Option.map_some, Option.bind_some, Nat.reduceAdd, Nat.reduceSub, Nat.reduceLT, Nat.reduceLeDiff, if_true, if_false, Bool.false_eq_true, decide_eq_true_eq, reduceIte, ne_eq, not_false_eq_true, Nat.lt_add_left_iff_pos, Nat.zero_lt_succ, x_call2, x_call3, dk2, dk3, ixV_V, Nat.reduceEqDiff, not_false_eq_true, x_isLst, x_isSet, List.map_cons, List.map_nil, Option.map_none, Option.bind_none, dIn_nD, m1, decide_false]
      have t2 : (tAndM (eB (eBin (dIn false) (eV 5) (eV 2))) (tAndM (eB (eBin (dIn true) (eV 4) (eV 2))) (eB (eBin dGt (eIxV 1 (eV 3)) (eBin dSub (eC (.int 0)) (eV 6)))))) E = some (.ok false, E) := by
        by_cases m2 : e.b ∈ side
        · by_cases m1 : e.a ∈ side
          · simp only [E, x_bind, bk_ok, bk_ite, x_ret, x_lift, lk_some, lk_ite, app_ite, x_eC, x_eV, vk_imm, vk_own, vk_bor, x_give, gk_own, x_bin, x_un, x_ix, x_tru, x_eB, dBl_bl, dTru_bl, dTru_int, dTru_lst, x_and, x_or, x_not, x_eAnd, x_eOr, x_eNot, x_eIf, x_chain, x_aNil, x_aCons, x_aVr, rk_own, rk_io, x_aVb, tk_own, tk_io, tk_imm, tk_bor, x_eTup, x_eLst, imms_nil, imms_im, x_eF, x_call, ixV_C, jk_imm, jk_own, jk_io, jk_bor, flk_int, x_lenV, nk_imm, nk_own, nk_io, nk_bor, x_inV, hk_imm, hk_own, hk_io, hk_bor, x_sNx, x_pass, x_cont, x_brk, x_seq, sk_nx, sk_rt, sk_rtO, sk_ct, sk_bk, sk_ite, x_drop, x_sRet, x_sRetO, x_sIf, x_asg, x_asgO, x_gN, x_gO, x_gNil, x_gCons, x_gTt, x_gTl, x_sApp, x_sSet, x_chM, ck_own, ck_io, x_iOf, x_iRg, x_fn, fk_rt, fk_nx, fk_ite, ios_z, ios_s, keep_io, keep_imm, keep_own, keep_bor, keep_no, dSub_i, dAdd_i, dLt_i, dLe_i, dGt_i, dGe_i, dEq_int, dNe_int, ix_lst, ix_scr, ix_tup, atI_0, atI_1, atI_2, atI_3, List.getElem?_cons_zero, List.getElem?_cons_succ, List.set_cons_zero, List.set_cons_succ, List.length_cons, List.length_nil, List.cons_append, List.nil_append, List.replicate_succ, List.replicate_zero, Option.map_some, Option.bind_some, Nat.reduceAdd, Nat.reduceSub, Nat.reduceLT, Nat.reduceLeDiff, if_true, if_false, Bool.false_eq_true, decide_eq_true_eq, reduceIte, ne_eq, not_false_eq_true, Nat.lt_add_left_iff_pos, Nat.zero_lt_succ, x_call2, x_call3, dk2, dk3, ixV_V, Nat.reduceEqDiff, not_false_eq_true, x_isLst, x_isSet, List.map_cons, List.map_nil, Option.map_none, Option.bind_none, dIn_nD, m1, m2, decide_true, Bool.not_true]
          · have := q2 (decide_eq_true m2) (decide_eq_false m1)
            unfold res at this
            rw [if_neg b3] at this
            have h3 : ¬ (0 - e.r < f) := by omega
            simp only [E, x_bind, bk_ok, bk_ite, x_ret, x_lift, lk_some, lk_ite, app_ite, x_eC, x_eV, vk_imm, vk_own, vk_bor, x_give, gk_own, x_bin, x_un, x_ix, x_tru, x_eB, dBl_bl, dTru_bl, dTru_int, dTru_lst, x_and, x_or, x_not, x_eAnd, x_eOr, x_eNot, x_eIf, x_chain, x_aNil, x_aCons, x_aVr, rk_own, rk_io, x_aVb, tk_own, tk_io, tk_imm, tk_bor, x_eTup, x_eLst, imms_nil, imms_im, x_eF, x_call, ixV_C, jk_imm, jk_own, jk_io, jk_bor, flk_int, x_lenV, nk_imm, nk_own, nk_io, nk_bor, x_inV, hk_imm, hk_own, hk_io, hk_bor, x_sNx, x_pass, x_cont, x_brk, x_seq, sk_nx, sk_rt, sk_rtO, sk_ct, sk_bk, sk_ite, x_drop, x_sRet, x_sRetO, x_sIf, x_asg, x_asgO, x_gN, x_gO, x_gNil, x_gCons, x_gTt, x_gTl, x_sApp, x_sSet, x_chM, ck_own, ck_io, x_iOf, x_iRg, x_fn, fk_rt, fk_nx, fk_ite, ios_z, ios_s, keep_io, keep_imm, keep_own, keep_bor, keep_no, dSub_i, dAdd_i, dLt_i, dLe_i, dGt_i, dGe_i, dEq_int, dNe_int, ix_lst, ix_scr, ix_tup, atI_0, atI_1, atI_2, atI_3, List.getElem?_cons_zero, List.getElem?_cons_succ, List.set_cons_zero, List.set_cons_succ, List.length_cons, List.length_nil, List.cons_append, List.nil_append, List.replicate_succ, List.replicate_zero, Option.map_some, Option.bind_some, Nat.reduceAdd, Nat.reduceSub, Nat.reduceLT, Nat.reduceLeDiff, if_true, if_false, Bool.false_eq_true, decide_eq_true_eq, reduceIte, ne_eq, not_false_eq_true, Nat.lt_add_left_iff_pos, Nat.zero_lt_succ, x_call2, x_call3, dk2, dk3, ixV_V, Nat.reduceEqDiff, not_false_eq_true, x_isLst, x_isSet, List.map_cons, List.map_nil, Option.map_none, Option.bind_none, dIn_nD, m1, m2, decide_true, decide_false, Bool.not_false, a2, h3]
        · simp only [E, x_bind, bk_ok, bk_ite, x_ret, x_lift, lk_some, lk_ite, app_ite, x_eC, x_eV, vk_imm, vk_own, vk_bor, x_give, gk_own, x_bin, x_un, x_ix, x_tru, x_eB, dBl_bl, dTru_bl, dTru_int, dTru_lst, x_and, x_or, x_not, x_eAnd, x_eOr, x_eNot, x_eIf, x_chain, x_aNil, x_aCons, x_aVr, rk_own, rk_io, x_aVb, tk_own, tk_io, tk_imm, tk_bor, x_eTup, x_eLst, imms_nil, imms_im, x_eF, x_call, ixV_C, jk_imm, jk_own, jk_io, jk_bor, flk_int, x_lenV, nk_imm, nk_own, nk_io, nk_bor, x_inV, hk_imm, hk_own, hk_io, hk_bor, x_sNx, x_pass, x_cont, x_brk, x_seq, sk_nx, sk_rt, sk_rtO, sk_ct, sk_bk, sk_ite, x_drop, x_sRet, x_sRetO, x_sIf, x_asg, x_asgO, x_gN, x_gO, x_gNil, x_gCons, x_gTt, x_gTl, x_sApp, x_sSet, x_chM, ck_own, ck_io, x_iOf, x_iRg, x_fn, fk_rt, fk_nx, fk_ite, ios_z, ios_s, keep_io, keep_imm, keep_own, keep_bor, keep_no, dSub_i, dAdd_i, dLt_i, dLe_i, dGt_i, dGe_i, dEq_int, dNe_int, ix_lst, ix_scr, ix_tup, atI_0, atI_1, atI_2, atI_3, List.getElem?_cons_zero, List.getElem?_cons_succ, List.set_cons_zero, List.set_cons_succ, List.length_cons, List.length_nil, List.cons_append, List.nil_append, List.replicate_succ, List.replicate_zero, Option.map_some, Option.bind_some, Nat.reduceAdd, Nat.reduceSub, Nat.reduceLT, Nat.reduceLeDiff, if_true, if_false, Bool.false_eq_true, decide_eq_true_eq, reduceIte, ne_eq, not_false_eq_true, Nat.lt_add_left_iff_pos, Nat.zero_lt_succ, x_call2, x_call3, dk2, dk3, ixV_V, Nat.reduceEqDiff, not_false_eq_true, x_isLst, x_isSet, List.map_cons, List.map_nil, Option.map_none, Option.bind_none, dIn_nD, m2, decide_false]
      refine ssq (δ1 := E) ?_ (ssq (δ1 := E) ?_ ?_)
      · simp only [E, x_bind, bk_ok, bk_ite, x_ret, x_lift, lk_some, lk_ite, app_ite, x_eC, x_eV, vk_imm, vk_own, vk_bor, x_give, gk_own, x_bin, x_un, x_ix, x_tru, x_eB, dBl_bl, dTru_bl, dTru_int, dTru_lst, x_and, x_or, x_not, x_eAnd, x_eOr, x_eNot, x_eIf, x_chain, x_aNil, x_aCons, x_aVr, rk_own, rk_io, x_aVb, tk_own, tk_io, tk_imm, tk_bor, x_eTup, x_eLst, imms_nil, imms_im, x_eF, x_call, ixV_C, jk_imm, jk_own, jk_io, jk_bor, flk_int, x_lenV, nk_imm, nk_own, nk_io, nk_bor, x_inV, hk_imm, hk_own, hk_io, hk_bor, x_sNx, x_pass, x_cont, x_brk, x_seq, sk_nx, sk_rt, sk_rtO, sk_ct, sk_bk, sk_ite, x_drop, x_sRet, x_sRetO, x_sIf, x_asg, x_asgO, x_gN, x_gO, x_gNil, x_gCons, x_gTt, x_gTl, x_sApp, x_sSet, x_chM, ck_own, ck_io, x_iOf, x_iRg, x_fn, fk_rt, fk_nx, fk_ite, ios_z, ios_s, keep_io, keep_imm, keep_own, keep_bor, keep_no, dSub_i, dAdd_i, dLt_i, dLe_i, dGt_i, dGe_i, dEq_int, dNe_int, ix_lst, ix_scr, ix_tup, atI_0, atI_1, atI_2, atI_3, List.getElem?_cons_zero, List.getElem?_cons_succ, List.set_cons_zero, List.set_cons_succ, List.length_cons, List.length_nil, List.cons_append, List.nil_append, List.replicate_succ, List.replicate_zero, Option.map_some, Option.bind_some, Nat.reduceAdd, Nat.reduceSub, Nat.reduceLT, Nat.reduceLeDiff, if_true, if_false, Bool.false_eq_true, decide_eq_true_eq, reduceIte, ne_eq, not_false_eq_true, Nat.lt_add_left_iff_pos, Nat.zero_lt_succ, x_call2, x_call3, dk2, dk3, ixV_V, Nat.reduceEqDiff, not_false_eq_true, x_isLst, x_isSet, List.map_cons, List.map_nil, Option.map_none, Option.bind_none, a1]
        unfold Ed.d
        simp only [x_bind, bk_ok, bk_ite, x_ret, x_lift, lk_some, lk_ite, app_ite, x_eC, x_eV, vk_imm, vk_own, vk_bor, x_give, gk_own, x_bin, x_un, x_ix, x_tru, x_eB, dBl_bl, dTru_bl, dTru_int, dTru_lst, x_and, x_or, x_not, x_eAnd, x_eOr, x_eNot, x_eIf, x_chain, x_aNil, x_aCons, x_aVr, rk_own, rk_io, x_aVb, tk_own, tk_io, tk_imm, tk_bor, x_eTup, x_eLst, imms_nil, imms_im, x_eF, x_call, ixV_C, jk_imm, jk_own, jk_io, jk_bor, flk_int, x_lenV, nk_imm, nk_own, nk_io, nk_bor, x_inV, hk_imm, hk_own, hk_io, hk_bor, x_sNx, x_pass, x_cont, x_brk, x_seq, sk_nx, sk_rt, sk_rtO, sk_ct, sk_bk, sk_ite, x_drop, x_sRet, x_sRetO, x_sIf, x_asg, x_asgO, x_gN, x_gO, x_gNil, x_gCons, x_gTt, x_gTl, x_sApp, x_sSet, x_chM, ck_own, ck_io, x_iOf, x_iRg, x_fn, fk_rt, fk_nx, fk_ite, ios_z, ios_s, keep_io, keep_imm, keep_own, keep_bor, keep_no, dSub_i, dAdd_i, dLt_i, dLe_i, dGt_i, dGe_i, dEq_int, dNe_int, ix_lst, ix_scr, ix_tup, atI_0, atI_1, atI_2, atI_3, List.getElem?_cons_zero, List.getElem?_cons_succ, List.set_cons_zero, List.set_cons_succ, List.length_cons, List.length_nil, List.cons_append, List.nil_append, List.replicate_succ, List.replicate_zero, Option.map_some, Option.bind_some, Nat.reduceAdd, Nat.reduceSub, Nat.reduceLT, Nat.reduceLeDiff, if_true, if_false, Bool.false_eq_true, decide_eq_true_eq, reduceIte, ne_eq, not_false_eq_true, Nat.lt_add_left_iff_pos, Nat.zero_lt_succ, x_call2, x_call3, dk2, dk3, ixV_V, Nat.reduceEqDiff, not_false_eq_true, x_isLst, x_isSet, List.map_cons, List.map_nil, Option.map_none, Option.bind_none]
      · rw [sIf_f t1]; rfl
      · rw [sIf_f t2]; rfl)
  unfold m__law_left b__law_left
  simp only [x_bind, bk_ok, bk_ite, x_ret, x_lift, lk_some, lk_ite, app_ite, x_eC, x_eV, vk_imm, vk_own, vk_bor, x_give, gk_own, x_bin, x_un, x_ix, x_tru, x_eB, dBl_bl, dTru_bl, dTru_int, dTru_lst, x_and, x_or, x_not, x_eAnd, x_eOr, x_eNot, x_eIf, x_chain, x_aNil, x_aCons, x_aVr, rk_own, rk_io, x_aVb, tk_own, tk_io, tk_imm, tk_bor, x_eTup, x_eLst, imms_nil, imms_im, x_eF, x_call, ixV_C, jk_imm, jk_own, jk_io, jk_bor, flk_int, x_lenV, nk_imm, nk_own, nk_io, nk_bor, x_inV, hk_imm, hk_own, hk_io, hk_bor, x_sNx, x_pass, x_cont, x_brk, x_seq, sk_nx, sk_rt, sk_rtO, sk_ct, sk_bk, sk_ite, x_drop, x_sRet, x_sRetO, x_sIf, x_asg, x_asgO, x_gN, x_gO, x_gNil, x_gCons, x_gTt, x_gTl, x_sApp, x_sSet, x_chM, ck_own, ck_io, x_iOf, x_iRg, x_fn, fk_rt, fk_nx, fk_ite, ios_z, ios_s, keep_io, keep_imm, keep_own, keep_bor, keep_no, dSub_i, dAdd_i, dLt_i, dLe_i, dGt_i, dGe_i, dEq_int, dNe_int, ix_lst, ix_scr, ix_tup, atI_0, atI_1, atI_2, atI_3, List.getElem?_cons_zero, List.getElem?_cons_succ, List.set_cons_zero, List.set_cons_succ, List.length_cons, List.length_nil, List.cons_append, List.nil_append, List.replicate_succ, List.replicate_zero, Option.map_some, Option.bind_some, Nat.reduceAdd, Nat.reduceSub, Nat.reduceLT, Nat.reduceLeDiff, if_true, if_false, Bool.false_eq_true, decide_eq_true_eq, reduceIte, ne_eq, not_false_eq_true, Nat.lt_add_left_iff_pos, Nat.zero_lt_succ, x_call2, x_call3, dk2, dk3, ixV_V, Nat.reduceEqDiff, not_false_eq_true, x_isLst, x_isSet, List.map_cons, List.map_nil, Option.map_none, Option.bind_none, h1]
end M

set_option Elab.async false
set_option linter.all false
set_option maxRecDepth 100000
set_option maxHeartbeats 1000000
namespace M
open PySem L2
theorem fList_eds {es : List Ed} : fList' [edsD es] = some (edsD es) := rfl
theorem fList_iD {l : List Int} : fList' [iD l] = some (iD l) := rfl
theorem cost_congr {S S' : Nat → Bool} : ∀ {es : List Ed}, (∀ e ∈ es, S e.a = S' e.a ∧ S e.b = S' e.b) → cost es S = cost es S'
  | [], _ => rfl
  | e :: es, h => by
    obtain ⟨h1, h2⟩ := h e List.mem_cons_self
    rw [cost_cons, cost_cons, h1, h2, cost_congr fun e' m => h e' (List.mem_cons_of_mem _ m)]
theorem full_congr {es : List Ed} {fs : List Int} {S S' : Nat → Bool} (h : ∀ e ∈ es, S e.a = S' e.a ∧ S e.b = S' e.b) (F : Full es fs S) : Full es fs S' := fun i e f h1 h2 => by
  obtain ⟨q1, q2⟩ := h e (List.mem_of_getElem? h1)
  have := F i e f h1 h2
  rw [q1, q2] at this
  exact this
/-- a side as the law wants it -/
structure GoodL (es : List Ed) (fs : List Int) (b : Int) (L : List Nat) : Prop where
  srt : L.Pairwise (· < ·)
  len : L.length < 64
  head : L[0]? = some 0
  no1 : 1 ∉ L
  cst : cost es (fun v => decide (v ∈ L)) = b
  full : Full es fs fun v => decide (v ∈ L)
theorem good_side {n : Nat} {es : List Ed} {fs : List Int} {S : Nat → Bool} (IF : IsFlow n es fs) (D1 : Side n S) (hn : n ≤ 60) (F : Full es fs S) : GoodL es fs (gain es fs 0) (sideL n S) := by
  have cg : ∀ e ∈ es, S e.a = decide (e.a ∈ sideL n S) ∧ S e.b = decide (e.b ∈ sideL n S) := fun e he => by
    obtain ⟨a1, a2, _⟩ := IF.ok e he
    refine ⟨?_, ?_⟩
    · rw [Bool.eq_iff_iff, decide_eq_true_eq, side_mem]; exact ⟨fun h => ⟨a1, h⟩, fun h => h.2⟩
    · rw [Bool.eq_iff_iff, decide_eq_true_eq, side_mem]; exact ⟨fun h => ⟨a2, h⟩, fun h => h.2⟩
  refine ⟨?_, ?_, ?_, fun c => ?_, ?_, full_congr cg F⟩
  · unfold sideL
    exact List.Pairwise.filter _ List.pairwise_lt_range
  · unfold sideL
    have := List.length_filter_le S (List.range n)
    rw [List.length_range] at this
    omega
  · obtain ⟨m, rfl⟩ : ∃ m, n = m + 1 := ⟨n - 1, by have := D1.n2; omega⟩
    unfold sideL
    rw [List.range_succ_eq_map, List.filter_cons, if_pos D1.s0]; rfl
  · have := (side_mem.mp c).2
    rw [D1.s1] at this; cases this
  · rw [cost_congr fun e he => ⟨(cg e he).1.symm, (cg e he).2.symm⟩]
    exact ((value_eq IF D1).mpr F).symm
theorem sortSet_good {L : List Nat} (h : L.Pairwise (· < ·)) (hl : L.length < 64) : fSortSet [nD L] = some (nD L) := by
  have e : nD L = iD (L.map fun v : Nat => (v : Int)) := by unfold nD iD; rw [List.map_map]; rfl
  have hs : (L.map fun v : Nat => (v : Int)) = sortSet (L.map fun v : Nat => (v : Int)) := sortSet_uniq (List.Pairwise.map _ (fun a b hab => by omega) h) fun k => Iff.rfl
  rw [e]
  unfold fSortSet iD
  simp only [intsD_map, Option.bind_some]
  rw [if_pos (by rw [List.length_map]; exact hl), ← hs]
theorem at_nD {L : List Nat} (h : L[0]? = some 0) : dIx (nD L) (.int 0) = some (.int 0) := by
  have : dIx (nD L) (.int ((0 : Nat) : Int)) = some (.int ((0 : Nat) : Int)) := at_map h
  exact this
theorem in1_nD {L : List Nat} (h : 1 ∉ L) : dIn false (.int 1) (nD L) = some (.bl false) := by
  have : dIn false (.int ((1 : Nat) : Int)) (nD L) = _ := dIn_nD
  rw [show ((1 : Nat) : Int) = 1 from rfl] at this
  rw [this, decide_eq_false h]; rfl
def lE (s0 : Sl) (d : D) (n : Nat) (es : List Ed) (x4 x5 x6 x7 x8 x9 : Sl) : Env := [s0, .own d, .imm (.int (n : Int)), .imm (edsD es), x4, x5, x6, x7, x8, x9]
noncomputable def lBody : Mo Out := (sSeq (sIf (tOrM (eB (eBin dNe (eV 8) (eF fSortSet (aCons (eV 8) aNil)))) (tOrM (eB (eBin dNe (eIxV 8 (eC (.int 0))) (eC (.int 0)))) (tOrM (eB (eBin (dIn false) (eC (.int 1)) (eV 8))) (eB (eBin dNe (eCall m__law_cost (aCons (eV 3) (aCons (eV 8) aNil))) (eV 5))))))
 (sRet (eC (.bl false)))
 sNx)
 (sIf (eTru (eCall m__law_left (aCons (eV 3) (aCons (eV 4) (aCons (eV 8) aNil)))))
 (sRet (eC (.bl false)))
 sNx))
theorem ev_lBody {s0 : Sl} {d : D} {n : Nat} {es : List Ed} {fs : List Int} {b : Int} {L : List Nat} {x6 x7 x9 : Sl} (he : es.length ≤ 1000) (IF : IsFlow n es fs) (G : GoodL es fs b L) :
    lBody (lE s0 d n es (.imm (iD fs)) (.imm (.int b)) x6 x7 (.imm (nD L)) x9) = some (.ok .nx, lE s0 d n es (.imm (iD fs)) (.imm (.int b)) x6 x7 (.imm (nD L)) x9) := by
  have h1 := sortSet_good G.srt G.len
  have h2 := at_nD G.head
  have h3 := in1_nD G.no1
  have h4 := ev_cost (es := es) (side := L) he
  rw [G.cst] at h4
  have h5 := ev_left he IF.len IF.ok G.full
  have f1 := dNe_rfl (fine_nD L)
  unfold lBody
  refine ssq (δ1 := lE s0 d n es (.imm (iD fs)) (.imm (.int b)) x6 x7 (.imm (nD L)) x9) ?_ ?_
  · rw [sIf_f (δ1 := lE s0 d n es (.imm (iD fs)) (.imm (.int b)) x6 x7 (.imm (nD L)) x9)]
    · rfl
    · unfold lE
      simp only [x_bind, bk_ok, bk_ite, x_ret, x_lift, lk_some, lk_ite, app_ite, x_eC, x_eV, vk_imm, vk_own, vk_bor, x_give, gk_own, x_bin, x_un, x_ix, x_tru, x_eB, dBl_bl, dTru_bl, dTru_int, dTru_lst, x_and, x_or, x_not, x_eAnd, x_eOr, x_eNot, x_eIf, x_chain, x_aNil, x_aCons, x_aVr, rk_own, rk_io, x_aVb, tk_own, tk_io, tk_imm, tk_bor, x_eTup, x_eLst, imms_nil, imms_im, x_eF, x_call, ixV_C, jk_imm, jk_own, jk_io, jk_bor, flk_int, x_lenV, nk_imm, nk_own, nk_io, nk_bor, x_inV, hk_imm, hk_own, hk_io, hk_bor, x_sNx, x_pass, x_cont, x_brk, x_seq, sk_nx, sk_rt, sk_rtO, sk_ct, sk_bk, sk_ite, x_drop, x_sRet, x_sRetO, x_sIf, x_asg, x_asgO, x_gN, x_gO, x_gNil, x_gCons, x_gTt, x_gTl, x_sApp, x_sSet, x_chM, ck_own, ck_io, x_iOf, x_iRg, x_fn, fk_rt, fk_nx, fk_ite, ios_z, ios_s, keep_io, keep_imm, keep_own, keep_bor, keep_no, dSub_i, dAdd_i, dLt_i, dLe_i, dGt_i, dGe_i, dEq_int, dNe_int, ix_lst, ix_scr, ix_tup, atI_0, atI_1, atI_2, atI_3, List.getElem?_cons_zero, List.getElem?_cons_succ, List.set_cons_zero, List.set_cons_succ, List.length_cons, List.length_nil, List.cons_append, List.nil_append, List.replicate_succ, List.replicate_zero, Option.map_some, Option.bind_some, Nat.reduceAdd, Nat.reduceSub, Nat.reduceLT, Nat.reduceLeDiff, if_true, if_false, Bool.false_eq_true, decide_eq_true_eq, reduceIte, ne_eq, not_false_eq_true, Nat.lt_add_left_iff_pos, Nat.zero_lt_succ, x_call2, x_call3, dk2, dk3, ixV_V, Nat.reduceEqDiff, not_false_eq_true, x_isLst, x_isSet, List.map_cons, List.map_nil, Option.map_none, Option.bind_none, h1, f1, h2, h3, h4, decide_true, Bool.not_true]
  · rw [sIf_f (δ1 := lE s0 d n es (.imm (iD fs)) (.imm (.int b)) x6 x7 (.imm (nD L)) x9)]
    · rfl
    · unfold lE
      simp only [x_bind, bk_ok, bk_ite, x_ret, x_lift, lk_some, lk_ite, app_ite, x_eC, x_eV, vk_imm, vk_own, vk_bor, x_give, gk_own, x_bin, x_un, x_ix, x_tru, x_eB, dBl_bl, dTru_bl, dTru_int, dTru_lst, x_and, x_or, x_not, x_eAnd, x_eOr, x_eNot, x_eIf, x_chain, x_aNil, x_aCons, x_aVr, rk_own, rk_io, x_aVb, tk_own, tk_io, tk_imm, tk_bor, x_eTup, x_eLst, imms_nil, imms_im, x_eF, x_call, ixV_C, jk_imm, jk_own, jk_io, jk_bor, flk_int, x_lenV, nk_imm, nk_own, nk_io, nk_bor, x_inV, hk_imm, hk_own, hk_io, hk_bor, x_sNx, x_pass, x_cont, x_brk, x_seq, sk_nx, sk_rt, sk_rtO, sk_ct, sk_bk, sk_ite, x_drop, x_sRet, x_sRetO, x_sIf, x_asg, x_asgO, x_gN, x_gO, x_gNil, x_gCons, x_gTt, x_gTl, x_sApp, x_sSet, x_chM, ck_own, ck_io, x_iOf, x_iRg, x_fn, fk_rt, fk_nx, fk_ite, ios_z, ios_s, keep_io, keep_imm, keep_own, keep_bor, keep_no, dSub_i, dAdd_i, dLt_i, dLe_i, dGt_i, dGe_i, dEq_int, dNe_int, ix_lst, ix_scr, ix_tup, atI_0, atI_1, atI_2, atI_3, List.getElem?_cons_zero, List.getElem?_cons_succ, List.set_cons_zero, List.set_cons_succ, List.length_cons, List.length_nil, List.cons_append, List.nil_append, List.replicate_succ, List.replicate_zero, Option.map_some, Option.bind_some, Nat.reduceAdd, Nat.reduceSub, Nat.reduceLT, Nat.reduceLeDiff, if_true, if_false, Bool.false_eq_true, decide_eq_true_eq, reduceIte, ne_eq, not_false_eq_true, Nat.lt_add_left_iff_pos, Nat.zero_lt_succ, x_call2, x_call3, dk2, dk3, ixV_V, Nat.reduceEqDiff, not_false_eq_true, x_isLst, x_isSet, List.map_cons, List.map_nil, Option.map_none, Option.bind_none, h5]
theorem ev_drm {ns : List Int} {d : D} {m : Int} (hd : IsDr ns d) (h : 0 < m) (h2 : m ≤ 1000) : ∃ t d', m__law_draw [.io d, .imm (.int m)] = some (.ok (.int t), [.io d', .no]) ∧ IsDr ns d' ∧ 0 ≤ t ∧ t < m := by
  obtain ⟨p, x, y, rfl⟩ := hd
  obtain ⟨t, p', x', y', h1, h3, h4⟩ := ev_draw (ns := ns) (p := p) (x := x) (y := y) h h2
  exact ⟨t, _, h1, ⟨p', x', y', rfl⟩, h3, h4⟩
theorem call_w1 {m : Mo D} {d d' r : D} {s0 : Sl} {δ : Env} (hm : m [.io d] = some (.ok r, [.io d'])) : callM m [.vr 1] (s0 :: .own d :: δ) = some (.ok r, s0 :: .own d' :: δ) :=
  call_of (by simp only [argSls, argSl, List.getElem?_cons_zero, List.getElem?_cons_succ]) ⟨by simp [vrs], by simp [vbs]⟩ hm (by simp only [backs, List.getElem?_cons_zero, List.getElem?_cons_succ, List.set_cons_zero, List.set_cons_succ])
theorem call_w2 {m : Mo D} {a d d' r : D} {s0 s : Sl} {δ : Env} (hm : m [.io d, .imm a] = some (.ok r, [.io d', s])) : callM m [.vr 1, .im a] (s0 :: .own d :: δ) = some (.ok r, s0 :: .own d' :: δ) :=
  call_of (by simp only [argSls, argSl, List.getElem?_cons_zero, List.getElem?_cons_succ]) ⟨by simp [vrs], by simp [vbs]⟩ hm (by simp only [backs, List.getElem?_cons_zero, List.getElem?_cons_succ, List.set_cons_zero, List.set_cons_succ])
theorem call_w3 {m : Mo D} {a b d d' r : D} {s0 s t : Sl} {δ : Env} (hm : m [.io d, .imm a, .imm b] = some (.ok r, [.io d', s, t])) : callM m [.vr 1, .im a, .im b] (s0 :: .own d :: δ) = some (.ok r, s0 :: .own d' :: δ) :=
  call_of (by simp only [argSls, argSl, List.getElem?_cons_zero, List.getElem?_cons_succ]) ⟨by simp [vrs], by simp [vbs]⟩ hm (by simp only [backs, List.getElem?_cons_zero, List.getElem?_cons_succ, List.set_cons_zero, List.set_cons_succ])
noncomputable def lIf : Mo Out := (sIf (eB (eBin dEq (eCall m__law_draw (aVr 1 (aCons (eC (.int 2)) aNil))) (eC (.int 0))))
 (sAsg (gT 2 (gCons (gN 2) (gCons (gN 3) gNil))) (eCall m__law_net (aVr 1 (aCons (eC (.int 19)) (aCons (eC (.int 60)) aNil)))))
 sNx)
theorem ev_lIf {ns : List Int} {s0 : Sl} {d : D} {n : Nat} {es : List Ed} (hd : IsDr ns d) (h2 : 2 ≤ n) (hn : n ≤ 20) (he : es.length ≤ 60) (ok : ∀ e ∈ es, EdOk n e) :
    ∃ d' n' es', lIf (lE s0 d n es .no .no .no .no .no .no) = some (.ok .nx, lE s0 d' n' es' .no .no .no .no .no .no) ∧ IsDr ns d' ∧ 2 ≤ n' ∧ n' ≤ 20 ∧ es'.length ≤ 60 ∧ ∀ e ∈ es', EdOk n' e := by
  obtain ⟨t, d1, c1, i1, a1, b1⟩ := ev_drm hd (m := 2) (by omega) (by omega)
  unfold lIf
  by_cases c : t = 0
  · obtain ⟨d', n', es', hnet, hd', h2', hn', he', ok'⟩ := ev_net i1 (mo := 19) (ma := 60) (by decide) (by decide) (by decide) (by decide)
    refine ⟨d', n', es', ?_, hd', h2', by omega, by omega, ok'⟩
    rw [sIf_t (δ1 := lE s0 d1 n es .no .no .no .no .no .no)]
    · unfold lE
      simp only [x_bind, bk_ok, bk_ite, x_ret, x_lift, lk_some, lk_ite, app_ite, x_eC, x_eV, vk_imm, vk_own, vk_bor, x_give, gk_own, x_bin, x_un, x_ix, x_tru, x_eB, dBl_bl, dTru_bl, dTru_int, dTru_lst, x_and, x_or, x_not, x_eAnd, x_eOr, x_eNot, x_eIf, x_chain, x_aNil, x_aCons, x_aVr, rk_own, rk_io, x_aVb, tk_own, tk_io, tk_imm, tk_bor, x_eTup, x_eLst, imms_nil, imms_im, x_eF, x_call, ixV_C, jk_imm, jk_own, jk_io, jk_bor, flk_int, x_lenV, nk_imm, nk_own, nk_io, nk_bor, x_inV, hk_imm, hk_own, hk_io, hk_bor, x_sNx, x_pass, x_cont, x_brk, x_seq, sk_nx, sk_rt, sk_rtO, sk_ct, sk_bk, sk_ite, x_drop, x_sRet, x_sRetO, x_sIf, x_asg, x_asgO, x_gN, x_gO, x_gNil, x_gCons, x_gTt, x_gTl, x_sApp, x_sSet, x_chM, ck_own, ck_io, x_iOf, x_iRg, x_fn, fk_rt, fk_nx, fk_ite, ios_z, ios_s, keep_io, keep_imm, keep_own, keep_bor, keep_no, dSub_i, dAdd_i, dLt_i, dLe_i, dGt_i, dGe_i, dEq_int, dNe_int, ix_lst, ix_scr, ix_tup, atI_0, atI_1, atI_2, atI_3, List.getElem?_cons_zero, List.getElem?_cons_succ, List.set_cons_zero, List.set_cons_succ, List.length_cons, List.length_nil, List.cons_append, List.nil_append, List.replicate_succ, List.replicate_zero, Option.map_some, Option.bind_some, Nat.reduceAdd, Nat.reduceSub, Nat.reduceLT, Nat.reduceLeDiff, if_true, if_false, Bool.false_eq_true, decide_eq_true_eq, reduceIte, ne_eq, not_false_eq_true, Nat.lt_add_left_iff_pos, Nat.zero_lt_succ, x_call2, x_call3, dk2, dk3, ixV_V, Nat.reduceEqDiff, not_false_eq_true, x_isLst, x_isSet, List.map_cons, List.map_nil, Option.map_none, Option.bind_none, call_w3 hnet]
    · unfold lE
      simp only [x_bind, bk_ok, bk_ite, x_ret, x_lift, lk_some, lk_ite, app_ite, x_eC, x_eV, vk_imm, vk_own, vk_bor, x_give, gk_own, x_bin, x_un, x_ix, x_tru, x_eB, dBl_bl, dTru_bl, dTru_int, dTru_lst, x_and, x_or, x_not, x_eAnd, x_eOr, x_eNot, x_eIf, x_chain, x_aNil, x_aCons, x_aVr, rk_own, rk_io, x_aVb, tk_own, tk_io, tk_imm, tk_bor, x_eTup, x_eLst, imms_nil, imms_im, x_eF, x_call, ixV_C, jk_imm, jk_own, jk_io, jk_bor, flk_int, x_lenV, nk_imm, nk_own, nk_io, nk_bor, x_inV, hk_imm, hk_own, hk_io, hk_bor, x_sNx, x_pass, x_cont, x_brk, x_seq, sk_nx, sk_rt, sk_rtO, sk_ct, sk_bk, sk_ite, x_drop, x_sRet, x_sRetO, x_sIf, x_asg, x_asgO, x_gN, x_gO, x_gNil, x_gCons, x_gTt, x_gTl, x_sApp, x_sSet, x_chM, ck_own, ck_io, x_iOf, x_iRg, x_fn, fk_rt, fk_nx, fk_ite, ios_z, ios_s, keep_io, keep_imm, keep_own, keep_bor, keep_no, dSub_i, dAdd_i, dLt_i, dLe_i, dGt_i, dGe_i, dEq_int, dNe_int, ix_lst, ix_scr, ix_tup, atI_0, atI_1, atI_2, atI_3, List.getElem?_cons_zero, List.getElem?_cons_succ, List.set_cons_zero, List.set_cons_succ, List.length_cons, List.length_nil, List.cons_append, List.nil_append, List.replicate_succ, List.replicate_zero, Option.map_some, Option.bind_some, Nat.reduceAdd, Nat.reduceSub, Nat.reduceLT, Nat.reduceLeDiff, if_true, if_false, Bool.false_eq_true, decide_eq_true_eq, reduceIte, ne_eq, not_false_eq_true, Nat.lt_add_left_iff_pos, Nat.zero_lt_succ, x_call2, x_call3, dk2, dk3, ixV_V, Nat.reduceEqDiff, not_false_eq_true, x_isLst, x_isSet, List.map_cons, List.map_nil, Option.map_none, Option.bind_none, call_w2 c1, c, decide_true]
  · refine ⟨d1, n, es, ?_, i1, h2, hn, he, ok⟩
    rw [sIf_f (δ1 := lE s0 d1 n es .no .no .no .no .no .no)]
    · rfl
    · unfold lE
      simp only [x_bind, bk_ok, bk_ite, x_ret, x_lift, lk_some, lk_ite, app_ite, x_eC, x_eV, vk_imm, vk_own, vk_bor, x_give, gk_own, x_bin, x_un, x_ix, x_tru, x_eB, dBl_bl, dTru_bl, dTru_int, dTru_lst, x_and, x_or, x_not, x_eAnd, x_eOr, x_eNot, x_eIf, x_chain, x_aNil, x_aCons, x_aVr, rk_own, rk_io, x_aVb, tk_own, tk_io, tk_imm, tk_bor, x_eTup, x_eLst, imms_nil, imms_im, x_eF, x_call, ixV_C, jk_imm, jk_own, jk_io, jk_bor, flk_int, x_lenV, nk_imm, nk_own, nk_io, nk_bor, x_inV, hk_imm, hk_own, hk_io, hk_bor, x_sNx, x_pass, x_cont, x_brk, x_seq, sk_nx, sk_rt, sk_rtO, sk_ct, sk_bk, sk_ite, x_drop, x_sRet, x_sRetO, x_sIf, x_asg, x_asgO, x_gN, x_gO, x_gNil, x_gCons, x_gTt, x_gTl, x_sApp, x_sSet, x_chM, ck_own, ck_io, x_iOf, x_iRg, x_fn, fk_rt, fk_nx, fk_ite, ios_z, ios_s, keep_io, keep_imm, keep_own, keep_bor, keep_no, dSub_i, dAdd_i, dLt_i, dLe_i, dGt_i, dGe_i, dEq_int, dNe_int, ix_lst, ix_scr, ix_tup, atI_0, atI_1, atI_2, atI_3, List.getElem?_cons_zero, List.getElem?_cons_succ, List.set_cons_zero, List.set_cons_succ, List.length_cons, List.length_nil, List.cons_append, List.nil_append, List.replicate_succ, List.replicate_zero, Option.map_some, Option.bind_some, Nat.reduceAdd, Nat.reduceSub, Nat.reduceLT, Nat.reduceLeDiff, if_true, if_false, Bool.false_eq_true, decide_eq_true_eq, reduceIte, ne_eq, not_false_eq_true, Nat.lt_add_left_iff_pos, Nat.zero_lt_succ, x_call2, x_call3, dk2, dk3, ixV_V, Nat.reduceEqDiff, not_false_eq_true, x_isLst, x_isSet, List.map_cons, List.map_nil, Option.map_none, Option.bind_none, call_w2 c1, c, decide_false]
theorem law_true (ns : List Int) (hl : ns.length ≤ 63) : m_law [.imm (.scr (ns.map D.int))] = some (.ok (.bl true), [.no]) := by
  have hd0 : IsDr ns (.lst [.scr (ns.map D.int), .int 0, .int 0, .int 1]) := ⟨0, 0, 1, rfl⟩
  obtain ⟨dg, ng, eg, hg, hdg, g2, gn, ge, gok⟩ := ev_grid hd0
  obtain ⟨d', n, es, hif, hd', h2, hn, he', ok⟩ := ev_lIf (s0 := .imm (.scr (ns.map D.int))) hdg g2 gn ge gok
  have he : es.length ≤ 1000 := by omega
  obtain ⟨fs, hgf, G⟩ := ev_greatest h2 (by omega) he ok
  have IF := G.flow
  obtain ⟨S1, hnar, hS1⟩ := ev_narrow h2 (show n ≤ 60 by omega) he IF.len ok
  obtain ⟨S2, hwid, hS2⟩ := ev_wide h2 (show n ≤ 60 by omega) he IF.len ok
  have F1 := narrow_full (fs := fs) ok hS1
  have F2 := wide_full (fs := fs) ok hS2
  have s10 : S1 0 = true := (hS1 0).mpr .start
  have s11 : S1 1 = false := by
    cases c : S1 1 with
    | false => rfl
    | true => exact absurd ((hS1 1).mp c) G.cut
  have D1 : Side n S1 := ⟨h2, s10, s11⟩
  have s21 : S2 1 = false := (hS2 1).mpr .start
  have s20 : S2 0 = true := by
    cases c : S2 0 with
    | true => rfl
    | false =>
      have := full_back ok F1 s11 ((hS2 0).mp c)
      rw [s10] at this; cases this
  have D2 : Side n S2 := ⟨h2, s20, s21⟩
  have G1 := good_side IF D1 (by omega) F1
  have G2 := good_side IF D2 (by omega) F2
  have sub : ∀ v ∈ sideL n S1, v ∈ sideL n S2 := fun v hv => by
    obtain ⟨a, b⟩ := side_mem.mp hv
    exact side_mem.mpr ⟨a, full_reach ok F2 s20 ((hS1 v).mp b)⟩
  have hlf := ev_lis_flow h2 (by omega) he IF
  have hlw := ev_lworth (fs := fs) he IF.len ok
  generalize gain es fs 0 = b at *
  generalize sideL n S1 = L1 at *
  generalize sideL n S2 = L2 at *
  generalize hs : Sl.imm (.scr (ns.map D.int)) = s0 at *
  let dF : Sl := .imm (iD fs)
  let dB : Sl := .imm (.int b)
  let E := fun (x4 x5 x6 x7 x8 x9 : Sl) => lE s0 d' n es x4 x5 x6 x7 x8 x9
  obtain ⟨δ', hfor, y8, rfl⟩ := sFor_inv (I := (iOf (eLst (aCons (eV 6) (aCons (eV 7) aNil))))) (T := gN 8) (S := lBody) (ds := [nD L1, nD L2])
    (δ := E dF dB (.imm (nD L1)) (.imm (nD L2)) .no .no) (δ0 := E dF dB (.imm (nD L1)) (.imm (nD L2)) .no .no)
    (fun k δ => ∃ y, δ = E dF dB (.imm (nD L1)) (.imm (nD L2)) y .no) (by simp only [E, lE, x_bind, bk_ok, bk_ite, x_ret, x_lift, lk_some, lk_ite, app_ite, x_eC, x_eV, vk_imm, vk_own, vk_bor, x_give, gk_own, x_bin, x_un, x_ix, x_tru, x_eB, dBl_bl, dTru_bl, dTru_int, dTru_lst, x_and, x_or, x_not, x_eAnd, x_eOr, x_eNot, x_eIf, x_chain, x_aNil, x_aCons, x_aVr, rk_own, rk_io, x_aVb, tk_own, tk_io, tk_imm, tk_bor, x_eTup, x_eLst, imms_nil, imms_im, x_eF, x_call, ixV_C, jk_imm, jk_own, jk_io, jk_bor, flk_int, x_lenV, nk_imm, nk_own, nk_io, nk_bor, x_inV, hk_imm, hk_own, hk_io, hk_bor, x_sNx, x_pass, x_cont, x_brk, x_seq, sk_nx, sk_rt, sk_rtO, sk_ct, sk_bk, sk_ite, x_drop, x_sRet, x_sRetO, x_sIf, x_asg, x_asgO, x_gN, x_gO, x_gNil, x_gCons, x_gTt, x_gTl, x_sApp, x_sSet, x_chM, ck_own, ck_io, x_iOf, x_iRg, x_fn, fk_rt, fk_nx, fk_ite, ios_z, ios_s, keep_io, keep_imm, keep_own, keep_bor, keep_no, dSub_i, dAdd_i, dLt_i, dLe_i, dGt_i, dGe_i, dEq_int, dNe_int, ix_lst, ix_scr, ix_tup, atI_0, atI_1, atI_2, atI_3, List.getElem?_cons_zero, List.getElem?_cons_succ, List.set_cons_zero, List.set_cons_succ, List.length_cons, List.length_nil, List.cons_append, List.nil_append, List.replicate_succ, List.replicate_zero, Option.map_some, Option.bind_some, Nat.reduceAdd, Nat.reduceSub, Nat.reduceLT, Nat.reduceLeDiff, if_true, if_false, Bool.false_eq_true, decide_eq_true_eq, reduceIte, ne_eq, not_false_eq_true, Nat.lt_add_left_iff_pos, Nat.zero_lt_succ, x_call2, x_call3, dk2, dk3, ixV_V, Nat.reduceEqDiff, not_false_eq_true, x_isLst, x_isSet, List.map_cons, List.map_nil, Option.map_none, Option.bind_none, itD]) ⟨.no, rfl⟩ (fun k d δ hk hδ => by
      obtain ⟨y, rfl⟩ := hδ
      obtain ⟨L, rfl, GL⟩ : ∃ L, d = nD L ∧ GoodL es fs b L := by
        rcases k with _ | _ | k
        · cases hk; exact ⟨_, rfl, G1⟩
        · cases hk; exact ⟨_, rfl, G2⟩
        · simp at hk
      exact ⟨E dF dB (.imm (nD L1)) (.imm (nD L2)) (.imm (nD L)) .no, _, by simp only [E, lE, x_bind, bk_ok, bk_ite, x_ret, x_lift, lk_some, lk_ite, app_ite, x_eC, x_eV, vk_imm, vk_own, vk_bor, x_give, gk_own, x_bin, x_un, x_ix, x_tru, x_eB, dBl_bl, dTru_bl, dTru_int, dTru_lst, x_and, x_or, x_not, x_eAnd, x_eOr, x_eNot, x_eIf, x_chain, x_aNil, x_aCons, x_aVr, rk_own, rk_io, x_aVb, tk_own, tk_io, tk_imm, tk_bor, x_eTup, x_eLst, imms_nil, imms_im, x_eF, x_call, ixV_C, jk_imm, jk_own, jk_io, jk_bor, flk_int, x_lenV, nk_imm, nk_own, nk_io, nk_bor, x_inV, hk_imm, hk_own, hk_io, hk_bor, x_sNx, x_pass, x_cont, x_brk, x_seq, sk_nx, sk_rt, sk_rtO, sk_ct, sk_bk, sk_ite, x_drop, x_sRet, x_sRetO, x_sIf, x_asg, x_asgO, x_gN, x_gO, x_gNil, x_gCons, x_gTt, x_gTl, x_sApp, x_sSet, x_chM, ck_own, ck_io, x_iOf, x_iRg, x_fn, fk_rt, fk_nx, fk_ite, ios_z, ios_s, keep_io, keep_imm, keep_own, keep_bor, keep_no, dSub_i, dAdd_i, dLt_i, dLe_i, dGt_i, dGe_i, dEq_int, dNe_int, ix_lst, ix_scr, ix_tup, atI_0, atI_1, atI_2, atI_3, List.getElem?_cons_zero, List.getElem?_cons_succ, List.set_cons_zero, List.set_cons_succ, List.length_cons, List.length_nil, List.cons_append, List.nil_append, List.replicate_succ, List.replicate_zero, Option.map_some, Option.bind_some, Nat.reduceAdd, Nat.reduceSub, Nat.reduceLT, Nat.reduceLeDiff, if_true, if_false, Bool.false_eq_true, decide_eq_true_eq, reduceIte, ne_eq, not_false_eq_true, Nat.lt_add_left_iff_pos, Nat.zero_lt_succ, x_call2, x_call3, dk2, dk3, ixV_V, Nat.reduceEqDiff, not_false_eq_true, x_isLst, x_isSet, List.map_cons, List.map_nil, Option.map_none, Option.bind_none], .inl (ev_lBody he IF GL), _, rfl⟩)
  have hlc := eLc_pure (I := iOf (eV 6)) (T := gN 9) (C := (eB (eBin (dIn true) (eV 9) (eV 7)))) (E := eV 9) (vs := [9]) (p := fun _ => false) (f := id) (ds := L1.map fun v : Nat => D.int (v : Int)) (δ := E dF dB (.imm (nD L1)) (.imm (nD L2)) y8 .no) (δ0 := E dF dB (.imm (nD L1)) (.imm (nD L2)) y8 .no)
    (by simp only [E, lE, x_bind, bk_ok, bk_ite, x_ret, x_lift, lk_some, lk_ite, app_ite, x_eC, x_eV, vk_imm, vk_own, vk_bor, x_give, gk_own, x_bin, x_un, x_ix, x_tru, x_eB, dBl_bl, dTru_bl, dTru_int, dTru_lst, x_and, x_or, x_not, x_eAnd, x_eOr, x_eNot, x_eIf, x_chain, x_aNil, x_aCons, x_aVr, rk_own, rk_io, x_aVb, tk_own, tk_io, tk_imm, tk_bor, x_eTup, x_eLst, imms_nil, imms_im, x_eF, x_call, ixV_C, jk_imm, jk_own, jk_io, jk_bor, flk_int, x_lenV, nk_imm, nk_own, nk_io, nk_bor, x_inV, hk_imm, hk_own, hk_io, hk_bor, x_sNx, x_pass, x_cont, x_brk, x_seq, sk_nx, sk_rt, sk_rtO, sk_ct, sk_bk, sk_ite, x_drop, x_sRet, x_sRetO, x_sIf, x_asg, x_asgO, x_gN, x_gO, x_gNil, x_gCons, x_gTt, x_gTl, x_sApp, x_sSet, x_chM, ck_own, ck_io, x_iOf, x_iRg, x_fn, fk_rt, fk_nx, fk_ite, ios_z, ios_s, keep_io, keep_imm, keep_own, keep_bor, keep_no, dSub_i, dAdd_i, dLt_i, dLe_i, dGt_i, dGe_i, dEq_int, dNe_int, ix_lst, ix_scr, ix_tup, atI_0, atI_1, atI_2, atI_3, List.getElem?_cons_zero, List.getElem?_cons_succ, List.set_cons_zero, List.set_cons_succ, List.length_cons, List.length_nil, List.cons_append, List.nil_append, List.replicate_succ, List.replicate_zero, Option.map_some, Option.bind_some, Nat.reduceAdd, Nat.reduceSub, Nat.reduceLT, Nat.reduceLeDiff, if_true, if_false, Bool.false_eq_true, decide_eq_true_eq, reduceIte, ne_eq, not_false_eq_true, Nat.lt_add_left_iff_pos, Nat.zero_lt_succ, x_call2, x_call3, dk2, dk3, ixV_V, Nat.reduceEqDiff, not_false_eq_true, x_isLst, x_isSet, List.map_cons, List.map_nil, Option.map_none, Option.bind_none, nD, itD]) (by rw [List.length_map]; have := G1.len; omega) (fun d hd => by
      obtain ⟨v, hv, rfl⟩ := List.mem_map.mp hd
      refine ⟨E dF dB (.imm (nD L1)) (.imm (nD L2)) y8 (.imm (.int (v : Int))), E dF dB (.imm (nD L1)) (.imm (nD L2)) y8 (.imm (.int (v : Int))), ?_, ?_, fun _ => ?_, fun c => by cases c⟩
      · simp only [E, lE, x_bind, bk_ok, bk_ite, x_ret, x_lift, lk_some, lk_ite, app_ite, x_eC, x_eV, vk_imm, vk_own, vk_bor, x_give, gk_own, x_bin, x_un, x_ix, x_tru, x_eB, dBl_bl, dTru_bl, dTru_int, dTru_lst, x_and, x_or, x_not, x_eAnd, x_eOr, x_eNot, x_eIf, x_chain, x_aNil, x_aCons, x_aVr, rk_own, rk_io, x_aVb, tk_own, tk_io, tk_imm, tk_bor, x_eTup, x_eLst, imms_nil, imms_im, x_eF, x_call, ixV_C, jk_imm, jk_own, jk_io, jk_bor, flk_int, x_lenV, nk_imm, nk_own, nk_io, nk_bor, x_inV, hk_imm, hk_own, hk_io, hk_bor, x_sNx, x_pass, x_cont, x_brk, x_seq, sk_nx, sk_rt, sk_rtO, sk_ct, sk_bk, sk_ite, x_drop, x_sRet, x_sRetO, x_sIf, x_asg, x_asgO, x_gN, x_gO, x_gNil, x_gCons, x_gTt, x_gTl, x_sApp, x_sSet, x_chM, ck_own, ck_io, x_iOf, x_iRg, x_fn, fk_rt, fk_nx, fk_ite, ios_z, ios_s, keep_io, keep_imm, keep_own, keep_bor, keep_no, dSub_i, dAdd_i, dLt_i, dLe_i, dGt_i, dGe_i, dEq_int, dNe_int, ix_lst, ix_scr, ix_tup, atI_0, atI_1, atI_2, atI_3, List.getElem?_cons_zero, List.getElem?_cons_succ, List.set_cons_zero, List.set_cons_succ, List.length_cons, List.length_nil, List.cons_append, List.nil_append, List.replicate_succ, List.replicate_zero, Option.map_some, Option.bind_some, Nat.reduceAdd, Nat.reduceSub, Nat.reduceLT, Nat.reduceLeDiff, if_true, if_false, Bool.false_eq_true, decide_eq_true_eq, reduceIte, ne_eq, not_false_eq_true, Nat.lt_add_left_iff_pos, Nat.zero_lt_succ, x_call2, x_call3, dk2, dk3, ixV_V, Nat.reduceEqDiff, not_false_eq_true, x_isLst, x_isSet, List.map_cons, List.map_nil, Option.map_none, Option.bind_none, wipeE]
      · simp only [E, lE, x_bind, bk_ok, bk_ite, x_ret, x_lift, lk_some, lk_ite, app_ite, x_eC, x_eV, vk_imm, vk_own, vk_bor, x_give, gk_own, x_bin, x_un, x_ix, x_tru, x_eB, dBl_bl, dTru_bl, dTru_int, dTru_lst, x_and, x_or, x_not, x_eAnd, x_eOr, x_eNot, x_eIf, x_chain, x_aNil, x_aCons, x_aVr, rk_own, rk_io, x_aVb, tk_own, tk_io, tk_imm, tk_bor, x_eTup, x_eLst, imms_nil, imms_im, x_eF, x_call, ixV_C, jk_imm, jk_own, jk_io, jk_bor, flk_int, x_lenV, nk_imm, nk_own, nk_io, nk_bor, x_inV, hk_imm, hk_own, hk_io, hk_bor, x_sNx, x_pass, x_cont, x_brk, x_seq, sk_nx, sk_rt, sk_rtO, sk_ct, sk_bk, sk_ite, x_drop, x_sRet, x_sRetO, x_sIf, x_asg, x_asgO, x_gN, x_gO, x_gNil, x_gCons, x_gTt, x_gTl, x_sApp, x_sSet, x_chM, ck_own, ck_io, x_iOf, x_iRg, x_fn, fk_rt, fk_nx, fk_ite, ios_z, ios_s, keep_io, keep_imm, keep_own, keep_bor, keep_no, dSub_i, dAdd_i, dLt_i, dLe_i, dGt_i, dGe_i, dEq_int, dNe_int, ix_lst, ix_scr, ix_tup, atI_0, atI_1, atI_2, atI_3, List.getElem?_cons_zero, List.getElem?_cons_succ, List.set_cons_zero, List.set_cons_succ, List.length_cons, List.length_nil, List.cons_append, List.nil_append, List.replicate_succ, List.replicate_zero, Option.map_some, Option.bind_some, Nat.reduceAdd, Nat.reduceSub, Nat.reduceLT, Nat.reduceLeDiff, if_true, if_false, Bool.false_eq_true, decide_eq_true_eq, reduceIte, ne_eq, not_false_eq_true, Nat.lt_add_left_iff_pos, Nat.zero_lt_succ, x_call2, x_call3, dk2, dk3, ixV_V, Nat.reduceEqDiff, not_false_eq_true, x_isLst, x_isSet, List.map_cons, List.map_nil, Option.map_none, Option.bind_none, dIn_nD, sub v hv, decide_true, Bool.not_true]
      · simp only [E, lE, x_bind, bk_ok, bk_ite, x_ret, x_lift, lk_some, lk_ite, app_ite, x_eC, x_eV, vk_imm, vk_own, vk_bor, x_give, gk_own, x_bin, x_un, x_ix, x_tru, x_eB, dBl_bl, dTru_bl, dTru_int, dTru_lst, x_and, x_or, x_not, x_eAnd, x_eOr, x_eNot, x_eIf, x_chain, x_aNil, x_aCons, x_aVr, rk_own, rk_io, x_aVb, tk_own, tk_io, tk_imm, tk_bor, x_eTup, x_eLst, imms_nil, imms_im, x_eF, x_call, ixV_C, jk_imm, jk_own, jk_io, jk_bor, flk_int, x_lenV, nk_imm, nk_own, nk_io, nk_bor, x_inV, hk_imm, hk_own, hk_io, hk_bor, x_sNx, x_pass, x_cont, x_brk, x_seq, sk_nx, sk_rt, sk_rtO, sk_ct, sk_bk, sk_ite, x_drop, x_sRet, x_sRetO, x_sIf, x_asg, x_asgO, x_gN, x_gO, x_gNil, x_gCons, x_gTt, x_gTl, x_sApp, x_sSet, x_chM, ck_own, ck_io, x_iOf, x_iRg, x_fn, fk_rt, fk_nx, fk_ite, ios_z, ios_s, keep_io, keep_imm, keep_own, keep_bor, keep_no, dSub_i, dAdd_i, dLt_i, dLe_i, dGt_i, dGe_i, dEq_int, dNe_int, ix_lst, ix_scr, ix_tup, atI_0, atI_1, atI_2, atI_3, List.getElem?_cons_zero, List.getElem?_cons_succ, List.set_cons_zero, List.set_cons_succ, List.length_cons, List.length_nil, List.cons_append, List.nil_append, List.replicate_succ, List.replicate_zero, Option.map_some, Option.bind_some, Nat.reduceAdd, Nat.reduceSub, Nat.reduceLT, Nat.reduceLeDiff, if_true, if_false, Bool.false_eq_true, decide_eq_true_eq, reduceIte, ne_eq, not_false_eq_true, Nat.lt_add_left_iff_pos, Nat.zero_lt_succ, x_call2, x_call3, dk2, dk3, ixV_V, Nat.reduceEqDiff, not_false_eq_true, x_isLst, x_isSet, List.map_cons, List.map_nil, Option.map_none, Option.bind_none, wipeE])
  have ef : List.filter (fun _ : D => false) (L1.map fun v : Nat => D.int (v : Int)) = [] := List.filter_eq_nil_iff.mpr fun _ _ => by simp
  rw [ef] at hlc
  unfold m_law b_law
  rw [x_fn]
  have e0 : ([s0] ++ List.replicate (10 - 1) Sl.no : Env) = [s0, .no, .no, .no, .no, .no, .no, .no, .no, .no] := rfl
  rw [e0]
  refine (congrArg (fk 1) (ssq (δ1 := [s0, .own (.lst [.scr (ns.map D.int), .int 0, .int 0, .int 1]), .no, .no, .no, .no, .no, .no, .no, .no]) ?_
    (ssq (δ1 := lE s0 dg ng eg .no .no .no .no .no .no) ?_
    (ssq hif
    (ssq (δ1 := E dF .no .no .no .no .no) ?_
    (ssq (δ1 := E dF .no .no .no .no .no) ?_
    (ssq (δ1 := E dF dB .no .no .no .no) ?_
    (ssq (δ1 := E dF dB (.imm (nD L1)) .no .no .no) ?_
    (ssq (δ1 := E dF dB (.imm (nD L1)) (.imm (nD L2)) .no .no) ?_
    (ssq hfor
    (r := some (.ok (.rt (.bl true)), E dF dB (.imm (nD L1)) (.imm (nD L2)) y8 .no)) ?_)))))))))).trans ?_
  · subst hs
    simp only [x_bind, bk_ok, bk_ite, x_ret, x_lift, lk_some, lk_ite, app_ite, x_eC, x_eV, vk_imm, vk_own, vk_bor, x_give, gk_own, x_bin, x_un, x_ix, x_tru, x_eB, dBl_bl, dTru_bl, dTru_int, dTru_lst, x_and, x_or, x_not, x_eAnd, x_eOr, x_eNot, x_eIf, x_chain, x_aNil, x_aCons, x_aVr, rk_own, rk_io, x_aVb, tk_own, tk_io, tk_imm, tk_bor, x_eTup, x_eLst, imms_nil, imms_im, x_eF, x_call, ixV_C, jk_imm, jk_own, jk_io, jk_bor, flk_int, x_lenV, nk_imm, nk_own, nk_io, nk_bor, x_inV, hk_imm, hk_own, hk_io, hk_bor, x_sNx, x_pass, x_cont, x_brk, x_seq, sk_nx, sk_rt, sk_rtO, sk_ct, sk_bk, sk_ite, x_drop, x_sRet, x_sRetO, x_sIf, x_asg, x_asgO, x_gN, x_gO, x_gNil, x_gCons, x_gTt, x_gTl, x_sApp, x_sSet, x_chM, ck_own, ck_io, x_iOf, x_iRg, x_fn, fk_rt, fk_nx, fk_ite, ios_z, ios_s, keep_io, keep_imm, keep_own, keep_bor, keep_no, dSub_i, dAdd_i, dLt_i, dLe_i, dGt_i, dGe_i, dEq_int, dNe_int, ix_lst, ix_scr, ix_tup, atI_0, atI_1, atI_2, atI_3, List.getElem?_cons_zero, List.getElem?_cons_succ, List.set_cons_zero, List.set_cons_succ, List.length_cons, List.length_nil, List.cons_append, List.nil_append, List.replicate_succ, List.replicate_zero, Option.map_some, Option.bind_some, Nat.reduceAdd, Nat.reduceSub, Nat.reduceLT, Nat.reduceLeDiff, if_true, if_false, Bool.false_eq_true, decide_eq_true_eq, reduceIte, ne_eq, not_false_eq_true, Nat.lt_add_left_iff_pos, Nat.zero_lt_succ, x_call2, x_call3, dk2, dk3, ixV_V, Nat.reduceEqDiff, not_false_eq_true, x_isLst, x_isSet, List.map_cons, List.map_nil, Option.map_none, Option.bind_none]
  · unfold lE
    simp only [x_bind, bk_ok, bk_ite, x_ret, x_lift, lk_some, lk_ite, app_ite, x_eC, x_eV, vk_imm, vk_own, vk_bor, x_give, gk_own, x_bin, x_un, x_ix, x_tru, x_eB, dBl_bl, dTru_bl, dTru_int, dTru_lst, x_and, x_or, x_not, x_eAnd, x_eOr, x_eNot, x_eIf, x_chain, x_aNil, x_aCons, x_aVr, rk_own, rk_io, x_aVb, tk_own, tk_io, tk_imm, tk_bor, x_eTup, x_eLst, imms_nil, imms_im, x_eF, x_call, ixV_C, jk_imm, jk_own, jk_io, jk_bor, flk_int, x_lenV, nk_imm, nk_own, nk_io, nk_bor, x_inV, hk_imm, hk_own, hk_io, hk_bor, x_sNx, x_pass, x_cont, x_brk, x_seq, sk_nx, sk_rt, sk_rtO, sk_ct, sk_bk, sk_ite, x_drop, x_sRet, x_sRetO, x_sIf, x_asg, x_asgO, x_gN, x_gO, x_gNil, x_gCons, x_gTt, x_gTl, x_sApp, x_sSet, x_chM, ck_own, ck_io, x_iOf, x_iRg, x_fn, fk_rt, fk_nx, fk_ite, ios_z, ios_s, keep_io, keep_imm, keep_own, keep_bor, keep_no, dSub_i, dAdd_i, dLt_i, dLe_i, dGt_i, dGe_i, dEq_int, dNe_int, ix_lst, ix_scr, ix_tup, atI_0, atI_1, atI_2, atI_3, List.getElem?_cons_zero, List.getElem?_cons_succ, List.set_cons_zero, List.set_cons_succ, List.length_cons, List.length_nil, List.cons_append, List.nil_append, List.replicate_succ, List.replicate_zero, Option.map_some, Option.bind_some, Nat.reduceAdd, Nat.reduceSub, Nat.reduceLT, Nat.reduceLeDiff, if_true, if_false, Bool.false_eq_true, decide_eq_true_eq, reduceIte, ne_eq, not_false_eq_true, Nat.lt_add_left_iff_pos, Nat.zero_lt_succ, x_call2, x_call3, dk2, dk3, ixV_V, Nat.reduceEqDiff, not_false_eq_true, x_isLst, x_isSet, List.map_cons, List.map_nil, Option.map_none, Option.bind_none, call_w1 hg]
  · simp only [E, dF, lE, x_bind, bk_ok, bk_ite, x_ret, x_lift, lk_some, lk_ite, app_ite, x_eC, x_eV, vk_imm, vk_own, vk_bor, x_give, gk_own, x_bin, x_un, x_ix, x_tru, x_eB, dBl_bl, dTru_bl, dTru_int, dTru_lst, x_and, x_or, x_not, x_eAnd, x_eOr, x_eNot, x_eIf, x_chain, x_aNil, x_aCons, x_aVr, rk_own, rk_io, x_aVb, tk_own, tk_io, tk_imm, tk_bor, x_eTup, x_eLst, imms_nil, imms_im, x_eF, x_call, ixV_C, jk_imm, jk_own, jk_io, jk_bor, flk_int, x_lenV, nk_imm, nk_own, nk_io, nk_bor, x_inV, hk_imm, hk_own, hk_io, hk_bor, x_sNx, x_pass, x_cont, x_brk, x_seq, sk_nx, sk_rt, sk_rtO, sk_ct, sk_bk, sk_ite, x_drop, x_sRet, x_sRetO, x_sIf, x_asg, x_asgO, x_gN, x_gO, x_gNil, x_gCons, x_gTt, x_gTl, x_sApp, x_sSet, x_chM, ck_own, ck_io, x_iOf, x_iRg, x_fn, fk_rt, fk_nx, fk_ite, ios_z, ios_s, keep_io, keep_imm, keep_own, keep_bor, keep_no, dSub_i, dAdd_i, dLt_i, dLe_i, dGt_i, dGe_i, dEq_int, dNe_int, ix_lst, ix_scr, ix_tup, atI_0, atI_1, atI_2, atI_3, List.getElem?_cons_zero, List.getElem?_cons_succ, List.set_cons_zero, List.set_cons_succ, List.length_cons, List.length_nil, List.cons_append, List.nil_append, List.replicate_succ, List.replicate_zero, Option.map_some, Option.bind_some, Nat.reduceAdd, Nat.reduceSub, Nat.reduceLT, Nat.reduceLeDiff, if_true, if_false, Bool.false_eq_true, decide_eq_true_eq, reduceIte, ne_eq, not_false_eq_true, Nat.lt_add_left_iff_pos, Nat.zero_lt_succ, x_call2, x_call3, dk2, dk3, ixV_V, Nat.reduceEqDiff, not_false_eq_true, x_isLst, x_isSet, List.map_cons, List.map_nil, Option.map_none, Option.bind_none, fList_eds, hgf]
  · rw [sIf_f (δ1 := E dF .no .no .no .no .no)]
    · rfl
    · simp only [E, dF, lE, x_bind, bk_ok, bk_ite, x_ret, x_lift, lk_some, lk_ite, app_ite, x_eC, x_eV, vk_imm, vk_own, vk_bor, x_give, gk_own, x_bin, x_un, x_ix, x_tru, x_eB, dBl_bl, dTru_bl, dTru_int, dTru_lst, x_and, x_or, x_not, x_eAnd, x_eOr, x_eNot, x_eIf, x_chain, x_aNil, x_aCons, x_aVr, rk_own, rk_io, x_aVb, tk_own, tk_io, tk_imm, tk_bor, x_eTup, x_eLst, imms_nil, imms_im, x_eF, x_call, ixV_C, jk_imm, jk_own, jk_io, jk_bor, flk_int, x_lenV, nk_imm, nk_own, nk_io, nk_bor, x_inV, hk_imm, hk_own, hk_io, hk_bor, x_sNx, x_pass, x_cont, x_brk, x_seq, sk_nx, sk_rt, sk_rtO, sk_ct, sk_bk, sk_ite, x_drop, x_sRet, x_sRetO, x_sIf, x_asg, x_asgO, x_gN, x_gO, x_gNil, x_gCons, x_gTt, x_gTl, x_sApp, x_sSet, x_chM, ck_own, ck_io, x_iOf, x_iRg, x_fn, fk_rt, fk_nx, fk_ite, ios_z, ios_s, keep_io, keep_imm, keep_own, keep_bor, keep_no, dSub_i, dAdd_i, dLt_i, dLe_i, dGt_i, dGe_i, dEq_int, dNe_int, ix_lst, ix_scr, ix_tup, atI_0, atI_1, atI_2, atI_3, List.getElem?_cons_zero, List.getElem?_cons_succ, List.set_cons_zero, List.set_cons_succ, List.length_cons, List.length_nil, List.cons_append, List.nil_append, List.replicate_succ, List.replicate_zero, Option.map_some, Option.bind_some, Nat.reduceAdd, Nat.reduceSub, Nat.reduceLT, Nat.reduceLeDiff, if_true, if_false, Bool.false_eq_true, decide_eq_true_eq, reduceIte, ne_eq, not_false_eq_true, Nat.lt_add_left_iff_pos, Nat.zero_lt_succ, x_call2, x_call3, dk2, dk3, ixV_V, Nat.reduceEqDiff, not_false_eq_true, x_isLst, x_isSet, List.map_cons, List.map_nil, Option.map_none, Option.bind_none, hlf, Bool.not_true]
  · simp only [E, dF, dB, lE, x_bind, bk_ok, bk_ite, x_ret, x_lift, lk_some, lk_ite, app_ite, x_eC, x_eV, vk_imm, vk_own, vk_bor, x_give, gk_own, x_bin, x_un, x_ix, x_tru, x_eB, dBl_bl, dTru_bl, dTru_int, dTru_lst, x_and, x_or, x_not, x_eAnd, x_eOr, x_eNot, x_eIf, x_chain, x_aNil, x_aCons, x_aVr, rk_own, rk_io, x_aVb, tk_own, tk_io, tk_imm, tk_bor, x_eTup, x_eLst, imms_nil, imms_im, x_eF, x_call, ixV_C, jk_imm, jk_own, jk_io, jk_bor, flk_int, x_lenV, nk_imm, nk_own, nk_io, nk_bor, x_inV, hk_imm, hk_own, hk_io, hk_bor, x_sNx, x_pass, x_cont, x_brk, x_seq, sk_nx, sk_rt, sk_rtO, sk_ct, sk_bk, sk_ite, x_drop, x_sRet, x_sRetO, x_sIf, x_asg, x_asgO, x_gN, x_gO, x_gNil, x_gCons, x_gTt, x_gTl, x_sApp, x_sSet, x_chM, ck_own, ck_io, x_iOf, x_iRg, x_fn, fk_rt, fk_nx, fk_ite, ios_z, ios_s, keep_io, keep_imm, keep_own, keep_bor, keep_no, dSub_i, dAdd_i, dLt_i, dLe_i, dGt_i, dGe_i, dEq_int, dNe_int, ix_lst, ix_scr, ix_tup, atI_0, atI_1, atI_2, atI_3, List.getElem?_cons_zero, List.getElem?_cons_succ, List.set_cons_zero, List.set_cons_succ, List.length_cons, List.length_nil, List.cons_append, List.nil_append, List.replicate_succ, List.replicate_zero, Option.map_some, Option.bind_some, Nat.reduceAdd, Nat.reduceSub, Nat.reduceLT, Nat.reduceLeDiff, if_true, if_false, Bool.false_eq_true, decide_eq_true_eq, reduceIte, ne_eq, not_false_eq_true, Nat.lt_add_left_iff_pos, Nat.zero_lt_succ, x_call2, x_call3, dk2, dk3, ixV_V, Nat.reduceEqDiff, not_false_eq_true, x_isLst, x_isSet, List.map_cons, List.map_nil, Option.map_none, Option.bind_none, hlw]
  · simp only [E, dF, dB, lE, x_bind, bk_ok, bk_ite, x_ret, x_lift, lk_some, lk_ite, app_ite, x_eC, x_eV, vk_imm, vk_own, vk_bor, x_give, gk_own, x_bin, x_un, x_ix, x_tru, x_eB, dBl_bl, dTru_bl, dTru_int, dTru_lst, x_and, x_or, x_not, x_eAnd, x_eOr, x_eNot, x_eIf, x_chain, x_aNil, x_aCons, x_aVr, rk_own, rk_io, x_aVb, tk_own, tk_io, tk_imm, tk_bor, x_eTup, x_eLst, imms_nil, imms_im, x_eF, x_call, ixV_C, jk_imm, jk_own, jk_io, jk_bor, flk_int, x_lenV, nk_imm, nk_own, nk_io, nk_bor, x_inV, hk_imm, hk_own, hk_io, hk_bor, x_sNx, x_pass, x_cont, x_brk, x_seq, sk_nx, sk_rt, sk_rtO, sk_ct, sk_bk, sk_ite, x_drop, x_sRet, x_sRetO, x_sIf, x_asg, x_asgO, x_gN, x_gO, x_gNil, x_gCons, x_gTt, x_gTl, x_sApp, x_sSet, x_chM, ck_own, ck_io, x_iOf, x_iRg, x_fn, fk_rt, fk_nx, fk_ite, ios_z, ios_s, keep_io, keep_imm, keep_own, keep_bor, keep_no, dSub_i, dAdd_i, dLt_i, dLe_i, dGt_i, dGe_i, dEq_int, dNe_int, ix_lst, ix_scr, ix_tup, atI_0, atI_1, atI_2, atI_3, List.getElem?_cons_zero, List.getElem?_cons_succ, List.set_cons_zero, List.set_cons_succ, List.length_cons, List.length_nil, List.cons_append, List.nil_append, List.replicate_succ, List.replicate_zero, Option.map_some, Option.bind_some, Nat.reduceAdd, Nat.reduceSub, Nat.reduceLT, Nat.reduceLeDiff, if_true, if_false, Bool.false_eq_true, decide_eq_true_eq, reduceIte, ne_eq, not_false_eq_true, Nat.lt_add_left_iff_pos, Nat.zero_lt_succ, x_call2, x_call3, dk2, dk3, ixV_V, Nat.reduceEqDiff, not_false_eq_true, x_isLst, x_isSet, List.map_cons, List.map_nil, Option.map_none, Option.bind_none, fList_eds, fList_iD, hnar]
  · simp only [E, dF, dB, lE, x_bind, bk_ok, bk_ite, x_ret, x_lift, lk_some, lk_ite, app_ite, x_eC, x_eV, vk_imm, vk_own, vk_bor, x_give, gk_own, x_bin, x_un, x_ix, x_tru, x_eB, dBl_bl, dTru_bl, dTru_int, dTru_lst, x_and, x_or, x_not, x_eAnd, x_eOr, x_eNot, x_eIf, x_chain, x_aNil, x_aCons, x_aVr, rk_own, rk_io, x_aVb, tk_own, tk_io, tk_imm, tk_bor, x_eTup, x_eLst, imms_nil, imms_im, x_eF, x_call, ixV_C, jk_imm, jk_own, jk_io, jk_bor, flk_int, x_lenV, nk_imm, nk_own, nk_io, nk_bor, x_inV, hk_imm, hk_own, hk_io, hk_bor, x_sNx, x_pass, x_cont, x_brk, x_seq, sk_nx, sk_rt, sk_rtO, sk_ct, sk_bk, sk_ite, x_drop, x_sRet, x_sRetO, x_sIf, x_asg, x_asgO, x_gN, x_gO, x_gNil, x_gCons, x_gTt, x_gTl, x_sApp, x_sSet, x_chM, ck_own, ck_io, x_iOf, x_iRg, x_fn, fk_rt, fk_nx, fk_ite, ios_z, ios_s, keep_io, keep_imm, keep_own, keep_bor, keep_no, dSub_i, dAdd_i, dLt_i, dLe_i, dGt_i, dGe_i, dEq_int, dNe_int, ix_lst, ix_scr, ix_tup, atI_0, atI_1, atI_2, atI_3, List.getElem?_cons_zero, List.getElem?_cons_succ, List.set_cons_zero, List.set_cons_succ, List.length_cons, List.length_nil, List.cons_append, List.nil_append, List.replicate_succ, List.replicate_zero, Option.map_some, Option.bind_some, Nat.reduceAdd, Nat.reduceSub, Nat.reduceLT, Nat.reduceLeDiff, if_true, if_false, Bool.false_eq_true, decide_eq_true_eq, reduceIte, ne_eq, not_false_eq_true, Nat.lt_add_left_iff_pos, Nat.zero_lt_succ, x_call2, x_call3, dk2, dk3, ixV_V, Nat.reduceEqDiff, not_false_eq_true, x_isLst, x_isSet, List.map_cons, List.map_nil, Option.map_none, Option.bind_none, fList_eds, fList_iD, hwid]
  · simp only [x_bind, bk_ok, bk_ite, x_ret, x_lift, lk_some, lk_ite, app_ite, x_eC, x_eV, vk_imm, vk_own, vk_bor, x_give, gk_own, x_bin, x_un, x_ix, x_tru, x_eB, dBl_bl, dTru_bl, dTru_int, dTru_lst, x_and, x_or, x_not, x_eAnd, x_eOr, x_eNot, x_eIf, x_chain, x_aNil, x_aCons, x_aVr, rk_own, rk_io, x_aVb, tk_own, tk_io, tk_imm, tk_bor, x_eTup, x_eLst, imms_nil, imms_im, x_eF, x_call, ixV_C, jk_imm, jk_own, jk_io, jk_bor, flk_int, x_lenV, nk_imm, nk_own, nk_io, nk_bor, x_inV, hk_imm, hk_own, hk_io, hk_bor, x_sNx, x_pass, x_cont, x_brk, x_seq, sk_nx, sk_rt, sk_rtO, sk_ct, sk_bk, sk_ite, x_drop, x_sRet, x_sRetO, x_sIf, x_asg, x_asgO, x_gN, x_gO, x_gNil, x_gCons, x_gTt, x_gTl, x_sApp, x_sSet, x_chM, ck_own, ck_io, x_iOf, x_iRg, x_fn, fk_rt, fk_nx, fk_ite, ios_z, ios_s, keep_io, keep_imm, keep_own, keep_bor, keep_no, dSub_i, dAdd_i, dLt_i, dLe_i, dGt_i, dGe_i, dEq_int, dNe_int, ix_lst, ix_scr, ix_tup, atI_0, atI_1, atI_2, atI_3, List.getElem?_cons_zero, List.getElem?_cons_succ, List.set_cons_zero, List.set_cons_succ, List.length_cons, List.length_nil, List.cons_append, List.nil_append, List.replicate_succ, List.replicate_zero, Option.map_some, Option.bind_some, Nat.reduceAdd, Nat.reduceSub, Nat.reduceLT, Nat.reduceLeDiff, if_true, if_false, Bool.false_eq_true, decide_eq_true_eq, reduceIte, ne_eq, not_false_eq_true, Nat.lt_add_left_iff_pos, Nat.zero_lt_succ, x_call2, x_call3, dk2, dk3, ixV_V, Nat.reduceEqDiff, not_false_eq_true, x_isLst, x_isSet, List.map_cons, List.map_nil, Option.map_none, Option.bind_none, hlc, fLen_lst, List.map_nil, List.length_nil]
    rfl
  · subst hs
    rfl
end M

set_option Elab.async false
set_option linter.all false
set_option maxRecDepth 100000
set_option maxHeartbeats 0
namespace M
open PySem L2 PySem.Spec PyProof.Rows
theorem walk {l : PySem.W.OpenLaw} {q : Program} {loose : List Str} {XP : (Str → Option Value) → Heap → Prop} {YP : World → Heap → Prop} {d : DefRec} {K : Params → PySem.W.Frag} (hn : l.most = some 63) (hdf : d.params.defaults = [])
    (hY : ∀ (w : World) (h : Heap), YP w h → (K w.params).In h)
    (F : ∀ (w : World) (mg : Str → Option Value) (fa : Addr) (h : Heap), (K w.params).In h → h.Ns mainGlobals mg → mg d.name = some (.ref fa) →
      ∃ fd : FuncData, (∀ (s : Shared) (u : Value), BindsTo s fd ⟨[u], []⟩ [("_law_script", u)]) ∧ ∀ base : Heap, (K w.params).In base → base.Ns mainGlobals mg → FnOk l.prog w (K w.params) mg base CX0 4 fa fd ["_law_script"] (spM Wn (K w.params) 1 false m_law)) :
    PySem.W.WalkO q loose XP YP l.row.toRowW d [] (fun f vs => PySem.call f vs) :=
  L2.walk_of (n := 63) (k := 4) (x := "_law_script") (CX := fun _ => CX0) (sp := fun w => spM Wn (K w.params) 1 false m_law) hn (by decide) hdf ⟨rfl, by decide, by decide⟩ hY F (fun _ H a ns hl on hS => law_sp on hS hl (law_true ns hl)) fun _ _ _ _ _ z => z
end M

open PySem PySem.W PyProof.Rows in
set_option maxRecDepth 100000 in
set_option maxHeartbeats 0 in
theorem PySem.Challenge.cw_laidviews_k25_great_nets_holds : PySem.Challenge.rw_laidviews_k25_great_nets.Holds := by
  w_on; o_law; k_head; (case hw => w_witness2)
  k_fill
  refine M.walk (l := PySem.Challenge.rw_laidviews_k25_great_nets) rfl rfl (fun w h Y => PySem.W.kIn_of Y) ?F
  case F =>
    intro w mg fa h KX G hmg
    refine' M.all_mk KX G hmg ?a0 ?l0 ?c0 ?k0 ?a1 ?l1 ?c1 ?k1 ?a2 ?l2 ?c2 ?k2 ?a3 ?l3 ?c3 ?k3 ?a4 ?l4 ?c4 ?k4 ?a5 ?l5 ?c5 ?k5 ?a6 ?l6 ?c6 ?k6 ?a7 ?l7 ?c7 ?k7 ?a8 ?l8 ?c8 ?k8 ?a9 ?l9 ?c9 ?k9 ?a10 ?l10 ?c10 ?k10 ?a11 ?l11 ?c11 ?k11 ?a12 ?l12 ?c12 ?k12 ?a13 ?l13 ?c13 ?k13 ?a14 ?l14 ?c14 ?k14 ?a15 ?l15 ?c15 ?k15 ?a16 ?l16 ?c16 ?k16 ?z_abs ?z_int ?z_len ?z_list ?z_min ?z_range ?z_set ?z_sorted ?z_sum
    (case a0 => k_is)
    (case l0 => k_is)
    (case c0 => k_is)
    (case k0 => k_is)
    (case a1 => k_is)
    (case l1 => k_is)
    (case c1 => k_is)
    (case k1 => k_is)
    (case a2 => k_is)
    (case l2 => k_is)
    (case c2 => k_is)
    (case k2 => k_is)
    (case a3 => k_is)
    (case l3 => k_is)
    (case c3 => k_is)
    (case k3 => k_is)
    (case a4 => k_is)
    (case l4 => k_is)
    (case c4 => k_is)
    (case k4 => k_is)
    (case a5 => k_is)
    (case l5 => k_is)
    (case c5 => k_is)
    (case k5 => k_is)
    (case a6 => k_is)
    (case l6 => k_is)
    (case c6 => k_is)
    (case k6 => k_is)
    (case a7 => k_is)
    (case l7 => k_is)
    (case c7 => k_is)
    (case k7 => k_is)
    (case a8 => k_is)
    (case l8 => k_is)
    (case c8 => k_is)
    (case k8 => k_is)
    (case a9 => k_is)
    (case l9 => k_is)
    (case c9 => k_is)
    (case k9 => k_is)
    (case a10 => k_is)
    (case l10 => k_is)
    (case c10 => k_is)
    (case k10 => k_is)
    (case a11 => k_is)
    (case l11 => k_is)
    (case c11 => k_is)
    (case k11 => k_is)
    (case a12 => k_is)
    (case l12 => k_is)
    (case c12 => k_is)
    (case k12 => k_is)
    (case a13 => k_is)
    (case l13 => k_is)
    (case c13 => k_is)
    (case k13 => k_is)
    (case a14 => k_is)
    (case l14 => k_is)
    (case c14 => k_is)
    (case k14 => k_is)
    (case a15 => k_is)
    (case l15 => k_is)
    (case c15 => k_is)
    (case k15 => k_is)
    (case a16 => k_is)
    (case l16 => k_is)
    (case c16 => k_is)
    (case k16 => k_is)
    (case z_abs => k_is)
    (case z_int => k_is)
    (case z_len => k_is)
    (case z_list => k_is)
    (case z_min => k_is)
    (case z_range => k_is)
    (case z_set => k_is)
    (case z_sorted => k_is)
    (case z_sum => k_is)

