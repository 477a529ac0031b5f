import PyProof.Rows.All
import Wide.All
import OpenK.AllK
import Wide.FinOn
import HandS.ForMost
import HandS.TupAny
import HandS.TupMul
import HandS.TupLen
import HandS.DictComp
import HandS.SortRule
import HandS.SortInts
import HandS.Deep
import HandS.Flow
import HandS.IsInst
import HandS.Style
import HandS.Conv
import HandS.NoneIn
import HandS.Lambda
import HandS.EndTab
import KE.KDictOf
import KE.KDictKeyed
import HandS.More
import KE.SortData
import HandS.AnyAll
import KE.SortKeyHeap
import HandS.DictEq
import HandS.DeepEq
import HandS.SetFor
import HandS.Strs
import KE.KNestM
import HandS.SetBool
import PySem.Challenge.RW_laidviews_k16_whole_surely_seen
set_option Elab.async false
set_option linter.all false
set_option maxRecDepth 100000
/-! Part A: data, what stands for it, the state of a def's run. -/
namespace M
open PySem L2

abbrev St := L2.St
/-- data, without addresses -/
inductive D where
  | non | bl (b : Bool) | int (i : Int) | str (s : Str)
  | tup (l : List D) | lst (l : List D) | scr (l : List D)
  | dK (l : List (Key × D)) | dT (l : List (List Key × D))
  deriving Inhabited

mutual
inductive R (K : PySem.W.Frag) (G : Hp) : V → D → Prop
  | non : R K G .non .non
  | bl (b : Bool) : R K G (.bl b) (.bl b)
  | int (i : Int) : R K G (.int i) (.int i)
  | str (s : Str) : R K G (.str s) (.str s)
  | tup {a : Addr} {xs : List V} {ds : List D} : G a = some (.tup xs) → xs.length ≤ sizeLine → RL K G xs ds → R K G (.ref a) (.tup ds)
  | lst {a : Addr} {xs : List V} {ds : List D} : G a = some (.lst xs) → xs.length ≤ sizeLine → RL K G xs ds → R K G (.ref a) (.lst ds)
  | scr {a : Addr} {xs : List V} {ds : List D} : SqL K G a xs → xs.length ≤ sizeLine → RL K G xs ds → R K G (.ref a) (.scr ds)
  | dK {a : Addr} {kvs : List (Key × V)} {ds : List (Key × D)} : G a = some (.dK kvs) → kvs.length ≤ sizeLine → kvs.map (·.1) = ds.map (·.1) → RL K G (kvs.map (·.2)) (ds.map (·.2)) → R K G (.ref a) (.dK ds)
  | dT {a : Addr} {kvs : List (List Key × V)} {ds : List (List Key × D)} : G a = some (.dT kvs) → kvs.length ≤ sizeLine → kvs.map (·.1) = ds.map (·.1) → RL K G (kvs.map (·.2)) (ds.map (·.2)) → R K G (.ref a) (.dT ds)
inductive RL (K : PySem.W.Frag) (G : Hp) : List V → List D → Prop
  | nil : RL K G [] []
  | cons {v : V} {vs : List V} {d : D} {ds : List D} : R K G v d → RL K G vs ds → RL K G (v :: vs) (d :: ds)
end

def Ext (G G' : Hp) : Prop := ∀ a o, G a = some o → G' a = some o
theorem Ext.refl (G : Hp) : Ext G G := fun _ _ h => h
theorem Ext.trans {G G1 G2 : Hp} (a : Ext G G1) (b : Ext G1 G2) : Ext G G2 := fun x o h => b x o (a x o h)
theorem Ext.new {G : Hp} {p : Addr} {o : HO} (h : G p = none) : Ext G (upd G p o) := fun a u e => by
  rw [upd_ne (ne_of_none e h)]; exact e
theorem Ext.sql {K : PySem.W.Frag} {G G' : Hp} {a : Addr} {xs : List V} (e : Ext G G') (h : SqL K G a xs) : SqL K G' a xs := by
  rcases h with (h | ⟨o, h⟩) | h
  · exact .inl (.inl (e _ _ h))
  · exact .inl (.inr ⟨o, e _ _ h⟩)
  · exact .inr h

section
variable {K : PySem.W.Frag} {G G' : Hp}
mutual
theorem R.mono (e : Ext G G') : ∀ {v : V} {d : D}, R K G v d → R K G' v d
  | _, _, .non => .non
  | _, _, .bl b => .bl b
  | _, _, .int i => .int i
  | _, _, .str s => .str s
  | _, _, .tup h l r => .tup (e _ _ h) l (RL.mono e r)
  | _, _, .lst h l r => .lst (e _ _ h) l (RL.mono e r)
  | _, _, .scr h l r => .scr (e.sql h) l (RL.mono e r)
  | _, _, .dK h l k r => .dK (e _ _ h) l k (RL.mono e r)
  | _, _, .dT h l k r => .dT (e _ _ h) l k (RL.mono e r)
theorem RL.mono (e : Ext G G') : ∀ {vs : List V} {ds : List D}, RL K G vs ds → RL K G' vs ds
  | _, _, .nil => .nil
  | _, _, .cons h t => .cons (R.mono e h) (RL.mono e t)
end
theorem RL.length : ∀ {vs : List V} {ds : List D}, RL K G vs ds → vs.length = ds.length
  | _, _, .nil => rfl
  | _, _, .cons _ t => by rw [List.length_cons, List.length_cons, RL.length t]
theorem RL.get : ∀ {vs : List V} {ds : List D} {i : Nat} {d : D}, RL K G vs ds → ds[i]? = some d → ∃ v, vs[i]? = some v ∧ R K G v d
  | _, _, _, _, .nil, e => by simp at e
  | _, _, 0, _, .cons h _, e => by simp at e; subst e; exact ⟨_, rfl, h⟩
  | _, _, i + 1, d, .cons _ t, e => by
    obtain ⟨v, h1, h2⟩ := RL.get (i := i) (d := d) t (by simpa using e)
    exact ⟨v, by simpa using h1, h2⟩
theorem RL.get' : ∀ {vs : List V} {ds : List D} {i : Nat} {v : V}, RL K G vs ds → vs[i]? = some v → ∃ d, ds[i]? = some d ∧ R K G v d
  | _, _, _, _, .nil, e => by simp at e
  | _, _, 0, _, .cons h _, e => by simp at e; subst e; exact ⟨_, rfl, h⟩
  | _, _, i + 1, d, .cons _ t, e => by
    obtain ⟨v, h1, h2⟩ := RL.get' (i := i) (v := d) t (by simpa using e)
    exact ⟨v, by simpa using h1, h2⟩
theorem RL.append : ∀ {vs ws : List V} {ds es : List D}, RL K G vs ds → RL K G ws es → RL K G (vs ++ ws) (ds ++ es)
  | _, _, _, _, .nil, s => s
  | _, _, _, _, .cons h t, s => .cons h (RL.append t s)
theorem RL.set : ∀ {vs : List V} {ds : List D} (i : Nat) {v : V} {d : D}, RL K G vs ds → R K G v d → RL K G (vs.set i v) (ds.set i d)
  | _, _, _, _, _, .nil, _ => .nil
  | _, _, 0, _, _, .cons _ t, r => .cons r t
  | _, _, i + 1, _, _, .cons h t, r => .cons h (RL.set i t r)
theorem RL.take : ∀ {vs : List V} {ds : List D} (n : Nat), RL K G vs ds → RL K G (vs.take n) (ds.take n)
  | _, _, 0, _ => .nil
  | _, _, _ + 1, .nil => .nil
  | _, _, n + 1, .cons h t => .cons h (RL.take n t)
theorem RL.drop : ∀ {vs : List V} {ds : List D} (n : Nat), RL K G vs ds → RL K G (vs.drop n) (ds.drop n)
  | _, _, 0, r => r
  | _, _, _ + 1, .nil => .nil
  | _, _, n + 1, .cons _ t => RL.drop n t
theorem RL.reverse {vs : List V} {ds : List D} (h : RL K G vs ds) : RL K G vs.reverse ds.reverse := by
  induction h using RL.rec (motive_1 := fun _ _ _ => True) with
  | nil => exact .nil
  | cons a t _ ih => rw [List.reverse_cons, List.reverse_cons]; exact RL.append ih (.cons a .nil)
  | _ => trivial
theorem RL.rep {vs : List V} {ds : List D} (h : RL K G vs ds) : ∀ k : Nat, RL K G (List.replicate k vs).flatten (List.replicate k ds).flatten
  | 0 => .nil
  | k + 1 => by
    rw [List.replicate_succ, List.replicate_succ, List.flatten_cons, List.flatten_cons]
    exact RL.append h (RL.rep h k)
theorem RL.erase : ∀ {vs : List V} {ds : List D} (i : Nat), RL K G vs ds → RL K G (vs.eraseIdx i) (ds.eraseIdx i)
  | _, _, _, .nil => .nil
  | _, _, 0, .cons _ t => t
  | _, _, i + 1, .cons h t => .cons h (RL.erase i t)
theorem RL.dropLast {vs : List V} {ds : List D} (h : RL K G vs ds) : RL K G vs.dropLast ds.dropLast := by
  rw [List.dropLast_eq_take, List.dropLast_eq_take, h.length]; exact RL.take _ h
end

/-- objects that are dicts -/
def isD : HO → Bool
  | .dK _ => true
  | .dT _ => true
  | _ => false
/-- G is a view of H: dicts of it may be locked in H -/
def Vw (G H : Hp) : Prop := ∀ a o, G a = some o → H a = some o ∨ (isD o = true ∧ ∃ x, H a = some (.frz x o))
theorem Vw.there {G H : Hp} (h : Vw G H) {a : Addr} {o : HO} (e : G a = some o) : H a ≠ none := by
  rcases h a o e with h | ⟨_, x, h⟩ <;> rw [h] <;> simp
theorem Vw.none {G H : Hp} (h : Vw G H) {a : Addr} (e : H a = none) : G a = Option.none := by
  cases q : G a with
  | none => rfl
  | some o => exact absurd e (h.there q)
theorem Vw.tup {G H : Hp} (h : Vw G H) {a : Addr} {xs : List V} (e : G a = some (.tup xs)) : H a = some (.tup xs) := by
  rcases h a _ e with h | ⟨h, _⟩
  · exact h
  · cases h
theorem Vw.lst {G H : Hp} (h : Vw G H) {a : Addr} {xs : List V} (e : G a = some (.lst xs)) : H a = some (.lst xs) := by
  rcases h a _ e with h | ⟨h, _⟩
  · exact h
  · cases h
theorem Vw.rd {G H : Hp} (h : Vw G H) {a : Addr} {o : HO} (e : G a = some o) : Rd H a o := by
  rcases h a _ e with h | ⟨_, x, h⟩
  · exact .inl h
  · exact .inr ⟨x, h⟩
theorem Vw.frz {G H : Hp} (h : Vw G H) {a : Addr} {x : Obj} {o : HO} (e : G a = some (.frz x o)) : H a = some (.frz x o) := by
  rcases h a _ e with h | ⟨h, _⟩
  · exact h
  · cases h
theorem Vw.sql {K : PySem.W.Frag} {G H : Hp} (h : Vw G H) {a : Addr} {xs : List V} (e : SqL K G a xs) : SqL K H a xs := by
  rcases e with (e | ⟨o, e⟩) | e
  · exact .inl (.inl (h.lst e))
  · exact .inl (.inr ⟨o, h.frz e⟩)
  · exact .inr e

/-- a slot of a def's frame: nothing known; data that stay; data at an object of the frame's own; at an object that the caller lent to be changed; at one lent to be read -/
inductive Sl where
  | no | imm (d : D) | own (d : D) | io (d : D) | bor (d : D)
  deriving Inhabited
abbrev Env := List Sl
structure Bs where
  H0 : Hp
  G0 : Hp
  Bo : Nat → Hp
  IO : List (Nat × Addr)

inductive Ow (K : PySem.W.Frag) (G H : Hp) (p : Addr) : D → Prop
  | lst {xs : List V} {ds : List D} : H p = some (.lst xs) → xs.length ≤ sizeLine → RL K G xs ds → Ow K G H p (.lst ds)
  | dK {kvs : List (Key × V)} {ds : List (Key × D)} : H p = some (.dK kvs) → kvs.length ≤ sizeLine → kvs.map (·.1) = ds.map (·.1) → RL K G (kvs.map (·.2)) (ds.map (·.2)) → Ow K G H p (.dK ds)
  | dT {kvs : List (List Key × V)} {ds : List (List Key × D)} : H p = some (.dT kvs) → kvs.length ≤ sizeLine → kvs.map (·.1) = ds.map (·.1) → RL K G (kvs.map (·.2)) (ds.map (·.2)) → Ow K G H p (.dT ds)
section
variable {K : PySem.W.Frag} {G G' H H' : Hp} {p : Addr} {d : D}
theorem Ow.mono (e : Ext G G') (h : Ow K G H p d) : Ow K G' H p d := by
  cases h with
  | lst a l r => exact .lst a l (r.mono e)
  | dK a l k r => exact .dK a l k (r.mono e)
  | dT a l k r => exact .dT a l k (r.mono e)
theorem Ow.at' (e : H' p = H p) (h : Ow K G H p d) : Ow K G H' p d := by
  cases h with
  | lst a l r => exact .lst (e.trans a) l r
  | dK a l k r => exact .dK (e.trans a) l k r
  | dT a l k r => exact .dT (e.trans a) l k r
/-- the object there -/
theorem Ow.obj (h : Ow K G H p d) : ∃ o, H p = some o ∧ Mut (some o) ∧ ∀ G', G' p = some o → Ext G G' → R K G' (.ref p) d := by
  cases h with
  | lst a l r => exact ⟨_, a, trivial, fun G' g e => .lst g l (r.mono e)⟩
  | dK a l k r => exact ⟨_, a, trivial, fun G' g e => .dK g l k (r.mono e)⟩
  | dT a l k r => exact ⟨_, a, trivial, fun G' g e => .dT g l k (r.mono e)⟩
end

/-- the slot i holds an object of the frame's own (or lent) at p -/
def OwnAt (δ : Env) (σ : St) (i : Nat) (p : Addr) : Prop := (∃ d, δ[i]? = some (.own d) ∨ δ[i]? = some (.io d)) ∧ σ[i]? = some (some (.ref p))

def SlOk (K : PySem.W.Frag) (B : Bs) (G H : Hp) (i : Nat) (ov : Option V) : Sl → Prop
  | .no => True
  | .imm d => ∃ v, ov = some v ∧ R K G v d
  | .own d => ∃ p, ov = some (.ref p) ∧ G p = none ∧ Ow K G H p d ∧ B.H0 p = none
  | .io d => ∃ p, ov = some (.ref p) ∧ G p = none ∧ Ow K G H p d ∧ (i, p) ∈ B.IO
  | .bor d => ∃ v, ov = some v ∧ R K (B.Bo i) v d

/-- the table of by_rows's code object, by the known objects -/
def codeTab (o : Obj) : Option Addr := match o with
  | ⟨_, _, .fields vs, _⟩ => match vs.toList with
    | _ :: .str n _ :: _ => if (n == ("by_rows" : Str)) = true then (match (vs[11]? : Option Value) with
      | some (Value.ref P) => some P
      | _ => none) else none
    | _ => none
  | _ => none
def tabOf (K : PySem.W.Frag) : Option Addr := K.findSome? fun p => codeTab p.2
abbrev tabQ : Str := "by_rows.<locals>.<lambda>"
/-- neither a tuple nor a table nor a code object -/
structure NT (o : HO) : Prop where
  tup : ∀ xs, o ≠ .tup xs
  tbl : ∀ ps, o ≠ .tbl ps
  code : ∀ c q, o ≠ LamX.CodeO c q
theorem nt_lst {xs : List V} : NT (.lst xs) := ⟨fun _ e => (by cases e), fun _ e => (by cases e), fun _ _ e => (by unfold LamX.CodeO at e; cases e)⟩
theorem nt_dK {xs : List (Key × V)} : NT (.dK xs) := ⟨fun _ e => (by cases e), fun _ e => (by cases e), fun _ _ e => (by unfold LamX.CodeO at e; cases e)⟩
theorem nt_dT {xs : List (List Key × V)} : NT (.dT xs) := ⟨fun _ e => (by cases e), fun _ e => (by cases e), fun _ _ e => (by unfold LamX.CodeO at e; cases e)⟩
theorem tabS_upd {H : Hp} {P p : Addr} {q : Str} {o o' : HO} (t : LamX.TabS H P q) (h : H p = some o) (n : NT o) : LamX.TabS (upd H p o') P q := by
  obtain ⟨ps, h1, h2, h3⟩ := t
  have c1 : P ≠ p := fun c => by subst c; rw [h] at h1; cases h1; exact n.tbl _ rfl
  refine ⟨ps, by rw [upd_ne c1]; exact h1, h2, fun pos cv hc => ?_⟩
  obtain ⟨c, e1, e2⟩ := h3 pos cv hc
  have c2 : c ≠ p := fun z => by subst z; rw [h] at e2; cases e2; exact n.code _ _ rfl
  exact ⟨c, e1, by rw [upd_ne c2]; exact e2⟩
theorem tabS_new {H : Hp} {P p : Addr} {q : Str} {o' : HO} (t : LamX.TabS H P q) (h : H p = none) : LamX.TabS (upd H p o') P q := t.ext fun b o e => by rw [upd_ne (ne_of_none e h)]; exact e
theorem tabS_ne {H : Hp} {P p : Addr} {q : Str} {o : HO} (t : LamX.TabS H P q) (h : H p = some o) (n : ∀ ps, o ≠ .tbl ps) : P ≠ p := fun c => by
  obtain ⟨ps, h1, _⟩ := t
  subst c; rw [h] at h1; cases h1; exact n _ rfl
theorem tabS_there {H : Hp} {P : Addr} {q : Str} (t : LamX.TabS H P q) : H P ≠ none := by
  obtain ⟨ps, h1, _⟩ := t
  rw [h1]; simp
theorem Ow.nt {K : PySem.W.Frag} {G H : Hp} {p : Addr} {d : D} (h : Ow K G H p d) : ∃ o, H p = some o ∧ NT o := by
  cases h with
  | lst a l r => exact ⟨_, a, nt_lst⟩
  | dK a l k r => exact ⟨_, a, nt_dK⟩
  | dT a l k r => exact ⟨_, a, nt_dT⟩
theorem notbl_upd {G : Hp} {p : Addr} {o : HO} (h : ∀ b ps, G b ≠ some (.tbl ps)) (n : ∀ ps, o ≠ .tbl ps) : ∀ b ps, upd G p o b ≠ some (.tbl ps) := fun b ps e => by
  by_cases c : b = p
  · rw [c, upd_same] at e; cases e; exact n _ rfl
  · rw [upd_ne c] at e; exact h b ps e
theorem mut_notbl {o : HO} (h : Mut (some o)) : ∀ ps, o ≠ .tbl ps := fun xs e => by subst e; exact h
structure At (K : PySem.W.Frag) (B : Bs) (G : Hp) (δ : Env) (σ : St) (H : Hp) : Prop where
  vw : Vw G H
  g0 : Ext B.G0 G
  keep : ∀ a o, B.H0 a = some o → (∀ i, (i, a) ∉ B.IO) → H a = some o
  dom : ∀ a, B.H0 a ≠ none → H a ≠ none
  leak : ∀ a o, B.H0 a = some o → (∀ xs, o ≠ .tup xs) → B.G0 a = none → G a = none
  iok : ∀ i a, (i, a) ∈ B.IO → B.G0 a = none ∧ B.H0 a ≠ none ∧ (∀ j, B.Bo j a = none) ∧ ∃ o, H a = some o ∧ Mut (some o)
  bo : ∀ j, Vw (B.Bo j) H
  bod : ∀ j a, B.Bo j a ≠ none → B.H0 a ≠ none
  len : δ.length = σ.length
  sl : ∀ i s, δ[i]? = some s → ∃ ov, σ[i]? = some ov ∧ SlOk K B G H i ov s
  apart : ∀ i j p, OwnAt δ σ i p → OwnAt δ σ j p → i = j
  tb : (∀ P, tabOf K = some P → LamX.TabS H P tabQ) ∧ (∀ b ps, B.H0 b ≠ some (.tbl ps)) ∧ (∀ b ps, G b ≠ some (.tbl ps)) ∧ (∀ j b ps, B.Bo j b ≠ some (.tbl ps)) ∧ ∀ i b xs, (i, b) ∈ B.IO → B.H0 b ≠ some (.tup xs)

section
variable {K : PySem.W.Frag} {B : Bs} {G G' H H' : Hp} {δ : Env} {σ : St} {i : Nat} {p : Addr} {o : HO} {d : D} {v : V}
theorem mut_notup (h : Mut (some o)) : ∀ xs, o ≠ .tup xs := fun xs e => by subst e; exact h
theorem At.imm (h : At K B G δ σ H) (e : δ[i]? = some (.imm d)) : ∃ v, σ[i]? = some (some v) ∧ R K G v d := by
  obtain ⟨ov, h1, v, rfl, r⟩ := h.sl i _ e
  exact ⟨v, h1, r⟩
theorem At.bor (h : At K B G δ σ H) (e : δ[i]? = some (.bor d)) : ∃ v, σ[i]? = some (some v) ∧ R K (B.Bo i) v d := by
  obtain ⟨ov, h1, v, rfl, r⟩ := h.sl i _ e
  exact ⟨v, h1, r⟩
theorem At.own (h : At K B G δ σ H) (e : δ[i]? = some (.own d)) : ∃ p, σ[i]? = some (some (.ref p)) ∧ G p = none ∧ Ow K G H p d ∧ B.H0 p = none := by
  obtain ⟨ov, h1, p, rfl, r⟩ := h.sl i _ e
  exact ⟨p, h1, r⟩
theorem At.io (h : At K B G δ σ H) (e : δ[i]? = some (.io d)) : ∃ p, σ[i]? = some (some (.ref p)) ∧ G p = none ∧ Ow K G H p d ∧ (i, p) ∈ B.IO := by
  obtain ⟨ov, h1, p, rfl, r⟩ := h.sl i _ e
  exact ⟨p, h1, r⟩
/-- own or lent -/
theorem At.ownAt (h : At K B G δ σ H) {j : Nat} (e : OwnAt δ σ j p) : G p = none ∧ ∃ d, Ow K G H p d := by
  obtain ⟨⟨d, e | e⟩, e2⟩ := e
  · obtain ⟨q, h1, h2, h3, _⟩ := h.own e
    rw [h1] at e2; cases e2
    exact ⟨h2, d, h3⟩
  · obtain ⟨q, h1, h2, h3, _⟩ := h.io e
    rw [h1] at e2; cases e2
    exact ⟨h2, d, h3⟩
theorem At.lt (h : At K B G δ σ H) {s : Sl} (e : δ[i]? = some s) : i < σ.length := by
  have := (List.getElem?_eq_some_iff.mp e).1
  rw [← h.len]; exact this
/-- H grows by an object that nobody knows -/
theorem At.alloc (h : At K B G δ σ H) (n : H p = none) : At K B G δ σ (upd H p o) := by
  have ne : ∀ a, H a ≠ none → a ≠ p := fun a q z => q (by rw [z]; exact n)
  have vw : ∀ F, Vw F H → Vw F (upd H p o) := fun F q a u e => by rw [upd_ne (ne a (q.there e))]; exact q a u e
  refine ⟨vw _ h.vw, h.g0, fun a u e z => ?_, fun a e => ?_, h.leak, fun i a e => ?_, fun j => vw _ (h.bo j), h.bod, h.len, fun i s e => ?_, h.apart, ⟨fun P hP => tabS_new (h.tb.1 P hP) n, h.tb.2⟩⟩
  · have q := h.keep a u e z
    rw [upd_ne (ne a (by rw [q]; simp))]; exact q
  · rw [upd_ne (ne a (h.dom a e))]; exact h.dom a e
  · obtain ⟨a1, a2, a3, u, a4, a5⟩ := h.iok i a e
    exact ⟨a1, a2, a3, u, by rw [upd_ne (ne a (by rw [a4]; simp))]; exact a4, a5⟩
  · obtain ⟨ov, h1, h2⟩ := h.sl i s e
    refine ⟨ov, h1, ?_⟩
    cases s with
    | no => trivial
    | imm d => exact h2
    | bor d => exact h2
    | own d =>
      obtain ⟨q, a1, a2, a3, a4⟩ := h2
      obtain ⟨u, b1, _⟩ := a3.obj
      exact ⟨q, a1, a2, a3.at' (upd_ne (ne q (by rw [b1]; simp))), a4⟩
    | io d =>
      obtain ⟨q, a1, a2, a3, a4⟩ := h2
      obtain ⟨u, b1, _⟩ := a3.obj
      exact ⟨q, a1, a2, a3.at' (upd_ne (ne q (by rw [b1]; simp))), a4⟩
theorem At.fresh0 (h : At K B G δ σ H) (n : H p = none) : B.H0 p = none := by
  cases q : B.H0 p with
  | none => rfl
  | some u => exact absurd n (h.dom p (by rw [q]; simp))
theorem At.noOwn (h : At K B G δ σ H) (n : H p = none) : ∀ j, ¬ OwnAt δ σ j p := fun j e => by
  obtain ⟨_, d, w⟩ := h.ownAt e
  obtain ⟨u, b, _⟩ := w.obj
  rw [n] at b; cases b
/-- an object that H has, nobody's own, is told to be fixed -/
theorem At.fix (h : At K B G δ σ H) (e : H p = some o) (g : G p = none) (h0 : B.H0 p = none) (no : ∀ j, ¬ OwnAt δ σ j p) (nt : ∀ ps, o ≠ .tbl ps) : At K B (upd G p o) δ σ H := by
  have ex : Ext G (upd G p o) := Ext.new g
  refine ⟨fun a u q => ?_, h.g0.trans ex, h.keep, h.dom, fun a u q t z => ?_, h.iok, h.bo, h.bod, h.len, fun i s q => ?_, h.apart, ⟨h.tb.1, h.tb.2.1, notbl_upd h.tb.2.2.1 nt, h.tb.2.2.2⟩⟩
  · by_cases c : a = p
    · subst c; rw [upd_same] at q; cases q; exact .inl e
    · rw [upd_ne c] at q; exact h.vw a u q
  · have c : a ≠ p := fun c => by rw [c, h0] at q; cases q
    rw [upd_ne c]; exact h.leak a u q t z
  · obtain ⟨ov, h1, h2⟩ := h.sl i s q
    refine ⟨ov, h1, ?_⟩
    cases s with
    | no => trivial
    | imm d => obtain ⟨v, a, r⟩ := h2; exact ⟨v, a, r.mono ex⟩
    | bor d => exact h2
    | own d =>
      obtain ⟨b, a1, a2, a3, a4⟩ := h2
      subst a1
      have c : b ≠ p := fun c => by subst c; exact no i ⟨⟨d, .inl q⟩, h1⟩
      exact ⟨b, rfl, by rw [upd_ne c]; exact a2, a3.mono ex, a4⟩
    | io d =>
      obtain ⟨b, a1, a2, a3, a4⟩ := h2
      subst a1
      have c : b ≠ p := fun c => by subst c; exact no i ⟨⟨d, .inr q⟩, h1⟩
      exact ⟨b, rfl, by rw [upd_ne c]; exact a2, a3.mono ex, a4⟩
/-- a new object, told to be fixed -/
theorem At.laid (h : At K B G δ σ H) (n : H p = none) (nt : ∀ ps, o ≠ .tbl ps) : At K B (upd G p o) δ σ (upd H p o) :=
  (h.alloc n).fix upd_same (h.vw.none n) (h.fresh0 n) (h.noOwn n) nt
/-- tuples that H has may always be told -/
theorem At.tuple (h : At K B G δ σ H) {xs : List V} (e : H p = some (.tup xs)) : ∃ G', At K B G' δ σ H ∧ Ext G G' ∧ G' p = some (.tup xs) := by
  cases g : G p with
  | some u =>
    have q : u = .tup xs := by
      rcases h.vw p u g with z | ⟨_, x, z⟩
      · rw [e] at z; exact (Option.some.inj z).symm
      · rw [e] at z; cases z
    subst q
    exact ⟨G, h, Ext.refl G, g⟩
  | none =>
    have ex : Ext G (upd G p (.tup xs)) := Ext.new g
    have no : ∀ j, ¬ OwnAt δ σ j p := fun j q => by
      obtain ⟨_, d, w⟩ := h.ownAt q
      obtain ⟨u, b, m, _⟩ := w.obj
      rw [e] at b; cases b; exact m
    refine ⟨upd G p (.tup xs), ⟨fun a u q => ?_, h.g0.trans ex, h.keep, h.dom, fun a u q t z => ?_, h.iok, h.bo, h.bod, h.len, fun i s q => ?_, h.apart, ⟨h.tb.1, h.tb.2.1, notbl_upd h.tb.2.2.1 (fun _ z => by cases z), h.tb.2.2.2⟩⟩, ex, upd_same⟩
    · by_cases c : a = p
      · subst c; rw [upd_same] at q; cases q; exact .inl e
      · rw [upd_ne c] at q; exact h.vw a u q
    · have c : a ≠ p := fun c => by
        subst c
        by_cases io : ∀ i, (i, a) ∉ B.IO
        · have := h.keep a u q io
          rw [e] at this; cases this
          exact t xs rfl
        · have ⟨i, io⟩ : ∃ i, (i, a) ∈ B.IO := Classical.byContradiction fun z => io fun i hi => z ⟨i, hi⟩
          obtain ⟨_, _, _, u', z1, z2⟩ := h.iok i a io
          rw [e] at z1; cases z1; exact z2
      rw [upd_ne c]; exact h.leak a u q t z
    · obtain ⟨ov, h1, h2⟩ := h.sl i s q
      refine ⟨ov, h1, ?_⟩
      cases s with
      | no => trivial
      | imm d => obtain ⟨v, a, r⟩ := h2; exact ⟨v, a, r.mono ex⟩
      | bor d => exact h2
      | own d =>
        obtain ⟨b, a1, a2, a3, a4⟩ := h2
        subst a1
        have c : b ≠ p := fun c => by subst c; exact no i ⟨⟨d, .inl q⟩, h1⟩
        exact ⟨b, rfl, by rw [upd_ne c]; exact a2, a3.mono ex, a4⟩
      | io d =>
        obtain ⟨b, a1, a2, a3, a4⟩ := h2
        subst a1
        have c : b ≠ p := fun c => by subst c; exact no i ⟨⟨d, .inr q⟩, h1⟩
        exact ⟨b, rfl, by rw [upd_ne c]; exact a2, a3.mono ex, a4⟩
theorem get_set {α : Type} {l : List α} {i j : Nat} {x y : α} (h : (l.set i x)[j]? = some y) : (i = j ∧ y = x ∧ i < l.length) ∨ (i ≠ j ∧ l[j]? = some y) := by
  by_cases c : i = j
  · subst c
    by_cases z : i < l.length
    · rw [List.getElem?_set_self z] at h; exact .inl ⟨rfl, (Option.some.inj h).symm, z⟩
    · rw [List.getElem?_eq_none (by rw [List.length_set]; omega)] at h; cases h
  · rw [List.getElem?_set_ne c] at h; exact .inr ⟨c, h⟩
/-- a slot is stored: data that stay -/
theorem At.setImm (h : At K B G δ σ H) (r : R K G v d) (i : Nat) : At K B G (δ.set i (.imm d)) (σ.set i (some v)) H := by
  refine ⟨h.vw, h.g0, h.keep, h.dom, h.leak, h.iok, h.bo, h.bod, by rw [List.length_set, List.length_set]; exact h.len, fun j s e => ?_, fun j k p e1 e2 => ?_, h.tb⟩
  · rcases get_set e with ⟨rfl, rfl, z⟩ | ⟨c, e⟩
    · exact ⟨some v, List.getElem?_set_self (by rw [← h.len]; exact z), v, rfl, r⟩
    · obtain ⟨ov, h1, h2⟩ := h.sl j s e
      exact ⟨ov, by rw [List.getElem?_set_ne c]; exact h1, h2⟩
  · have back : ∀ j, OwnAt (δ.set i (.imm d)) (σ.set i (some v)) j p → OwnAt δ σ j p := fun j e => by
      obtain ⟨⟨d', e | e⟩, e2⟩ := e
      · rcases get_set e with ⟨_, q, _⟩ | ⟨c, e⟩
        · cases q
        · rw [List.getElem?_set_ne c] at e2; exact ⟨⟨d', .inl e⟩, e2⟩
      · rcases get_set e with ⟨_, q, _⟩ | ⟨c, e⟩
        · cases q
        · rw [List.getElem?_set_ne c] at e2; exact ⟨⟨d', .inr e⟩, e2⟩
    exact h.apart j k p (back j e1) (back k e2)
/-- .. an object of its own -/
theorem At.setOwn (h : At K B G δ σ H) (g : G p = none) (w : Ow K G H p d) (h0 : B.H0 p = none) (no : ∀ j, ¬ OwnAt δ σ j p) (i : Nat) : At K B G (δ.set i (.own d)) (σ.set i (some (.ref p))) H := by
  refine ⟨h.vw, h.g0, h.keep, h.dom, h.leak, h.iok, h.bo, h.bod, by rw [List.length_set, List.length_set]; exact h.len, fun j s e => ?_, fun j k q e1 e2 => ?_, h.tb⟩
  · rcases get_set e with ⟨rfl, rfl, z⟩ | ⟨c, e⟩
    · exact ⟨some (.ref p), List.getElem?_set_self (by rw [← h.len]; exact z), p, rfl, g, w, h0⟩
    · obtain ⟨ov, h1, h2⟩ := h.sl j s e
      exact ⟨ov, by rw [List.getElem?_set_ne c]; exact h1, h2⟩
  · have back : ∀ j, OwnAt (δ.set i (.own d)) (σ.set i (some (.ref p))) j q → (i = j ∧ q = p) ∨ (i ≠ j ∧ OwnAt δ σ j q) := fun j e => by
      obtain ⟨⟨d', e⟩, e2⟩ := e
      by_cases c : i = j
      · subst c
        rcases get_set e2 with ⟨_, q2, _⟩ | ⟨c, _⟩
        · cases q2; exact .inl ⟨rfl, rfl⟩
        · exact absurd rfl c
      · rw [List.getElem?_set_ne c] at e2
        refine .inr ⟨c, ⟨d', ?_⟩, e2⟩
        rcases e with e | e
        · rw [List.getElem?_set_ne c] at e; exact .inl e
        · rw [List.getElem?_set_ne c] at e; exact .inr e
    rcases back j e1 with ⟨a1, a2⟩ | ⟨a1, a2⟩ <;> rcases back k e2 with ⟨b1, b2⟩ | ⟨b1, b2⟩
    · omega
    · subst a2; exact absurd b2 (no k)
    · subst b2; exact absurd a2 (no j)
    · exact h.apart j k q a2 b2
/-- forgetting -/
theorem At.forget (h : At K B G δ σ H) {δ' : Env} {σ' : St} (hl : δ'.length = σ'.length) (w : ∀ (i : Nat) (s : Sl), δ'[i]? = some s → s = Sl.no ∨ (δ[i]? = some s ∧ σ'[i]? = σ[i]?)) : At K B G δ' σ' H := by
  refine ⟨h.vw, h.g0, h.keep, h.dom, h.leak, h.iok, h.bo, h.bod, hl, fun j s e => ?_, fun j k q e1 e2 => ?_, h.tb⟩
  · rcases w j s e with rfl | ⟨e1, e2⟩
    · have : j < σ'.length := by rw [← hl]; exact (List.getElem?_eq_some_iff.mp e).1
      exact ⟨σ'[j], List.getElem?_eq_getElem this, trivial⟩
    · obtain ⟨ov, h1, h2⟩ := h.sl j s e1
      exact ⟨ov, e2.trans h1, h2⟩
  · have back : ∀ j, OwnAt δ' σ' j q → OwnAt δ σ j q := fun j e => by
      obtain ⟨⟨d', e | e⟩, e2⟩ := e
      · rcases w j _ e with z | ⟨z1, z2⟩
        · cases z
        · exact ⟨⟨d', .inl z1⟩, z2 ▸ e2⟩
      · rcases w j _ e with z | ⟨z1, z2⟩
        · cases z
        · exact ⟨⟨d', .inr z1⟩, z2 ▸ e2⟩
    exact h.apart j k q (back j e1) (back k e2)
/-- a slot's own object is told to be fixed from now on -/
theorem At.freeze (h : At K B G δ σ H) (e : δ[i]? = some (.own d)) : ∃ G' p, σ[i]? = some (some (.ref p)) ∧ R K G' (.ref p) d ∧ Ext G G' ∧ At K B G' (δ.set i (.imm d)) σ H := by
  obtain ⟨p, h1, h2, h3, h4⟩ := h.own e
  obtain ⟨o, b1, bm, b2⟩ := h3.obj
  have ex : Ext G (upd G p o) := Ext.new h2
  have hf : At K B G (δ.set i .no) σ H := h.forget (by rw [List.length_set]; exact h.len) fun j s q => by
    rcases get_set q with ⟨rfl, rfl, _⟩ | ⟨c, q⟩
    · exact .inl rfl
    · exact .inr ⟨q, rfl⟩
  have hg := hf.fix b1 h2 h4 (fun j q => by
    have c : i ≠ j := fun c => by
      subst c
      obtain ⟨⟨d', z | z⟩, _⟩ := q
      · rcases get_set z with ⟨_, y, _⟩ | ⟨y, _⟩
        · cases y
        · exact y rfl
      · rcases get_set z with ⟨_, y, _⟩ | ⟨y, _⟩
        · cases y
        · exact y rfl
    have q' : OwnAt δ σ j p := by
      obtain ⟨⟨d', z⟩, y⟩ := q
      rw [List.getElem?_set_ne c] at z
      exact ⟨⟨d', z⟩, y⟩
    exact c (h.apart i j p ⟨⟨d, .inl e⟩, h1⟩ q')) (mut_notbl bm)
  have hr : R K (upd G p o) (.ref p) d := b2 _ upd_same ex
  refine ⟨upd G p o, p, h1, hr, ex, ?_⟩
  have hi := hg.setImm hr i
  rw [List.set_set] at hi
  have : σ.set i (some (.ref p)) = σ := by
    apply List.ext_getElem?
    intro j
    by_cases c : i = j
    · subst c
      rw [List.getElem?_set_self (h.lt e)]; exact h1.symm
    · rw [List.getElem?_set_ne c]
  rw [this] at hi
  exact hi
/-- an own (or lent) object is changed -/
theorem At.change (h : At K B G δ σ H) {d' : D} {s s' : Sl} (e : δ[i]? = some s) (hs : (s = .own d ∧ s' = .own d') ∨ (s = .io d ∧ s' = .io d')) (hp : σ[i]? = some (some (.ref p))) (m : Mut (some o)) (w : Ow K G (upd H p o) p d') :
    At K B G (δ.set i s') σ (upd H p o) := by
  have oa : OwnAt δ σ i p := by
    rcases hs with ⟨rfl, _⟩ | ⟨rfl, _⟩
    · exact ⟨⟨d, .inl e⟩, hp⟩
    · exact ⟨⟨d, .inr e⟩, hp⟩
  obtain ⟨gp, dd, w0⟩ := h.ownAt oa
  obtain ⟨o0, hp0, m0, _⟩ := w0.obj
  have back : ∀ j q, OwnAt (δ.set i s') σ j q → OwnAt δ σ j q := fun j q z => by
    by_cases c : i = j
    · subst c
      obtain ⟨_, z2⟩ := z
      rw [hp] at z2; cases z2; exact oa
    · obtain ⟨⟨d', z⟩, y⟩ := z
      rw [List.getElem?_set_ne c] at z
      exact ⟨⟨d', z⟩, y⟩
  have bop : ∀ j, B.Bo j p = none := fun j => by
    rcases hs with ⟨rfl, _⟩ | ⟨rfl, _⟩
    · obtain ⟨q, h1, _, _, h4⟩ := h.own e
      rw [hp] at h1; cases h1
      cases z : B.Bo j p with
      | none => rfl
      | some u => exact absurd h4 (h.bod j p (by rw [z]; simp))
    · obtain ⟨q, h1, _, _, h4⟩ := h.io e
      rw [hp] at h1; cases h1
      exact (h.iok i p h4).2.2.1 j
  refine ⟨fun a u q => ?_, h.g0, fun a u q z => ?_, fun a q => ?_, h.leak, fun j a q => ?_, fun jj a u q => ?_, h.bod, by rw [List.length_set]; exact h.len, fun j t q => ?_, fun j k q e1 e2 => h.apart j k q (back j q e1) (back k q e2), ⟨fun P hP => (by obtain ⟨oo, x1, x2⟩ := w0.nt; exact tabS_upd (h.tb.1 P hP) x1 x2), h.tb.2⟩⟩
  · rw [upd_ne (fun c => by rw [c, gp] at q; cases q)]; exact h.vw a u q
  · have c : a ≠ p := fun c => by
      subst c
      rcases hs with ⟨rfl, _⟩ | ⟨rfl, _⟩
      · obtain ⟨b, h1, _, _, h4⟩ := h.own e
        rw [hp] at h1; cases h1
        rw [h4] at q; cases q
      · obtain ⟨b, h1, _, _, h4⟩ := h.io e
        rw [hp] at h1; cases h1
        exact z i h4
    rw [upd_ne c]; exact h.keep a u q z
  · by_cases c : a = p
    · rw [c, upd_same]; simp
    · rw [upd_ne c]; exact h.dom a q
  · obtain ⟨a1, a2, a3, u, a4, a5⟩ := h.iok j a q
    refine ⟨a1, a2, a3, ?_⟩
    by_cases c : a = p
    · exact ⟨o, by rw [c, upd_same], m⟩
    · exact ⟨u, by rw [upd_ne c]; exact a4, a5⟩
  · rw [upd_ne (fun c => by rw [c, bop] at q; cases q)]; exact h.bo jj a u q
  · rcases get_set q with ⟨rfl, rfl, _⟩ | ⟨c, q⟩
    · refine ⟨some (.ref p), hp, ?_⟩
      rcases hs with ⟨rfl, rfl⟩ | ⟨rfl, rfl⟩
      · obtain ⟨b, h1, _, _, h4⟩ := h.own e
        rw [hp] at h1; cases h1
        exact ⟨p, rfl, gp, w, h4⟩
      · obtain ⟨b, h1, _, _, h4⟩ := h.io e
        rw [hp] at h1; cases h1
        exact ⟨p, rfl, gp, w, h4⟩
    · obtain ⟨ov, h1, h2⟩ := h.sl j t q
      refine ⟨ov, h1, ?_⟩
      cases t with
      | no => trivial
      | imm d => exact h2
      | bor d => exact h2
      | own d =>
        obtain ⟨b, a1, a2, a3, a4⟩ := h2
        subst a1
        have cb : b ≠ p := fun cb => by subst cb; exact c (h.apart i j b oa ⟨⟨d, .inl q⟩, h1⟩)
        exact ⟨b, rfl, a2, a3.at' (upd_ne cb), a4⟩
      | io d =>
        obtain ⟨b, a1, a2, a3, a4⟩ := h2
        subst a1
        have cb : b ≠ p := fun cb => by subst cb; exact c (h.apart i j b oa ⟨⟨d, .inr q⟩, h1⟩)
        exact ⟨b, rfl, a2, a3.at' (upd_ne cb), a4⟩
end
end M

set_option Elab.async false
set_option linter.all false
set_option maxRecDepth 100000
/-! Part B: the mirror's monad, the judgements, the base. -/
namespace M
open PySem L2 PySem.Spec PyProof.Rows

structure Exn where
  cls : Str
  val : D
abbrev Mo (α : Type) := Env → Option (Except Exn α × Env)
def Mo.ret {α : Type} (a : α) : Mo α := fun δ => some (.ok a, δ)
def Mo.bind {α β : Type} (m : Mo α) (k : α → Mo β) : Mo β := fun δ => match m δ with
  | none => none
  | some (.error x, δ') => some (.error x, δ')
  | some (.ok a, δ') => k a δ'
def Mo.lift {α : Type} (o : Option α) : Mo α := fun δ => match o with
  | none => none
  | some a => some (.ok a, δ)
theorem bind_ok {α β : Type} {m : Mo α} {k : α → Mo β} {δ δ1 : Env} {a : α} (h : m δ = some (.ok a, δ1)) : Mo.bind m k δ = k a δ1 := by unfold Mo.bind; rw [h]
theorem lift_some {α : Type} {o : Option α} {δ : Env} {r : Except Exn α × Env} (h : Mo.lift o δ = some r) : ∃ a, o = some a ∧ r = (.ok a, δ) := by
  unfold Mo.lift at h
  cases o with
  | none => cases h
  | some a => exact ⟨a, rfl, (Option.some.inj h).symm⟩

/-- what is wanted where an exception leaves -/
abbrev WK := Exn → Env → St → Hp → Hp → Prop
def W0 : WK := fun _ _ _ _ _ => False

def Post {α : Type} (K : PySem.W.Frag) (W : WK) (B : Bs) (G : Hp) (σ : St) (r : Except Exn α) (δ' : Env) (ok : α → Hp → Hp → Prop) : Prop := match r with
  | .ok a => ∀ G' H', At K B G' δ' σ H' → Ext G G' → ok a G' H'
  | .error x => ∀ G' σ' H', At K B G' δ' σ' H' → Ext G G' → W x δ' σ' G' H'
theorem Post.mono {α : Type} {K : PySem.W.Frag} {W : WK} {B : Bs} {G G1 : Hp} {σ : St} {r : Except Exn α} {δ' : Env} {ok : α → Hp → Hp → Prop} (h : Post K W B G σ r δ' ok) (e : Ext G G1) : Post K W B G1 σ r δ' ok := by
  cases r with
  | ok a => exact fun G' H' a1 e1 => h G' H' a1 (e.trans e1)
  | error x => exact fun G' σ' H' a1 e1 => h G' σ' H' a1 (e.trans e1)

/-- a result of its own: a new object that nobody else has -/
def Fr1 (K : PySem.W.Frag) (B : Bs) (G : Hp) (δ : Env) (σ : St) (H : Hp) (p : Addr) (d : D) : Prop := G p = none ∧ B.H0 p = none ∧ (∀ j, ¬ OwnAt δ σ j p) ∧ Ow K G H p d

def tE (K : PySem.W.Frag) (W : WK) (E : Mo D) : TE := fun σ H Q => ∃ B G δ r δ', At K B G δ σ H ∧ E δ = some (r, δ') ∧ Post K W B G σ r δ' (fun d G' H' => ∀ v, R K G' v d → Q v H')
def tO (K : PySem.W.Frag) (W : WK) (E : Mo D) : TE := fun σ H Q => ∃ B G δ r δ', At K B G δ σ H ∧ E δ = some (r, δ') ∧ Post K W B G σ r δ' (fun d G' H' => ∀ p, Fr1 K B G' δ' σ H' p d → Q (.ref p) H')
def tT (K : PySem.W.Frag) (W : WK) (T : Mo Bool) : TT := fun σ H Q => ∃ B G δ r δ', At K B G δ σ H ∧ T δ = some (r, δ') ∧ Post K W B G σ r δ' (fun b G' H' => Q b H')
/-- an argument: data; a slot's object to be changed; a slot's object to be read -/
inductive Ag where
  | im (d : D) | vr (i : Nat) | vb (i : Nat)
def AgOk (K : PySem.W.Frag) (G : Hp) (σ : St) (v : V) : Ag → Prop
  | .im d => R K G v d
  | .vr i => σ[i]? = some (some v)
  | .vb i => σ[i]? = some (some v)
abbrev AgsOk (K : PySem.W.Frag) (G : Hp) (σ : St) : List V → List Ag → Prop := Paired (AgOk K G σ)
def tA (K : PySem.W.Frag) (W : WK) (A : Mo (List Ag)) : TA := fun σ H Q => ∃ B G δ r δ', At K B G δ σ H ∧ A δ = some (r, δ') ∧ Post K W B G σ r δ' (fun as G' H' => ∀ vs, AgsOk K G' σ vs as → Q vs H')

section
variable (X : Cx) (W : WK)
def DE (e : Expr) (E : Mo D) : Prop := PE X e (tE X.K W E)
def DO (e : Expr) (E : Mo D) : Prop := PE X e (tO X.K W E)
def DT (e : Expr) (T : Mo Bool) : Prop := PT X e (tT X.K W T)
def DW (e : Expr) (T : Mo Bool) : Prop := PW X e (tT X.K W T)
def DA (es : List Expr) (A : Mo (List Ag)) : Prop := PA X es (tA X.K W A)
end

section
variable {K : PySem.W.Frag} {W : WK} {B : Bs} {G G' H H' : Hp} {δ δ' : Env} {σ : St} {α β : Type} {r : Except Exn β} {ok : β → Hp → Hp → Prop}
theorem tE_bind {E : Mo D} {k : D → Mo β} {Q : VK} (a : At K B G δ σ H) (h : Mo.bind E k δ = some (r, δ')) (post : Post K W B G σ r δ' ok)
    (q : ∀ v H1 G1 δ1 d, At K B G1 δ1 σ H1 → Ext G G1 → R K G1 v d → k d δ1 = some (r, δ') → Post K W B G1 σ r δ' ok → Q v H1) : tE K W E σ H Q := by
  unfold Mo.bind at h
  cases e : E δ with
  | none => rw [e] at h; cases h
  | some z =>
    obtain ⟨x, δ1⟩ := z
    rw [e] at h
    cases x with
    | error x => cases h; exact ⟨B, G, δ, .error x, _, a, e, post⟩
    | ok d => exact ⟨B, G, δ, .ok d, δ1, a, e, fun G1 H1 a1 e1 v rv => q v H1 G1 δ1 d a1 e1 rv h (post.mono e1)⟩
theorem tO_bind {E : Mo D} {k : D → Mo β} {Q : VK} (a : At K B G δ σ H) (h : Mo.bind E k δ = some (r, δ')) (post : Post K W B G σ r δ' ok)
    (q : ∀ p H1 G1 δ1 d, At K B G1 δ1 σ H1 → Ext G G1 → Fr1 K B G1 δ1 σ H1 p d → k d δ1 = some (r, δ') → Post K W B G1 σ r δ' ok → Q (.ref p) H1) : tO K W E σ H Q := by
  unfold Mo.bind at h
  cases e : E δ with
  | none => rw [e] at h; cases h
  | some z =>
    obtain ⟨x, δ1⟩ := z
    rw [e] at h
    cases x with
    | error x => cases h; exact ⟨B, G, δ, .error x, _, a, e, post⟩
    | ok d => exact ⟨B, G, δ, .ok d, δ1, a, e, fun G1 H1 a1 e1 v rv => q v H1 G1 δ1 d a1 e1 rv h (post.mono e1)⟩
theorem tT_bind {E : Mo Bool} {k : Bool → Mo β} {Q : Bool → Hp → Prop} (a : At K B G δ σ H) (h : Mo.bind E k δ = some (r, δ')) (post : Post K W B G σ r δ' ok)
    (q : ∀ H1 G1 δ1 d, At K B G1 δ1 σ H1 → Ext G G1 → k d δ1 = some (r, δ') → Post K W B G1 σ r δ' ok → Q d H1) : tT K W E σ H Q := by
  unfold Mo.bind at h
  cases e : E δ with
  | none => rw [e] at h; cases h
  | some z =>
    obtain ⟨x, δ1⟩ := z
    rw [e] at h
    cases x with
    | error x => cases h; exact ⟨B, G, δ, .error x, _, a, e, post⟩
    | ok d => exact ⟨B, G, δ, .ok d, δ1, a, e, fun G1 H1 a1 e1 => q H1 G1 δ1 d a1 e1 h (post.mono e1)⟩
theorem tA_bind {E : Mo (List Ag)} {k : List Ag → Mo β} {Q : List V → Hp → Prop} (a : At K B G δ σ H) (h : Mo.bind E k δ = some (r, δ')) (post : Post K W B G σ r δ' ok)
    (q : ∀ vs H1 G1 δ1 d, At K B G1 δ1 σ H1 → Ext G G1 → AgsOk K G1 σ vs d → k d δ1 = some (r, δ') → Post K W B G1 σ r δ' ok → Q vs H1) : tA K W E σ H Q := by
  unfold Mo.bind at h
  cases e : E δ with
  | none => rw [e] at h; cases h
  | some z =>
    obtain ⟨x, δ1⟩ := z
    rw [e] at h
    cases x with
    | error x => cases h; exact ⟨B, G, δ, .error x, _, a, e, post⟩
    | ok d => exact ⟨B, G, δ, .ok d, δ1, a, e, fun G1 H1 a1 e1 v rv => q v H1 G1 δ1 d a1 e1 rv h (post.mono e1)⟩
end

section
variable {X : Cx} {W : WK} {e a b c : Expr} {pos : Pos} {E Ea Eb Ec : Mo D} {T Ta Tb : Mo Bool}
theorem PE.weak {t t' : TE} (h : PE X e t) (w : ∀ σ H Q, t' σ H Q → t σ H Q) : PE X e t' := ⟨fun pins s σ H Q I q => h.run pins s σ H Q I (w σ H Q q)⟩
theorem PT.weak {t t' : TT} (h : PT X e t) (w : ∀ σ H Q, t' σ H Q → t σ H Q) : PT X e t' := ⟨fun pins s σ H Q I q => h.run pins s σ H Q I (w σ H Q q)⟩
theorem PW.weak {t t' : TT} (h : PW X e t) (w : ∀ σ H Q, t' σ H Q → t σ H Q) : PW X e t' := ⟨fun wh pins s σ H Q I q => h.run wh pins s σ H Q I (w σ H Q q)⟩
theorem PA.weak {es : List Expr} {t t' : TA} (h : PA X es t) (w : ∀ σ H Q, t' σ H Q → t σ H Q) : PA X es t' := ⟨fun po pins s σ H Q I q => h.run po pins s σ H Q I (w σ H Q q)⟩
theorem PS.weak {st : Stmt} {t t' : TS} (h : PS X st t) (w : ∀ D σ H, t' D σ H → t D σ H) : PS X st t' := ⟨fun pins s σ H D I q => h.run pins s σ H D I (w D σ H q)⟩
theorem PSs.weak {st : List Stmt} {t t' : TS} (h : PSs X st t) (w : ∀ D σ H, t' D σ H → t D σ H) : PSs X st t' := ⟨fun pins s σ H D I q => h.run pins s σ H D I (w D σ H q)⟩
theorem PE.or {t u : TE} (h : PE X e t) (h' : PE X e u) : PE X e (fun σ H Q => t σ H Q ∨ u σ H Q) := ⟨fun pins s σ H Q I q => q.elim (h.run pins s σ H Q I) (h'.run pins s σ H Q I)⟩
theorem PS.or {st : Stmt} {t u : TS} (h : PS X st t) (h' : PS X st u) : PS X st (fun D σ H => t D σ H ∨ u D σ H) := ⟨fun pins s σ H D I q => q.elim (h.run pins s σ H D I) (h'.run pins s σ H D I)⟩
theorem PI.or {tg it : Expr} {t u : TI} (h : PI X tg it t) (h' : PI X tg it u) : PI X tg it (fun σ H R => t σ H R ∨ u σ H R) := ⟨fun pins s σ H R I q => q.elim (h.run pins s σ H R I) (h'.run pins s σ H R I)⟩
theorem PG.or {tg : Expr} {t u : TG} (h : PG X tg t) (h' : PG X tg u) : PG X tg (fun v σ H Q => t v σ H Q ∨ u v σ H Q) := ⟨fun pins s σ H v uu Q I rv q => q.elim (h.run pins s σ H v uu Q I rv) (h'.run pins s σ H v uu Q I rv)⟩

/-- a new object as data -/
theorem DO.de (h : DO X W e E) : DE X W e E := PE.weak h fun σ H Q ⟨B, G, δ, r, δ', a, e1, post⟩ => by
  refine ⟨B, G, δ, r, δ', a, e1, ?_⟩
  cases r with
  | error x => exact post
  | ok d =>
    refine fun G' H' a' ex p hp => ?_
    obtain ⟨h1, h2, h3, h4⟩ := hp
    obtain ⟨o, q1, qm, q2⟩ := h4.obj
    exact post (upd G' p o) H' (a'.fix q1 h1 h2 h3 (mut_notbl qm)) (ex.trans (Ext.new h1)) (.ref p) (q2 _ upd_same (Ext.new h1))

/-! ### constants, names -/
def eC (d : D) : Mo D := Mo.ret d
theorem de_c {v : V} {d : D} (h : PE X e (tC v)) (hr : ∀ G, R X.K G v d) : DE X W e (eC d) := PE.weak h fun σ H Q ⟨B, G, δ, r, δ', a, e1, post⟩ => by
  cases e1
  exact post G H a (Ext.refl G) v (hr G)
theorem de_int {i j} : DE X W (.Constant (.int i) j pos) (eC (.int i)) := de_c pe_int fun _ => .int i
theorem de_bl {i j} : DE X W (.Constant (.bool i) j pos) (eC (.bl i)) := de_c pe_bl fun _ => .bl i
theorem de_non {j} : DE X W (.Constant .none j pos) (eC .non) := de_c pe_non fun _ => .non
theorem de_str {x j} : DE X W (.Constant (.str x) j pos) (eC (.str x)) := de_c pe_str fun _ => .str x
/-- a name: what a slot holds; an object of its own is fixed by that -/
def flatD : D → Bool
  | .non => true | .bl _ => true | .int _ => true | .str _ => true
  | _ => false
theorem R.flat {K : PySem.W.Frag} {G G' : Hp} {v : V} {d : D} (h : R K G v d) (f : flatD d = true) : R K G' v d := by
  cases h with
  | non => exact .non
  | bl b => exact .bl b
  | int i => exact .int i
  | str s => exact .str s
  | _ => cases f
def eV (i : Nat) : Mo D := fun δ => match δ[i]? with
  | some (.imm d) => some (.ok d, δ)
  | some (.own d) => some (.ok d, δ.set i (.imm d))
  | some (.bor d) => if flatD d then some (.ok d, δ) else none
  | _ => none
theorem de_v {i : Nat} (h : PE X e (tVar i)) : DE X W e (eV i) := PE.weak h fun σ H Q ⟨B, G, δ, r, δ', a, e1, post⟩ => by
  unfold eV at e1
  split at e1
  · rename_i d h
    cases e1
    obtain ⟨v, h1, h2⟩ := a.imm h
    exact ⟨v, h1, post G H a (Ext.refl G) v h2⟩
  · rename_i d h
    cases e1
    obtain ⟨G', p, h1, h2, h3, h4⟩ := a.freeze h
    exact ⟨.ref p, h1, post G' H h4 h3 _ h2⟩
  · rename_i d h
    split at e1
    · rename_i f
      cases e1
      obtain ⟨v, h1, h2⟩ := a.bor h
      exact ⟨v, h1, post G H a (Ext.refl G) v (h2.flat f)⟩
    · cases e1
  · cases e1

/-! ### operators -/
/-- a rule by values that gives f -/
def Snd2 (K : PySem.W.Frag) (f : D → D → Option D) (r : R2) : Prop := ∀ (B : Bs) (G H : Hp) (δ : Env) (σ : St) (x y : V) (a b d : D) (Q : VK), At K B G δ σ H → R K G x a → R K G y b → f a b = some d →
  (∀ v G' H', At K B G' δ σ H' → Ext G G' → R K G' v d → Q v H') → r x y H Q
def eBin (f : D → D → Option D) (A B : Mo D) : Mo D := A.bind fun x => B.bind fun y => Mo.lift (f x y)
theorem de_tOp {f : D → D → Option D} {r : R2} (hf : Snd2 X.K f r) (h : PE X e (tOp r (tE X.K W Ea) (tE X.K W Eb))) : DE X W e (eBin f Ea Eb) := PE.weak h fun σ H Q ⟨B, G, δ, r', δ', a, e1, post⟩ => by
  refine tE_bind a e1 post fun v H1 G1 δ1 d a1 x1 r1 e2 post => ?_
  refine tE_bind a1 e2 post fun w H2 G2 δ2 d2 a2 x2 r2 e3 post => ?_
  obtain ⟨z, hz, hr⟩ := lift_some e3
  cases hr
  exact hf B G2 H2 δ' σ v w d d2 z Q a2 (r1.mono x2) r2 hz fun v G' H' a' x' r' => post G' H' a' x' v r'
theorem de_bin {op : Operator} {f : D → D → Option D} {r : R2} (ho : OpR X (binaryOp op) r) (hf : Snd2 X.K f r) (ha : DE X W a Ea) (hb : DE X W b Eb) : DE X W (.BinOp a op b pos) (eBin f Ea Eb) := de_tOp hf (pe_op ho ha hb)
theorem de_cmp {op : CmpOp} {f : D → D → Option D} {r : R2} (ho : OpR X (compareOp op) r) (hf : Snd2 X.K f r) (ha : DE X W a Ea) (hb : DE X W b Eb) (hm : behindInMarks op b = false) : DE X W (.Compare a [op] [b] pos) (eBin f Ea Eb) := de_tOp hf (pe_cmpR ho ha hb hm)
/-- the same, its value a new object of its own -/
def Snd2O (K : PySem.W.Frag) (f : D → D → Option D) (r : R2) : Prop := ∀ (B : Bs) (G H : Hp) (δ : Env) (σ : St) (x y : V) (a b d : D) (Q : VK), At K B G δ σ H → R K G x a → R K G y b → f a b = some d →
  (∀ p H', At K B G δ σ H' → Fr1 K B G δ σ H' p d → Q (.ref p) H') → r x y H Q
theorem do_tOp {f : D → D → Option D} {r : R2} (hf : Snd2O X.K f r) (h : PE X e (tOp r (tE X.K W Ea) (tE X.K W Eb))) : DO X W e (eBin f Ea Eb) := PE.weak h fun σ H Q ⟨B, G, δ, r', δ', a, e1, post⟩ => by
  refine tE_bind a e1 post fun v H1 G1 δ1 d a1 x1 r1 e2 post => ?_
  refine tE_bind a1 e2 post fun w H2 G2 δ2 d2 a2 x2 r2 e3 post => ?_
  obtain ⟨z, hz, hr⟩ := lift_some e3
  cases hr
  exact hf B G2 H2 δ' σ v w d d2 z Q a2 (r1.mono x2) r2 hz fun p H3 a3 w3 => post G2 H3 a3 (Ext.refl _) p w3
/-- an object just laid -/
theorem At.own1 {K : PySem.W.Frag} {B : Bs} {G H : Hp} {δ : Env} {σ : St} {p : Addr} {o : HO} {d : D} (a : At K B G δ σ H) (n : H p = none) (w : Ow K G (upd H p o) p d) : At K B G δ σ (upd H p o) ∧ Fr1 K B G δ σ (upd H p o) p d :=
  ⟨a.alloc n, a.vw.none n, a.fresh0 n, a.noOwn n, w⟩

/-! ### tests -/
def dTru : D → Option Bool
  | .non => some false
  | .bl b => some b
  | .int i => some (i != 0)
  | .str y => if y.length ≤ sizeLine then some ((y.length : Int) != 0) else none
  | .tup l => some (!l.isEmpty)
  | .lst l => some (!l.isEmpty)
  | .scr l => some (!l.isEmpty)
  | .dK l => some (!l.isEmpty)
  | .dT l => some (!l.isEmpty)
def eTru (E : Mo D) : Mo Bool := E.bind fun d => Mo.lift (dTru d)
theorem truthy_dictH {prog : Program} {w : World} {κ : Type} [DecidableEq κ] {knd : HeapKind prog w κ} {A : Around} {s : Shared} {E : Value → Shared → Prop} {d : Addr} {xs : List (κ × Addr × Value)} {Q : Bool → Shared → Prop} (hd : (d == sysModules) = false) (hm : s.heap.DictOfH knd d xs) (hfit : (xs.length : Int) < 2 ^ 63)
    (h : Q (!xs.isEmpty) { s with toks := s.toks + 1 + 1 }) : wpAny (model prog w) A (truthy (.ref d)) Q E s := by
  have hne : ((xs.length : Int) != 0) = !xs.isEmpty := by cases xs <;> simp <;> omega
  have key : wpAny (model prog w) A (runValue (.builtin "len" ⟨[.ref d], []⟩)) (fun r s' => r = .int xs.length (s.toks + 1) ∧ Q (!xs.isEmpty) s') E s := by
    refine wpAny_runValue (codeAny_builtin entry_len ?_)
    rw [Around.under_plainId plain_len _]
    exact wpAny_mono (wpAny_len_body_dictH (Q := fun r s' => r = .int xs.length (s.toks + 1) ∧ Q (!xs.isEmpty) s') hd hm hfit ⟨rfl, h⟩)
      (fun fin s' h' => by obtain ⟨r, rfl, hq⟩ := h'; exact hq) fun _ _ e => e
  unfold truthy
  first
    | refine wpAny_bind (wpAny_callSpecial?_none (name := Str.ofString "__bool__") hm.typeIs noBool_dict ?_)
    | refine wpAny_bind (wpAny_pure (wpAny_bind (wpAny_callSpecial?_none (name := Str.ofString "__bool__") hm.typeIs noBool_dict ?_)))
  first
    | refine wpAny_bind (wpAny_specialOf (name := Str.ofString "__len__") hm.typeIs F.slot_dict_len.lookup ?_)
    | refine wpAny_bind (wpAny_pure (wpAny_bind (wpAny_specialOf (name := Str.ofString "__len__") hm.typeIs F.slot_dict_len.lookup ?_)))
  first
    | exact wpAny_bind (wpAny_mono key (fun r s' h' => by obtain ⟨rfl, hq⟩ := h'; exact wpAny_pure (hne ▸ hq)) fun _ _ e => e)
    | exact wpAny_bind (wpAny_pure (wpAny_bind (wpAny_mono key (fun r s' h' => by obtain ⟨rfl, hq⟩ := h'; exact wpAny_pure (hne ▸ hq)) fun _ _ e => e)))
theorem isEmpty_len {α β : Type} {l : List α} {m : List β} (h : l.length = m.length) : l.isEmpty = m.isEmpty := by
  cases l <;> cases m <;> first | rfl | (simp at h)
theorem tru_all : TruR X (fun x H Q => ∃ B G δ σ d k, At X.K B G δ σ H ∧ R X.K G x d ∧ dTru d = some k ∧ Q k H) := by
  intro pins s σ H x v Q I rx h
  obtain ⟨B, G, δ, σ', d, k, a, r, hk, q⟩ := h
  cases r with
  | non => cases hk; exact tru_ok pins s σ H _ v Q I rx ⟨_, rfl, q⟩
  | bl b => cases hk; exact tru_ok pins s σ H _ v Q I rx ⟨_, rfl, q⟩
  | int i => cases hk; exact tru_ok pins s σ H _ v Q I rx ⟨_, rfl, q⟩
  | str y =>
    have hk : (if y.length ≤ sizeLine then some ((y.length : Int) != 0) else none) = some k := hk
    split at hk
    · rename_i hl
      cases hk; exact tru_ok pins s σ H _ v Q I rx ⟨_, ⟨hl, rfl⟩, q⟩
    · cases hk
  | tup h1 h2 h3 =>
    cases hk
    exact tru_ok pins s σ H _ v Q I rx ⟨_, Or.inr (Or.inl ⟨_, SqT.of (a.vw.tup h1), by rw [isEmpty_len h3.length]⟩), q⟩
  | lst h1 h2 h3 =>
    cases hk
    exact tru_ok pins s σ H _ v Q I rx ⟨_, Or.inl ⟨_, SqL.of (a.vw.lst h1), by rw [isEmpty_len h3.length]⟩, q⟩
  | scr h1 h2 h3 =>
    cases hk
    exact tru_ok pins s σ H _ v Q I rx ⟨_, Or.inl ⟨_, a.vw.sql h1, by rw [isEmpty_len h3.length]⟩, q⟩
  | dK h1 h2 h3 h4 =>
    cases hk
    cases rx
    have hl := congrArg List.length h3
    rw [List.length_map, List.length_map] at hl
    exact d_truth I (a.vw.rd h1) fun s' I' => ⟨H, I', by rw [isEmpty_len hl]; exact q⟩
  | dT h1 h2 h3 h4 =>
    cases hk
    cases rx
    have hl := congrArg List.length h3
    rw [List.length_map, List.length_map] at hl
    obtain ⟨z, hd, ys, rel, dd⟩ := dt_rd I.hok (a.vw.rd h1)
    have hl2 := Paired.length rel
    refine truthy_dictH hd dd (by rw [← hl2]; rw [sizeLine_eq] at z; omega) ⟨H, I.tok _, ?_⟩
    rw [isEmpty_len (hl2.symm.trans hl)]; exact q
theorem dt_tru (ha : DE X W a Ea) (he : ∀ whole, isTrue a X.env whole = (do let v ← whole; standAt a.pos; holding [v] (truthy v)) := by intro _; rfl) : DT X W a (eTru Ea) := by
  refine PT.weak (t := fun σ H Q => tE X.K W Ea σ H fun x H' => ∃ B G δ σ' d k, At X.K B G δ σ' H' ∧ R X.K G x d ∧ dTru d = some k ∧ Q k H') ⟨fun pins s σ H Q I h => ?_⟩ fun σ H Q ⟨B, G, δ, r', δ', at', e1, post⟩ => ?_
  · exact isTrue_plain (thn (ha.run pins s σ H _ I h) fun v s1 ⟨x, H1, I1, r1, q1⟩ => tru_all pins s1 σ H1 x v Q I1 r1 q1) (he _)
  · refine tE_bind at' e1 post fun v H1 G1 δ1 d a1 x1 r1 e2 post => ?_
    obtain ⟨z, hz, hr⟩ := lift_some e2
    cases hr
    exact ⟨B, G1, δ', σ, d, z, a1, r1, hz, post G1 H1 a1 (Ext.refl _)⟩
def tAndM (A B : Mo Bool) : Mo Bool := A.bind fun a => if a = true then B else Mo.ret false
def tOrM (A B : Mo Bool) : Mo Bool := A.bind fun a => if a = true then Mo.ret true else B
def tNotM (A : Mo Bool) : Mo Bool := A.bind fun a => Mo.ret (!a)
theorem dw_and1 (ha : DT X W a Ta) : DW X W (.BoolOp .And [a] pos) Ta := pw_and1 ha
theorem dw_or1 (ha : DT X W a Ta) : DW X W (.BoolOp .Or [a] pos) Ta := pw_or1 ha
theorem tT_of {K : PySem.W.Frag} {B : Bs} {G : Hp} {δ δ' : Env} {σ : St} {H : Hp} {r : Except Exn Bool} {Q : Bool → Hp → Prop} (a : At K B G δ σ H) (e : T δ = some (r, δ')) (post : Post K W B G σ r δ' (fun b G' H' => Q b H')) : tT K W T σ H Q := ⟨B, G, δ, r, δ', a, e, post⟩
theorem tE_of {K : PySem.W.Frag} {B : Bs} {G : Hp} {δ δ' : Env} {σ : St} {H : Hp} {r : Except Exn D} {Q : VK} (a : At K B G δ σ H) (e : E δ = some (r, δ')) (post : Post K W B G σ r δ' (fun d G' H' => ∀ v, R K G' v d → Q v H')) : tE K W E σ H Q := ⟨B, G, δ, r, δ', a, e, post⟩
theorem dw_and {rest : List Expr} (ha : DT X W a Ta) (hb : DW X W (.BoolOp .And (b :: rest) pos) Tb) : DW X W (.BoolOp .And (a :: b :: rest) pos) (tAndM Ta Tb) := PW.weak (pw_and ha hb) fun σ H Q ⟨B, G, δ, r', δ', at', e1, post⟩ => by
  refine tT_bind at' e1 post fun H1 G1 δ1 d a1 x1 e2 post => ?_
  cases d with
  | true => rw [if_pos rfl] at e2 ⊢; exact tT_of a1 e2 post
  | false => rw [if_neg Bool.false_ne_true] at e2 ⊢; cases e2; exact post G1 H1 a1 (Ext.refl _)
theorem dw_or {rest : List Expr} (ha : DT X W a Ta) (hb : DW X W (.BoolOp .Or (b :: rest) pos) Tb) : DW X W (.BoolOp .Or (a :: b :: rest) pos) (tOrM Ta Tb) := PW.weak (pw_or ha hb) fun σ H Q ⟨B, G, δ, r', δ', at', e1, post⟩ => by
  refine tT_bind at' e1 post fun H1 G1 δ1 d a1 x1 e2 post => ?_
  cases d with
  | true => rw [if_pos rfl] at e2 ⊢; cases e2; exact post G1 H1 a1 (Ext.refl _)
  | false => rw [if_neg Bool.false_ne_true] at e2 ⊢; exact tT_of a1 e2 post
theorem dw_t (h : DW X W a Ta) : DT X W a Ta := PW.pt h
theorem dt_not (ha : DT X W a Ta) : DT X W (.UnaryOp .Not a pos) (tNotM Ta) := PT.weak (pt_not ha) fun σ H Q ⟨B, G, δ, r', δ', at', e1, post⟩ => by
  refine tT_bind at' e1 post fun H1 G1 δ1 d a1 x1 e2 post => ?_
  cases e2; exact post G1 H1 a1 (Ext.refl _)
/-- a bool as a test, without asking for its truth -/
def dBl : D → Option Bool
  | .bl b => some b
  | _ => none
def eB (E : Mo D) : Mo Bool := E.bind fun d => Mo.lift (dBl d)
theorem dBl_some {d : D} {b : Bool} (h : dBl d = some b) : d = .bl b := by
  cases d <;> first | (cases h; rfl) | cases h
theorem dt_val (ha : DE X W a Ea) (he : ∀ whole, isTrue a X.env whole = (do let v ← whole; standAt a.pos; holding [v] (truthy v)) := by intro _; rfl) : DT X W a (eB Ea) := PT.weak (pt_val ha he) fun σ H Q ⟨B, G, δ, r', δ', at', e1, post⟩ => by
  refine tE_bind at' e1 post fun v H1 G1 δ1 d a1 x1 r1 e2 post => ?_
  obtain ⟨z, hz, hr⟩ := lift_some e2
  cases hr
  obtain rfl := dBl_some hz
  cases r1
  exact ⟨z, rfl, post G1 H1 a1 (Ext.refl _)⟩
/-- and, or, not of bools as values -/
def eAnd (A B : Mo D) : Mo D := A.bind fun x => (Mo.lift (dBl x)).bind fun b => if b = true then B else Mo.ret (.bl false)
def eOr (A B : Mo D) : Mo D := A.bind fun x => (Mo.lift (dBl x)).bind fun b => if b = true then Mo.ret (.bl true) else B
def eNot (A : Mo D) : Mo D := A.bind fun x => (Mo.lift (dBl x)).bind fun b => Mo.ret (.bl (!b))
theorem liftB {β : Type} {x : D} {k : Bool → Mo β} {δ : Env} {r : Except Exn β × Env} (h : ((Mo.lift (dBl x)).bind k) δ = some r) : ∃ b, x = .bl b ∧ k b δ = some r := by
  unfold Mo.bind Mo.lift at h
  cases e : dBl x with
  | none => rw [e] at h; cases h
  | some b => rw [e] at h; exact ⟨b, dBl_some e, h⟩
theorem de_one {op} (h : DE X W a Ea) : DE X W (.BoolOp op [a] pos) Ea := pe_one h
theorem de_and {rest : List Expr} (ha : DE X W a Ea) (hb : DE X W (.BoolOp .And (b :: rest) pos) Eb) : DE X W (.BoolOp .And (a :: b :: rest) pos) (eAnd Ea Eb) := PE.weak (pe_and ha hb) fun σ H Q ⟨B, G, δ, r', δ', at', e1, post⟩ => by
  refine tE_bind at' e1 post fun v H1 G1 δ1 d a1 x1 r1 e2 post => ?_
  obtain ⟨z, rfl, e3⟩ := liftB e2
  cases r1
  refine ⟨z, rfl, ?_⟩
  cases z with
  | true => rw [if_pos rfl] at e3 ⊢; exact tE_of a1 e3 post
  | false => rw [if_neg Bool.false_ne_true] at e3 ⊢; cases e3; exact post G1 H1 a1 (Ext.refl _) _ (.bl false)
theorem de_or {rest : List Expr} (ha : DE X W a Ea) (hb : DE X W (.BoolOp .Or (b :: rest) pos) Eb) : DE X W (.BoolOp .Or (a :: b :: rest) pos) (eOr Ea Eb) := PE.weak (pe_or ha hb) fun σ H Q ⟨B, G, δ, r', δ', at', e1, post⟩ => by
  refine tE_bind at' e1 post fun v H1 G1 δ1 d a1 x1 r1 e2 post => ?_
  obtain ⟨z, rfl, e3⟩ := liftB e2
  cases r1
  refine ⟨z, rfl, ?_⟩
  cases z with
  | true => rw [if_pos rfl] at e3 ⊢; cases e3; exact post G1 H1 a1 (Ext.refl _) _ (.bl true)
  | false => rw [if_neg Bool.false_ne_true] at e3 ⊢; exact tE_of a1 e3 post
theorem de_not (ha : DE X W a Ea) : DE X W (.UnaryOp .Not a pos) (eNot Ea) := PE.weak (pe_not ha) fun σ H Q ⟨B, G, δ, r', δ', at', e1, post⟩ => by
  refine tE_bind at' e1 post fun v H1 G1 δ1 d a1 x1 r1 e2 post => ?_
  obtain ⟨z, rfl, e3⟩ := liftB e2
  cases r1
  cases e3
  exact ⟨z, rfl, post G1 H1 a1 (Ext.refl _) _ (.bl _)⟩
/-- not e, by the truth of e (a list, a dict ..) -/
def eIf (T : Mo Bool) (A B : Mo D) : Mo D := T.bind fun b => if b = true then A else B
theorem de_if (hc : DT X W c T) (ha : DE X W a Ea) (hb : DE X W b Eb) : DE X W (.IfExp c a b pos) (eIf T Ea Eb) := PE.weak (pe_ifExp hc ha hb) fun σ H Q ⟨B, G, δ, r', δ', at', e1, post⟩ => by
  refine tT_bind at' e1 post fun H1 G1 δ1 d a1 x1 e2 post => ?_
  cases d with
  | true => rw [if_pos rfl] at e2 ⊢; exact tE_of a1 e2 post
  | false => rw [if_neg Bool.false_ne_true] at e2 ⊢; exact tE_of a1 e2 post
end

/-! ### arguments, displays -/
section
variable {X : Cx} {W : WK} {e : Expr} {es : List Expr} {pos : Pos} {E : Mo D} {A : Mo (List Ag)}
def aNil : Mo (List Ag) := Mo.ret []
def aCons (E : Mo D) (A : Mo (List Ag)) : Mo (List Ag) := E.bind fun d => A.bind fun as => Mo.ret (.im d :: as)
def aVr (i : Nat) (A : Mo (List Ag)) : Mo (List Ag) := fun δ => match δ[i]? with
  | some (.own _) => (A.bind fun as => Mo.ret (.vr i :: as)) δ
  | some (.io _) => (A.bind fun as => Mo.ret (.vr i :: as)) δ
  | _ => none
def aVb (i : Nat) (A : Mo (List Ag)) : Mo (List Ag) := fun δ => match δ[i]? with
  | some (.own _) => (A.bind fun as => Mo.ret (.vb i :: as)) δ
  | some (.io _) => (A.bind fun as => Mo.ret (.vb i :: as)) δ
  | some (.imm _) => (A.bind fun as => Mo.ret (.vb i :: as)) δ
  | some (.bor _) => (A.bind fun as => Mo.ret (.vb i :: as)) δ
  | _ => none
theorem AgOk.mono {K : PySem.W.Frag} {G G' : Hp} {σ : St} (e : Ext G G') : ∀ {v : V} {a : Ag}, AgOk K G σ v a → AgOk K G' σ v a
  | _, .im _, h => R.mono e h
  | _, .vr _, h => h
  | _, .vb _, h => h
theorem AgsOk.mono {K : PySem.W.Frag} {G G' : Hp} {σ : St} (e : Ext G G') {vs : List V} {as : List Ag} (h : AgsOk K G σ vs as) : AgsOk K G' σ vs as := Paired.mapP h fun _ _ => AgOk.mono e
theorem da_nil : DA X W [] aNil := PA.weak pa_nil fun σ H Q ⟨B, G, δ, r, δ', a, e1, post⟩ => by
  cases e1
  exact post G H a (Ext.refl _) _ .nil
theorem da_cons (ha : DE X W e E) (hr : DA X W es A) (hs : starEach (e :: es) X.env = (false, eval e X.env) :: starEach es X.env := by rfl) : DA X W (e :: es) (aCons E A) := PA.weak (pa_cons ha hr hs) fun σ H Q ⟨B, G, δ, r, δ', a, e1, post⟩ => by
  refine tE_bind a e1 post fun v H1 G1 δ1 d a1 x1 r1 e2 post => ?_
  refine tA_bind a1 e2 post fun vs H2 G2 δ2 ds a2 x2 r2 e3 post => ?_
  cases e3
  exact post G2 H2 a2 (Ext.refl _) _ (.cons (R.mono x2 r1) r2)
/-- the argument at slot i: the slot must hold something -/
theorem da_vr {i : Nat} (h : PE X e (tVar i)) (hr : DA X W es A) (hs : starEach (e :: es) X.env = (false, eval e X.env) :: starEach es X.env := by rfl) : DA X W (e :: es) (aVr i A) := PA.weak (pa_cons h hr hs) fun σ H Q ⟨B, G, δ, r, δ', a, e1, post⟩ => by
  unfold aVr at e1
  split at e1
  · rename_i d h
    obtain ⟨p, h1, _⟩ := a.own h
    refine ⟨_, h1, ?_⟩
    refine tA_bind a e1 post fun vs H2 G2 δ2 ds a2 x2 r2 e3 post => ?_
    cases e3
    exact post G2 H2 a2 (Ext.refl _) _ (.cons h1 r2)
  · rename_i d h
    obtain ⟨p, h1, _⟩ := a.io h
    refine ⟨_, h1, ?_⟩
    refine tA_bind a e1 post fun vs H2 G2 δ2 ds a2 x2 r2 e3 post => ?_
    cases e3
    exact post G2 H2 a2 (Ext.refl _) _ (.cons h1 r2)
  · cases e1
theorem da_vb {i : Nat} (h : PE X e (tVar i)) (hr : DA X W es A) (hs : starEach (e :: es) X.env = (false, eval e X.env) :: starEach es X.env := by rfl) : DA X W (e :: es) (aVb i A) := PA.weak (pa_cons h hr hs) fun σ H Q ⟨B, G, δ, r, δ', a, e1, post⟩ => by
  have fin : ∀ v, σ[i]? = some (some v) → (A.bind fun as => Mo.ret (.vb i :: as)) δ = some (r, δ') → tVar i σ H fun x H1 => tA X.K W A σ H1 fun xs H2 => Q (x :: xs) H2 := fun v h1 e1 => by
    refine ⟨_, h1, ?_⟩
    refine tA_bind a e1 post fun vs H2 G2 δ2 ds a2 x2 r2 e3 post => ?_
    cases e3
    exact post G2 H2 a2 (Ext.refl _) _ (.cons h1 r2)
  unfold aVb at e1
  split at e1
  · rename_i d h
    obtain ⟨p, h1, _⟩ := a.own h
    exact fin _ h1 e1
  · rename_i d h
    obtain ⟨p, h1, _⟩ := a.io h
    exact fin _ h1 e1
  · rename_i d h
    obtain ⟨p, h1, _⟩ := a.imm h
    exact fin _ h1 e1
  · rename_i d h
    obtain ⟨p, h1, _⟩ := a.bor h
    exact fin _ h1 e1
  · cases e1
/-- arguments that are data -/
def imms : List Ag → Option (List D)
  | [] => some []
  | .im d :: as => (imms as).map (d :: ·)
  | _ :: _ => none
theorem imms_ok {K : PySem.W.Frag} {G : Hp} {σ : St} : ∀ {as : List Ag} {vs : List V} {ds : List D}, AgsOk K G σ vs as → imms as = some ds → RL K G vs ds
  | _, _, _, .nil, e => by cases e; exact .nil
  | .im d :: as, _, _, .cons h t, e => by
    unfold imms at e
    cases q : imms as with
    | none => rw [q] at e; cases e
    | some ds => rw [q] at e; cases e; exact .cons h (imms_ok t q)
  | .vr i :: as, _, _, .cons h t, e => by cases e
  | .vb i :: as, _, _, .cons h t, e => by cases e
def eTup (A : Mo (List Ag)) : Mo D := A.bind fun as => Mo.lift ((imms as).bind fun ds => if ds.length ≤ 1000 then some (.tup ds) else none)
def eLst (A : Mo (List Ag)) : Mo D := A.bind fun as => Mo.lift ((imms as).bind fun ds => if ds.length ≤ 1000 then some (.lst ds) else none)
theorem small_line {n : Nat} (h : n ≤ 1000) : n ≤ sizeLine := Nat.le_of_lt (small1000 h)
theorem de_tup {x1} (h : DA X W es A) : DE X W (.Tuple es x1 pos) (eTup A) := PE.weak (pe_tup h) fun σ H Q ⟨B, G, δ, r, δ', a, e1, post⟩ => by
  refine tA_bind a e1 post fun vs H1 G1 δ1 as a1 x1 r1 e2 post => ?_
  obtain ⟨z, hz, hr⟩ := lift_some e2
  cases hr
  cases q : imms as with
  | none => rw [q] at hz; cases hz
  | some ds =>
    rw [q] at hz
    have r2 := imms_ok r1 q
    rw [Option.bind_some] at hz
    split at hz
    · rename_i hl
      cases hz
      have hv : vs.length ≤ sizeLine := by rw [r2.length]; exact small_line hl
      exact ⟨hv, fun p hp => post (upd G1 p (.tup vs)) _ (a1.laid hp fun _ z => by cases z) (Ext.new (a1.vw.none hp)) _ (.tup upd_same hv (r2.mono (Ext.new (a1.vw.none hp))))⟩
    · cases hz
theorem do_lst (h : DA X W es A) : DO X W (.List es pos) (eLst A) := PE.weak (pe_lst h) fun σ H Q ⟨B, G, δ, r, δ', a, e1, post⟩ => by
  refine tA_bind a e1 post fun vs H1 G1 δ1 as a1 x1 r1 e2 post => ?_
  obtain ⟨z, hz, hr⟩ := lift_some e2
  cases hr
  cases q : imms as with
  | none => rw [q] at hz; cases hz
  | some ds =>
    rw [q] at hz
    have r2 := imms_ok r1 q
    rw [Option.bind_some] at hz
    split at hz
    · rename_i hl
      cases hz
      have hv : vs.length ≤ sizeLine := by rw [r2.length]; exact small_line hl
      refine ⟨hv, fun p hp => ?_⟩
      obtain ⟨b1, b2⟩ := a1.own1 (p := p) (o := .lst vs) hp (Ow.lst upd_same hv r2)
      exact post G1 _ b1 (Ext.refl _) p b2
    · cases hz
end
end M

set_option Elab.async false
set_option linter.all false
set_option maxRecDepth 100000
/-! Part C: statements, targets, loops. -/
namespace M
open PySem L2 PySem.Spec PyProof.Rows

inductive Out where
  | nx | bk | ct | rt (d : D) | rtO (d : D)

def PostS (K : PySem.W.Frag) (W : WK) (B : Bs) (G : Hp) (Dn : Ends) (r : Except Exn Out) (δ' : Env) : Prop := match r with
  | .error x => ∀ G' σ' H', At K B G' δ' σ' H' → Ext G G' → W x δ' σ' G' H'
  | .ok .nx => ∀ G' σ' H', At K B G' δ' σ' H' → Ext G G' → Dn.nx σ' H'
  | .ok .bk => ∀ G' σ' H', At K B G' δ' σ' H' → Ext G G' → Dn.bk σ' H'
  | .ok .ct => ∀ G' σ' H', At K B G' δ' σ' H' → Ext G G' → Dn.ct σ' H'
  | .ok (.rt d) => ∀ G' σ' H', At K B G' δ' σ' H' → Ext G G' → ∀ v, R K G' v d → Dn.rt v H'
  | .ok (.rtO d) => ∀ G' σ' H', At K B G' δ' σ' H' → Ext G G' → ∀ p, Fr1 K B G' δ' σ' H' p d → Dn.rt (.ref p) H'
theorem PostS.mono {K : PySem.W.Frag} {W : WK} {B : Bs} {G G1 : Hp} {Dn : Ends} {r : Except Exn Out} {δ' : Env} (h : PostS K W B G Dn r δ') (e : Ext G G1) : PostS K W B G1 Dn r δ' := by
  cases r with
  | error x => exact fun G' σ' H' a1 e1 => h G' σ' H' a1 (e.trans e1)
  | ok o => cases o <;> exact fun G' σ' H' a1 e1 => h G' σ' H' a1 (e.trans e1)
def tS (K : PySem.W.Frag) (W : WK) (S : Mo Out) : TS := fun Dn σ H => ∃ B G δ r δ', At K B G δ σ H ∧ S δ = some (r, δ') ∧ PostS K W B G Dn r δ'
/-- what a target does with data -/
def OnlyAt (sl : List Nat) (σ σ' : St) : Prop := σ'.length = σ.length ∧ ∀ j, j ∉ sl → σ'[j]? = σ[j]?
def tG (K : PySem.W.Frag) (sl : List Nat) (T : D → Mo Unit) : TG := fun v σ H Q => ∃ B G δ d δ', At K B G δ σ H ∧ R K G v d ∧ T d δ = some (.ok (), δ') ∧ ∀ σ', At K B G δ' σ' H → OnlyAt sl σ σ' → Q σ' H
def tGs (K : PySem.W.Frag) (sl : List Nat) (Ts : List D → Mo Unit) : TGs := fun vs σ H Q => ∃ B G δ ds δ', At K B G δ σ H ∧ RL K G vs ds ∧ Ts ds δ = some (.ok (), δ') ∧ ∀ σ', At K B G δ' σ' H → OnlyAt sl σ σ' → Q σ' H
section
variable (X : Cx) (W : WK)
def DS (st : Stmt) (S : Mo Out) : Prop := PS X st (tS X.K W S)
def DSs (st : List Stmt) (S : Mo Out) : Prop := PSs X st (tS X.K W S)
def DG (tg : Expr) (sl : List Nat) (T : D → Mo Unit) : Prop := PG X tg (tG X.K sl T)
def DGs (tgs : List Expr) (sl : List Nat) (T : List D → Mo Unit) : Prop := PGs X tgs (tGs X.K sl T)
end

section
variable {X : Cx} {W : WK} {st : Stmt} {rest : List Stmt} {e c tg : Expr} {pos : Pos} {E : Mo D} {T : Mo Bool} {S S' : Mo Out}
theorem tS_of {K : PySem.W.Frag} {B : Bs} {G : Hp} {δ δ' : Env} {σ : St} {H : Hp} {r : Except Exn Out} {Dn : Ends} (a : At K B G δ σ H) (e : S δ = some (r, δ')) (post : PostS K W B G Dn r δ') : tS K W S Dn σ H := ⟨B, G, δ, r, δ', a, e, post⟩
def sNx : Mo Out := Mo.ret .nx
def sSeq (a b : Mo Out) : Mo Out := fun δ => match a δ with
  | some (.ok .nx, δ') => b δ'
  | r => r
theorem dss_nil : DSs X W [] sNx := PSs.weak pss_nil fun Dn σ H ⟨B, G, δ, r, δ', a, e1, post⟩ => by
  cases e1; exact post G σ H a (Ext.refl _)
theorem dss_one (h : DS X W st S) : DSs X W [st] S := pss_one h
theorem dss_cons (h : DS X W st S) (h' : DSs X W rest S') : DSs X W (st :: rest) (sSeq S S') := PSs.weak (pss_cons h h') fun Dn σ H ⟨B, G, δ, r, δ', a, e1, post⟩ => by
  unfold sSeq at e1
  cases q : S δ with
  | none => rw [q] at e1; cases e1
  | some z =>
    obtain ⟨x, δ1⟩ := z
    rw [q] at e1
    cases x with
    | error x => cases e1; exact ⟨B, G, δ, .error x, _, a, q, post⟩
    | ok o =>
      cases o with
      | nx => exact ⟨B, G, δ, .ok .nx, δ1, a, q, fun G1 σ1 H1 a1 x1 => tS_of a1 e1 (post.mono x1)⟩
      | bk => cases e1; exact ⟨B, G, δ, .ok .bk, _, a, q, post⟩
      | ct => cases e1; exact ⟨B, G, δ, .ok .ct, _, a, q, post⟩
      | rt d => cases e1; exact ⟨B, G, δ, .ok (.rt d), _, a, q, post⟩
      | rtO d => cases e1; exact ⟨B, G, δ, .ok (.rtO d), _, a, q, post⟩
/-- from an expression's ends to a statement's -/
theorem tE_bindS {K : PySem.W.Frag} {B : Bs} {G H : Hp} {δ δ' : Env} {σ : St} {r : Except Exn Out} {Dn : Ends} {k : D → Mo Out} {Q : VK} (a : At K B G δ σ H) (h : Mo.bind E k δ = some (r, δ')) (post : PostS K W B G Dn r δ')
    (q : ∀ v H1 G1 δ1 d, At K B G1 δ1 σ H1 → Ext G G1 → R K G1 v d → k d δ1 = some (r, δ') → PostS K W B G1 Dn r δ' → Q v H1) : tE K W E σ H Q := by
  unfold Mo.bind at h
  cases e : E δ with
  | none => rw [e] at h; cases h
  | some z =>
    obtain ⟨x, δ1⟩ := z
    rw [e] at h
    cases x with
    | error x => cases h; exact ⟨B, G, δ, .error x, _, a, e, post⟩
    | ok d => exact ⟨B, G, δ, .ok d, δ1, a, e, fun G1 H1 a1 e1 v rv => q v H1 G1 δ1 d a1 e1 rv h (post.mono e1)⟩
theorem tO_bindS {K : PySem.W.Frag} {B : Bs} {G H : Hp} {δ δ' : Env} {σ : St} {r : Except Exn Out} {Dn : Ends} {k : D → Mo Out} {Q : VK} (a : At K B G δ σ H) (h : Mo.bind E k δ = some (r, δ')) (post : PostS K W B G Dn r δ')
    (q : ∀ p H1 G1 δ1 d, At K B G1 δ1 σ H1 → Ext G G1 → Fr1 K B G1 δ1 σ H1 p d → k d δ1 = some (r, δ') → PostS K W B G1 Dn r δ' → Q (.ref p) H1) : tO K W E σ H Q := by
  unfold Mo.bind at h
  cases e : E δ with
  | none => rw [e] at h; cases h
  | some z =>
    obtain ⟨x, δ1⟩ := z
    rw [e] at h
    cases x with
    | error x => cases h; exact ⟨B, G, δ, .error x, _, a, e, post⟩
    | ok d => exact ⟨B, G, δ, .ok d, δ1, a, e, fun G1 H1 a1 e1 v rv => q v H1 G1 δ1 d a1 e1 rv h (post.mono e1)⟩
theorem tT_bindS {K : PySem.W.Frag} {B : Bs} {G H : Hp} {δ δ' : Env} {σ : St} {r : Except Exn Out} {Dn : Ends} {k : Bool → Mo Out} {Q : Bool → Hp → Prop} (a : At K B G δ σ H) (h : Mo.bind T k δ = some (r, δ')) (post : PostS K W B G Dn r δ')
    (q : ∀ H1 G1 δ1 d, At K B G1 δ1 σ H1 → Ext G G1 → k d δ1 = some (r, δ') → PostS K W B G1 Dn r δ' → Q d H1) : tT K W T σ H Q := by
  unfold Mo.bind at h
  cases e : T δ with
  | none => rw [e] at h; cases h
  | some z =>
    obtain ⟨x, δ1⟩ := z
    rw [e] at h
    cases x with
    | error x => cases h; exact ⟨B, G, δ, .error x, _, a, e, post⟩
    | ok d => exact ⟨B, G, δ, .ok d, δ1, a, e, fun G1 H1 a1 e1 => q H1 G1 δ1 d a1 e1 h (post.mono e1)⟩
def sPass : Mo Out := Mo.ret .nx
def sBreak : Mo Out := Mo.ret .bk
def sCont : Mo Out := Mo.ret .ct
theorem ds_pass : DS X W (.Pass pos) sPass := PS.weak ps_pass fun Dn σ H ⟨B, G, δ, r, δ', a, e1, post⟩ => by
  cases e1; exact post G σ H a (Ext.refl _)
theorem ds_break : DS X W (.Break pos) sBreak := PS.weak ps_break fun Dn σ H ⟨B, G, δ, r, δ', a, e1, post⟩ => by
  cases e1; exact post G σ H a (Ext.refl _)
theorem ds_cont : DS X W (.Continue pos) sCont := PS.weak ps_continue fun Dn σ H ⟨B, G, δ, r, δ', a, e1, post⟩ => by
  cases e1; exact post G σ H a (Ext.refl _)
def sDrop (E : Mo D) : Mo Out := E.bind fun _ => Mo.ret .nx
theorem ds_expr (he : DE X W e E) (hs : swapsWith e none pos.line X.env = pure false := by rfl) : DS X W (.Expr e pos) (sDrop E) := PS.weak (ps_expr he hs) fun Dn σ H ⟨B, G, δ, r, δ', a, e1, post⟩ => by
  refine tE_bindS a e1 post fun v H1 G1 δ1 d a1 x1 r1 e2 post => ?_
  cases e2; exact post G1 σ H1 a1 (Ext.refl _)
def sRet (E : Mo D) : Mo Out := E.bind fun d => Mo.ret (.rt d)
def sRetO (E : Mo D) : Mo Out := E.bind fun d => Mo.ret (.rtO d)
theorem ds_ret (he : DE X W e E) : DS X W (.Return (some e) pos) (sRet E) := PS.weak (ps_ret he) fun Dn σ H ⟨B, G, δ, r, δ', a, e1, post⟩ => by
  refine tE_bindS a e1 post fun v H1 G1 δ1 d a1 x1 r1 e2 post => ?_
  cases e2; exact post G1 σ H1 a1 (Ext.refl _) v r1
theorem ds_retO (he : DO X W e E) : DS X W (.Return (some e) pos) (sRetO E) := PS.weak (ps_ret he) fun Dn σ H ⟨B, G, δ, r, δ', a, e1, post⟩ => by
  refine tO_bindS a e1 post fun v H1 G1 δ1 d a1 x1 r1 e2 post => ?_
  cases e2; exact post G1 σ H1 a1 (Ext.refl _) v r1
theorem ds_retN : DS X W (.Return none pos) (Mo.ret (.rt .non)) := PS.weak ps_retN fun Dn σ H ⟨B, G, δ, r, δ', a, e1, post⟩ => by
  cases e1; exact post G σ H a (Ext.refl _) _ .non
/-- return of a slot's own object: the slot gives it away -/
def eGive (i : Nat) : Mo D := fun δ => match δ[i]? with
  | some (.own d) => some (.ok d, δ.set i .no)
  | _ => none
theorem At.give {K : PySem.W.Frag} {B : Bs} {G H : Hp} {δ : Env} {σ : St} {i : Nat} {d : D} (h : At K B G δ σ H) (e : δ[i]? = some (.own d)) : ∃ p, σ[i]? = some (some (.ref p)) ∧ At K B G (δ.set i .no) σ H ∧ Fr1 K B G (δ.set i .no) σ H p d := by
  obtain ⟨p, h1, h2, h3, h4⟩ := h.own e
  refine ⟨p, h1, h.forget (by rw [List.length_set]; exact h.len) fun j s q => ?_, h2, h4, fun j q => ?_, h3⟩
  · rcases get_set q with ⟨_, rfl, _⟩ | ⟨_, q⟩
    · exact .inl rfl
    · exact .inr ⟨q, rfl⟩
  · have c : i ≠ j := fun c => by
      subst c
      obtain ⟨⟨d', z | z⟩, _⟩ := q
      · rcases get_set z with ⟨_, y, _⟩ | ⟨y, _⟩
        · cases y
        · exact y rfl
      · rcases get_set z with ⟨_, y, _⟩ | ⟨y, _⟩
        · cases y
        · exact y rfl
    have q' : OwnAt δ σ j p := by
      obtain ⟨⟨d', z⟩, y⟩ := q
      rw [List.getElem?_set_ne c] at z
      exact ⟨⟨d', z⟩, y⟩
    exact c (h.apart i j p ⟨⟨d, .inl e⟩, h1⟩ q')
theorem do_give {i : Nat} (h : PE X e (tVar i)) : DO X W e (eGive i) := PE.weak h fun σ H Q ⟨B, G, δ, r, δ', a, e1, post⟩ => by
  unfold eGive at e1
  split at e1
  · rename_i d h
    cases e1
    obtain ⟨p, h1, h2, h3⟩ := a.give h
    exact ⟨_, h1, post G H h2 (Ext.refl _) p h3⟩
  · cases e1
def sIf (T : Mo Bool) (a b : Mo Out) : Mo Out := T.bind fun k => if k = true then a else b
theorem ds_if {a b : List Stmt} (hc : DT X W c T) (ha : DSs X W a S) (hb : DSs X W b S') : DS X W (.If c a b pos) (sIf T S S') := PS.weak (ps_if hc ha hb) fun Dn σ H ⟨B, G, δ, r, δ', a, e1, post⟩ => by
  refine tT_bindS a e1 post fun H1 G1 δ1 d a1 x1 e2 post => ?_
  cases d with
  | true => rw [if_pos rfl] at e2 ⊢; exact tS_of a1 e2 post
  | false => rw [if_neg Bool.false_ne_true] at e2 ⊢; exact tS_of a1 e2 post

/-! ### targets, assignments -/
def gN (i : Nat) (d : D) : Mo Unit := fun δ => if i < δ.length then some (.ok (), δ.set i (.imm d)) else none
theorem dg_name {i : Nat} {x : Str} (hN : X.N.Nodup) (hi : X.N[i]? = some x) (hx : Loc X.env.scope x) (hf : X.fn x = true ∨ X.env.scope.names.lookup x = some .local := by first | exact .inl rfl | exact .inr rfl | assumption) : DG X (.Name x pos) [i] (gN i) :=
  let h := pg_name (X := X) (pos := pos) hN hi hx hf
  ⟨fun pins s σ H v u Q I rv q => h.run pins s σ H v u Q I rv (by
    obtain ⟨B, G, δ, d, δ', a, r, e1, k⟩ := q
    unfold gN at e1
    split at e1
    · cases e1
      exact k _ (a.setImm r i) ⟨List.length_set, fun j hj => List.getElem?_set_ne (fun c => hj (by rw [c]; exact List.mem_singleton_self _))⟩
    · cases e1)⟩
def gNil : List D → Mo Unit
  | [] => Mo.ret ()
  | _ => fun _ => none
def gCons (T : D → Mo Unit) (Ts : List D → Mo Unit) : List D → Mo Unit
  | d :: ds => (T d).bind fun _ => Ts ds
  | [] => fun _ => none
theorem dgs_nil : DGs X [] [] gNil :=
  ⟨fun pins s σ H vs us Q I rv q => pgs_nil.run pins s σ H vs us Q I rv (by
    obtain ⟨B, G, δ, ds, δ', a, r, e1, k⟩ := q
    cases r with
    | nil => cases e1; exact ⟨rfl, k _ a ⟨rfl, fun _ _ => rfl⟩⟩
    | cons _ _ => cases e1)⟩
theorem dgs_cons {es : List Expr} {sl sl' : List Nat} {T : D → Mo Unit} {Ts : List D → Mo Unit} (h1 : DG X e sl T) (h2 : DGs X es sl' Ts) (hs : (assignEach (e :: es) X.env).map (·.2) = assign e X.env :: (assignEach es X.env).map (·.2) := by rfl) : DGs X (e :: es) (sl ++ sl') (gCons T Ts) :=
  ⟨fun pins s σ H vs us Q I rv q => (pgs_cons h1 h2 hs).run pins s σ H vs us Q I rv (by
    obtain ⟨B, G, δ, ds, δ', a, r, e1, k⟩ := q
    cases r with
    | nil => cases e1
    | cons r0 r1 =>
      rename_i v vs d ds
      have e1 : Mo.bind (T d) (fun _ => Ts ds) δ = some (.ok (), δ') := e1
      unfold Mo.bind at e1
      cases q : T d δ with
      | none => rw [q] at e1; cases e1
      | some z =>
        obtain ⟨x, δ1⟩ := z
        rw [q] at e1
        cases x with
        | error x => cases e1
        | ok x => exact ⟨v, vs, rfl, B, G, δ, d, δ1, a, r0, q, fun σ1 a1 o1 => ⟨B, G, δ1, ds, δ', a1, r1, e1, fun σ2 a2 o2 => k σ2 a2 ⟨o2.1.trans o1.1, fun j hj => (o2.2 j fun c => hj (List.mem_append_right _ c)).trans (o1.2 j fun c => hj (List.mem_append_left _ c))⟩⟩⟩)⟩
/-- (a, b, ..) = a tuple or a list of that length -/
def gT (n : Nat) (Ts : List D → Mo Unit) : D → Mo Unit
  | .tup ds => if ds.length = n then Ts ds else fun _ => none
  | .lst ds => if ds.length = n then Ts ds else fun _ => none
  | _ => fun _ => none
theorem dg_tup {es : List Expr} {k : Nat} {sl : List Nat} {Ts : List D → Mo Unit} {n : Nat} (hc : X.calm = true) (h : DGs X es sl Ts) (hn : (assignEach es X.env).length = n := by rfl) (hst : (assignEach es X.env).findIdx? (·.1) = none := by rfl) : DG X (.Tuple es k pos) sl (gT n Ts) :=
  let h1 := PG.or (pg_tup (pos := pos) (k := k) hc h hn hst) (pg_unl (pos := pos) (k := k) hc h hn hst)
  ⟨fun pins s σ H v u Q I rv q => h1.run pins s σ H v u Q I rv (by
    obtain ⟨B, G, δ, d, δ', a, r, e1, k⟩ := q
    cases r with
    | tup g l rl =>
      rename_i p xs ds
      have e1 : (if ds.length = n then Ts ds else fun _ => none) δ = some (.ok (), δ') := e1
      by_cases q : ds.length = n
      · rw [if_pos q] at e1
        exact .inl ⟨p, xs, rfl, SqT.of (a.vw.tup g), rl.length.trans q, B, G, δ, ds, δ', a, rl, e1, k⟩
      · rw [if_neg q] at e1; cases e1
    | lst g l rl =>
      rename_i p xs ds
      have e1 : (if ds.length = n then Ts ds else fun _ => none) δ = some (.ok (), δ') := e1
      by_cases q : ds.length = n
      · rw [if_pos q] at e1
        exact .inr ⟨p, xs, rfl, SqL.of (a.vw.lst g), rl.length.trans q, B, G, δ, ds, δ', a, rl, e1, k⟩
      · rw [if_neg q] at e1; cases e1
    | _ => cases e1)⟩
/-- target = value -/
def sAsg (T : D → Mo Unit) (E : Mo D) : Mo Out := E.bind fun d => (T d).bind fun _ => Mo.ret .nx
theorem unit_bind {T : Mo Unit} {δ δ' : Env} {r : Except Exn Out} (h : Mo.bind T (fun _ => Mo.ret Out.nx) δ = some (r, δ')) : (T δ = some (.ok (), δ') ∧ r = .ok .nx) ∨ ∃ x, T δ = some (.error x, δ') ∧ r = .error x := by
  unfold Mo.bind at h
  cases q : T δ with
  | none => rw [q] at h; cases h
  | some z =>
    obtain ⟨x, δ1⟩ := z
    rw [q] at h
    cases x with
    | error x => cases h; exact .inr ⟨x, rfl, rfl⟩
    | ok x => cases h; exact .inl ⟨rfl, rfl⟩
/-- a target that never raises -/
def Calm (T : D → Mo Unit) : Prop := ∀ d δ x δ', T d δ ≠ some (.error x, δ')
theorem calm_N {i : Nat} : Calm (gN i) := fun d δ x δ' h => by
  unfold gN at h; split at h <;> cases h
theorem tAsg_ok {K : PySem.W.Frag} {sl : List Nat} {T : D → Mo Unit} (hT : Calm T) {Dn : Ends} {σ : St} {H : Hp} (q : tS K W (sAsg T E) Dn σ H) : tAsg (tE K W E) (tG K sl T) Dn σ H := by
  obtain ⟨B, G, δ, r, δ', a, e1, post⟩ := q
  refine tE_bindS a e1 post fun v H1 G1 δ1 d a1 x1 r1 e2 post => ?_
  rcases unit_bind e2 with ⟨q, rfl⟩ | ⟨x, q, rfl⟩
  · exact ⟨B, G1, δ1, d, δ', a1, r1, q, fun σ' a' _ => post G1 σ' H1 a' (Ext.refl _)⟩
  · exact absurd q (hT _ _ _ _)
theorem ds_asg {sl : List Nat} {T : D → Mo Unit} (hT : Calm T) (he : DE X W e E) (hg : DG X tg sl T) (hs : swapsWithSole [tg] e pos.line X.env = pure false := by rfl) (hw : swappedStores [tg] e X.env = pure none := by rfl)
    (h1 : (assignEach [tg] X.env).map (·.2) = [assign tg X.env] := by rfl) : DS X W (.Assign [tg] e pos) (sAsg T E) := PS.weak (ps_asg he hg hs hw h1) fun Dn σ H q => tAsg_ok hT q
theorem ds_set {i : Nat} {x : Str} {pos' : Pos} (hN : X.N.Nodup) (hi : X.N[i]? = some x) (hx : Loc X.env.scope x) (he : DE X W e E) (hs : swapsWith e (some (.Name x pos')) pos.line X.env = pure false := by rfl) (hf : X.fn x = true ∨ X.env.scope.names.lookup x = some .local := by first | exact .inl rfl | exact .inr rfl | assumption) :
    DS X W (.Assign [.Name x pos'] e pos) (sAsg (gN i) E) := PS.weak (ps_set hN hi hx he hs hf) fun Dn σ H ⟨B, G, δ, r, δ', a, e1, post⟩ => by
  refine tE_bindS a e1 post fun v H1 G1 δ1 d a1 x1 r1 e2 post => ?_
  rcases unit_bind e2 with ⟨q, rfl⟩ | ⟨x, q, rfl⟩
  · unfold gN at q
    split at q
    · cases q
      exact post G1 _ H1 (a1.setImm r1 i) (Ext.refl _)
    · cases q
  · exact absurd q (calm_N _ _ _ _)
/-- name = a new object, kept as the frame's own -/
def gO (i : Nat) (d : D) : Mo Unit := fun δ => if i < δ.length then some (.ok (), δ.set i (.own d)) else none
def sAsgO (i : Nat) (E : Mo D) : Mo Out := E.bind fun d => (gO i d).bind fun _ => Mo.ret .nx
theorem ds_setO {i : Nat} {x : Str} {pos' : Pos} (hN : X.N.Nodup) (hi : X.N[i]? = some x) (hx : Loc X.env.scope x) (he : DO X W e E) (hs : swapsWith e (some (.Name x pos')) pos.line X.env = pure false := by rfl) (hf : X.fn x = true ∨ X.env.scope.names.lookup x = some .local := by first | exact .inl rfl | exact .inr rfl | assumption) :
    DS X W (.Assign [.Name x pos'] e pos) (sAsgO i E) := PS.weak (ps_set hN hi hx he hs hf) fun Dn σ H ⟨B, G, δ, r, δ', a, e1, post⟩ => by
  refine tO_bindS a e1 post fun v H1 G1 δ1 d a1 x1 r1 e2 post => ?_
  obtain ⟨w1, w2, w3, w4⟩ := r1
  rcases unit_bind e2 with ⟨q, rfl⟩ | ⟨x, q, rfl⟩
  · unfold gO at q
    split at q
    · cases q
      exact post G1 _ H1 (a1.setOwn w1 w4 w2 w3 i) (Ext.refl _)
    · cases q
  · unfold gO at q; split at q <;> cases q
end

/-! ### what a loop walks -/
/-- the iterator J yields the data ds, one by one, whatever else is laid meanwhile -/
def BLe (B B' : Bs) : Prop := Ext B.H0 B'.H0 ∧ B'.IO = B.IO
theorem BLe.refl (B : Bs) : BLe B B := ⟨Ext.refl _, rfl⟩
def Yl (K : PySem.W.Frag) (B : Bs) (J : It) (G : Hp) (ds : List D) : Prop := ∀ (B' : Bs) (G2 H : Hp) (δ : Env) (σ : St), BLe B B' → At K B' G2 δ σ H → Ext G G2 → ∀ i : Nat,
  (∀ d, ds[i]? = some d → J.go i H ∧ ∀ x H', J.yld i H x H' → H' = H ∧ ∃ G3, At K B' G3 δ σ H ∧ Ext G2 G3 ∧ R K G3 x d) ∧ (ds.length ≤ i → J.stop i H)
def tI (K : PySem.W.Frag) (W : WK) (I : Mo (List D)) : TI := fun σ H R' => ∃ B G δ r δ', At K B G δ σ H ∧ I δ = some (r, δ') ∧ Post K W B G σ r δ' (fun ds G' H' => ∀ J, Yl K B J G' ds → R' J H')
section
variable (X : Cx) (W : WK)
def DI (tg e : Expr) (I : Mo (List D)) : Prop := PI X tg e (tI X.K W I)
end
section
variable {X : Cx} {W : WK} {e c tg : Expr} {pos : Pos} {E : Mo D} {T : Mo Bool} {S S' : Mo Out}
theorem yl_list {K : PySem.W.Frag} {B : Bs} {G : Hp} {a : Addr} {xs : List V} {ds : List D} (h : SqL K G a xs) (r : RL K G xs ds) : Yl K B (Itl K a) G ds := fun B' G2 H δ σ _ at' ex i => by
  have hq : SqL K H a xs := at'.vw.sql (ex.sql h)
  refine ⟨fun d hd => ?_, fun hl => ⟨xs, hq, by rw [r.length]; exact hl⟩⟩
  obtain ⟨x, h1, h2⟩ := r.get hd
  refine ⟨⟨xs, x, hq, h1⟩, fun y H' ⟨e1, e2⟩ => ⟨e1, G2, at', Ext.refl _, ?_⟩⟩
  have := e2 xs hq
  rw [h1] at this; cases this
  exact h2.mono ex
theorem yl_tup {K : PySem.W.Frag} {B : Bs} {G : Hp} {a : Addr} {xs : List V} {ds : List D} (h : G a = some (.tup xs)) (r : RL K G xs ds) : Yl K B (Itt K a) G ds := fun B' G2 H δ σ _ at' ex i => by
  have hq : SqT K H a xs := SqT.of (at'.vw.tup (ex _ _ h))
  refine ⟨fun d hd => ?_, fun hl => ⟨xs, hq, by rw [r.length]; exact hl⟩⟩
  obtain ⟨x, h1, h2⟩ := r.get hd
  refine ⟨⟨xs, x, hq, h1⟩, fun y H' ⟨e1, e2⟩ => ⟨e1, G2, at', Ext.refl _, ?_⟩⟩
  have := e2 xs hq
  rw [h1] at this; cases this
  exact h2.mono ex
def rgD (lo : Int) (n : Nat) : List D := (List.range n).map fun i => D.int (lo + (i : Nat))
theorem yl_rng {K : PySem.W.Frag} {B : Bs} {G : Hp} {lo : Int} {n : Nat} : Yl K B (Itr lo n) G (rgD lo n) := fun B' G2 H δ σ _ at' ex i => by
  refine ⟨fun d hd => ?_, fun hl => by unfold rgD at hl; rw [List.length_map, List.length_range] at hl; exact hl⟩
  unfold rgD at hd
  rw [List.getElem?_map] at hd
  by_cases c : i < n
  · rw [List.getElem?_range c] at hd
    cases hd
    exact ⟨c, fun y H' ⟨e1, e2⟩ => ⟨e1, G2, at', Ext.refl _, by rw [e2]; exact .int _⟩⟩
  · rw [List.getElem?_eq_none (by rw [List.length_range]; omega)] at hd; cases hd
def stD (x : Str) : List D := x.cps.toList.map fun c => D.str ⟨#[c]⟩
theorem yl_str {K : PySem.W.Frag} {B : Bs} {G : Hp} {x : Str} : Yl K B (Its x) G (stD x) := fun B' G2 H δ σ _ at' ex i => by
  refine ⟨fun d hd => ?_, fun hl => by unfold stD at hl; rw [List.length_map, Array.length_toList] at hl; exact hl⟩
  unfold stD at hd
  rw [List.getElem?_map] at hd
  cases q : x.cps.toList[i]? with
  | none => rw [q] at hd; cases hd
  | some c =>
    rw [q] at hd; cases hd
    have hc := (List.getElem?_eq_some_iff.mp q).1
    rw [Array.length_toList] at hc
    refine ⟨hc, fun y H' ⟨e1, c', e2, e3⟩ => ⟨e1, G2, at', Ext.refl _, ?_⟩⟩
    rw [Array.getElem?_toList] at q
    rw [q] at e2; cases e2
    rw [e3]; exact .str _
/-- over a list, a tuple, a text -/
def itD : D → Option (List D)
  | .lst l => some l
  | .scr l => some l
  | .tup l => some l
  | .str x => some (stD x)
  | _ => none
def iOf (E : Mo D) : Mo (List D) := E.bind fun d => Mo.lift (itD d)
theorem di_of (h : DE X W e E) : DI X W tg e (iOf E) :=
  let h1 := PI.or (PI.or (pi_list (tg := tg) h) (pi_tup (tg := tg) h)) (pi_str (tg := tg) h)
  ⟨fun pins s σ H R' I ⟨B, G, δ, r, δ', a, e1, post⟩ => h1.run pins s σ H R' I (by
    -- which of the three: by what the expression gives
    unfold iOf Mo.bind at e1
    cases q : E δ with
    | none => rw [q] at e1; cases e1
    | some z =>
      obtain ⟨x, δ1⟩ := z
      rw [q] at e1
      cases x with
      | error x => cases e1; exact .inl (.inl ⟨B, G, δ, .error x, _, a, q, post⟩)
      | ok d =>
        obtain ⟨ds, hz, hr⟩ := lift_some e1
        cases hr
        cases d with
        | lst l =>
          cases hz
          refine .inl (.inl ⟨B, G, δ, .ok (.lst _), _, a, q, fun G1 H1 a1 x1 v rv => ?_⟩)
          cases rv with
          | lst g hl rl => exact ⟨_, rfl, ⟨_, SqL.of (a1.vw.lst g)⟩, post G1 H1 a1 x1 _ (yl_list (SqL.of g) rl)⟩
        | scr l =>
          cases hz
          refine .inl (.inl ⟨B, G, δ, .ok (.scr _), _, a, q, fun G1 H1 a1 x1 v rv => ?_⟩)
          cases rv with
          | scr g hl rl => exact ⟨_, rfl, ⟨_, a1.vw.sql g⟩, post G1 H1 a1 x1 _ (yl_list g rl)⟩
        | tup l =>
          cases hz
          refine .inl (.inr ⟨B, G, δ, .ok (.tup _), _, a, q, fun G1 H1 a1 x1 v rv => ?_⟩)
          cases rv with
          | tup g hl rl => exact ⟨_, rfl, ⟨_, SqT.of (a1.vw.tup g)⟩, post G1 H1 a1 x1 _ (yl_tup g rl)⟩
        | str x =>
          cases hz
          refine .inr ⟨B, G, δ, .ok (.str x), _, a, q, fun G1 H1 a1 x1 v rv => ?_⟩
          cases rv with
          | str => exact ⟨_, rfl, post G1 H1 a1 x1 _ yl_str⟩
        | _ => cases hz)⟩
/-- over range(n), range(a, b) -/
def rg1 : List D → Option (List D)
  | [.int j] => if j ≤ 16777216 ∧ -16777216 ≤ j then some (rgD 0 j.toNat) else none
  | _ => none
def rg2 : List D → Option (List D)
  | [.int i, .int j] => if (-16777216 ≤ i ∧ i ≤ 16777216) ∧ (-16777216 ≤ j ∧ j ≤ 16777216) ∧ j - i ≤ 16777216 then some (rgD i (j - i).toNat) else none
  | _ => none
def iRg (f : List D → Option (List D)) (A : Mo (List Ag)) : Mo (List D) := A.bind fun as => Mo.lift ((imms as).bind f)
theorem di_rg1 {a : Expr} {A : Mo (List Ag)} {p pos : Pos} (hg : Gl X "range") (hm : X.mg "range" = none) (ha : DA X W [a] A) (hs : starEach [a] X.env = [(false, eval a X.env)] := by rfl) : DI X W tg (.Call (.Name "range" p) [a] [] pos) (iRg rg1 A) :=
  let h1 := pi_range1 (tg := tg) (pos := pos) (p := p) hg hm ha hs
  ⟨fun pins s σ H R' I ⟨B, G, δ, r, δ', a, e1, post⟩ => h1.run pins s σ H R' I (by
    refine tA_bind a e1 post fun vs H1 G1 δ1 as a1 x1 r1 e2 post => ?_
    obtain ⟨z, hz, hr⟩ := lift_some e2
    cases hr
    cases q : imms as with
    | none => rw [q] at hz; cases hz
    | some ds =>
      rw [q] at hz
      have r2 := imms_ok r1 q
      unfold rg1 at hz
      rw [Option.bind_some] at hz
      split at hz
      · split at hz
        · rename_i j hj
          cases hz
          cases r2 with
          | cons ra rb =>
            cases ra; cases rb
            exact ⟨j, rfl, by omega, by omega, post G1 H1 a1 (Ext.refl _) _ yl_rng⟩
        · cases hz
      · cases hz)⟩
theorem di_rg2 {a b : Expr} {A : Mo (List Ag)} {p pos : Pos} (hg : Gl X "range") (hm : X.mg "range" = none) (ha : DA X W [a, b] A) (hs : starEach [a, b] X.env = [(false, eval a X.env), (false, eval b X.env)] := by rfl) (hs2 : starEach [b] X.env = [(false, eval b X.env)] := by rfl) : DI X W tg (.Call (.Name "range" p) [a, b] [] pos) (iRg rg2 A) :=
  let h1 := pi_range2 (tg := tg) (pos := pos) (p := p) hg hm ha hs hs2
  ⟨fun pins s σ H R' I ⟨B, G, δ, r, δ', a, e1, post⟩ => h1.run pins s σ H R' I (by
    refine tA_bind a e1 post fun vs H1 G1 δ1 as a1 x1 r1 e2 post => ?_
    obtain ⟨z, hz, hr⟩ := lift_some e2
    cases hr
    cases q : imms as with
    | none => rw [q] at hz; cases hz
    | some ds =>
      rw [q] at hz
      have r2 := imms_ok r1 q
      unfold rg2 at hz
      rw [Option.bind_some] at hz
      split at hz
      · split at hz
        · rename_i i j hj
          cases hz
          cases r2 with
          | cons ra rb =>
            cases ra
            cases rb with
            | cons rb rc =>
              cases rb; cases rc
              exact ⟨i, j, rfl, by omega, post G1 H1 a1 (Ext.refl _) _ yl_rng⟩
        · cases hz
      · cases hz)⟩

/-! ### for -/
def forM (T : D → Mo Unit) (S : Mo Out) : List D → Mo Out
  | [] => Mo.ret .nx
  | d :: ds => (T d).bind fun _ => fun δ => match S δ with
    | some (.ok .nx, δ') => forM T S ds δ'
    | some (.ok .ct, δ') => forM T S ds δ'
    | some (.ok .bk, δ') => some (.ok .nx, δ')
    | r => r
def sFor (I : Mo (List D)) (T : D → Mo Unit) (S : Mo Out) : Mo Out := I.bind fun ds => forM T S ds
theorem tI_bindS {K : PySem.W.Frag} {B : Bs} {G H : Hp} {δ δ' : Env} {σ : St} {r : Except Exn Out} {Dn : Ends} {I : Mo (List D)} {k : List D → Mo Out} {Q : It → Hp → Prop} (a : At K B G δ σ H) (h : Mo.bind I k δ = some (r, δ')) (post : PostS K W B G Dn r δ')
    (q : ∀ J H1 G1 δ1 d, At K B G1 δ1 σ H1 → Ext G G1 → Yl K B J G1 d → k d δ1 = some (r, δ') → PostS K W B G1 Dn r δ' → Q J H1) : tI K W I σ H Q := by
  unfold Mo.bind at h
  cases e : I δ with
  | none => rw [e] at h; cases h
  | some z =>
    obtain ⟨x, δ1⟩ := z
    rw [e] at h
    cases x with
    | error x => cases h; exact ⟨B, G, δ, .error x, _, a, e, post⟩
    | ok d => exact ⟨B, G, δ, .ok d, δ1, a, e, fun G1 H1 a1 e1 J rv => q J H1 G1 δ1 d a1 e1 rv h (post.mono e1)⟩
/-- the iterator is J -/
def wiJ (J : It) : TI := fun _ H R => R J H
theorem tFor_at {K : PySem.W.Frag} {B : Bs} {G1 : Hp} {δ1 δ' : Env} {J : It} {ds : List D} {r : Except Exn Out} {sl : List Nat} {T : D → Mo Unit} (hT : Calm T) {Dn : Ends} {σ : St} {H1 : Hp} (a1 : At K B G1 δ1 σ H1) (yl : Yl K B J G1 ds) (e2 : forM T S ds δ1 = some (r, δ')) (post : PostS K W B G1 Dn r δ') : tFor (wiJ J) (tG K sl T) (tS K W S) Dn σ H1 := by
  refine ⟨fun i m σ2 H2 => m + i = ds.length ∧ ∃ G2 δ2, At K B G2 δ2 σ2 H2 ∧ Ext G1 G2 ∧ forM T S (ds.drop i) δ2 = some (r, δ'), ⟨ds.length, by omega, G1, δ1, a1, Ext.refl _, e2⟩, ?_⟩
  rintro i m σ2 H2 ⟨hm, G2, δ2, a2, x2, e3⟩
  obtain ⟨y1, y2⟩ := yl B G2 H2 δ2 σ2 (BLe.refl B) a2 x2 i
  by_cases hi : ds.length ≤ i
  · refine .inl ⟨y2 hi, ?_⟩
    rw [List.drop_eq_nil_of_le hi] at e3
    cases e3
    exact post G2 σ2 H2 a2 x2
  · have hlt : i < ds.length := by omega
    obtain ⟨g1, g2⟩ := y1 ds[i] (List.getElem?_eq_getElem hlt)
    rw [List.drop_eq_getElem_cons hlt] at e3
    refine .inr ⟨g1, fun σ' H' => ∃ m', m' < m ∧ (m' + (i + 1) = ds.length ∧ ∃ G2 δ2, At K B G2 δ2 σ' H' ∧ Ext G1 G2 ∧ forM T S (ds.drop (i + 1)) δ2 = some (r, δ')), fun σ' H' z => z, fun x H' hy => ?_⟩
    obtain ⟨rfl, G3, a3, x3, r3⟩ := g2 x H' hy
    unfold forM Mo.bind at e3
    cases q : T ds[i] δ2 with
    | none => rw [q] at e3; cases e3
    | some z =>
      obtain ⟨u, δ3⟩ := z
      rw [q] at e3
      cases u with
      | error u => exact absurd q (hT _ _ _ _)
      | ok u =>
        refine ⟨B, G3, δ2, ds[i], δ3, a3, r3, q, fun σ4 a4 _ => ?_⟩
        cases q2 : S δ3 with
        | none => simp only [q2] at e3; cases e3
        | some z =>
          obtain ⟨u, δ4⟩ := z
          simp only [q2] at e3
          have x13 := x2.trans x3
          cases u with
          | error u => cases e3; exact ⟨B, G3, δ3, .error u, _, a4, q2, post.mono x13⟩
          | ok o =>
            cases o with
            | nx => exact ⟨B, G3, δ3, .ok .nx, δ4, a4, q2, fun G5 σ5 H5 a5 x5 => ⟨m - 1, by omega, by omega, G5, δ4, a5, x13.trans x5, e3⟩⟩
            | ct => exact ⟨B, G3, δ3, .ok .ct, δ4, a4, q2, fun G5 σ5 H5 a5 x5 => ⟨m - 1, by omega, by omega, G5, δ4, a5, x13.trans x5, e3⟩⟩
            | bk => cases e3; exact ⟨B, G3, δ3, .ok .bk, _, a4, q2, fun G5 σ5 H5 a5 x5 => post G5 σ5 H5 a5 (x13.trans x5)⟩
            | rt d => cases e3; exact ⟨B, G3, δ3, .ok (.rt d), _, a4, q2, post.mono x13⟩
            | rtO d => cases e3; exact ⟨B, G3, δ3, .ok (.rtO d), _, a4, q2, post.mono x13⟩
theorem tFor_ok {K : PySem.W.Frag} {I : Mo (List D)} {sl : List Nat} {T : D → Mo Unit} (hT : Calm T) {Dn : Ends} {σ : St} {H : Hp} (q : tS K W (sFor I T S) Dn σ H) : tFor (tI K W I) (tG K sl T) (tS K W S) Dn σ H := by
  obtain ⟨B, G, δ, r, δ', a, e1, post⟩ := q
  exact tI_bindS a e1 post fun J H1 G1 δ1 ds a1 x1 yl e2 post => tFor_at hT a1 yl e2 post
theorem ds_for {iter : Expr} {body : List Stmt} {I : Mo (List D)} {sl : List Nat} {T : D → Mo Unit} (hp : PassesOwn (model X.prog X.w) X.A X.env X.xe) (hc : X.calm = true) (hT : Calm T) (hi : DI X W tg iter I) (hg : DG X tg sl T) (hb : DSs X W body S)
    (hs : ∀ x, foldedSetIterable iter X.env x = pure x := by intro _; rfl) : DS X W (.For tg iter body [] pos) (sFor I T S) := PS.weak (ps_for hp hc hi hg hb hs) fun Dn σ H q => tFor_ok hT q
theorem calm_nil : ∀ ds δ x δ', gNil ds δ ≠ some (.error x, δ') := fun ds δ x δ' h => by cases ds <;> cases h
theorem calm_cons {T : D → Mo Unit} {Ts : List D → Mo Unit} (h1 : Calm T) (h2 : ∀ ds δ x δ', Ts ds δ ≠ some (.error x, δ')) : ∀ ds δ x δ', gCons T Ts ds δ ≠ some (.error x, δ') := fun ds δ x δ' h => by
  cases ds with
  | nil => cases h
  | cons d ds =>
    have h : Mo.bind (T d) (fun _ => Ts ds) δ = some (.error x, δ') := h
    unfold Mo.bind at h
    cases q : T d δ with
    | none => rw [q] at h; cases h
    | some z =>
      obtain ⟨u, δ1⟩ := z
      rw [q] at h
      cases u with
      | error u => exact h1 _ _ _ _ q
      | ok u => exact h2 _ _ _ _ h
theorem calm_T {n : Nat} {Ts : List D → Mo Unit} (h2 : ∀ ds δ x δ', Ts ds δ ≠ some (.error x, δ')) : Calm (gT n Ts) := fun d δ x δ' h => by
  cases d with
  | tup ds =>
    have h : (if ds.length = n then Ts ds else fun _ => none) δ = some (.error x, δ') := h
    split at h
    · exact h2 _ _ _ _ h
    · cases h
  | lst ds =>
    have h : (if ds.length = n then Ts ds else fun _ => none) δ = some (.error x, δ') := h
    split at h
    · exact h2 _ _ _ _ h
    · cases h
  | _ => cases h

/-! ### while -/
def whileF (c : Mo Bool) (b : Mo Out) : Nat → Mo Out
  | 0 => fun _ => none
  | n + 1 => c.bind fun k => if k = true then (fun δ => match b δ with
    | some (.ok .nx, δ') => whileF c b n δ'
    | some (.ok .ct, δ') => whileF c b n δ'
    | some (.ok .bk, δ') => some (.ok .nx, δ')
    | r => r) else Mo.ret .nx
/-- the loop by as many turns as it takes -/
noncomputable def sWhile (c : Mo Bool) (b : Mo Out) : Mo Out := fun δ => by
  classical exact if h : ∃ n, (whileF c b n δ).isSome = true then whileF c b h.choose δ else none
theorem tWhile_ok {K : PySem.W.Frag} {Dn : Ends} {σ : St} {H : Hp} (q : tS K W (sWhile T S) Dn σ H) : tWhile (tT K W T) (tS K W S) Dn σ H := by
  obtain ⟨B, G, δ, r, δ', a, e1, post⟩ := q
  have e1 : ∃ n, whileF T S n δ = some (r, δ') := by
    unfold sWhile at e1
    split at e1
    · rename_i h; exact ⟨_, e1⟩
    · cases e1
  obtain ⟨n, e1⟩ := e1
  refine ⟨fun m σ2 H2 => ∃ G2 δ2, At K B G2 δ2 σ2 H2 ∧ Ext G G2 ∧ whileF T S m δ2 = some (r, δ'), ⟨n, G, δ, a, Ext.refl _, e1⟩, ?_⟩
  rintro m σ2 H2 ⟨G2, δ2, a2, x2, e2⟩
  cases m with
  | zero => cases e2
  | succ m =>
    unfold whileF at e2
    refine tT_bindS (Dn := Dn) a2 e2 (post.mono x2) fun H3 G3 δ3 k a3 x3 e3 post => ?_
    cases k with
    | false => rw [if_neg Bool.false_ne_true] at e3 ⊢; cases e3; exact post G3 σ2 H3 a3 (Ext.refl _)
    | true =>
      rw [if_pos rfl] at e3 ⊢
      refine ⟨fun σ' H' => ∃ m', m' < m + 1 ∧ ∃ G2 δ2, At K B G2 δ2 σ' H' ∧ Ext G G2 ∧ whileF T S m' δ2 = some (r, δ'), fun σ' H' z => z, ?_⟩
      have x13 := x2.trans x3
      cases q2 : S δ3 with
      | none => simp only [q2] at e3; cases e3
      | some z =>
        obtain ⟨u, δ4⟩ := z
        simp only [q2] at e3
        cases u with
        | error u => cases e3; exact ⟨B, G3, δ3, .error u, _, a3, q2, post⟩
        | ok o =>
          cases o with
          | nx => exact ⟨B, G3, δ3, .ok .nx, δ4, a3, q2, fun G5 σ5 H5 a5 x5 => ⟨m, by omega, G5, δ4, a5, x13.trans x5, e3⟩⟩
          | ct => exact ⟨B, G3, δ3, .ok .ct, δ4, a3, q2, fun G5 σ5 H5 a5 x5 => ⟨m, by omega, G5, δ4, a5, x13.trans x5, e3⟩⟩
          | bk => cases e3; exact ⟨B, G3, δ3, .ok .bk, _, a3, q2, post⟩
          | rt d => cases e3; exact ⟨B, G3, δ3, .ok (.rt d), _, a3, q2, post⟩
          | rtO d => cases e3; exact ⟨B, G3, δ3, .ok (.rtO d), _, a3, q2, post⟩
theorem ds_while {body : List Stmt} (hp : PassesOwn (model X.prog X.w) X.A X.env X.xe) (hc : DT X W c T) (hb : DSs X W body S) : DS X W (.While c body [] pos) (sWhile T S) := PS.weak (ps_while hp hc hb) fun Dn σ H q => tWhile_ok q
theorem whileF_mono {c : Mo Bool} {b : Mo Out} : ∀ {n m : Nat} {δ : Env} {r : Except Exn Out × Env}, whileF c b n δ = some r → n ≤ m → whileF c b m δ = some r
  | 0, _, _, _, h, _ => by cases h
  | n + 1, m, δ, r, h, l => by
    obtain ⟨k, rfl⟩ : ∃ k, m = k + 1 := ⟨m - 1, by omega⟩
    unfold whileF Mo.bind at h ⊢
    cases q : c δ with
    | none => rw [q] at h; cases h
    | some z =>
      obtain ⟨x, δ1⟩ := z
      rw [q] at h
      cases x with
      | error x => exact h
      | ok t =>
        cases t with
        | false => exact h
        | true =>
          simp only [if_true] at h ⊢
          cases q2 : b δ1 with
          | none => simp only [q2] at h; cases h
          | some z =>
            obtain ⟨u, δ4⟩ := z
            simp only [q2] at h
            cases u with
            | error u => exact h
            | ok o => cases o <;> first | exact whileF_mono h (by omega) | exact h
theorem sWhile_of {c : Mo Bool} {b : Mo Out} {n : Nat} {δ : Env} {r : Except Exn Out × Env} (h : whileF c b n δ = some r) : sWhile c b δ = some r := by
  have ex : ∃ n, (whileF c b n δ).isSome = true := ⟨n, by rw [h]; rfl⟩
  unfold sWhile
  rw [dif_pos ex]
  have h2 := ex.choose_spec
  cases q : whileF c b ex.choose δ with
  | none => rw [q] at h2; cases h2
  | some z =>
    have h3 := whileF_mono h (Nat.le_max_left n ex.choose)
    have h4 := whileF_mono q (Nat.le_max_right n ex.choose)
    rw [h3] at h4; exact h4.symm
end
end M

set_option Elab.async false
set_option linter.all false
set_option maxRecDepth 100000
/-! Part D: calls of own defs. -/
namespace M
open PySem L2 PySem.Spec PyProof.Rows

def argSl (δ : Env) : Ag → Option Sl
  | .im d => some (.imm d)
  | .vr i => match δ[i]? with
    | some (.own d) => some (.io d)
    | some (.io d) => some (.io d)
    | _ => none
  | .vb i => match δ[i]? with
    | some (.own d) => some (.bor d)
    | some (.io d) => some (.bor d)
    | some (.imm d) => some (.bor d)
    | some (.bor d) => some (.bor d)
    | _ => none
def argSls (δ : Env) : List Ag → Option Env
  | [] => some []
  | a :: as => match argSl δ a with
    | none => none
    | some s => match argSls δ as with
      | none => none
      | some ss => some (s :: ss)
def vrs : List Ag → List Nat
  | [] => []
  | .vr i :: as => i :: vrs as
  | _ :: as => vrs as
def vbs : List Ag → List Nat
  | [] => []
  | .vb i :: as => i :: vbs as
  | _ :: as => vbs as
def backs : List Ag → Env → Env → Option Env
  | [], _, δ => some δ
  | .vr i :: as, .io d :: δc, δ => match δ[i]? with
    | some (.own _) => backs as δc (δ.set i (.own d))
    | some (.io _) => backs as δc (δ.set i (.io d))
    | _ => none
  | .vr _ :: _, _, _ => none
  | .im _ :: as, _ :: δc, δ => backs as δc δ
  | .vb _ :: as, _ :: δc, δ => backs as δc δ
  | _ :: _, [], _ => none
def callM (m : Mo D) (as : List Ag) : Mo D := fun δ => match argSls δ as with
  | none => none
  | some δc => if (vrs as).Nodup ∧ (∀ i ∈ vbs as, i ∉ vrs as) then match m δc with
      | none => none
      | some (r, δc') => match backs as δc' δ with
        | none => none
        | some δ' => some (r, δ')
    else none

theorem argSl_vr {δ : Env} {i : Nat} {s : Sl} (h : argSl δ (.vr i) = some s) : ∃ d, s = .io d ∧ (δ[i]? = some (.own d) ∨ δ[i]? = some (.io d)) := by
  have h : (match δ[i]? with
    | some (.own d) => some (Sl.io d)
    | some (.io d) => some (Sl.io d)
    | _ => none) = some s := h
  split at h
  · rename_i d q; cases h; exact ⟨d, rfl, .inl q⟩
  · rename_i d q; cases h; exact ⟨d, rfl, .inr q⟩
  · cases h
theorem argSl_vb {δ : Env} {i : Nat} {s : Sl} (h : argSl δ (.vb i) = some s) : ∃ d, s = .bor d ∧ (δ[i]? = some (.own d) ∨ δ[i]? = some (.io d) ∨ δ[i]? = some (.imm d) ∨ δ[i]? = some (.bor d)) := by
  have h : (match δ[i]? with
    | some (.own d) => some (Sl.bor d)
    | some (.io d) => some (Sl.bor d)
    | some (.imm d) => some (Sl.bor d)
    | some (.bor d) => some (Sl.bor d)
    | _ => none) = some s := h
  split at h
  · rename_i d q; cases h; exact ⟨d, rfl, .inl q⟩
  · rename_i d q; cases h; exact ⟨d, rfl, .inr (.inl q)⟩
  · rename_i d q; cases h; exact ⟨d, rfl, .inr (.inr (.inl q))⟩
  · rename_i d q; cases h; exact ⟨d, rfl, .inr (.inr (.inr q))⟩
  · cases h
theorem argSls_len {δ : Env} : ∀ {as : List Ag} {δc : Env}, argSls δ as = some δc → δc.length = as.length
  | [], _, h => by cases h; rfl
  | a :: as, δc, h => by
    unfold argSls at h
    cases q : argSl δ a with
    | none => rw [q] at h; cases h
    | some s =>
      rw [q] at h
      cases q2 : argSls δ as with
      | none => simp only [q2] at h; cases h
      | some ss => simp only [q2] at h; cases h; rw [List.length_cons, List.length_cons, argSls_len q2]
theorem argSls_get {δ : Env} : ∀ {as : List Ag} {δc : Env}, argSls δ as = some δc → ∀ {k : Nat} {s : Sl}, δc[k]? = some s → ∃ a, as[k]? = some a ∧ argSl δ a = some s
  | [], _, h, k, s, e => by cases h; simp at e
  | a :: as, δc, h, k, s, e => by
    unfold argSls at h
    cases q : argSl δ a with
    | none => rw [q] at h; cases h
    | some s0 =>
      rw [q] at h
      cases q2 : argSls δ as with
      | none => simp only [q2] at h; cases h
      | some ss =>
        simp only [q2] at h; cases h
        cases k with
        | zero => simp at e; subst e; exact ⟨a, rfl, q⟩
        | succ k =>
          obtain ⟨b, h1, h2⟩ := argSls_get q2 (k := k) (s := s) (by simpa using e)
          exact ⟨b, by simpa using h1, h2⟩
theorem argSls_get' {δ : Env} : ∀ {as : List Ag} {δc : Env}, argSls δ as = some δc → ∀ {k : Nat} {a : Ag}, as[k]? = some a → ∃ s, δc[k]? = some s ∧ argSl δ a = some s := fun {as δc} h k a e => by
  have hl := argSls_len h
  have hk := (List.getElem?_eq_some_iff.mp e).1
  have hk2 : k < δc.length := by omega
  obtain ⟨b, h1, h2⟩ := argSls_get h (List.getElem?_eq_getElem hk2)
  rw [e] at h1; cases h1
  exact ⟨_, List.getElem?_eq_getElem hk2, h2⟩
theorem vrs_mem : ∀ {as : List Ag} {i : Nat}, i ∈ vrs as ↔ ∃ k : Nat, as[k]? = some (.vr i)
  | [], i => by simp [vrs]
  | .vr j :: as, i => by
    unfold vrs
    rw [List.mem_cons, vrs_mem]
    refine ⟨fun h => ?_, fun ⟨k, h⟩ => ?_⟩
    · rcases h with rfl | ⟨k, h⟩
      · exact ⟨0, rfl⟩
      · exact ⟨k + 1, by simpa using h⟩
    · cases k with
      | zero => simp at h; exact .inl h.symm
      | succ k => exact .inr ⟨k, by simpa using h⟩
  | .im d :: as, i => by
    unfold vrs
    rw [vrs_mem]
    refine ⟨fun ⟨k, h⟩ => ⟨k + 1, by simpa using h⟩, fun ⟨k, h⟩ => ?_⟩
    cases k with
    | zero => simp at h
    | succ k => exact ⟨k, by simpa using h⟩
  | .vb j :: as, i => by
    unfold vrs
    rw [vrs_mem]
    refine ⟨fun ⟨k, h⟩ => ⟨k + 1, by simpa using h⟩, fun ⟨k, h⟩ => ?_⟩
    cases k with
    | zero => simp at h
    | succ k => exact ⟨k, by simpa using h⟩
theorem vbs_mem : ∀ {as : List Ag} {i k : Nat}, as[k]? = some (.vb i) → i ∈ vbs as
  | [], i, k, h => by simp at h
  | .vb j :: as, i, k, h => by
    unfold vbs
    cases k with
    | zero => simp at h; rw [h]; exact List.mem_cons_self
    | succ k => exact List.mem_cons_of_mem _ (vbs_mem (k := k) (by simpa using h))
  | .im d :: as, i, k, h => by
    unfold vbs
    cases k with
    | zero => simp at h
    | succ k => exact vbs_mem (k := k) (by simpa using h)
  | .vr j :: as, i, k, h => by
    unfold vbs
    cases k with
    | zero => simp at h
    | succ k => exact vbs_mem (k := k) (by simpa using h)
theorem vrs_inj : ∀ {as : List Ag} {i k l : Nat}, (vrs as).Nodup → as[k]? = some (.vr i) → as[l]? = some (.vr i) → k = l
  | [], i, k, l, _, h, _ => by simp at h
  | a :: as, i, k, l, nd, h1, h2 => by
    have nd' : (vrs as).Nodup := by
      cases a <;> unfold vrs at nd <;> first | exact nd | exact (List.nodup_cons.mp nd).2
    cases k with
    | zero =>
      cases l with
      | zero => rfl
      | succ l =>
        simp at h1; subst h1
        unfold vrs at nd
        exact absurd (vrs_mem.mpr ⟨l, by simpa using h2⟩) (List.nodup_cons.mp nd).1
    | succ k =>
      cases l with
      | zero =>
        simp at h2; subst h2
        unfold vrs at nd
        exact absurd (vrs_mem.mpr ⟨k, by simpa using h1⟩) (List.nodup_cons.mp nd).1
      | succ l =>
        have := vrs_inj (as := as) (i := i) (k := k) (l := l) nd' (by simpa using h1) (by simpa using h2)
        rw [this]
theorem backs_len : ∀ {as : List Ag} {δc δ δ' : Env}, backs as δc δ = some δ' → δ'.length = δ.length
  | [], _, _, _, h => by cases h; rfl
  | .vr i :: as, [], _, _, h => by cases h
  | .vr i :: as, .no :: _, _, _, h => by cases h
  | .vr i :: as, .imm _ :: _, _, _, h => by cases h
  | .vr i :: as, .own _ :: _, _, _, h => by cases h
  | .vr i :: as, .bor _ :: _, _, _, h => by cases h
  | .vr i :: as, .io d :: δc, δ, δ', h => by
    unfold backs at h
    split at h
    · rw [backs_len h, List.length_set]
    · rw [backs_len h, List.length_set]
    · cases h
  | .im _ :: as, [], _, _, h => by cases h
  | .im _ :: as, _ :: δc, δ, δ', h => by unfold backs at h; exact backs_len h
  | .vb _ :: as, [], _, _, h => by cases h
  | .vb _ :: as, _ :: δc, δ, δ', h => by unfold backs at h; exact backs_len h
/-- what a slot is behind the call -/
def BackAt (as : List Ag) (δc δ : Env) (j : Nat) (s : Sl) : Prop := (j ∉ vrs as ∧ δ[j]? = some s) ∨
  ∃ (k : Nat) (d : D), as[k]? = some (.vr j) ∧ δc[k]? = some (.io d) ∧ ((∃ d0, δ[j]? = some (.own d0) ∧ s = .own d) ∨ ∃ d0, δ[j]? = some (.io d0) ∧ s = .io d)
theorem BackAt.step {a : Ag} {as : List Ag} {s0 : Sl} {δc δ : Env} {j : Nat} {s : Sl} (ha : ∀ i, a ≠ .vr i) (h : BackAt as δc δ j s) : BackAt (a :: as) (s0 :: δc) δ j s := by
  rcases h with ⟨h1, h2⟩ | ⟨k, d, h1, h2, h3⟩
  · refine .inl ⟨fun q => ?_, h2⟩
    obtain ⟨k, q⟩ := vrs_mem.mp q
    cases k with
    | zero => simp at q; exact ha _ q
    | succ k => exact h1 (vrs_mem.mpr ⟨k, by simpa using q⟩)
  · exact .inr ⟨k + 1, d, by simpa using h1, by simpa using h2, h3⟩
theorem backs_get : ∀ {as : List Ag} {δc δ δ' : Env}, (vrs as).Nodup → backs as δc δ = some δ' → ∀ {j : Nat} {s : Sl}, δ'[j]? = some s → BackAt as δc δ j s
  | [], _, _, _, _, h, j, s, e => by cases h; exact .inl ⟨by simp [vrs], e⟩
  | .vr i :: as, [], _, _, _, h, _, _, _ => by cases h
  | .vr i :: as, .no :: _, _, _, _, h, _, _, _ => by cases h
  | .vr i :: as, .imm _ :: _, _, _, _, h, _, _, _ => by cases h
  | .vr i :: as, .own _ :: _, _, _, _, h, _, _, _ => by cases h
  | .vr i :: as, .bor _ :: _, _, _, _, h, _, _, _ => by cases h
  | .vr i :: as, .io d :: δc, δ, δ', nd, h, j, s, e => by
    unfold vrs at nd
    obtain ⟨n1, n2⟩ := List.nodup_cons.mp nd
    have go : ∀ s0, (s0 = .own d ∧ (∃ d0, δ[i]? = some (.own d0)) ∨ s0 = .io d ∧ ∃ d0, δ[i]? = some (.io d0)) → backs as δc (δ.set i s0) = some δ' → BackAt (.vr i :: as) (.io d :: δc) δ j s := fun s0 hs0 h => by
      have ih := backs_get n2 h e
      by_cases c : i = j
      · subst c
        rcases ih with ⟨h1, h2⟩ | ⟨k, d', h1, _⟩
        · rcases get_set h2 with ⟨_, rfl, _⟩ | ⟨z, _⟩
          · refine .inr ⟨0, d, rfl, rfl, ?_⟩
            rcases hs0 with ⟨rfl, d0, q⟩ | ⟨rfl, d0, q⟩
            · exact .inl ⟨d0, q, rfl⟩
            · exact .inr ⟨d0, q, rfl⟩
          · exact absurd rfl z
        · exact absurd (vrs_mem.mpr ⟨k, h1⟩) n1
      · rcases ih with ⟨h1, h2⟩ | ⟨k, d', h1, h2, h3⟩
        · rw [List.getElem?_set_ne c] at h2
          refine .inl ⟨fun q => ?_, h2⟩
          unfold vrs at q
          rcases List.mem_cons.mp q with q | q
          · exact c q.symm
          · exact h1 q
        · rw [List.getElem?_set_ne c] at h3
          exact .inr ⟨k + 1, d', by simpa using h1, by simpa using h2, h3⟩
    unfold backs at h
    split at h
    · rename_i d0 q; exact go _ (.inl ⟨rfl, d0, q⟩) h
    · rename_i d0 q; exact go _ (.inr ⟨rfl, d0, q⟩) h
    · cases h
  | .im _ :: as, [], _, _, _, h, _, _, _ => by cases h
  | .im _ :: as, _ :: δc, δ, δ', nd, h, j, s, e => by
    unfold backs at h
    have nd : (vrs as).Nodup := nd
    exact (backs_get (as := as) nd h e).step (fun i q => by cases q)
  | .vb _ :: as, [], _, _, _, h, _, _, _ => by cases h
  | .vb _ :: as, _ :: δc, δ, δ', nd, h, j, s, e => by
    unfold backs at h
    have nd : (vrs as).Nodup := nd
    exact (backs_get (as := as) nd h e).step (fun i q => by cases q)

/-- the lent objects by the argument's place -/
def ioList (as : List Ag) (vs : List V) : List (Nat × Addr) := (List.range as.length).filterMap fun (k : Nat) => match as[k]?, vs[k]? with
  | some (.vr _), some (.ref p) => some (k, p)
  | _, _ => none
theorem ioList_mem {as : List Ag} {vs : List V} {k : Nat} {p : Addr} : (k, p) ∈ ioList as vs ↔ ∃ i, as[k]? = some (.vr i) ∧ vs[k]? = some (.ref p) := by
  unfold ioList
  rw [List.mem_filterMap]
  constructor
  · rintro ⟨m, _, h⟩
    split at h
    · rename_i i q h1 h2
      cases h
      exact ⟨i, h1, h2⟩
    · cases h
  · rintro ⟨i, h1, h2⟩
    refine ⟨k, List.mem_range.mpr (List.getElem?_eq_some_iff.mp h1).1, ?_⟩
    rw [h1, h2]
section
variable {K : PySem.W.Frag} {B : Bs} {G G' H H' : Hp} {δ δ' δc δc' : Env} {σ : St} {as : List Ag} {vs : List V}
theorem ags_get {k : Nat} {a : Ag} (h : AgsOk K G σ vs as) (e : as[k]? = some a) : ∃ v, vs[k]? = some v ∧ AgOk K G σ v a := by
  induction h generalizing k with
  | nil => simp at e
  | cons h t ih =>
    cases k with
    | zero => simp at e; subst e; exact ⟨_, rfl, h⟩
    | succ k => obtain ⟨v, h1, h2⟩ := ih (k := k) (by simpa using e); exact ⟨v, by simpa using h1, h2⟩
theorem ags_len (h : AgsOk K G σ vs as) : vs.length = as.length := Paired.length h
/-- a lent slot -/
theorem vr_own (a : At K B G δ σ H) (hδ : argSls δ as = some δc) {k i : Nat} (e : as[k]? = some (.vr i)) : ∃ p, OwnAt δ σ i p ∧ (∀ j, B.Bo j p = none) ∧ (B.H0 p = none ∨ (i, p) ∈ B.IO) ∧ ∃ d, δc[k]? = some (.io d) ∧ Ow K G H p d ∧ G p = none := by
  obtain ⟨s, h1, h2⟩ := argSls_get' hδ e
  obtain ⟨d, rfl, q | q⟩ := argSl_vr h2
  · obtain ⟨p, q1, q2, q3, q4⟩ := a.own q
    refine ⟨p, ⟨⟨d, .inl q⟩, q1⟩, fun j => ?_, .inl q4, d, h1, q3, q2⟩
    cases z : B.Bo j p with
    | none => rfl
    | some u => exact absurd q4 (a.bod j p (by rw [z]; simp))
  · obtain ⟨p, q1, q2, q3, q4⟩ := a.io q
    exact ⟨p, ⟨⟨d, .inr q⟩, q1⟩, (a.iok i p q4).2.2.1, .inr q4, d, h1, q3, q2⟩
theorem io_slot (a : At K B G δ σ H) (g : AgsOk K G σ vs as) (hδ : argSls δ as = some δc) {k : Nat} {p : Addr} (e : (k, p) ∈ ioList as vs) : ∃ i, as[k]? = some (.vr i) ∧ OwnAt δ σ i p ∧ (∀ j, B.Bo j p = none) ∧ (B.H0 p = none ∨ (i, p) ∈ B.IO) := by
  obtain ⟨i, h1, h2⟩ := ioList_mem.mp e
  obtain ⟨q, h3, h4, h5, d, _⟩ := vr_own a hδ h1
  obtain ⟨v, h6, h7⟩ := ags_get g h1
  have h7 : σ[i]? = some (some v) := h7
  rw [h2] at h6; cases h6
  have := h3.2
  rw [h7] at this; cases this
  exact ⟨i, h1, h3, h4, h5⟩
/-- what a borrowed argument is read by -/
theorem bo_one (a : At K B G δ σ H) (g : AgsOk K G σ vs as) (hδ : argSls δ as = some δc) (nb : ∀ i ∈ vbs as, i ∉ vrs as) (k : Nat) :
    ∃ Bk : Hp, (Vw Bk H ∧ ∀ b ps, Bk b ≠ some (.tbl ps)) ∧ (∀ j p, (j, p) ∈ ioList as vs → Bk p = none) ∧ ∀ d, δc[k]? = some (.bor d) → ∃ v, vs[k]? = some v ∧ R K Bk v d := by
  have ioG : ∀ j p, (j, p) ∈ ioList as vs → G p = none := fun j p e => by
    obtain ⟨i, _, h3, _⟩ := io_slot a g hδ e
    exact (a.ownAt h3).1
  by_cases c : ∃ d, δc[k]? = some (.bor d)
  · obtain ⟨d, hd⟩ := c
    obtain ⟨x, h1, h2⟩ := argSls_get hδ hd
    have key : (∃ v Bk, vs[k]? = some v ∧ (Vw Bk H ∧ ∀ b ps, Bk b ≠ some (.tbl ps)) ∧ (∀ j p, (j, p) ∈ ioList as vs → Bk p = none) ∧ R K Bk v d) → ∃ Bk : Hp, (Vw Bk H ∧ ∀ b ps, Bk b ≠ some (.tbl ps)) ∧ (∀ j p, (j, p) ∈ ioList as vs → Bk p = none) ∧ ∀ d, δc[k]? = some (.bor d) → ∃ v, vs[k]? = some v ∧ R K Bk v d := fun ⟨v, Bk, z1, z2, z3, z4⟩ => ⟨Bk, z2, z3, fun d' e => by rw [hd] at e; cases e; exact ⟨v, z1, z4⟩⟩
    refine key ?_
    cases x with
    | im d' => cases h2
    | vr i => obtain ⟨_, q, _⟩ := argSl_vr h2; cases q
    | vb i =>
      obtain ⟨v, h3, h4⟩ := ags_get g h1
      have h4 : σ[i]? = some (some v) := h4
      have own : ∀ p, v = .ref p → OwnAt δ σ i p → Ow K G H p d → G p = none → ∃ v Bk, vs[k]? = some v ∧ (Vw Bk H ∧ ∀ b ps, Bk b ≠ some (.tbl ps)) ∧ (∀ j p, (j, p) ∈ ioList as vs → Bk p = none) ∧ R K Bk v d := fun p hv ho w gp => by
        obtain ⟨o, b1, bm, b2⟩ := w.obj
        refine ⟨v, upd G p o, h3, ⟨fun b u e => ?_, notbl_upd a.tb.2.2.1 (mut_notbl bm)⟩, fun j q e => ?_, by rw [hv]; exact b2 _ upd_same (Ext.new gp)⟩
        · by_cases z : b = p
          · subst z; rw [upd_same] at e; cases e; exact .inl b1
          · rw [upd_ne z] at e; exact a.vw b u e
        · have z : q ≠ p := fun z => by
            subst z
            obtain ⟨l, y1, y2, _⟩ := io_slot a g hδ e
            have := a.apart i l q ho y2
            subst this
            exact nb i (vbs_mem h1) (vrs_mem.mpr ⟨j, y1⟩)
          rw [upd_ne z]; exact ioG j q e
      obtain ⟨d', q', q⟩ := argSl_vb h2
      cases q'
      rcases q with q | q | q | q
      · obtain ⟨p, q1, q2, q3, _⟩ := a.own q
        have q5 : v = .ref p := by rw [h4] at q1; cases q1; rfl
        exact own p q5 ⟨⟨_, .inl q⟩, q1⟩ q3 q2
      · obtain ⟨p, q1, q2, q3, _⟩ := a.io q
        have q5 : v = .ref p := by rw [h4] at q1; cases q1; rfl
        exact own p q5 ⟨⟨_, .inr q⟩, q1⟩ q3 q2
      · obtain ⟨u, q1, q2⟩ := a.imm q
        rw [h4] at q1; cases q1
        exact ⟨_, G, h3, ⟨a.vw, a.tb.2.2.1⟩, ioG, q2⟩
      · obtain ⟨u, q1, q2⟩ := a.bor q
        rw [h4] at q1; cases q1
        exact ⟨_, B.Bo i, h3, ⟨a.bo i, a.tb.2.2.2.1 i⟩, fun j p e => by
          obtain ⟨l, _, _, y, _⟩ := io_slot a g hδ e
          exact y i, q2⟩
  · exact ⟨fun _ => none, ⟨fun _ _ e => (by cases e), fun _ _ e => (by cases e)⟩, fun _ _ _ => rfl, fun d e => absurd ⟨d, e⟩ c⟩
/-- all but tables -/
def hid (H : Hp) : Hp := fun b => match H b with
  | some (.tbl _) => none
  | o => o
theorem hid_of {b : Addr} {o : HO} (h : hid H b = some o) : H b = some o ∧ ∀ ps, o ≠ .tbl ps := by
  unfold hid at h
  split at h
  · cases h
  · rename_i n
    exact ⟨h, fun ps c => n ps (by rw [h, c])⟩
theorem hid_nt {b : Addr} {o : HO} (h : H b = some o) (n : ∀ ps, o ≠ .tbl ps) : hid H b = some o := by
  unfold hid
  rw [h]
  cases o with
  | tbl ps => exact absurd rfl (n ps)
  | _ => rfl
theorem hid_ne {b : Addr} (h : hid H b ≠ none) : H b ≠ none := fun c => h (by unfold hid; rw [c])
/-- what was there from the start is there, and is no table -/
theorem At.was (a : At K B G δ σ H) {p : Addr} (h : B.H0 p ≠ none) : ∃ o, H p = some o ∧ ∀ ps, o ≠ .tbl ps := by
  cases z : B.H0 p with
  | none => exact absurd z h
  | some o =>
    by_cases io : ∀ i, (i, p) ∉ B.IO
    · exact ⟨o, a.keep p o z io, fun ps c => a.tb.2.1 p ps (by rw [z, c])⟩
    · have ⟨i, io⟩ : ∃ i, (i, p) ∈ B.IO := Classical.byContradiction fun q => io fun i hi => q ⟨i, hi⟩
      obtain ⟨_, _, _, u, z1, z2⟩ := a.iok i p io
      exact ⟨u, z1, mut_notbl z2⟩
theorem At.fresh1 (a : At K B G δ σ H) {p : Addr} (h : ∀ o, H p = some o → ∃ ps, o = .tbl ps) : B.H0 p = none := by
  cases z : B.H0 p with
  | none => rfl
  | some u =>
    obtain ⟨o, q1, q2⟩ := a.was (p := p) (by rw [z]; simp)
    obtain ⟨ps, e⟩ := h o q1
    exact absurd e (q2 ps)
theorem At.noOwn1 (a : At K B G δ σ H) {p : Addr} (h : ∀ o, H p = some o → ∃ ps, o = .tbl ps) : ∀ j, ¬ OwnAt δ σ j p := fun j e => by
  obtain ⟨_, d, w⟩ := a.ownAt e
  obtain ⟨u, b, n⟩ := w.nt
  obtain ⟨ps, e⟩ := h u b
  exact n.tbl ps e
theorem call_enter (a : At K B G δ σ H) (g : AgsOk K G σ vs as) (hδ : argSls δ as = some δc) (nd : (vrs as).Nodup) (nb : ∀ i ∈ vbs as, i ∉ vrs as) :
    ∃ Bc : Bs, Bc.H0 = hid H ∧ Bc.G0 = G ∧ Bc.IO = ioList as vs ∧ At K Bc G δc (vs.map some) H := by
  obtain ⟨Bo, hBo⟩ := Classical.axiomOfChoice (bo_one a g hδ nb)
  refine ⟨⟨hid H, G, Bo, ioList as vs⟩, rfl, rfl, rfl, ⟨a.vw, Ext.refl G, fun _ _ e _ => (hid_of e).1, fun _ e => hid_ne e, fun _ _ _ _ e => e, fun k p e => ?_, fun j => (hBo j).1.1, fun j b e => ?_, ?_, fun k s e => ?_, fun k l p e1 e2 => ?_, ⟨a.tb.1, fun b ps e => (hid_of e).2 ps rfl, a.tb.2.2.1, (fun j => (hBo j).1.2), fun k p xs e z => (by
    obtain ⟨i, h1, h2, h3, h4⟩ := io_slot a g hδ e
    obtain ⟨_, d, w⟩ := a.ownAt h2
    obtain ⟨o, b1, m⟩ := w.nt
    have z2 := (hid_of z).1
    rw [b1] at z2; cases z2; exact m.tup _ rfl)⟩⟩⟩
  · obtain ⟨i, h1, h2, h3, h4⟩ := io_slot a g hδ e
    obtain ⟨g1, d, w⟩ := a.ownAt h2
    obtain ⟨o, b1, m, _⟩ := w.obj
    exact ⟨g1, by show hid H p ≠ none; rw [hid_nt b1 (mut_notbl m)]; simp, fun j => (hBo j).2.1 k p e, o, b1, m⟩
  · cases z : Bo j b with
    | none => exact absurd z e
    | some u =>
      have nu : ∀ ps, u ≠ .tbl ps := fun ps c => (hBo j).1.2 b ps (by rw [z, c])
      show hid H b ≠ none
      rcases (hBo j).1.1 b u z with q | ⟨_, x, q⟩
      · rw [hid_nt q nu]; simp
      · rw [hid_nt q (fun ps c => by cases c)]; simp
  · rw [List.length_map, argSls_len hδ, ags_len g]
  · obtain ⟨x, h1, h2⟩ := argSls_get hδ e
    obtain ⟨v, h3, h4⟩ := ags_get g h1
    refine ⟨some v, by rw [List.getElem?_map, h3]; rfl, ?_⟩
    cases x with
    | im d => cases h2; exact ⟨v, rfl, h4⟩
    | vr i =>
      obtain ⟨p, q1, q2, q3, d, q4, q5, q6⟩ := vr_own a hδ h1
      rw [e] at q4; cases q4
      have h4 : σ[i]? = some (some v) := h4
      have := q1.2
      rw [h4] at this; cases this
      exact ⟨p, rfl, q6, q5, ioList_mem.mpr ⟨i, h1, h3⟩⟩
    | vb i =>
      obtain ⟨d, rfl, _⟩ := argSl_vb h2
      obtain ⟨u, z1, z2⟩ := (hBo k).2.2 d e
      rw [h3] at z1; cases z1
      exact ⟨v, rfl, z2⟩
  · have lent : ∀ k, OwnAt δc (vs.map some) k p → ∃ i, as[k]? = some (.vr i) ∧ OwnAt δ σ i p := fun k z => by
      obtain ⟨⟨d, z1⟩, z2⟩ := z
      have hs : ∃ s, δc[k]? = some s ∧ (s = .own d ∨ s = .io d) := by
        rcases z1 with z1 | z1
        · exact ⟨_, z1, .inl rfl⟩
        · exact ⟨_, z1, .inr rfl⟩
      obtain ⟨s, y1, y2⟩ := hs
      obtain ⟨x, h1, h2⟩ := argSls_get hδ y1
      cases x with
      | im d => cases h2; rcases y2 with y2 | y2 <;> cases y2
      | vb i => obtain ⟨_, rfl, _⟩ := argSl_vb h2; rcases y2 with y2 | y2 <;> cases y2
      | vr i =>
        obtain ⟨q, q1, _⟩ := vr_own a hδ h1
        obtain ⟨v, h3, h4⟩ := ags_get g h1
        have h4 : σ[i]? = some (some v) := h4
        rw [List.getElem?_map, h3] at z2
        have z2 : v = .ref p := Option.some.inj (Option.some.inj z2)
        subst z2
        exact ⟨i, h1, ⟨q1.1, h4⟩⟩
    obtain ⟨i, x1, x2⟩ := lent k e1
    obtain ⟨j, y1, y2⟩ := lent l e2
    have := a.apart i j p x2 y2
    subst this
    exact vrs_inj nd x1 y1
theorem call_leave {Bc : Bs} (a : At K B G δ σ H) (g : AgsOk K G σ vs as) (hδ : argSls δ as = some δc) (nd : (vrs as).Nodup) (e1 : Bc.H0 = hid H) (e2 : Bc.G0 = G) (e3 : Bc.IO = ioList as vs)
    (ac : At K Bc G' δc' (vs.map some) H') (hb : backs as δc' δ = some δ') : At K B G' δ' σ H' := by
  have ex : Ext G G' := by rw [← e2]; exact ac.g0
  have noIO : ∀ p, (∀ j, ¬ OwnAt δ σ j p) → ∀ k, (k, p) ∉ Bc.IO := fun p h k z => by
    rw [e3] at z
    obtain ⟨i, _, h2, _⟩ := io_slot a g hδ z
    exact h i h2
  have kp : ∀ p o, (∀ ps, o ≠ .tbl ps) → H p = some o → (∀ k, (k, p) ∉ Bc.IO) → H' p = some o := fun p o t z n => ac.keep p o (by rw [e1]; exact hid_nt z t) n
  have gNone : ∀ p o, (∀ ps, o ≠ .tbl ps) → H p = some o → (∀ xs, o ≠ .tup xs) → G p = none → G' p = none := fun p o h z t n => ac.leak p o (by rw [e1]; exact hid_nt z h) t (by rw [e2]; exact n)
  have zT : ∀ p o, B.H0 p = some o → ∀ ps, o ≠ .tbl ps := fun p o h ps c => a.tb.2.1 p ps (by rw [h, c])
  have noOf : ∀ p, (B.H0 p ≠ none ∧ ∀ i, (i, p) ∉ B.IO) → ∀ k, (k, p) ∉ Bc.IO := fun p h k z => by
    rw [e3] at z
    obtain ⟨i, _, _, _, h4⟩ := io_slot a g hδ z
    rcases h4 with h4 | h4
    · exact h.1 h4
    · exact h.2 i h4
  refine ⟨ac.vw, a.g0.trans ex, fun p o z n => ?_, fun p z => ?_, fun p o z t n => ?_, fun i p z => ?_, fun j p o z => ?_, a.bod, ?_, fun j s z => ?_, fun i j p z1 z2 => ?_, ⟨ac.tb.1, a.tb.2.1, ac.tb.2.2.1, a.tb.2.2.2⟩⟩
  · exact kp p o (zT p o z) (a.keep p o z n) (noOf p ⟨by rw [z]; simp, n⟩)
  · obtain ⟨o, q1, q2⟩ := a.was z
    exact ac.dom p (by rw [e1, hid_nt q1 q2]; simp)
  · have gp := a.leak p o z t n
    by_cases io : ∀ i, (i, p) ∉ B.IO
    · exact gNone p o (zT p o z) (a.keep p o z io) t gp
    · have ⟨i, io⟩ : ∃ i, (i, p) ∈ B.IO := Classical.byContradiction fun q => io fun i hi => q ⟨i, hi⟩
      obtain ⟨_, _, _, u, z1, z2⟩ := a.iok i p io
      exact gNone p u (mut_notbl z2) z1 (mut_notup z2) gp
  · obtain ⟨a1, a2, a3, u, a4, a5⟩ := a.iok i p z
    refine ⟨a1, a2, a3, ?_⟩
    by_cases io : ∀ k, (k, p) ∉ Bc.IO
    · exact ⟨u, kp p u (mut_notbl a5) a4 io, a5⟩
    · have ⟨k, io⟩ : ∃ i, (i, p) ∈ Bc.IO := Classical.byContradiction fun q => io fun i hi => q ⟨i, hi⟩
      obtain ⟨_, _, _, v, z1, z2⟩ := ac.iok k p io
      exact ⟨v, z1, z2⟩
  · have nio : ∀ k, (k, p) ∉ Bc.IO := fun k y => by
      rw [e3] at y
      obtain ⟨_, _, _, h3, _⟩ := io_slot a g hδ y
      rw [h3 j] at z; cases z
    rcases a.bo j p o z with q | ⟨q1, x, q⟩
    · exact .inl (kp p o (fun ps c => a.tb.2.2.2.1 j p ps (by rw [z, c])) q nio)
    · exact .inr ⟨q1, x, kp p _ (fun ps c => by cases c) q nio⟩
  · rw [backs_len hb]; exact a.len
  · rcases backs_get nd hb z with ⟨h1, h2⟩ | ⟨k, d, h1, h2, h3⟩
    · obtain ⟨ov, q1, q2⟩ := a.sl j s h2
      refine ⟨ov, q1, ?_⟩
      have own : ∀ p, OwnAt δ σ j p → ∀ k, (k, p) ∉ Bc.IO := fun p h k y => by
        rw [e3] at y
        obtain ⟨i, y1, y2, _⟩ := io_slot a g hδ y
        have := a.apart j i p h y2
        subst this
        exact h1 (vrs_mem.mpr ⟨k, y1⟩)
      cases s with
      | no => trivial
      | imm d => obtain ⟨v, r1, r2⟩ := q2; exact ⟨v, r1, r2.mono ex⟩
      | bor d => exact q2
      | own d =>
        obtain ⟨p, r1, r2, r3, r4⟩ := q2
        subst r1
        obtain ⟨o, b1, m, _⟩ := r3.obj
        have hk := kp p o (mut_notbl m) b1 (own p ⟨⟨d, .inl h2⟩, q1⟩)
        exact ⟨p, rfl, gNone p o (mut_notbl m) b1 (mut_notup m) r2, (r3.mono ex).at' (hk.trans b1.symm), r4⟩
      | io d =>
        obtain ⟨p, r1, r2, r3, r4⟩ := q2
        subst r1
        obtain ⟨o, b1, m, _⟩ := r3.obj
        have hk := kp p o (mut_notbl m) b1 (own p ⟨⟨d, .inr h2⟩, q1⟩)
        exact ⟨p, rfl, gNone p o (mut_notbl m) b1 (mut_notup m) r2, (r3.mono ex).at' (hk.trans b1.symm), r4⟩
    · obtain ⟨p, q1, q2, q3, q4⟩ := ac.io h2
      obtain ⟨v, h5, h6⟩ := ags_get g h1
      have h6 : σ[j]? = some (some v) := h6
      rw [List.getElem?_map, h5] at q1
      have q1 : v = .ref p := Option.some.inj (Option.some.inj q1)
      subst q1
      refine ⟨some (.ref p), h6, ?_⟩
      rcases h3 with ⟨d0, y1, rfl⟩ | ⟨d0, y1, rfl⟩
      · obtain ⟨p', r1, _, _, r4⟩ := a.own y1
        rw [h6] at r1; cases r1
        exact ⟨p, rfl, q2, q3, r4⟩
      · obtain ⟨p', r1, _, _, r4⟩ := a.io y1
        rw [h6] at r1; cases r1
        exact ⟨p, rfl, q2, q3, r4⟩
  · have back : ∀ j, OwnAt δ' σ j p → OwnAt δ σ j p := fun j y => by
      obtain ⟨⟨d, y1⟩, y2⟩ := y
      have hs : ∃ s, δ'[j]? = some s ∧ (s = .own d ∨ s = .io d) := by
        rcases y1 with y1 | y1
        · exact ⟨_, y1, .inl rfl⟩
        · exact ⟨_, y1, .inr rfl⟩
      obtain ⟨s, x1, x2⟩ := hs
      rcases backs_get nd hb x1 with ⟨_, h2⟩ | ⟨k, d', _, _, h3⟩
      · rcases x2 with rfl | rfl
        · exact ⟨⟨d, .inl h2⟩, y2⟩
        · exact ⟨⟨d, .inr h2⟩, y2⟩
      · rcases h3 with ⟨d0, y1, _⟩ | ⟨d0, y1, _⟩
        · exact ⟨⟨d0, .inl y1⟩, y2⟩
        · exact ⟨⟨d0, .inr y1⟩, y2⟩
    exact a.apart i j p (back i z1) (back j z2)
end

/-! ### promises -/
/-- the table of the own exceptions: class, field -/
abbrev XT := Str → Option (Addr × Str)
/-- an exception on its way: its class, its own dict's one field -/
def WE (tab : XT) (K : PySem.W.Frag) (E : XK) : WK := fun x _ _ G H => ∀ C f v d, tab x.cls = some (C, f) → R K G v x.val → H d = none → E (.ref C) (some d) (upd H d (.xd [(f, v)]))
def PostF (K : PySem.W.Frag) (W : WK) (B : Bs) (G : Hp) (σ : St) (ro : Bool) (r : Except Exn D) (δ' : Env) (Q : VK) : Prop := match r with
  | .ok d => ∀ G' H', At K B G' δ' σ H' → Ext G G' → if ro = true then ∀ p, Fr1 K B G' δ' σ H' p d → Q (.ref p) H' else ∀ v, R K G' v d → Q v H'
  | .error x => ∀ G' H', At K B G' δ' σ H' → Ext G G' → W x δ' σ G' H'
/-- a def's promise: it does what the mirror m does -/
def spM (Wf : XK → WK) (K : PySem.W.Frag) (n : Nat) (ro : Bool) (m : Mo D) : Sp := fun vs H Q E => vs.length = n ∧ ∃ B G δ r δ', (∀ k p, (k, p) ∈ B.IO → vs[k]? = some (.ref p)) ∧ At K B G δ (vs.map some) H ∧ m δ = some (r, δ') ∧ PostF K (Wf E) B G (vs.map some) ro r δ' Q
/-- the lent slots among the parameters -/
def keepIo : Sl → Sl
  | .io d => .io d
  | _ => .no
def ios : Nat → Env → Env
  | 0, _ => []
  | n + 1, s :: δ => keepIo s :: ios n δ
  | n + 1, [] => .no :: ios n []
theorem ios_len : ∀ (n : Nat) (δ : Env), (ios n δ).length = n
  | 0, _ => rfl
  | n + 1, s :: δ => by unfold ios; rw [List.length_cons, ios_len]
  | n + 1, [] => by unfold ios; rw [List.length_cons, ios_len]
theorem ios_get : ∀ {n : Nat} {δ : Env} {j : Nat} {s : Sl}, (ios n δ)[j]? = some s → s = .no ∨ ∃ d, s = .io d ∧ δ[j]? = some (.io d)
  | 0, _, _, _, e => by simp [ios] at e
  | n + 1, s0 :: δ, 0, s, e => by
    unfold ios at e
    simp at e; subst e
    cases s0 with
    | io d => exact .inr ⟨d, rfl, rfl⟩
    | _ => exact .inl rfl
  | n + 1, s0 :: δ, j + 1, s, e => by
    unfold ios at e
    have := ios_get (n := n) (δ := δ) (j := j) (s := s) (by simpa using e)
    simpa using this
  | n + 1, [], 0, s, e => by unfold ios at e; simp at e; exact .inl e.symm
  | n + 1, [], j + 1, s, e => by
    unfold ios at e
    have := ios_get (n := n) (δ := []) (j := j) (s := s) (by simpa using e)
    rcases this with h | ⟨d, _, h⟩
    · exact .inl h
    · simp at h
/-- a def's mirror by its body's: N names, n parameters -/
def fnM (N n : Nat) (body : Mo Out) : Mo D := fun δ => match body (δ ++ List.replicate (N - n) .no) with
  | some (.ok (.rt d), δ') => some (.ok d, ios n δ')
  | some (.ok (.rtO d), δ') => some (.ok d, ios n δ')
  | some (.ok .nx, δ') => some (.ok .non, ios n δ')
  | some (.error x, δ') => some (.error x, ios n δ')
  | _ => none
def fnO (N n : Nat) (body : Mo Out) : Mo D := fun δ => match body (δ ++ List.replicate (N - n) .no) with
  | some (.ok (.rtO d), δ') => some (.ok d, ios n δ')
  | some (.error x, δ') => some (.error x, ios n δ')
  | _ => none
section
variable {K : PySem.W.Frag} {B : Bs} {G G' H H' : Hp} {δ δ' : Env} {σ σ' : St} {vs : List V} {n N : Nat}
theorem At.start (a : At K B G δ (vs.map some) H) (m : Nat) : At K B G (δ ++ List.replicate m .no) (vs.map some ++ List.replicate m none) H := by
  have hl : δ.length = vs.length := by rw [a.len, List.length_map]
  have back : ∀ {j : Nat} {s : Sl}, (δ ++ List.replicate m .no)[j]? = some s → s = .no ∨ (δ[j]? = some s ∧ (vs.map some ++ List.replicate m none)[j]? = (vs.map some)[j]?) := fun {j s} e => by
    by_cases c : j < δ.length
    · rw [List.getElem?_append_left c] at e
      exact .inr ⟨e, List.getElem?_append_left (by rw [List.length_map]; omega)⟩
    · rw [List.getElem?_append_right (by omega)] at e
      have := List.mem_of_getElem? e
      exact .inl (List.eq_of_mem_replicate this)
  exact a.forget (by rw [List.length_append, List.length_append, List.length_replicate, List.length_replicate, List.length_map, hl]) fun j s e => back e
/-- the frame is left: its lent slots, at the values that were handed in -/
theorem ios_slot (hio : ∀ k p, (k, p) ∈ B.IO → vs[k]? = some (.ref p)) (a : At K B G' δ' σ' H') : ∀ (j : Nat) (s : Sl), (ios n δ')[j]? = some s → s = .no ∨ ∃ d, s = .io d ∧ δ'[j]? = some (.io d) ∧ ∃ p, (vs.map some)[j]? = some (some (.ref p)) ∧ σ'[j]? = some (some (.ref p)) := fun j s e => by
  rcases ios_get e with rfl | ⟨d, rfl, q⟩
  · exact .inl rfl
  · obtain ⟨p, q1, _, _, q4⟩ := a.io q
    exact .inr ⟨d, rfl, q, p, by rw [List.getElem?_map, hio j p q4]; rfl, q1⟩
theorem ios_back (hio : ∀ k p, (k, p) ∈ B.IO → vs[k]? = some (.ref p)) (a : At K B G' δ' σ' H') {j : Nat} {p : Addr} (z : OwnAt (ios n δ') (vs.map some) j p) : OwnAt δ' σ' j p := by
  obtain ⟨⟨d, z1⟩, z2⟩ := z
  have hs : ∃ s, (ios n δ')[j]? = some s ∧ (s = .own d ∨ s = .io d) := by
    rcases z1 with z1 | z1
    · exact ⟨_, z1, .inl rfl⟩
    · exact ⟨_, z1, .inr rfl⟩
  obtain ⟨s, y1, y2⟩ := hs
  rcases ios_slot hio a j s y1 with rfl | ⟨d', rfl, q, p', q1, q2⟩
  · rcases y2 with y2 | y2 <;> cases y2
  · rw [q1] at z2; cases z2
    exact ⟨⟨d', .inr q⟩, q2⟩
theorem At.leave (hn : vs.length = n) (hio : ∀ k p, (k, p) ∈ B.IO → vs[k]? = some (.ref p)) (a : At K B G' δ' σ' H') : At K B G' (ios n δ') (vs.map some) H' := by
  refine ⟨a.vw, a.g0, a.keep, a.dom, a.leak, a.iok, a.bo, a.bod, ?_, fun j s e => ?_, fun i j p e1 e2 => a.apart i j p (ios_back hio a e1) (ios_back hio a e2), a.tb⟩
  · rw [ios_len, List.length_map, hn]
  · rcases ios_slot hio a j s e with rfl | ⟨d, rfl, q, p, q1, q2⟩
    · have := (List.getElem?_eq_some_iff.mp e).1
      rw [ios_len] at this
      have hj : j < (vs.map some).length := by rw [List.length_map]; omega
      exact ⟨_, List.getElem?_eq_getElem hj, trivial⟩
    · obtain ⟨p', r1, r2, r3, r4⟩ := a.io q
      rw [q2] at r1; cases r1
      exact ⟨_, q1, p, rfl, r2, r3, r4⟩
end

/-! ### a call -/
section
variable {X : Cx} {W : WK} {e : Expr} {es : List Expr} {A : Mo (List Ag)} {CX : CXT} {k n : Nat} {f : Addr} {fd : FuncData} {ps : List Str} {ds : List Value} {x : Str} {p pos : Pos} {m : Mo D}
def eCall (m : Mo D) (A : Mo (List Ag)) : Mo D := A.bind fun as => callM m as
/-- default values: data -/
theorem call_ok {K : PySem.W.Frag} {Wf : XK → WK} {E : XK} {B : Bs} {G : Hp} {δ δ' : Env} {σ : St} {H : Hp} {as : List Ag} {vs : List V} {r : Except Exn D} {ro : Bool} {Q : VK} (hW : Wf E = W) (hW2 : ∀ x δ σ δ2 σ2 G H, W x δ σ G H → W x δ2 σ2 G H) (a : At K B G δ σ H) (g : AgsOk K G σ vs as) (h : callM m as δ = some (r, δ'))
    (post : match r with
      | .ok d => ∀ G' H', At K B G' δ' σ H' → Ext G G' → if ro = true then ∀ p, Fr1 K B G' δ' σ H' p d → Q (.ref p) H' else ∀ v, R K G' v d → Q v H'
      | .error x => ∀ G' H', At K B G' δ' σ H' → Ext G G' → W x δ' σ G' H')
    (hn : as.length = n) : spM Wf K n ro m vs H Q E := by
  unfold callM at h
  cases q : argSls δ as with
  | none => rw [q] at h; cases h
  | some δc =>
    rw [q] at h
    simp only [] at h
    split at h
    · rename_i c
      obtain ⟨nd, nb⟩ := c
      cases q2 : m δc with
      | none => rw [q2] at h; cases h
      | some z =>
        obtain ⟨r', δc'⟩ := z
        rw [q2] at h
        simp only [] at h
        cases q3 : backs as δc' δ with
        | none => rw [q3] at h; cases h
        | some δ2 =>
          rw [q3] at h
          cases h
          obtain ⟨Bc, e1, e2, e3, ac⟩ := call_enter a g q nd nb
          refine ⟨by rw [ags_len g]; exact hn, Bc, G, δc, r, δc', fun k p z => by rw [e3] at z; obtain ⟨_, _, y⟩ := ioList_mem.mp z; exact y, ac, q2, ?_⟩
          have lv : ∀ {G' H'}, At K Bc G' δc' (vs.map some) H' → At K B G' δ' σ H' := fun a' => call_leave a g q nd e1 e2 e3 a' q3
          cases r with
          | error y =>
            intro G' H' a' x'
            rw [hW]
            exact hW2 _ _ _ _ _ _ _ (post G' H' (lv a') x')
          | ok d =>
            intro G' H' a' x'
            have pp := post G' H' (lv a') x'
            cases ro with
            | false => rw [if_neg Bool.false_ne_true] at pp ⊢; exact pp
            | true =>
              rw [if_pos rfl] at pp ⊢
              rintro p ⟨w1, w2, w3, w4⟩
              have hp0 : ∀ o, H p = some o → ∃ ps, o = .tbl ps := fun u z => by
                have w2 : Bc.H0 p = none := w2
                rw [e1] at w2
                cases u with
                | tbl ps => exact ⟨ps, rfl⟩
                | _ => rw [hid_nt z (fun ps c => by cases c)] at w2; cases w2
              refine pp p ⟨w1, a.fresh1 hp0, fun j z => ?_, w4⟩
              -- a slot's own object was there ahead of the call
              have : OwnAt δ σ j p := by
                obtain ⟨⟨d', z1⟩, z2⟩ := z
                have hs : ∃ s, δ'[j]? = some s ∧ (s = .own d' ∨ s = .io d') := by
                  rcases z1 with z1 | z1
                  · exact ⟨_, z1, .inl rfl⟩
                  · exact ⟨_, z1, .inr rfl⟩
                obtain ⟨s, y1, y2⟩ := hs
                rcases backs_get nd q3 y1 with ⟨_, h2⟩ | ⟨k, d'', _, _, h3⟩
                · rcases y2 with rfl | rfl
                  · exact ⟨⟨_, .inl h2⟩, z2⟩
                  · exact ⟨⟨_, .inr h2⟩, z2⟩
                · rcases h3 with ⟨d0, y1, _⟩ | ⟨d0, y1, _⟩
                  · exact ⟨⟨d0, .inl y1⟩, z2⟩
                  · exact ⟨⟨d0, .inr y1⟩, z2⟩
              exact a.noOwn1 hp0 j this
    · cases h
theorem callM_len {as : List Ag} {δ : Env} {r : Except Exn D × Env} (h : callM m as δ = some r) : ∃ δc, argSls δ as = some δc := by
  unfold callM at h
  cases q : argSls δ as with
  | none => rw [q] at h; cases h
  | some δc => exact ⟨δc, rfl⟩
/-- the arguments' number -/
def ALen (A : Mo (List Ag)) (n : Nat) : Prop := ∀ δ as δ', A δ = some (.ok as, δ') → as.length = n
theorem alen_nil : ALen aNil 0 := fun δ as δ' h => by cases h; rfl
theorem bind_okD {α β : Type} {m : Mo α} {k : α → Mo β} {δ δ' : Env} {b : β} (h : Mo.bind m k δ = some (.ok b, δ')) : ∃ a δ1, m δ = some (.ok a, δ1) ∧ k a δ1 = some (.ok b, δ') := by
  unfold Mo.bind at h
  cases q : m δ with
  | none => rw [q] at h; cases h
  | some z =>
    obtain ⟨u, δ1⟩ := z
    rw [q] at h
    cases u with
    | error u => cases h
    | ok u => exact ⟨u, δ1, rfl, h⟩
theorem alen_cons {E : Mo D} (h : ALen A n) : ALen (aCons E A) (n + 1) := fun δ as δ' q => by
  obtain ⟨d, δ1, _, q⟩ := bind_okD q
  obtain ⟨ds, δ2, q1, q⟩ := bind_okD q
  cases q
  rw [List.length_cons, h _ _ _ q1]
theorem alen_vr {i : Nat} (h : ALen A n) : ALen (aVr i A) (n + 1) := fun δ as δ' q => by
  unfold aVr at q
  split at q
  · obtain ⟨ds, δ2, q1, q⟩ := bind_okD q
    cases q
    rw [List.length_cons, h _ _ _ q1]
  · obtain ⟨ds, δ2, q1, q⟩ := bind_okD q
    cases q
    rw [List.length_cons, h _ _ _ q1]
  · cases q
theorem alen_vb {i : Nat} (h : ALen A n) : ALen (aVb i A) (n + 1) := fun δ as δ' q => by
  unfold aVb at q
  split at q
  all_goals first
    | cases q; done
    | (obtain ⟨ds, δ2, q1, q⟩ := bind_okD q
       cases q
       rw [List.length_cons, h _ _ _ q1])
theorem tA_bind' {K : PySem.W.Frag} {B : Bs} {G H : Hp} {δ δ' : Env} {σ : St} {β : Type} {r : Except Exn β} {ok : β → Hp → Hp → Prop} {kk : List Ag → Mo β} {Q : List V → Hp → Prop} (a : At K B G δ σ H) (h : Mo.bind A kk δ = some (r, δ')) (post : Post K W B G σ r δ' ok)
    (q : ∀ vs H1 G1 δ1 d, A δ = some (.ok d, δ1) → At K B G1 δ1 σ H1 → Ext G G1 → AgsOk K G1 σ vs d → kk d δ1 = some (r, δ') → Post K W B G1 σ r δ' ok → Q vs H1) : tA K W A σ H Q := by
  unfold Mo.bind at h
  cases e : A δ with
  | none => rw [e] at h; cases h
  | some z =>
    obtain ⟨x, δ1⟩ := z
    rw [e] at h
    cases x with
    | error x => cases h; exact ⟨B, G, δ, .error x, _, a, e, post⟩
    | ok d => exact ⟨B, G, δ, .ok d, δ1, a, e, fun G1 H1 a1 e1 v rv => q v H1 G1 δ1 d e a1 e1 rv h (post.mono e1)⟩
theorem tCall_ok {K : PySem.W.Frag} {Wf : XK → WK} {E : XK} (hW : Wf E = W) (hW2 : ∀ x δ σ δ2 σ2 G H, W x δ σ G H → W x δ2 σ2 G H) (hl : ALen A n) {σ : St} {H : Hp} {Q : VK} (q : tE K W (eCall m A) σ H Q) : tCall (spM Wf K n false m) [] E (tA K W A) σ H Q := by
  obtain ⟨B, G, δ, r, δ', a, e1, post⟩ := q
  refine tA_bind' a e1 post fun vs H1 G1 δ1 as ea a1 x1 r1 e2 post => ?_
  show spM Wf K n false m (vs ++ []) H1 Q E
  rw [List.append_nil]
  refine call_ok hW hW2 a1 r1 e2 ?_ (hl _ _ _ ea)
  cases r with
  | ok d => exact fun G' H' a' x' => by rw [if_neg Bool.false_ne_true]; exact fun v rv => post G' H' a' x' v rv
  | error x => exact fun G' H' a' x' => post G' σ H' a' x'
theorem tCallO_ok {K : PySem.W.Frag} {Wf : XK → WK} {E : XK} (hW : Wf E = W) (hW2 : ∀ x δ σ δ2 σ2 G H, W x δ σ G H → W x δ2 σ2 G H) (hl : ALen A n) {σ : St} {H : Hp} {Q : VK} (q : tO K W (eCall m A) σ H Q) : tCall (spM Wf K n true m) [] E (tA K W A) σ H Q := by
  obtain ⟨B, G, δ, r, δ', a, e1, post⟩ := q
  refine tA_bind' a e1 post fun vs H1 G1 δ1 as ea a1 x1 r1 e2 post => ?_
  show spM Wf K n true m (vs ++ []) H1 Q E
  rw [List.append_nil]
  refine call_ok hW hW2 a1 r1 e2 ?_ (hl _ _ _ ea)
  cases r with
  | ok d => exact fun G' H' a' x' => by rw [if_pos rfl]; exact fun v rv => post G' H' a' x' v rv
  | error x => exact fun G' H' a' x' => post G' σ H' a' x'
/-- no exception: the promise's fourth letter does not matter -/
def Wn : XK → WK := fun _ => W0
theorem de_call (F : FnOk X.prog X.w X.K X.mg X.base CX0 k f fd ps (spM Wn X.K n false m)) (hr : Room k X.A) (hg : Gl X x) (hm : X.mg x = some (.ref f)) (hk : PySem.W.keepIn X.K (.ref f) = true) (hb : Binds X.K fd ps []) (hl : ALen A n)
    (ha : DA X W0 (e :: es) A) (hdb : (x == ("__debug__" : Str)) = false := by decide) (he : starEach (e :: es) X.env = (false, eval e X.env) :: starEach es X.env := by rfl) (hpl : (backTo pos (starEach es X.env)).any (·.1) = false := by rfl) :
    DE X W0 (.Call (.Name x p) (e :: es) [] pos) (eCall m A) := PE.weak (pe_call (E := E0) F hr hg hm hk hb .nil pass0 ha hdb he hpl) fun σ H Q q => tCall_ok rfl (fun _ _ _ _ _ _ _ h => h) hl q
theorem do_call (F : FnOk X.prog X.w X.K X.mg X.base CX0 k f fd ps (spM Wn X.K n true m)) (hr : Room k X.A) (hg : Gl X x) (hm : X.mg x = some (.ref f)) (hk : PySem.W.keepIn X.K (.ref f) = true) (hb : Binds X.K fd ps []) (hl : ALen A n)
    (ha : DA X W0 (e :: es) A) (hdb : (x == ("__debug__" : Str)) = false := by decide) (he : starEach (e :: es) X.env = (false, eval e X.env) :: starEach es X.env := by rfl) (hpl : (backTo pos (starEach es X.env)).any (·.1) = false := by rfl) :
    DO X W0 (.Call (.Name x p) (e :: es) [] pos) (eCall m A) := PE.weak (pe_call (E := E0) F hr hg hm hk hb .nil pass0 ha hdb he hpl) fun σ H Q q => tCallO_ok rfl (fun _ _ _ _ _ _ _ h => h) hl q
end
/-! ### a def's body -/
theorem fn_len {Wf : XK → WK} {K : PySem.W.Frag} {n : Nat} {ro : Bool} {m : Mo D} {ps : List Str} (hn : ps.length = n) : ∀ vs H Q E, spM Wf K n ro m vs H Q E → vs.length = ps.length := fun _ _ _ _ h => h.1.trans hn.symm
theorem body_ok {Wf : XK → WK} {K : PySem.W.Frag} {n : Nat} {N : List Str} {body : Mo Out} {vs : List V} {H : Hp} {Q : VK} {E : XK} (hW2 : ∀ x δ σ δ2 σ2 G H, Wf E x δ σ G H → Wf E x δ2 σ2 G H) (h : spM Wf K n false (fnM N.length n body) vs H Q E) :
    tS K (Wf E) body { nx := fun _ H' => Q .non H', rt := Q } (L2.start N vs) H := by
  obtain ⟨hl, B, G, δ, r, δ', hio, a, hm, post⟩ := h
  unfold fnM at hm
  have a1 := a.start (N.length - n)
  have hs : L2.start N vs = vs.map some ++ List.replicate (N.length - n) none := by unfold L2.start; rw [hl]
  rw [hs]
  cases q : body (δ ++ List.replicate (N.length - n) .no) with
  | none => simp only [q] at hm; cases hm
  | some z =>
    obtain ⟨u, δ0⟩ := z
    simp only [q] at hm
    refine ⟨B, G, _, u, δ0, a1, q, ?_⟩
    cases u with
    | error x =>
      cases hm
      exact fun G' σ' H' a' x' => hW2 _ _ _ _ _ _ _ (post G' H' (a'.leave hl hio) x')
    | ok o =>
      cases o with
      | nx =>
        cases hm
        exact fun G' σ' H' a' x' => by
          have p := post G' H' (a'.leave hl hio) x'
          rw [if_neg Bool.false_ne_true] at p
          exact p _ .non
      | bk => cases hm
      | ct => cases hm
      | rt d =>
        cases hm
        exact fun G' σ' H' a' x' v rv => by
          have p := post G' H' (a'.leave hl hio) x'
          rw [if_neg Bool.false_ne_true] at p
          exact p v rv
      | rtO d =>
        cases hm
        refine fun G' σ' H' a' x' p hp => ?_
        obtain ⟨h1, h2, h3, h4⟩ := hp
        obtain ⟨ob, q1, qm, q2⟩ := h4.obj
        have pp := post (upd G' p ob) H' ((a'.fix q1 h1 h2 h3 (mut_notbl qm)).leave hl hio) (x'.trans (Ext.new h1))
        rw [if_neg Bool.false_ne_true] at pp
        exact pp _ (q2 _ upd_same (Ext.new h1))
theorem body_okO {Wf : XK → WK} {K : PySem.W.Frag} {n : Nat} {N : List Str} {body : Mo Out} {vs : List V} {H : Hp} {Q : VK} {E : XK} (hW2 : ∀ x δ σ δ2 σ2 G H, Wf E x δ σ G H → Wf E x δ2 σ2 G H) (h : spM Wf K n true (fnO N.length n body) vs H Q E) :
    tS K (Wf E) body { nx := fun _ H' => Q .non H', rt := Q } (L2.start N vs) H := by
  obtain ⟨hl, B, G, δ, r, δ', hio, a, hm, post⟩ := h
  unfold fnO at hm
  have a1 := a.start (N.length - n)
  have hs : L2.start N vs = vs.map some ++ List.replicate (N.length - n) none := by unfold L2.start; rw [hl]
  rw [hs]
  cases q : body (δ ++ List.replicate (N.length - n) .no) with
  | none => simp only [q] at hm; cases hm
  | some z =>
    obtain ⟨u, δ0⟩ := z
    simp only [q] at hm
    refine ⟨B, G, _, u, δ0, a1, q, ?_⟩
    cases u with
    | error x =>
      cases hm
      exact fun G' σ' H' a' x' => hW2 _ _ _ _ _ _ _ (post G' H' (a'.leave hl hio) x')
    | ok o =>
      cases o with
      | nx => cases hm
      | bk => cases hm
      | ct => cases hm
      | rt d => cases hm
      | rtO d =>
        cases hm
        refine fun G' σ' H' a' x' p hp => ?_
        have pp := post G' H' (a'.leave hl hio) x'
        rw [if_pos rfl] at pp
        exact pp p ⟨hp.1, hp.2.1, fun j z => hp.2.2.1 j (ios_back hio a' z), hp.2.2.2⟩
section
variable {P : Program} {w : World} {K : PySem.W.Frag} {mg : Str → Option Value} {base : Heap} {x qual : Str} {st : Stmt} {f : Addr} {fd : FuncData} {N ps : List Str} {k n : Nat} {body : Mo Out}
theorem fn_ok (F : Fun K x qual st f fd) (S : FnScope N ps (defScope st)) (hn : ps.length = n)
    (hb : ∀ (cdv : Value) (A : Around) (outer : List PySem.Env) (s : Shared) (H : Hp) (E : XK), Room k (A.deeper (envOfC qual (defScope st) s.heap.objs.size f cdv)) → DSs (cxOf CX0 P w K mg base N qual (defScope st) f cdv A outer s H E).nox W0 (defBody st) body) :
    FnOk P w K mg base CX0 (k + 1) f fd ps (spM Wn K n false (fnM N.length n body)) :=
  F.ok S (fn_len hn) fun cdv A outer s H vs Q E hr h => ⟨tS K W0 body, hb cdv A outer s H E hr, body_ok (E := E) (fun _ _ _ _ _ _ _ h => h) h⟩
theorem fn_okO (F : Fun K x qual st f fd) (S : FnScope N ps (defScope st)) (hn : ps.length = n)
    (hb : ∀ (cdv : Value) (A : Around) (outer : List PySem.Env) (s : Shared) (H : Hp) (E : XK), Room k (A.deeper (envOfC qual (defScope st) s.heap.objs.size f cdv)) → DSs (cxOf CX0 P w K mg base N qual (defScope st) f cdv A outer s H E).nox W0 (defBody st) body) :
    FnOk P w K mg base CX0 (k + 1) f fd ps (spM Wn K n true (fnO N.length n body)) :=
  F.ok S (fn_len hn) fun cdv A outer s H vs Q E hr h => ⟨tS K W0 body, hb cdv A outer s H E hr, body_okO (E := E) (fun _ _ _ _ _ _ _ h => h) h⟩
/-- the law: from the script to True -/
theorem sql_hid {H : Hp} {a : Addr} {xs : List V} (h : SqL K H a xs) : SqL K (hid H) a xs := by
  rcases h with (h | ⟨o, h⟩) | h
  · exact .inl (.inl (hid_nt h fun _ e => by cases e))
  · exact .inl (.inr ⟨o, hid_nt h fun _ e => by cases e⟩)
  · exact .inr h
theorem law_sp {m : Mo D} {H : Hp} {a : Addr} {ns : List Int} (tbs : ∀ P, tabOf K = some P → LamX.TabS H P tabQ) (hS : SqL K H a (ns.map V.int)) (hl : ns.length ≤ 63) (h : m [.imm (.scr (ns.map D.int))] = some (.ok (.bl true), [.no])) : spM Wn K 1 false m [.ref a] H (fun v _ => v = .bl true) fun _ _ _ => False := by
  have hS2 := sql_hid hS
  refine ⟨rfl, ⟨hid H, hid H, fun _ _ => none, []⟩, hid H, [.imm (.scr (ns.map D.int))], .ok (.bl true), [.no], (fun k p z => by cases z), ⟨fun b o e => .inl (hid_of e).1, Ext.refl _, fun _ _ e _ => (hid_of e).1, fun _ e => hid_ne e, fun _ _ _ _ e => e, fun _ _ e => (by cases e), fun _ _ _ e => (by cases e), fun _ _ e => absurd rfl e, rfl, fun i s e => ?_, fun i j p e1 _ => ?_, ⟨tbs, fun b ps e => (hid_of e).2 ps rfl, fun b ps e => (hid_of e).2 ps rfl, (fun _ _ _ e => (by cases e)), fun _ _ _ e => (by cases e)⟩⟩, h, fun G' H' a' x' => ?_⟩
  · cases i with
    | zero =>
      simp at e; subst e
      refine ⟨some (.ref a), rfl, .ref a, rfl, .scr hS2 ?_ ?_⟩
      · rw [List.length_map]; exact Nat.le_trans hl (by decide)
      · clear hS2 hS h hl
        induction ns with
        | nil => exact .nil
        | cons n ns ih => exact .cons (.int n) ih
    | succ i => simp at e
  · obtain ⟨⟨d, e | e⟩, _⟩ := e1
    · cases i with
      | zero => simp at e
      | succ i => simp at e
    · cases i with
      | zero => simp at e
      | succ i => simp at e
  · rw [if_neg Bool.false_ne_true]
    intro v rv
    cases rv
    rfl
end
end M

set_option Elab.async false
set_option linter.all false
set_option maxRecDepth 100000
/-! Part E: dicts as data; comprehensions. -/
namespace M
open PySem L2 PySem.Spec PyProof.Rows

/-! ### tables -/
section
variable {κ α : Type} [DecidableEq κ]
def lookA (l : List (κ × α)) (k : κ) : Option α := (l.find? fun kv => decide (kv.1 = k)).map (·.2)
def putA (l : List (κ × α)) (k : κ) (v : α) : List (κ × α) := if (l.any fun kv => decide (kv.1 = k)) = true then l.map (fun kv => if kv.1 = k then (kv.1, v) else kv) else l ++ [(k, v)]
def dropA (l : List (κ × α)) (k : κ) : List (κ × α) := l.filter fun kv => decide (kv.1 ≠ k)
variable {K : PySem.W.Frag} {G G' : Hp}
abbrev KVP (K : PySem.W.Frag) (G : Hp) : List (κ × V) → List (κ × D) → Prop := Paired fun p q => p.1 = q.1 ∧ R K G p.2 q.2
theorem kvp_of : ∀ {kvs : List (κ × V)} {ds : List (κ × D)}, kvs.map (·.1) = ds.map (·.1) → RL K G (kvs.map (·.2)) (ds.map (·.2)) → KVP K G kvs ds
  | [], [], _, _ => .nil
  | [], _ :: _, h, _ => by cases h
  | _ :: _, [], h, _ => by cases h
  | p :: kvs, q :: ds, h, r => by
    cases r with
    | cons r0 r1 =>
      have h1 : p.1 = q.1 := (List.cons.inj h).1
      exact .cons ⟨h1, r0⟩ (kvp_of (List.cons.inj h).2 r1)
theorem kvp_keys {kvs : List (κ × V)} {ds : List (κ × D)} (h : KVP K G kvs ds) : kvs.map (·.1) = ds.map (·.1) := by
  induction h with
  | nil => rfl
  | cons h _ ih => rw [List.map_cons, List.map_cons, h.1, ih]
theorem kvp_vals {kvs : List (κ × V)} {ds : List (κ × D)} (h : KVP K G kvs ds) : RL K G (kvs.map (·.2)) (ds.map (·.2)) := by
  induction h with
  | nil => exact .nil
  | cons h _ ih => exact .cons h.2 ih
theorem kvp_any {kvs : List (κ × V)} {ds : List (κ × D)} (h : KVP K G kvs ds) (k : κ) : (kvs.any fun kv => decide (kv.1 = k)) = (ds.any fun kv => decide (kv.1 = k)) := by
  induction h with
  | nil => rfl
  | cons h _ ih => rw [List.any_cons, List.any_cons, h.1, ih]
theorem kvp_look {kvs : List (κ × V)} {ds : List (κ × D)} (h : KVP K G kvs ds) (k : κ) : (∃ v d, valV kvs k = some v ∧ lookA ds k = some d ∧ R K G v d) ∨ (valV kvs k = none ∧ lookA ds k = none) := by
  induction h with
  | nil => exact .inr ⟨rfl, rfl⟩
  | cons h t ih =>
    rename_i p q kvs ds
    unfold valV lookA at ih ⊢
    rw [List.find?_cons, List.find?_cons, h.1]
    by_cases c : q.1 = k
    · rw [decide_eq_true c]
      exact .inl ⟨_, _, rfl, rfl, h.2⟩
    · rw [decide_eq_false c]
      exact ih
theorem kvp_map {f : κ × V → κ × V} {g : κ × D → κ × D} {kvs : List (κ × V)} {ds : List (κ × D)} (h : KVP K G kvs ds) (hf : ∀ p q, p.1 = q.1 → R K G p.2 q.2 → (f p).1 = (g q).1 ∧ R K G (f p).2 (g q).2) : KVP K G (kvs.map f) (ds.map g) := by
  induction h with
  | nil => exact .nil
  | cons h _ ih => exact .cons (hf _ _ h.1 h.2) ih
theorem kvp_append {kvs kvs' : List (κ × V)} {ds ds' : List (κ × D)} (h : KVP K G kvs ds) (h' : KVP K G kvs' ds') : KVP K G (kvs ++ kvs') (ds ++ ds') := by
  induction h with
  | nil => exact h'
  | cons h _ ih => exact .cons h ih
theorem kvp_put {kvs : List (κ × V)} {ds : List (κ × D)} (h : KVP K G kvs ds) (k : κ) {v : V} {d : D} (r : R K G v d) : KVP K G (putK kvs k v) (putA ds k d) := by
  unfold putK putA
  rw [kvp_any h k]
  split
  · refine kvp_map h fun p q e r' => ?_
    rw [e]
    split
    · exact ⟨rfl, r⟩
    · exact ⟨e, r'⟩
  · exact kvp_append h (.cons ⟨rfl, r⟩ .nil)
theorem kvp_drop {kvs : List (κ × V)} {ds : List (κ × D)} (h : KVP K G kvs ds) (k : κ) : KVP K G (dropK kvs k) (dropA ds k) := by
  unfold dropK dropA
  induction h with
  | nil => exact .nil
  | cons h _ ih =>
    rw [List.filter_cons, List.filter_cons, h.1]
    split
    · exact .cons h ih
    · exact ih
theorem putA_len (l : List (κ × α)) (k : κ) (v : α) : (putA l k v).length ≤ l.length + 1 := by
  unfold putA
  split
  · rw [List.length_map]; omega
  · rw [List.length_append]; exact Nat.le_refl _
theorem dropA_len (l : List (κ × α)) (k : κ) : (dropA l k).length ≤ l.length := List.length_filter_le _ _
end
def keyK : D → Option Key
  | .int i => some (.inl i)
  | .str s => some (.inr s)
  | _ => none
def keysK : List D → Option (List Key)
  | [] => some []
  | d :: ds => match keyK d with
    | none => none
    | some k => match keysK ds with
      | none => none
      | some ks => some (k :: ks)
section
variable {K : PySem.W.Frag} {G G' H : Hp}
theorem keyK_ok {v : V} {d : D} {k : Key} (r : R K G v d) (h : keyK d = some k) : v = kV k := by
  cases r <;> cases h <;> rfl
theorem keysK_ok : ∀ {vs : List V} {ds : List D} {k : List Key}, RL K G vs ds → keysK ds = some k → vs = k.map kV
  | _, _, _, .nil, h => by cases h; rfl
  | _, d :: ds, _, .cons r t, h => by
    unfold keysK at h
    cases q : keyK d with
    | none => rw [q] at h; cases h
    | some k =>
      rw [q] at h
      simp only [] at h
      cases q2 : keysK ds with
      | none => rw [q2] at h; cases h
      | some ks => rw [q2] at h; cases h; rw [keyK_ok r q, keysK_ok t q2, List.map_cons]
/-- a key as data -/
def kD : Key → D
  | .inl i => .int i
  | .inr s => .str s
theorem kD_ok (k : Key) : R K G (kV k) (kD k) := by cases k <;> constructor
theorem kDs_ok : ∀ ks : List Key, RL K G (ks.map kV) (ks.map kD)
  | [] => .nil
  | k :: ks => .cons (kD_ok k) (kDs_ok ks)
end
/-- what a dict holds at a key; the key no key: none -/
def dGet : D → D → Option (Option D)
  | .dK l, k => (keyK k).map fun k => lookA l k
  | .dT l, .tup ks => (keysK ks).map fun k => lookA l k
  | _, _ => none
def dPut : D → D → D → Option D
  | .dK l, k, v => (keyK k).bind fun k => if l.length < sizeLine then some (.dK (putA l k v)) else none
  | .dT l, .tup ks, v => (keysK ks).bind fun k => if l.length < sizeLine then some (.dT (putA l k v)) else none
  | _, _, _ => none
section
variable {K : PySem.W.Frag} {B : Bs} {G H : Hp} {δ : Env} {σ : St}
/-- a look-up by rule DGet -/
theorem dGet_ok {x y : V} {d k : D} {o : Option D} (vw : Vw G H) (rx : R K G x d) (ry : R K G y k) (h : dGet d k = some o) : ∃ a o', x = .ref a ∧ DGet H a y o' ∧ ((∃ v d, o' = some v ∧ o = some d ∧ R K G v d) ∨ (o' = none ∧ o = none)) := by
  cases rx with
  | dK g l hk r =>
    rename_i a kvs ds
    have h : (keyK k).map (fun k => lookA ds k) = some o := h
    cases q : keyK k with
    | none => rw [q] at h; cases h
    | some kk =>
      rw [q] at h; cases h
      refine ⟨a, valV kvs kk, rfl, .inl ⟨kvs, kk, vw.rd g, keyK_ok ry q, rfl⟩, ?_⟩
      rcases kvp_look (kvp_of hk r) kk with ⟨v, d, h1, h2, h3⟩ | ⟨h1, h2⟩
      · exact .inl ⟨v, d, h1, h2, h3⟩
      · exact .inr ⟨h1, h2⟩
  | dT g l hk r =>
    rename_i a kvs ds
    cases ry with
    | tup g2 l2 r2 =>
      rename_i b xs ks
      have h : (keysK ks).map (fun k => lookA ds k) = some o := h
      cases q : keysK ks with
      | none => rw [q] at h; cases h
      | some kk =>
        rw [q] at h; cases h
        have hx := keysK_ok r2 q
        subst hx
        refine ⟨a, valV kvs kk, rfl, .inr ⟨kvs, kk, b, vw.rd g, rfl, vw.tup g2, rfl⟩, ?_⟩
        rcases kvp_look (kvp_of hk r) kk with ⟨v, d, h1, h2, h3⟩ | ⟨h1, h2⟩
        · exact .inl ⟨v, d, h1, h2, h3⟩
        · exact .inr ⟨h1, h2⟩
    | _ => cases h
  | _ => cases h
/-- the own object p is stored into -/
theorem dPut_ok {p : Addr} {y v : V} {d k e d' : D} (vw : Vw G H) (w : Ow K G H p d) (ry : R K G y k) (rv : R K G v e) (h : dPut d k e = some d') : ∃ o, DPut H p y v (upd H p o) ∧ Mut (some o) ∧ Ow K G (upd H p o) p d' := by
  cases w with
  | lst => cases h
  | dK hp l hk r =>
    rename_i kvs ds
    have h : ((keyK k).bind fun k => if ds.length < sizeLine then some (D.dK (putA ds k e)) else none) = some d' := h
    cases q : keyK k with
    | none => rw [q] at h; cases h
    | some kk =>
      rw [q, Option.bind_some] at h
      split at h
      · rename_i hl
        cases h
        have kp := kvp_put (kvp_of hk r) kk rv
        have hlen := congrArg List.length hk
        rw [List.length_map, List.length_map] at hlen
        have := length_putK kvs kk v
        exact ⟨.dK (putK kvs kk v), .inl ⟨kvs, kk, hp, keyK_ok ry q, by omega, rfl⟩, trivial, .dK upd_same (by omega) (kvp_keys kp) (kvp_vals kp)⟩
      · cases h
  | dT hp l hk r =>
    rename_i kvs ds
    cases ry with
    | tup g2 l2 r2 =>
      rename_i b xs ks
      have h : ((keysK ks).bind fun k => if ds.length < sizeLine then some (D.dT (putA ds k e)) else none) = some d' := h
      cases q : keysK ks with
      | none => rw [q] at h; cases h
      | some kk =>
        rw [q, Option.bind_some] at h
        split at h
        · rename_i hl
          cases h
          have hx := keysK_ok r2 q
          subst hx
          have kp := kvp_put (kvp_of hk r) kk rv
          have hlen := congrArg List.length hk
          rw [List.length_map, List.length_map] at hlen
          have := length_putK kvs kk v
          exact ⟨.dT (putK kvs kk v), .inr ⟨kvs, kk, b, hp, rfl, vw.tup g2, by omega, rfl⟩, trivial, .dT upd_same (by omega) (kvp_keys kp) (kvp_vals kp)⟩
        · cases h
    | _ => cases h
end

/-! ### an object under construction stands beside -/
def Bs.add (B : Bs) (D : Addr) (o : HO) : Bs := { B with H0 := upd B.H0 D o }
def Out1 (B : Bs) (D : Addr) : Prop := B.H0 D = none ∧ B.G0 D = none ∧ (∀ j, B.Bo j D = none) ∧ ∀ i, (i, D) ∉ B.IO
section
variable {K : PySem.W.Frag} {B : Bs} {G G' H H' : Hp} {δ δ' : Env} {σ σ' : St} {D1 : Addr} {o o' : HO}
theorem At.out1 (a : At K B G δ σ H) (h0 : B.H0 D1 = none) (g : G D1 = none) : Out1 B D1 := by
  refine ⟨h0, ?_, fun j => ?_, fun i e => (a.iok i D1 e).2.1 h0⟩
  · cases z : B.G0 D1 with
    | none => rfl
    | some u => rw [a.g0 D1 u z] at g; cases g
  · cases z : B.Bo j D1 with
    | none => rfl
    | some u => exact absurd h0 (a.bod j D1 (by rw [z]; simp))
theorem At.add (a : At K B G δ σ H) (nt : NT o) (h : H D1 = some o) (g : G D1 = none) (no : ∀ j, ¬ OwnAt δ σ j D1) : At K (B.add D1 o) G δ σ H := by
  refine ⟨a.vw, a.g0, fun b u e z => ?_, fun b e => ?_, fun b u e t z => ?_, fun i b e => ?_, a.bo, fun j b e => ?_, a.len, fun i s e => ?_, a.apart, ⟨a.tb.1, notbl_upd a.tb.2.1 nt.tbl, a.tb.2.2.1, a.tb.2.2.2.1, fun i b xs e z => (by
    have z : upd B.H0 D1 o b = some (.tup xs) := z
    by_cases c : b = D1
    · rw [c, upd_same] at z; cases z; exact nt.tup _ rfl
    · rw [upd_ne c] at z; exact a.tb.2.2.2.2 i b xs e z)⟩⟩
  · by_cases c : b = D1
    · subst c; have e : upd B.H0 b o b = some u := e; rw [upd_same] at e; cases e; exact h
    · have e : upd B.H0 D1 o b = some u := e; rw [upd_ne c] at e; exact a.keep b u e z
  · by_cases c : b = D1
    · rw [c, h]; simp
    · have e : upd B.H0 D1 o b ≠ none := e; rw [upd_ne c] at e; exact a.dom b e
  · by_cases c : b = D1
    · rw [c]; exact g
    · have e : upd B.H0 D1 o b = some u := e; rw [upd_ne c] at e; exact a.leak b u e t z
  · obtain ⟨a1, a2, a3, a4⟩ := a.iok i b e
    refine ⟨a1, ?_, a3, a4⟩
    show upd B.H0 D1 o b ≠ none
    by_cases c : b = D1
    · rw [c, upd_same]; simp
    · rw [upd_ne c]; exact a2
  · show upd B.H0 D1 o b ≠ none
    by_cases c : b = D1
    · rw [c, upd_same]; simp
    · rw [upd_ne c]; exact a.bod j b e
  · obtain ⟨ov, h1, h2⟩ := a.sl i s e
    refine ⟨ov, h1, ?_⟩
    cases s with
    | own d =>
      obtain ⟨p, q1, q2, q3, q4⟩ := h2
      subst q1
      have c : p ≠ D1 := fun c => by subst c; exact no i ⟨⟨d, .inl e⟩, h1⟩
      exact ⟨p, rfl, q2, q3, by show upd B.H0 D1 o p = none; rw [upd_ne c]; exact q4⟩
    | _ => exact h2
theorem At.drop (a : At K (B.add D1 o) G δ σ H) (b : Out1 B D1) (t : NT o) : H D1 = some o ∧ G D1 = none ∧ (∀ j, ¬ OwnAt δ σ j D1) ∧ ∀ o', At K B G δ σ (upd H D1 o') := by
  obtain ⟨b1, b2, b3, b4⟩ := b
  have hD : H D1 = some o := a.keep D1 o upd_same b4
  have gD : G D1 = none := a.leak D1 o upd_same t.tup b2
  have no : ∀ j, ¬ OwnAt δ σ j D1 := fun j z => by
    obtain ⟨⟨d, e | e⟩, z2⟩ := z
    · obtain ⟨p, q1, _, _, q4⟩ := a.own e
      rw [q1] at z2; cases z2
      have q4 : upd B.H0 D1 o D1 = none := q4
      rw [upd_same] at q4; cases q4
    · obtain ⟨p, q1, _, _, q4⟩ := a.io e
      rw [q1] at z2; cases z2
      exact b4 j q4
  refine ⟨hD, gD, no, fun o' => ⟨fun c u e => ?_, a.g0, fun c u e z => ?_, fun c e => ?_, fun c u e t z => ?_, fun i c e => ?_, fun j c u e => ?_, fun j c e => ?_, a.len, fun i s e => ?_, a.apart, ⟨fun P hP => tabS_upd (a.tb.1 P hP) hD t, fun b ps e => (by
    by_cases n : b = D1
    · rw [n, b1] at e; cases e
    · exact a.tb.2.1 b ps (by show upd B.H0 D1 o b = _; rw [upd_ne n]; exact e)), a.tb.2.2.1, a.tb.2.2.2.1, fun i b xs e z => (by
    by_cases n : b = D1
    · rw [n, b1] at z; cases z
    · exact a.tb.2.2.2.2 i b xs e (by show upd B.H0 D1 o b = _; rw [upd_ne n]; exact z))⟩⟩⟩
  · rw [upd_ne (fun q => by rw [q, gD] at e; cases e)]; exact a.vw c u e
  · have n : c ≠ D1 := fun q => by rw [q, b1] at e; cases e
    rw [upd_ne n]; exact a.keep c u (by show upd B.H0 D1 o c = some u; rw [upd_ne n]; exact e) z
  · by_cases n : c = D1
    · rw [n, upd_same]; simp
    · rw [upd_ne n]; exact a.dom c (by show upd B.H0 D1 o c ≠ none; rw [upd_ne n]; exact e)
  · have n : c ≠ D1 := fun q => by rw [q, b1] at e; cases e
    exact a.leak c u (by show upd B.H0 D1 o c = some u; rw [upd_ne n]; exact e) t z
  · obtain ⟨a1, a2, a3, u, a4, a5⟩ := a.iok i c e
    have n : c ≠ D1 := fun q => by rw [q] at e; exact b4 i e
    have a2 : upd B.H0 D1 o c ≠ none := a2
    rw [upd_ne n] at a2
    exact ⟨a1, a2, a3, u, by rw [upd_ne n]; exact a4, a5⟩
  · have n : c ≠ D1 := fun q => by rw [q, b3 j] at e; cases e
    rw [upd_ne n]; exact a.bo j c u e
  · have n : c ≠ D1 := fun q => by rw [q] at e; exact e (b3 j)
    have := a.bod j c e
    have this : upd B.H0 D1 o c ≠ none := this
    rw [upd_ne n] at this; exact this
  · obtain ⟨ov, h1, h2⟩ := a.sl i s e
    refine ⟨ov, h1, ?_⟩
    cases s with
    | no => trivial
    | imm d => exact h2
    | bor d => exact h2
    | own d =>
      obtain ⟨p, q1, q2, q3, q4⟩ := h2
      subst q1
      have c : p ≠ D1 := fun c => by subst c; exact no i ⟨⟨d, .inl e⟩, h1⟩
      have q4 : upd B.H0 D1 o p = none := q4
      rw [upd_ne c] at q4
      exact ⟨p, rfl, q2, q3.at' (upd_ne c), q4⟩
    | io d =>
      obtain ⟨p, q1, q2, q3, q4⟩ := h2
      subst q1
      have c : p ≠ D1 := fun c => by subst c; exact no i ⟨⟨d, .inr e⟩, h1⟩
      exact ⟨p, rfl, q2, q3.at' (upd_ne c), q4⟩
theorem BLe.add (h : B.H0 D1 = none) : BLe B (B.add D1 o) := ⟨Ext.new h, rfl⟩
/-- own slots of a comprehension are forgotten -/
def wipeE (δ : Env) : List Nat → Env
  | [] => δ
  | v :: vs => (wipeE δ vs).set v .no
theorem wipeE_len (δ : Env) : ∀ vs, (wipeE δ vs).length = δ.length
  | [] => rfl
  | v :: vs => by unfold wipeE; rw [List.length_set, wipeE_len]
theorem wipeE_get : ∀ {vs : List Nat} {j : Nat} {s : Sl}, (wipeE δ vs)[j]? = some s → s = .no ∨ (j ∉ vs ∧ δ[j]? = some s)
  | [], j, s, e => .inr ⟨by simp, e⟩
  | v :: vs, j, s, e => by
    unfold wipeE at e
    rcases get_set e with ⟨_, rfl, _⟩ | ⟨c, e⟩
    · exact .inl rfl
    · rcases wipeE_get e with h | ⟨h1, h2⟩
      · exact .inl h
      · exact .inr ⟨fun q => (List.mem_cons.mp q).elim (fun q => c q.symm) h1, h2⟩
theorem wipe_at : ∀ {vs : List Nat} (j : Nat), (wipe σ vs)[j]? = if j ∈ vs ∧ j < σ.length then some none else σ[j]?
  | [], j => by rw [if_neg (fun h => by cases h.1)]; rfl
  | v :: vs, j => by
    unfold wipe
    by_cases c : v = j
    · subst c
      by_cases z : v < σ.length
      · rw [List.getElem?_set_self (by rw [wipe_length]; exact z), if_pos ⟨List.mem_cons_self, z⟩]
      · rw [List.getElem?_eq_none (by rw [List.length_set, wipe_length]; omega), if_neg (fun h => z h.2), List.getElem?_eq_none (by omega)]
    · rw [List.getElem?_set_ne c, wipe_at j]
      have : (j ∈ v :: vs ∧ j < σ.length) ↔ (j ∈ vs ∧ j < σ.length) := by
        rw [List.mem_cons]
        exact ⟨fun ⟨h, z⟩ => ⟨h.elim (fun q => absurd q.symm c) id, z⟩, fun ⟨h, z⟩ => ⟨.inr h, z⟩⟩
      by_cases z : j ∈ vs ∧ j < σ.length
      · rw [if_pos z, if_pos (this.mpr z)]
      · rw [if_neg z, if_neg (fun q => z (this.mp q))]
theorem wipe_out {vs : List Nat} {j : Nat} (h : j ∉ vs) : (wipe σ vs)[j]? = σ[j]? := by rw [wipe_at, if_neg (fun q => h q.1)]
theorem wipe_eq {vs : List Nat} (hl : σ'.length = σ.length) (h : ∀ j, j ∉ vs → σ'[j]? = (wipe σ vs)[j]?) : wipe σ' vs = wipe σ vs := by
  apply List.ext_getElem?
  intro j
  by_cases c : j ∈ vs
  · rw [wipe_at, wipe_at, hl]
    by_cases z : j < σ.length
    · rw [if_pos ⟨c, z⟩, if_pos ⟨c, z⟩]
    · rw [if_neg (fun q => z q.2), if_neg (fun q => z q.2), List.getElem?_eq_none (by omega), List.getElem?_eq_none (by omega)]
  · rw [wipe_out c, h j c]
theorem At.wipe (a : At K B G δ σ H) (vs : List Nat) : At K B G (wipeE δ vs) (L2.wipe σ vs) H := a.forget (by rw [wipeE_len, wipe_length]; exact a.len) fun j s e => by
  rcases wipeE_get e with h | ⟨h1, h2⟩
  · exact .inl h
  · exact .inr ⟨h2, wipe_out h1⟩
/-- behind a turn: the slots of the comprehension's own names forgotten again -/
theorem At.wipe' {vs : List Nat} (a : At K B G δ σ' H) (hw : L2.wipe σ' vs = L2.wipe σ vs) : At K B G (wipeE δ vs) (L2.wipe σ vs) H := by rw [← hw]; exact a.wipe vs
theorem At.unwipe {vs : List Nat} (a : At K B G δ (L2.wipe σ vs) H) (hn : ∀ j ∈ vs, ∀ s, δ[j]? = some s → s = .no) : At K B G δ σ H := a.forget (by rw [a.len, wipe_length]) fun j s e => by
  by_cases c : j ∈ vs
  · exact .inl (hn j c s e)
  · exact .inr ⟨e, (wipe_out c).symm⟩
theorem wipeE_no {vs : List Nat} : ∀ j ∈ vs, ∀ s, (wipeE δ vs)[j]? = some s → s = .no := fun j hj s e => by
  rcases wipeE_get e with h | ⟨h, _⟩
  · exact h
  · exact absurd hj h
end

/-! ### list comprehensions -/
def lcM (T : D → Mo Unit) (C : Mo Bool) (E : Mo D) (vs : List Nat) : List D → List D → Mo D
  | [], acc => fun δ => some (.ok (.lst acc), δ)
  | d :: ds, acc => fun δ => match T d δ with
    | some (.ok (), δ1) => match C δ1 with
      | some (.ok true, δ2) => match E δ2 with
        | some (.ok x, δ3) => lcM T C E vs ds (acc ++ [x]) (wipeE δ3 vs)
        | _ => none
      | some (.ok false, δ2) => lcM T C E vs ds acc (wipeE δ2 vs)
      | _ => none
    | _ => none
def eLc (I : Mo (List D)) (T : D → Mo Unit) (C : Mo Bool) (E : Mo D) (vs : List Nat) : Mo D := I.bind fun ds => fun δ => if ds.length ≤ sizeLine then lcM T C E vs ds [] (wipeE δ vs) else none
section
variable {K : PySem.W.Frag} {W : WK} {B : Bs} {G H : Hp} {δ δ' : Env} {σ : St} {β : Type} {r : Except Exn β} {ok : β → Hp → Hp → Prop}
theorem tI_bind {E : Mo (List D)} {k : List D → Mo β} {Q : It → Hp → Prop} (a : At K B G δ σ H) (h : Mo.bind E k δ = some (r, δ')) (post : Post K W B G σ r δ' ok)
    (q : ∀ J H1 G1 δ1 d, At K B G1 δ1 σ H1 → Ext G G1 → Yl K B J G1 d → k d δ1 = some (r, δ') → Post K W B G1 σ r δ' ok → Q J H1) : tI K W E σ H Q := by
  unfold Mo.bind at h
  cases e : E δ with
  | none => rw [e] at h; cases h
  | some z =>
    obtain ⟨x, δ1⟩ := z
    rw [e] at h
    cases x with
    | error x => cases h; exact ⟨B, G, δ, .error x, _, a, e, post⟩
    | ok d => exact ⟨B, G, δ, .ok d, δ1, a, e, fun G1 H1 a1 e1 v rv => q v H1 G1 δ1 d a1 e1 rv h (post.mono e1)⟩
end
section
variable {K : PySem.W.Frag} {W : WK} {I : Mo (List D)} {sl vs : List Nat} {T : D → Mo Unit} {C : Mo Bool} {E Ek : Mo D} {σ : St} {H : Hp} {Q : VK}
theorem tLc_at {B : Bs} {G1 H1 : Hp} {δ1 δ' : Env} {J : It} {ds : List D} {r : Except Exn D} (hsl : ∀ j ∈ sl, j ∈ vs) (a1 : At K B G1 δ1 σ H1) (yl : Yl K B J G1 ds) (e2 : (if ds.length ≤ sizeLine then lcM T C E vs ds [] (wipeE δ1 vs) else none) = some (r, δ')) (post : Post K W B G1 σ r δ' (fun d G' H' => ∀ p, Fr1 K B G' δ' σ H' p d → Q (.ref p) H')) : tLc (wiJ J) (tG K sl T) (tT K W0 C) (tE K W0 E) vs σ H1 Q := by
  intro D1 hD
  split at e2
  · rename_i hlen
    have b0 := a1.fresh0 hD
    have ot := a1.out1 b0 (a1.vw.none hD)
    refine ⟨fun i m H2 => m + i = ds.length ∧ ∃ G2 δ2 acc xs, At K B G2 δ2 (wipe σ vs) H2 ∧ Ext G1 G2 ∧ H2 D1 = some (.lst xs) ∧ RL K G2 xs acc ∧ xs.length ≤ i ∧ G2 D1 = none ∧ (∀ j, ¬ OwnAt δ2 (wipe σ vs) j D1) ∧ (∀ j ∈ vs, ∀ s, δ2[j]? = some s → s = .no) ∧ lcM T C E vs (ds.drop i) acc δ2 = some (r, δ'),
      ⟨ds.length, by omega, G1, wipeE δ1 vs, [], [], (a1.alloc hD).wipe vs, Ext.refl _, upd_same, .nil, Nat.zero_le _, a1.vw.none hD, (a1.wipe vs).noOwn hD, wipeE_no, e2⟩, ?_⟩
    rintro i m H2 ⟨hm, G2, δ2, acc, xs, a2, x2, hx, rx, hxl, g2, no2, hno, e3⟩
    by_cases hi : ds.length ≤ i
    · refine .inl ⟨(yl B G2 H2 δ2 _ (BLe.refl B) a2 x2 i).2 hi, ?_⟩
      rw [List.drop_eq_nil_of_le hi] at e3
      cases e3
      have a3 := a2.unwipe hno
      refine post G2 H2 a3 x2 D1 ⟨g2, b0, fun j z => ?_, .lst hx (by omega) rx⟩
      obtain ⟨⟨d, z1⟩, z2⟩ := z
      by_cases c : j ∈ vs
      · rcases z1 with z1 | z1
        · cases hno j c _ z1
        · cases hno j c _ z1
      · exact no2 j ⟨⟨d, z1⟩, by rw [wipe_out c]; exact z2⟩
    · have hlt : i < ds.length := by omega
      have a2' := a2.add nt_lst hx g2 no2
      obtain ⟨y1, _⟩ := yl (B.add D1 (.lst xs)) G2 H2 δ2 _ (BLe.add b0) a2' x2 i
      obtain ⟨gg1, gg2⟩ := y1 ds[i] (List.getElem?_eq_getElem hlt)
      rw [List.drop_eq_getElem_cons hlt] at e3
      refine .inr ⟨gg1, fun H' => ∃ m', m' < m ∧ (m' + (i + 1) = ds.length ∧ ∃ G2 δ2 acc xs, At K B G2 δ2 (wipe σ vs) H' ∧ Ext G1 G2 ∧ H' D1 = some (.lst xs) ∧ RL K G2 xs acc ∧ xs.length ≤ i + 1 ∧ G2 D1 = none ∧ (∀ j, ¬ OwnAt δ2 (wipe σ vs) j D1) ∧ (∀ j ∈ vs, ∀ s, δ2[j]? = some s → s = .no) ∧ lcM T C E vs (ds.drop (i + 1)) acc δ2 = some (r, δ')), fun H' z => z, fun x H' hy => ?_⟩
      obtain ⟨rfl, G3, a3, x3, r3⟩ := gg2 x H' hy
      unfold lcM at e3
      cases q : T ds[i] δ2 with
      | none => simp only [q] at e3; cases e3
      | some z =>
        obtain ⟨u, δ3⟩ := z
        cases u with
        | error u => simp only [q] at e3; cases e3
        | ok u =>
          simp only [q] at e3
          refine ⟨B.add D1 (.lst xs), G3, δ2, ds[i], δ3, a3, r3, q, fun σ4 a4 oa => ?_⟩
          have hw : wipe σ4 vs = wipe σ vs := wipe_eq (oa.1.trans (wipe_length _ _)) fun j hj => oa.2 j fun c => hj (hsl j c)
          refine ⟨hw, ?_⟩
          -- the turn's end
          have fin : ∀ {G5 H5 δ5 ys acc'}, At K (B.add D1 (.lst xs)) G5 δ5 σ4 H5 → Ext G3 G5 → RL K G5 ys acc' → ys.length ≤ i + 1 → lcM T C E vs (ds.drop (i + 1)) acc' (wipeE δ5 vs) = some (r, δ') → ∃ m', m' < m ∧ (m' + (i + 1) = ds.length ∧ ∃ G2 δ2 acc xs, At K B G2 δ2 (wipe σ vs) (upd H5 D1 (.lst ys)) ∧ Ext G1 G2 ∧ (upd H5 D1 (.lst ys)) D1 = some (.lst xs) ∧ RL K G2 xs acc ∧ xs.length ≤ i + 1 ∧ G2 D1 = none ∧ (∀ j, ¬ OwnAt δ2 (wipe σ vs) j D1) ∧ (∀ j ∈ vs, ∀ s, δ2[j]? = some s → s = .no) ∧ lcM T C E vs (ds.drop (i + 1)) acc δ2 = some (r, δ')) := fun {G5 H5 δ5 ys acc'} a5 x5 r5 l5 e5 => by
            obtain ⟨h1, h2, h3, h4⟩ := (a5.wipe' hw).drop ot nt_lst
            exact ⟨m - 1, by omega, by omega, G5, wipeE δ5 vs, acc', ys, h4 _, (x2.trans x3).trans x5, upd_same, r5, l5, h2, h3, wipeE_no, e5⟩
          cases qc : C δ3 with
          | none => simp only [qc] at e3; cases e3
          | some z =>
            obtain ⟨u, δ4⟩ := z
            cases u with
            | error u => simp only [qc] at e3; cases e3
            | ok b =>
              refine ⟨_, G3, δ3, .ok b, δ4, a4, qc, fun G4 H4 a5 x5 => ?_⟩
              cases b with
              | false =>
                simp only [qc] at e3
                rw [if_neg Bool.false_ne_true]
                have f := fin a5 x5 (rx.mono ((x3).trans x5)) (by omega) e3
                have hk := (a5.drop ot nt_lst).1
                have : upd H4 D1 (.lst xs) = H4 := by
                  funext b; by_cases c : b = D1
                  · subst c; rw [upd_same, hk]
                  · rw [upd_ne c]
                rw [this] at f; exact f
              | true =>
                simp only [qc] at e3
                rw [if_pos rfl]
                cases qe : E δ4 with
                | none => simp only [qe] at e3; cases e3
                | some z =>
                  obtain ⟨u, δ5⟩ := z
                  cases u with
                  | error u => simp only [qe] at e3; cases e3
                  | ok xd =>
                    simp only [qe] at e3
                    refine ⟨_, G4, δ4, .ok xd, δ5, a5, qe, fun G6 H6 a6 x6 v rv => ?_⟩
                    refine ⟨xs, (a6.drop ot nt_lst).1, by omega, ?_⟩
                    exact fin a6 (x5.trans x6) (.append (rx.mono ((x3.trans x5).trans x6)) (.cons rv .nil)) (by rw [List.length_append]; show xs.length + 1 ≤ i + 1; omega) e3
  · cases e2
theorem tLc_ok (hsl : ∀ j ∈ sl, j ∈ vs) (q : tO K W (eLc I T C E vs) σ H Q) : tLc (tI K W I) (tG K sl T) (tT K W0 C) (tE K W0 E) vs σ H Q := by
  obtain ⟨B, G, δ, r, δ', a, e1, post⟩ := q
  exact tI_bind a e1 post fun J H1 G1 δ1 ds a1 x1 yl e2 post => tLc_at hsl a1 yl e2 post
end
section
variable {X : Cx} {W : WK} {elt tg iter : Expr} {ifs : List Expr} {scope : Scope} {own : List (Str × Nat)} {pos : Pos} {I : Mo (List D)} {sl : List Nat} {T : D → Mo Unit} {C : Mo Bool} {E : Mo D}
def DTs (X : Cx) (W : WK) (ifs : List Expr) (C : Mo Bool) : Prop := PTs X ifs (tT X.K W C)
def tYesM : Mo Bool := Mo.ret true
theorem dts_nil {X : Cx} {W : WK} : DTs X W [] tYesM := ⟨fun pins s σ H Q I ⟨B, G, δ, r, δ', a, e1, post⟩ => pts_nil.run pins s σ H Q I (by cases e1; exact post G H a (Ext.refl _))⟩
theorem dts_one {X : Cx} {W : WK} {c : Expr} {C : Mo Bool} (h : DT X W c C) : DTs X W [c] C := pts_one h
theorem do_lc (hc : X.calm = true) (hN : X.N.Nodup) (hi : DI X W tg iter I) (ok : BlkOk X.N X.env.scope scope own) (hsl : ∀ j ∈ sl, j ∈ own.map (·.2))
    (hg : ∀ (s : Shared) (H : Hp) (Ca : Addr) (cl : List (Str × Addr)) (fp : List Addr), DG (X.blk s H scope (compEnvC scope cl Ca X.env) fp) tg sl T) (ht : ∀ (s : Shared) (H : Hp) (Ca : Addr) (cl : List (Str × Addr)) (fp : List Addr), DTs (X.blk s H scope (compEnvC scope cl Ca X.env) fp) W0 ifs C)
    (he : ∀ (s : Shared) (H : Hp) (Ca : Addr) (cl : List (Str × Addr)) (fp : List Addr), DE (X.blk s H scope (compEnvC scope cl Ca X.env) fp) W0 elt E) (hs : ∀ x, foldedSetIterable iter X.env x = pure x := by intro _; rfl) :
    DO X W (.ListComp elt [⟨tg, iter, ifs, 0⟩] scope pos) (eLc I T C E (own.map (·.2))) := PE.weak (pe_lc (g := tG X.K sl T) (tt := tT X.K W0 C) (te := tE X.K W0 E) hc hN hi ok hg ht he hs) fun σ H Q q => tLc_ok hsl q
theorem tAsgO_ok {K : PySem.W.Frag} {t : TE} {i : Nat} {Dn : Ends} {σ : St} {H : Hp} (ht : ∀ Q, tO K W E σ H Q → t σ H Q) (q : tS K W (sAsgO i E) Dn σ H) : tAsg t (gName i) Dn σ H := by
  obtain ⟨B, G, δ, r, δ', a, e1, post⟩ := q
  refine ht _ (tO_bindS a e1 post fun v H1 G1 δ1 d a1 x1 r1 e2 post => ?_)
  obtain ⟨w1, w2, w3, w4⟩ := r1
  rcases unit_bind e2 with ⟨q, rfl⟩ | ⟨x, q, rfl⟩
  · unfold gO at q
    split at q
    · cases q
      exact post G1 _ H1 (a1.setOwn w1 w4 w2 w3 i) (Ext.refl _)
    · cases q
  · unfold gO at q; split at q <;> cases q
theorem ds_setLcO {i : Nat} {y : Str} {py spos : Pos} (hc : X.calm = true) (hN : X.N.Nodup) (hy : X.N[i]? = some y) (hyl : X.env.scope.names.lookup y = some .local)
    (hsw : swapsWith (.ListComp elt [⟨tg, iter, ifs, 0⟩] scope pos) (some (.Name y py)) spos.line X.env = pure true) (hi : DI X W tg iter I) (ok : BlkOk X.N X.env.scope scope own) (hsl : ∀ j ∈ sl, j ∈ own.map (·.2))
    (hg : ∀ (s : Shared) (H : Hp) (Ca : Addr) (cl : List (Str × Addr)) (fp : List Addr), DG (X.blk s H scope (compEnvC scope cl Ca X.env) fp) tg sl T) (ht : ∀ (s : Shared) (H : Hp) (Ca : Addr) (cl : List (Str × Addr)) (fp : List Addr), DTs (X.blk s H scope (compEnvC scope cl Ca X.env) fp) W0 ifs C)
    (he : ∀ (s : Shared) (H : Hp) (Ca : Addr) (cl : List (Str × Addr)) (fp : List Addr), DE (X.blk s H scope (compEnvC scope cl Ca X.env) fp) W0 elt E) (hs : ∀ x, foldedSetIterable iter X.env x = pure x := by intro _; rfl) :
    DS X W (.Assign [.Name y py] (.ListComp elt [⟨tg, iter, ifs, 0⟩] scope pos) spos) (sAsgO i (eLc I T C E (own.map (·.2)))) := PS.weak (ps_setLc (g := tG X.K sl T) (tt := tT X.K W0 C) (te := tE X.K W0 E) hc hN hy hyl hsw hi ok hg ht he hs) fun Dn σ H q => tAsgO_ok (fun Q z => tLc_ok hsl z) q
end
end M

set_option Elab.async false
set_option linter.all false
set_option maxRecDepth 100000
/-! Part F: operators, subscripts, built-ins, changes of own objects. -/
namespace M
open PySem L2 PySem.Spec PyProof.Rows

section
variable {X : Cx} {W : WK} {e a b c : Expr} {pos : Pos} {E Ea Eb Ec : Mo D}
/-! ### arithmetic -/
def dAdd : D → D → Option D
  | .int i, .int j => some (.int (i + j))
  | .str x, .str y => if x.length + y.length ≤ sizeLine then some (.str (x ++ y)) else none
  | .lst x, .lst y => if x.length + y.length ≤ sizeLine then some (.lst (x ++ y)) else none
  | .tup x, .tup y => if x.length + y.length ≤ sizeLine then some (.tup (x ++ y)) else none
  | _, _ => none
def dAddL : D → D → Option D
  | .lst x, .lst y => if x.length + y.length ≤ sizeLine then some (.lst (x ++ y)) else none
  | _, _ => none
theorem sndO_cat : Snd2O X.K dAddL rCat := fun B G H δ σ x y a b d Q at' rx ry h k => by
  cases rx with
  | lst g l r =>
    cases ry with
    | lst g2 l2 r2 =>
      rename_i p xs ds q ys es
      have h : (if ds.length + es.length ≤ sizeLine then some (D.lst (ds ++ es)) else none) = some d := h
      split at h
      · rename_i hl
        cases h
        rw [← r.length, ← r2.length] at hl
        refine ⟨p, q, xs, ys, rfl, rfl, at'.vw.lst g, at'.vw.lst g2, hl, fun z hz => ?_⟩
        obtain ⟨b1, b2⟩ := at'.own1 (p := z) (o := .lst (xs ++ ys)) hz (.lst upd_same (by rw [List.length_append]; exact hl) (r.append r2))
        exact k z _ b1 b2
      · cases h
    | _ => cases h
  | _ => cases h
theorem do_cat (ha : DE X W a Ea) (hb : DE X W b Eb) : DO X W (.BinOp a .Add b pos) (eBin dAddL Ea Eb) := do_tOp sndO_cat (pe_op op_cat ha hb)
abbrev rAddA (K : PySem.W.Frag) : R2 := fun x y H Q => (rI0 (fun i j => .int (i + j)) x y H Q ∨ (∃ i j, x = .str i ∧ y = .str j ∧ i.length + j.length ≤ sizeLine ∧ Q (.str (i ++ j)) H)) ∨ (rCat x y H Q ∨ rCatA K x y H Q)
theorem op_addA : OpR X (binaryOp .Add) (rAddA X.K) := OpR.or (OpR.or op_add op_add_str) (OpR.or op_cat op_catA)
theorem snd_add : Snd2 X.K dAdd (rAddA X.K) := fun B G H δ σ x y a b d Q at' rx ry h k => by
  cases rx with
  | int i =>
    cases ry with
    | int j => cases h; exact .inl (.inl ⟨i, j, rfl, rfl, k _ G H at' (Ext.refl _) (.int _)⟩)
    | _ => cases h
  | str i =>
    cases ry with
    | str j =>
      have h : (if i.length + j.length ≤ sizeLine then some (D.str (i ++ j)) else none) = some d := h
      split at h
      · rename_i hl; cases h; exact .inl (.inr ⟨i, j, rfl, rfl, hl, k _ G H at' (Ext.refl _) (.str _)⟩)
      · cases h
    | _ => cases h
  | lst g l r =>
    cases ry with
    | lst g2 l2 r2 =>
      rename_i p xs ds q ys es
      have h : (if ds.length + es.length ≤ sizeLine then some (D.lst (ds ++ es)) else none) = some d := h
      split at h
      · rename_i hl
        cases h
        rw [← r.length, ← r2.length] at hl
        refine .inr (.inl ⟨p, q, xs, ys, rfl, rfl, at'.vw.lst g, at'.vw.lst g2, hl, fun z hz => ?_⟩)
        have ex := Ext.new (o := .lst (xs ++ ys)) (at'.vw.none hz)
        exact k _ _ _ (at'.laid hz fun _ z => by cases z) ex (.lst upd_same (by rw [List.length_append]; exact hl) ((r.append r2).mono ex))
      · cases h
    | _ => cases h
  | tup g l r =>
    cases ry with
    | tup g2 l2 r2 =>
      rename_i p xs ds q ys es
      have h : (if ds.length + es.length ≤ sizeLine then some (D.tup (ds ++ es)) else none) = some d := h
      split at h
      · rename_i hl
        cases h
        rw [← r.length, ← r2.length] at hl
        refine .inr (.inr ⟨p, q, xs, ys, rfl, rfl, SqT.of (at'.vw.tup g), SqT.of (at'.vw.tup g2), hl, fun hx => ?_, fun hx hy => ?_, fun hx hy z hz => ?_⟩)
        · subst hx
          cases r
          exact k _ G H at' (Ext.refl _) (.tup g2 l2 r2)
        · subst hy
          cases r2
          exact k _ G H at' (Ext.refl _) (by rw [List.append_nil]; exact .tup g l r)
        · have ex := Ext.new (o := .tup (xs ++ ys)) (at'.vw.none hz)
          exact k _ _ _ (at'.laid hz fun _ z => by cases z) ex (.tup upd_same (by rw [List.length_append]; exact hl) ((r.append r2).mono ex))
      · cases h
    | _ => cases h
  | _ => cases h
theorem de_add (ha : DE X W a Ea) (hb : DE X W b Eb) : DE X W (.BinOp a .Add b pos) (eBin dAdd Ea Eb) := de_bin op_addA snd_add ha hb
/-- two ints under a condition -/
def dInt (C : Int → Int → Bool) (f : Int → Int → Int) : D → D → Option D
  | .int i, .int j => if C i j = true then some (.int (f i j)) else none
  | _, _ => none
theorem snd_int {C : Int → Int → Bool} {P : Int → Int → Prop} {f g : Int → Int → Int} (hC : ∀ i j, C i j = true → P i j ∧ g i j = f i j) : Snd2 X.K (dInt C f) (rI P fun i j => .int (g i j)) := fun B G H δ σ x y a b d Q at' rx ry h k => by
  cases rx with
  | int i =>
    cases ry with
    | int j =>
      have h : (if C i j = true then some (D.int (f i j)) else none) = some d := h
      split at h
      · rename_i hl; cases h
        obtain ⟨h1, h2⟩ := hC i j hl
        exact ⟨i, j, rfl, rfl, h1, by show Q (V.int (g i j)) H; rw [h2]; exact k _ G H at' (Ext.refl _) (.int _)⟩
      · cases h
    | _ => cases h
  | _ => cases h
def dSub : D → D → Option D
  | .int i, .int j => some (.int (i - j))
  | _, _ => none
theorem snd_sub : Snd2 X.K dSub (rI0 fun i j => .int (i - j)) := fun B G H δ σ x y a b d Q at' rx ry h k => by
  cases rx with
  | int i =>
    cases ry with
    | int j => cases h; exact ⟨i, j, rfl, rfl, k _ G H at' (Ext.refl _) (.int _)⟩
    | _ => cases h
  | _ => cases h
theorem de_sub (ha : DE X W a Ea) (hb : DE X W b Eb) : DE X W (.BinOp a .Sub b pos) (eBin dSub Ea Eb) := de_bin op_sub snd_sub ha hb
def cMul (i j : Int) : Bool := (decide (-18446744073709551616 < i) && decide (i < 18446744073709551616)) || (decide (-18446744073709551616 < j) && decide (j < 18446744073709551616))
def dMulI : D → D → Option D := dInt cMul (· * ·)
theorem cMul_ok (i j : Int) (h : cMul i j = true) : CMul i j := by
  unfold cMul at h
  unfold CMul
  simp only [Bool.or_eq_true, Bool.and_eq_true, decide_eq_true_eq] at h
  omega
def cMod (_ j : Int) : Bool := decide (0 < j)
def dMod : D → D → Option D := dInt cMod (· % ·)
theorem de_mod (ha : DE X W a Ea) (hb : DE X W b Eb) : DE X W (.BinOp a .Mod b pos) (eBin dMod Ea Eb) := de_bin op_mod (snd_int (C := cMod) fun i j h => ⟨of_decide_eq_true h, rfl⟩) ha hb
def cDiv (_ j : Int) : Bool := decide (0 < j) && decide (j < 1073741824)
def dDiv : D → D → Option D := dInt cDiv (· / ·)
theorem de_div (ha : DE X W a Ea) (hb : DE X W b Eb) : DE X W (.BinOp a .FloorDiv b pos) (eBin dDiv Ea Eb) := de_bin op_fdiv (snd_int (C := cDiv) fun i j h => ⟨by unfold cDiv at h; simp only [Bool.and_eq_true, decide_eq_true_eq] at h; exact h, rfl⟩) ha hb
def cShl (i j : Int) : Bool := (decide (0 ≤ j) && decide (j ≤ 1000)) && decide (i = 1)
def dShl : D → D → Option D := dInt cShl (fun i j => i * 2 ^ j.toNat)
theorem de_shl (ha : DE X W a Ea) (hb : DE X W b Eb) : DE X W (.BinOp a .LShift b pos) (eBin dShl Ea Eb) := de_bin op_shl (snd_int (C := cShl) fun i j h => ⟨by
  unfold cShl at h; simp only [Bool.and_eq_true, decide_eq_true_eq] at h
  obtain ⟨⟨h1, h2⟩, rfl⟩ := h
  exact ⟨h1, by omega, by decide⟩, rfl⟩) ha hb
/-- a product: ints; a list or a tuple, some times -/
def dMul : D → D → Option D
  | .int i, .int j => dMulI (.int i) (.int j)
  | .lst x, .int k => if 0 ≤ k ∧ k ≤ 16777216 ∧ x.length * k.toNat ≤ sizeLine then some (.lst (List.replicate k.toNat x).flatten) else none
  | .tup x, .int k => if x ≠ [] ∧ 2 ≤ k ∧ k ≤ 1000 ∧ x.length ≤ 1000 then some (.tup (List.replicate k.toNat x).flatten) else none
  | _, _ => none
theorem flat_len {α : Type} (k : Nat) (x : List α) : (List.replicate k x).flatten.length = x.length * k := by
  rw [List.length_flatten, List.map_replicate, List.sum_replicate_nat, Nat.mul_comm]
theorem snd_mul : Snd2 X.K dMul (fun x y H Q => rI CMul (fun i j => .int (i * j)) x y H Q ∨ (rRep x y H Q ∨ rRepT X.K x y H Q)) := fun B G H δ σ x y a b d Q at' rx ry h k => by
  cases ry with
  | int j =>
    cases rx with
    | int i => exact .inl (snd_int (X := X) (C := cMul) (P := CMul) (f := (· * ·)) (g := (· * ·)) (fun i j h => ⟨cMul_ok i j h, rfl⟩) B G H δ σ _ _ _ _ d Q at' (.int i) (.int j) h k)
    | lst g l r =>
      rename_i p xs ds
      have h : (if 0 ≤ j ∧ j ≤ 16777216 ∧ ds.length * j.toNat ≤ sizeLine then some (D.lst (List.replicate j.toNat ds).flatten) else none) = some d := h
      split at h
      · rename_i hl
        cases h
        obtain ⟨h1, h2, h3⟩ := hl
        rw [← r.length] at h3
        refine .inr (.inl ⟨p, j, xs, rfl, rfl, at'.vw.lst g, by omega, by omega, h3, fun z hz => ?_⟩)
        have ex := Ext.new (o := .lst (List.replicate j.toNat xs).flatten) (at'.vw.none hz)
        exact k _ _ _ (at'.laid hz fun _ z => by cases z) ex (.lst upd_same (by rw [flat_len]; exact h3) ((r.rep _).mono ex))
      · cases h
    | tup g l r =>
      rename_i p xs ds
      have h : (if ds ≠ [] ∧ 2 ≤ j ∧ j ≤ 1000 ∧ ds.length ≤ 1000 then some (D.tup (List.replicate j.toNat ds).flatten) else none) = some d := h
      split at h
      · rename_i hl
        cases h
        obtain ⟨h0, h1, h2, h3⟩ := hl
        rw [← r.length] at h3
        have hne : xs ≠ [] := fun z => by subst z; cases r; exact h0 rfl
        have hz : xs.length * j.toNat ≤ 1000 * 1000 := Nat.mul_le_mul h3 (by omega)
        refine .inr (.inr ⟨p, j, xs, rfl, rfl, SqT.of (at'.vw.tup g), hne, h1, h2, h3, fun z hz' => ?_⟩)
        have ex := Ext.new (o := .tup (List.replicate j.toNat xs).flatten) (at'.vw.none hz')
        exact k _ _ _ (at'.laid hz' fun _ z => by cases z) ex (.tup upd_same (by rw [flat_len, sizeLine_eq]; omega) ((r.rep _).mono ex))
      · cases h
    | _ => cases h
  | _ => cases rx <;> cases h
theorem de_mul (ha : DE X W a Ea) (hb : DE X W b Eb) : DE X W (.BinOp a .Mult b pos) (eBin dMul Ea Eb) := de_bin (OpR.or op_mul (OpR.or op_rep op_repT)) snd_mul ha hb
def dMulL : D → D → Option D
  | .lst x, .int k => if 0 ≤ k ∧ k ≤ 16777216 ∧ x.length * k.toNat ≤ sizeLine then some (.lst (List.replicate k.toNat x).flatten) else none
  | _, _ => none
theorem sndO_rep : Snd2O X.K dMulL rRep := fun B G H δ σ x y a b d Q at' rx ry h k => by
  cases ry with
  | int j =>
    cases rx with
    | lst g l r =>
      rename_i p xs ds
      have h : (if 0 ≤ j ∧ j ≤ 16777216 ∧ ds.length * j.toNat ≤ sizeLine then some (D.lst (List.replicate j.toNat ds).flatten) else none) = some d := h
      split at h
      · rename_i hl
        cases h
        obtain ⟨h1, h2, h3⟩ := hl
        rw [← r.length] at h3
        refine ⟨p, j, xs, rfl, rfl, at'.vw.lst g, by omega, by omega, h3, fun z hz => ?_⟩
        obtain ⟨b1, b2⟩ := at'.own1 (p := z) (o := .lst (List.replicate j.toNat xs).flatten) hz (.lst upd_same (by rw [flat_len]; exact h3) (r.rep _))
        exact k z _ b1 b2
      · cases h
    | _ => cases h
  | _ => cases rx <;> cases h
theorem do_rep (ha : DE X W a Ea) (hb : DE X W b Eb) : DO X W (.BinOp a .Mult b pos) (eBin dMulL Ea Eb) := do_tOp sndO_rep (pe_op op_rep ha hb)
/-- one-place operations -/
def eUn (f : D → Option D) (A : Mo D) : Mo D := A.bind fun x => Mo.lift (f x)
def Snd1 (K : PySem.W.Frag) (f : D → Option D) (r : V → Hp → VK → Prop) : Prop := ∀ (B : Bs) (G H : Hp) (δ : Env) (σ : St) (x : V) (a d : D) (Q : VK), At K B G δ σ H → R K G x a → f a = some d →
  (∀ v G' H', At K B G' δ σ H' → Ext G G' → R K G' v d → Q v H') → r x H Q
def dNeg : D → Option D
  | .int i => some (.int (-i))
  | _ => none
theorem de_neg (ha : DE X W a Ea) : DE X W (.UnaryOp .USub a pos) (eUn dNeg Ea) := PE.weak (pe_un un_neg ha) fun σ H Q ⟨B, G, δ, r, δ', at', e1, post⟩ => by
  refine tE_bind at' e1 post fun v H1 G1 δ1 d a1 x1 r1 e2 post => ?_
  obtain ⟨z, hz, hr⟩ := lift_some e2
  cases hr
  cases r1 with
  | int i => cases hz; exact ⟨i, rfl, post G1 H1 a1 (Ext.refl _) _ (.int _)⟩
  | _ => cases hz

/-! ### order -/
def dCmp (pI : Int → Int → Bool) (pS : List Nat → List Nat → Bool) : D → D → Option D
  | .int i, .int j => some (.bl (pI i j))
  | .str i, .str j => some (.bl (pS i.cps.toList j.cps.toList))
  | _, _ => none
theorem snd_cmp {pI : Int → Int → Bool} {pS : List Nat → List Nat → Bool} {r : R2} (h1 : ∀ i j H Q, Q (.bl (pI i j)) H → r (.int i) (.int j) H Q) (h2 : ∀ i j H Q, Q (.bl (pS i.cps.toList j.cps.toList)) H → r (.str i) (.str j) H Q) : Snd2 X.K (dCmp pI pS) r := fun B G H δ σ x y a b d Q at' rx ry h k => by
  cases rx with
  | int i =>
    cases ry with
    | int j => cases h; exact h1 _ _ _ _ (k _ G H at' (Ext.refl _) (.bl _))
    | _ => cases h
  | str i =>
    cases ry with
    | str j => cases h; exact h2 _ _ _ _ (k _ G H at' (Ext.refl _) (.bl _))
    | _ => cases h
  | _ => cases h
abbrev rCmp (pI : Int → Int → Bool) (pS : List Nat → List Nat → Bool) : R2 := fun x y H Q => rI0 (fun i j => .bl (pI i j)) x y H Q ∨ ∃ i j, x = .str i ∧ y = .str j ∧ Q (.bl (pS i.cps.toList j.cps.toList)) H
theorem snd_cmp' {pI : Int → Int → Bool} {pS : List Nat → List Nat → Bool} : Snd2 X.K (dCmp pI pS) (rCmp pI pS) := snd_cmp (fun i j H Q q => .inl ⟨i, j, rfl, rfl, q⟩) (fun i j H Q q => .inr ⟨i, j, rfl, rfl, q⟩)
def dLt := dCmp (fun i j => decide (i < j)) (fun i j => decide (i < j))
def dLe := dCmp (fun i j => decide (i ≤ j)) (fun i j => !decide (j < i))
def dGt := dCmp (fun i j => decide (j < i)) (fun i j => decide (j < i))
def dGe := dCmp (fun i j => decide (j ≤ i)) (fun i j => !decide (i < j))
theorem opc_lt : OpR X (compareOp .Lt) (rCmp (fun i j => decide (i < j)) (fun i j => decide (i < j))) := OpR.or op_lt op_lt_str
theorem opc_le : OpR X (compareOp .LtE) (rCmp (fun i j => decide (i ≤ j)) (fun i j => !decide (j < i))) := OpR.or op_le op_le_str
theorem opc_gt : OpR X (compareOp .Gt) (rCmp (fun i j => decide (j < i)) (fun i j => decide (j < i))) := OpR.or op_gt op_gt_str
theorem opc_ge : OpR X (compareOp .GtE) (rCmp (fun i j => decide (j ≤ i)) (fun i j => !decide (i < j))) := OpR.or op_ge op_ge_str
theorem de_lt (ha : DE X W a Ea) (hb : DE X W b Eb) : DE X W (.Compare a [.Lt] [b] pos) (eBin dLt Ea Eb) := de_cmp opc_lt snd_cmp' ha hb (nomark _)
theorem de_le (ha : DE X W a Ea) (hb : DE X W b Eb) : DE X W (.Compare a [.LtE] [b] pos) (eBin dLe Ea Eb) := de_cmp opc_le snd_cmp' ha hb (nomark _)
theorem de_gt (ha : DE X W a Ea) (hb : DE X W b Eb) : DE X W (.Compare a [.Gt] [b] pos) (eBin dGt Ea Eb) := de_cmp opc_gt snd_cmp' ha hb (nomark _)
theorem de_ge (ha : DE X W a Ea) (hb : DE X W b Eb) : DE X W (.Compare a [.GtE] [b] pos) (eBin dGe Ea Eb) := de_cmp opc_ge snd_cmp' ha hb (nomark _)
/-- a op b op' c -/
def eChain (f g : D → D → Option D) (A B C : Mo D) : Mo D := A.bind fun x => B.bind fun y => (Mo.lift ((f x y).bind dBl)).bind fun k => if k = true then C.bind fun z => Mo.lift (g y z) else Mo.ret (.bl false)
theorem de_chain {op op' : CmpOp} {f g : D → D → Option D} {r r' : R2} (ho : OpR X (compareOp op) r) (ho' : OpR X (compareOp op') r') (hf : Snd2 X.K f r) (hg : Snd2 X.K g r') (ha : DE X W a Ea) (hb : DE X W b Eb) (hc : DE X W c Ec)
    (hm : lastMarks [op, op'] [b, c] = false := by with_unfolding_all rfl) : DE X W (.Compare a [op, op'] [b, c] pos) (eChain f g Ea Eb Ec) := PE.weak (pe_chain ho ho' ha hb hc hm) fun σ H Q ⟨B, G, δ, r1, δ', at', e1, post⟩ => by
  refine tE_bind at' e1 post fun v H1 G1 δ1 d a1 x1 r1 e2 post => ?_
  refine tE_bind a1 e2 post fun w H2 G2 δ2 d2 a2 x2 r2 e3 post => ?_
  unfold Mo.bind Mo.lift at e3
  cases q : (f d d2).bind dBl with
  | none => rw [q] at e3; cases e3
  | some k =>
    rw [q] at e3
    simp only [] at e3
    cases q2 : f d d2 with
    | none => rw [q2] at q; cases q
    | some z =>
      rw [q2, Option.bind_some] at q
      obtain rfl := dBl_some q
      refine hf B G2 H2 δ2 σ v w d d2 _ _ a2 (r1.mono x2) r2 q2 fun v3 G3 H3 a3 x3 r3 => ?_
      cases r3
      refine ⟨k, rfl, ?_⟩
      cases k with
      | false => rw [if_neg Bool.false_ne_true] at e3 ⊢; cases e3; exact (post.mono x3) G3 H3 a3 (Ext.refl _) _ (.bl _)
      | true =>
        rw [if_pos rfl] at e3 ⊢
        refine tE_bind (k := fun z => Mo.lift (g d2 z)) a3 e3 (post.mono x3) fun u H4 G4 δ4 d4 a4 x4 r4 e4 post => ?_
        obtain ⟨z, hz, hr⟩ := lift_some e4
        cases hr
        exact hg B G4 H4 δ' σ w u d2 d4 z Q a4 (r2.mono (x3.trans x4)) r4 hz fun v G' H' a' x' r' => post G' H' a' x' v r'
/-! ### is None, is True -/
def dIsN : D → D → Option D
  | .non, .non => some (.bl true)
  | _, .non => some (.bl false)
  | .bl i, .bl j => some (.bl (i == j))
  | .non, .bl _ => some (.bl false)
  | .int _, .bl _ => some (.bl false)
  | .str _, .bl _ => some (.bl false)
  | _, _ => none
end

/-! ### what is seen of a value -/
inductive Sh (K : PySem.W.Frag) (G H : Hp) : V → D → Prop
  | lst {a : Addr} {xs : List V} {ds : List D} : H a = some (.lst xs) → xs.length ≤ sizeLine → RL K G xs ds → Sh K G H (.ref a) (.lst ds)
  | scr {a : Addr} {xs : List V} {ds : List D} : SqL K H a xs → xs.length ≤ sizeLine → RL K G xs ds → Sh K G H (.ref a) (.scr ds)
  | tup {a : Addr} {xs : List V} {ds : List D} : H a = some (.tup xs) → xs.length ≤ sizeLine → RL K G xs ds → Sh K G H (.ref a) (.tup ds)
  | dK {a : Addr} {kvs : List (Key × V)} {ds : List (Key × D)} : Rd H a (.dK kvs) → kvs.length ≤ sizeLine → KVP K G kvs ds → Sh K G H (.ref a) (.dK ds)
  | dT {a : Addr} {kvs : List (List Key × V)} {ds : List (List Key × D)} : Rd H a (.dT kvs) → kvs.length ≤ sizeLine → KVP K G kvs ds → Sh K G H (.ref a) (.dT ds)
  | flat {v : V} {d : D} : R K G v d → flatD d = true → Sh K G H v d
section
variable {K : PySem.W.Frag} {B : Bs} {G G' H : Hp} {δ : Env} {σ : St} {i : Nat}
theorem R.sh (vw : Vw G H) {v : V} {d : D} (r : R K G v d) : Sh K G H v d := by
  cases r with
  | tup g l r => exact .tup (vw.tup g) l r
  | lst g l r => exact .lst (vw.lst g) l r
  | scr g l r => exact .scr (vw.sql g) l r
  | dK g l k r => exact .dK (vw.rd g) l (kvp_of k r)
  | dT g l k r => exact .dT (vw.rd g) l (kvp_of k r)
  | non => exact .flat .non rfl
  | bl b => exact .flat (.bl b) rfl
  | int i => exact .flat (.int i) rfl
  | str s => exact .flat (.str s) rfl
theorem Ow.sh {p : Addr} {d : D} (w : Ow K G H p d) : Sh K G H (.ref p) d := by
  cases w with
  | lst g l r => exact .lst g l r
  | dK g l k r => exact .dK (.inl g) l (kvp_of k r)
  | dT g l k r => exact .dT (.inl g) l (kvp_of k r)
/-- a slot's content, seen -/
def slD : Sl → Option D
  | .imm d => some d
  | .own d => some d
  | .io d => some d
  | .bor d => some d
  | .no => none
def isBor : Sl → Bool
  | .bor _ => true
  | _ => false
theorem At.see (a : At K B G δ σ H) {s : Sl} {d : D} (e : δ[i]? = some s) (hd : slD s = some d) : ∃ v Gc, σ[i]? = some (some v) ∧ Sh K Gc H v d ∧ Vw Gc H ∧ (isBor s = false → Gc = G) := by
  cases s with
  | no => cases hd
  | imm d' => cases hd; obtain ⟨v, h1, h2⟩ := a.imm e; exact ⟨v, G, h1, h2.sh a.vw, a.vw, fun _ => rfl⟩
  | own d' => cases hd; obtain ⟨p, h1, _, h2, _⟩ := a.own e; exact ⟨_, G, h1, h2.sh, a.vw, fun _ => rfl⟩
  | io d' => cases hd; obtain ⟨p, h1, _, h2, _⟩ := a.io e; exact ⟨_, G, h1, h2.sh, a.vw, fun _ => rfl⟩
  | bor d' => cases hd; obtain ⟨v, h1, h2⟩ := a.bor e; exact ⟨v, _, h1, h2.sh (a.bo i), a.bo i, fun h => by cases h⟩
end

/-! ### subscripts -/
def dIx : D → D → Option D
  | .lst l, .int i => atI l i
  | .scr l, .int i => atI l i
  | .tup l, .int i => atI l i
  | .str s, .int i => if s.length ≤ sizeLine then (atI s.cps.toList i).map fun c => .str ⟨#[c]⟩ else none
  | .dK l, k => (dGet (.dK l) k).bind id
  | .dT l, k => (dGet (.dT l) k).bind id
  | _, _ => none
def isDct : D → Bool
  | .dK _ => true
  | .dT _ => true
  | _ => false
section
variable {K : PySem.W.Frag} {B : Bs} {G G' H : Hp} {δ : Env} {σ : St} {i : Nat}
theorem atI_rl {xs : List V} {ds : List D} {i : Int} {d : D} (r : RL K G xs ds) (h : atI ds i = some d) : ∃ v, atI xs i = some v ∧ R K G v d := by
  unfold atI at h ⊢
  rw [r.length]
  cases q : ixN ds.length i with
  | none => rw [q] at h; cases h
  | some j => rw [q] at h; exact r.get h
/-- look-up in a dict that is seen -/
theorem sh_get {x y : V} {d k : D} {o : Option D} {G2 : Hp} (vw : Vw G2 H) (rx : Sh K G H x d) (ry : R K G2 y k) (h : dGet d k = some o) : ∃ a o', x = .ref a ∧ IsD H a ∧ DGet H a y o' ∧ ((∃ v d, o' = some v ∧ o = some d ∧ R K G v d) ∨ (o' = none ∧ o = none)) := by
  cases rx with
  | dK g l kp =>
    rename_i a kvs ds
    have h : (keyK k).map (fun k => lookA ds k) = some o := h
    cases q : keyK k with
    | none => rw [q] at h; cases h
    | some kk =>
      rw [q] at h; cases h
      refine ⟨a, valV kvs kk, rfl, .inl ⟨kvs, g⟩, .inl ⟨kvs, kk, g, keyK_ok ry q, rfl⟩, ?_⟩
      rcases kvp_look kp kk with ⟨v, d, h1, h2, h3⟩ | ⟨h1, h2⟩
      · exact .inl ⟨v, d, h1, h2, h3⟩
      · exact .inr ⟨h1, h2⟩
  | dT g l kp =>
    rename_i a kvs ds
    cases ry with
    | tup g2 l2 r2 =>
      rename_i b xs ks
      have h : (keysK ks).map (fun k => lookA ds k) = some o := h
      cases q : keysK ks with
      | none => rw [q] at h; cases h
      | some kk =>
        rw [q] at h; cases h
        have hx := keysK_ok r2 q
        subst hx
        refine ⟨a, valV kvs kk, rfl, .inr ⟨kvs, g⟩, .inr ⟨kvs, kk, b, g, rfl, vw.tup g2, rfl⟩, ?_⟩
        rcases kvp_look kp kk with ⟨v, d, h1, h2, h3⟩ | ⟨h1, h2⟩
        · exact .inl ⟨v, d, h1, h2, h3⟩
        · exact .inr ⟨h1, h2⟩
    | _ => cases h
  | flat r f => cases r <;> first | cases h | cases f
  | _ => cases h
theorem join_some {o : Option (Option D)} {d : D} (h : o.bind id = some d) : o = some (some d) := by
  cases o with
  | none => cases h
  | some o => cases o <;> cases h; rfl
/-- the rule for a subscript -/
theorem sh_ix {x y : V} {d k z : D} {G2 : Hp} {Q : VK} (vw : Vw G2 H) (rx : Sh K G H x d) (ry : R K G2 y k) (h : dIx d k = some z) (q : ∀ v, R K G v z → Q v H) :
    (isDct d = false → rIx K x y H Q) ∧ (isDct d = true → ∃ a v, x = .ref a ∧ DGet H a y (some v) ∧ Q v H) := by
  have dct : isDct d = true → ∃ a v, x = .ref a ∧ DGet H a y (some v) ∧ Q v H := fun hd => by
    have h' : (dGet d k).bind id = some z := by cases d <;> first | exact h | cases hd
    obtain ⟨a, o', e1, _, e2, e3⟩ := sh_get vw rx ry (join_some h')
    rcases e3 with ⟨v, d, rfl, e, r⟩ | ⟨_, e⟩
    · cases e; exact ⟨a, v, e1, e2, q v r⟩
    · cases e
  refine ⟨fun hd => ?_, dct⟩
  cases rx with
  | lst g l r =>
    cases ry with
    | int i => obtain ⟨v, h1, h2⟩ := atI_rl r h; exact .inl ⟨_, _, i, v, rfl, rfl, SqL.of g, h1, q v h2⟩
    | _ => cases h
  | scr g l r =>
    cases ry with
    | int i => obtain ⟨v, h1, h2⟩ := atI_rl r h; exact .inl ⟨_, _, i, v, rfl, rfl, g, h1, q v h2⟩
    | _ => cases h
  | tup g l r =>
    cases ry with
    | int i => obtain ⟨v, h1, h2⟩ := atI_rl r h; exact .inr (.inl ⟨_, _, i, v, rfl, rfl, SqT.of g, h1, q v h2⟩)
    | _ => cases h
  | dK => cases hd
  | dT => cases hd
  | flat r f =>
    cases r with
    | str s =>
      cases ry with
      | int i =>
        have h : (if s.length ≤ sizeLine then (atI s.cps.toList i).map fun c => D.str ⟨#[c]⟩ else none) = some z := h
        split at h
        · rename_i hl
          cases q2 : atI s.cps.toList i with
          | none => rw [q2] at h; cases h
          | some c => rw [q2] at h; cases h; exact .inr (.inr ⟨s, i, c, rfl, rfl, hl, q2, q _ (.str _)⟩)
        · cases h
      | _ => cases h
    | _ => first | (cases f; done) | (cases h; done)
end
def eIx (A B : Mo D) : Mo D := A.bind fun x => B.bind fun y => Mo.lift (dIx x y)
def slotDct (δ : Env) (i : Nat) : Option Bool := match δ[i]? with
  | some s => (slD s).map isDct
  | none => none
/-- x[e], x a slot: what stands there behind e -/
def ixSl (i : Nat) (k : Bool) (y : D) : Mo D := fun δ => match δ[i]? with
    | some (.imm d) => if isDct d = k then Mo.lift (dIx d y) δ else none
    | some (.own d) => if isDct d = k then Mo.lift (dIx d y) δ else none
    | some (.io d) => if isDct d = k then Mo.lift (dIx d y) δ else none
    | some (.bor d) => if isDct d = k then (match dIx d y with
      | some z => if flatD z = true then some (.ok z, δ) else none
      | none => none) else none
    | _ => none
def eIxV (i : Nat) (B : Mo D) : Mo D := fun δ => match slotDct δ i with
  | some k => (B.bind fun y => ixSl i k y) δ
  | none => none
section
variable {X : Cx} {W : WK} {e a b : Expr} {pos : Pos} {E Ea Eb : Mo D}
theorem slotDct_ok {K : PySem.W.Frag} {B : Bs} {G H : Hp} {δ : Env} {σ : St} {i : Nat} {k : Bool} (at' : At K B G δ σ H) (h : slotDct δ i = some k) : ∃ v, σ[i]? = some (some v) := by
  unfold slotDct at h
  cases q : δ[i]? with
  | none => rw [q] at h; cases h
  | some s =>
    rw [q] at h
    cases q2 : slD s with
    | none => simp only [q2] at h; cases h
    | some d => obtain ⟨v, _, h1, _⟩ := at'.see q q2; exact ⟨v, h1⟩
theorem bind_error {α β : Type} {m : Mo α} {k : α → Mo β} {δ δ1 : Env} {x : Exn} (h : m δ = some (.error x, δ1)) : Mo.bind m k δ = some (.error x, δ1) := by unfold Mo.bind; rw [h]
theorem de_ix (hu : X.A.units + 1 < cLine) (ha : DE X W a Ea) (hb : DE X W b Eb) (h1 : PlainIx b := by intro _ _; rfl) (h2 : NoSl b := by intro _ _; rfl) : DE X W (.Subscript a b pos) (eIx Ea Eb) :=
  PE.weak (PE.or (pe_ix ix_seq ha hb h1) (pe_dget hu ha hb h2)) fun σ H Q ⟨B, G, δ, r, δ', at', e1, post⟩ => by
  unfold eIx at e1
  cases q : Ea δ with
  | none => unfold Mo.bind at e1; rw [q] at e1; cases e1
  | some z =>
    obtain ⟨x, δ1⟩ := z
    cases x with
    | error x => rw [bind_error q] at e1; cases e1; exact .inl ⟨B, G, δ, .error x, _, at', q, post⟩
    | ok d =>
      rw [bind_ok q] at e1
      cases hd : isDct d with
      | false =>
        refine .inl ⟨B, G, δ, .ok d, δ1, at', q, fun G1 H1 a1 x1 v rv => ?_⟩
        refine tE_bind a1 e1 (post.mono x1) fun w H2 G2 δ2 d2 a2 x2 r2 e3 post => ?_
        obtain ⟨z, hz, hr⟩ := lift_some e3
        cases hr
        exact (sh_ix a2.vw ((rv.mono x2).sh a2.vw) r2 hz fun v rv => post G2 H2 a2 (Ext.refl _) v rv).1 hd
      | true =>
        refine .inr ⟨B, G, δ, .ok d, δ1, at', q, fun G1 H1 a1 x1 v rv => ?_⟩
        refine tE_bind a1 e1 (post.mono x1) fun w H2 G2 δ2 d2 a2 x2 r2 e3 post => ?_
        obtain ⟨z, hz, hr⟩ := lift_some e3
        cases hr
        exact (sh_ix a2.vw ((rv.mono x2).sh a2.vw) r2 hz fun v rv => post G2 H2 a2 (Ext.refl _) v rv).2 hd
/-- behind the index, the slot's content -/
theorem ixV_ok {K : PySem.W.Frag} {B : Bs} {G H : Hp} {δ δ' : Env} {σ : St} {i : Nat} {y : V} {k : D} {kb : Bool} {r : Except Exn D} {Q : VK} (at' : At K B G δ σ H) (ry : R K G y k)
    (h : ixSl i kb k δ = some (r, δ')) (post : Post K W B G σ r δ' (fun d G' H' => ∀ v, R K G' v d → Q v H')) :
    ∃ v, σ[i]? = some (some v) ∧ (kb = false → rIx K v y H Q) ∧ (kb = true → ∃ a u, v = .ref a ∧ DGet H a y (some u) ∧ Q u H) := by
  have go : ∀ (s : Sl) (d : D), δ[i]? = some s → slD s = some d → isBor s = false → (if isDct d = kb then Mo.lift (dIx d k) δ else none) = some (r, δ') → ∃ v, σ[i]? = some (some v) ∧ (kb = false → rIx K v y H Q) ∧ (kb = true → ∃ a u, v = .ref a ∧ DGet H a y (some u) ∧ Q u H) := fun s d e1 e2 e3 e4 => by
    obtain ⟨v, Gc, h1, h2, h3, h4⟩ := at'.see e1 e2
    obtain rfl := h4 e3
    split at e4
    · rename_i c
      subst c
      obtain ⟨z, hz, hr⟩ := lift_some e4
      cases hr
      exact ⟨v, h1, sh_ix (Q := Q) at'.vw h2 ry hz fun v rv => post _ H at' (Ext.refl _) v rv⟩
    · cases e4
  unfold ixSl at h
  split at h
  · rename_i d q; exact go _ d q rfl rfl h
  · rename_i d q; exact go _ d q rfl rfl h
  · rename_i d q; exact go _ d q rfl rfl h
  · rename_i d q
    obtain ⟨v, Gc, h1, h2, h3, _⟩ := at'.see q rfl
    split at h
    · rename_i c
      subst c
      cases q2 : dIx d k with
      | none => rw [q2] at h; cases h
      | some z =>
        rw [q2] at h
        simp only [] at h
        split at h
        · rename_i f
          cases h
          exact ⟨v, h1, sh_ix (Q := Q) at'.vw h2 ry q2 fun v rv => post G H at' (Ext.refl _) v (rv.flat f)⟩
        · cases h
    · cases h
  · cases h
theorem de_ixV {i : Nat} (hu : X.A.units + 1 < cLine) (ha : PE X a (tVar i)) (hb : DE X W b Eb) (h1 : PlainIx b := by intro _ _; rfl) (h2 : NoSl b := by intro _ _; rfl) : DE X W (.Subscript a b pos) (eIxV i Eb) :=
  PE.weak (PE.or (pe_ix ix_seq ha hb h1) (pe_dget hu ha hb h2)) fun σ H Q ⟨B, G, δ, r, δ', at', e1, post⟩ => by
  unfold eIxV at e1
  split at e1
  · rename_i kb hs
    obtain ⟨v, hv⟩ := slotDct_ok at' hs
    cases kb with
    | false =>
      refine .inl ⟨v, hv, ?_⟩
      refine tE_bind at' e1 post fun w H2 G2 δ2 d2 a2 x2 r2 e3 post => ?_
      obtain ⟨v', k1, k2, _⟩ := ixV_ok a2 r2 e3 post
      rw [hv] at k1; cases k1
      exact k2 rfl
    | true =>
      refine .inr ⟨v, hv, ?_⟩
      refine tE_bind at' e1 post fun w H2 G2 δ2 d2 a2 x2 r2 e3 post => ?_
      obtain ⟨v', k1, _, k2⟩ := ixV_ok a2 r2 e3 post
      rw [hv] at k1; cases k1
      exact k2 rfl
  · cases e1

/-! ### len, in -/
def dLen : D → Option D
  | .lst l => some (.int l.length)
  | .scr l => some (.int l.length)
  | .tup l => some (.int l.length)
  | .dK l => some (.int l.length)
  | .dT l => some (.int l.length)
  | .str s => if s.length ≤ sizeLine then some (.int s.length) else none
  | _ => none
theorem sh_len {K : PySem.W.Frag} {G H : Hp} {x : V} {d z : D} (rx : Sh K G H x d) (h : dLen d = some z) : ∃ n : Nat, z = .int n ∧ (LenV K x H n ∨ (∃ a kvs, x = .ref a ∧ Rd H a (.dK kvs) ∧ n = kvs.length) ∨ ∃ a kvs, x = .ref a ∧ Rd H a (.dT kvs) ∧ n = kvs.length) := by
  cases rx with
  | lst g l r => cases h; exact ⟨_, rfl, .inl (.inl ⟨_, SqL.of g, r.length.symm⟩)⟩
  | scr g l r => cases h; exact ⟨_, rfl, .inl (.inl ⟨_, g, r.length.symm⟩)⟩
  | tup g l r => cases h; exact ⟨_, rfl, .inl (.inr ⟨_, SqT.of g, r.length.symm⟩)⟩
  | dK g l r => cases h; exact ⟨_, rfl, .inr (.inl ⟨_, _, rfl, g, (Paired.length r).symm⟩)⟩
  | dT g l r => cases h; exact ⟨_, rfl, .inr (.inr ⟨_, _, rfl, g, (Paired.length r).symm⟩)⟩
  | flat r f =>
    cases r with
    | str s =>
      have h : (if s.length ≤ sizeLine then some (D.int s.length) else none) = some z := h
      split at h
      · rename_i hl; cases h; exact ⟨_, rfl, .inl ⟨hl, rfl⟩⟩
      · cases h
    | _ => first | (cases f; done) | (cases h; done)
def rLenA (K : PySem.W.Frag) : List V → Hp → VK → Prop := fun xs H Q => ∃ x n, xs = [x] ∧ (LenV K x H n ∨ (∃ a kvs, x = .ref a ∧ Rd H a (.dK kvs) ∧ n = kvs.length) ∨ ∃ a kvs, x = .ref a ∧ Rd H a (.dT kvs) ∧ n = kvs.length) ∧ Q (.int (n : Nat)) H
theorem call_lenA : CallR X (.builtin "len") (rLenA X.K) := by
  intro pins s σ H xs us Q I rv h
  obtain ⟨x, n, rfl, h, q⟩ := h
  rcases h with h | ⟨a, kvs, rfl, h, rfl⟩ | ⟨a, kvs, rfl, h, rfl⟩
  · exact call_len pins s σ H _ us Q I rv ⟨x, n, rfl, h, q⟩
  · obtain ⟨u, rfl, rx⟩ := vals1 rv
    obtain rfl : u = .ref a := rx
    exact d_len I h fun t s' I' => ⟨.int kvs.length, H, I', ⟨t, rfl⟩, q⟩
  · obtain ⟨u, rfl, rx⟩ := vals1 rv
    obtain rfl : u = .ref a := rx
    obtain ⟨z, hd, ys, rel, dd⟩ := dt_rd I.hok h
    have hl : kvs.length = ys.length := Paired.length rel
    refine call_len_dictH hd dd (by rw [← hl]; rw [sizeLine_eq] at z; omega) ?_
    rw [← hl]
    exact ⟨.int ((kvs.length : Nat) : Int), H, I.tok _, ⟨_, rfl⟩, q⟩
end
section
variable {X : Cx} {W : WK} {e a b : Expr} {pos p : Pos} {x : Str} {es : List Expr} {E Ea Eb : Mo D} {A : Mo (List Ag)}
/-- a built-in function of data -/
def eF (f : List D → Option D) (A : Mo (List Ag)) : Mo D := A.bind fun as => Mo.lift ((imms as).bind f)
def SndF (K : PySem.W.Frag) (f : List D → Option D) (r : List V → Hp → VK → Prop) : Prop := ∀ (B : Bs) (G H : Hp) (δ : Env) (σ : St) (xs : List V) (as : List D) (d : D) (Q : VK), At K B G δ σ H → RL K G xs as → f as = some d →
  (∀ v G' H', At K B G' δ σ H' → Ext G G' → R K G' v d → Q v H') → r xs H Q
def SndFO (K : PySem.W.Frag) (f : List D → Option D) (r : List V → Hp → VK → Prop) : Prop := ∀ (B : Bs) (G H : Hp) (δ : Env) (σ : St) (xs : List V) (as : List D) (d : D) (Q : VK), At K B G δ σ H → RL K G xs as → f as = some d →
  (∀ p G' H', At K B G' δ σ H' → Ext G G' → Fr1 K B G' δ σ H' p d → Q (.ref p) H') → r xs H Q
theorem eF_some {f : List D → Option D} {as : List Ag} {δ δ' : Env} {r : Except Exn D} (h : Mo.lift ((imms as).bind f) δ = some (r, δ')) : ∃ ds d, imms as = some ds ∧ f ds = some d ∧ r = .ok d ∧ δ' = δ := by
  obtain ⟨z, hz, hr⟩ := lift_some h
  cases hr
  cases q : imms as with
  | none => rw [q] at hz; cases hz
  | some ds => rw [q] at hz; exact ⟨ds, z, rfl, hz, rfl, rfl⟩
theorem de_tCB {f : List D → Option D} {r : List V → Hp → VK → Prop} (hf : SndF X.K f r) (h : PE X e (tCB r (tA X.K W A))) : DE X W e (eF f A) := PE.weak h fun σ H Q ⟨B, G, δ, r', δ', at', e1, post⟩ => by
  refine tA_bind at' e1 post fun vs H1 G1 δ1 as a1 x1 r1 e2 post => ?_
  obtain ⟨ds, d, h1, h2, rfl, rfl⟩ := eF_some e2
  exact hf B G1 H1 δ' σ vs ds d Q a1 (imms_ok r1 h1) h2 fun v G' H' a' x' rv => post G' H' a' x' v rv
theorem do_tCB {f : List D → Option D} {r : List V → Hp → VK → Prop} (hf : SndFO X.K f r) (h : PE X e (tCB r (tA X.K W A))) : DO X W e (eF f A) := PE.weak h fun σ H Q ⟨B, G, δ, r', δ', at', e1, post⟩ => by
  refine tA_bind at' e1 post fun vs H1 G1 δ1 as a1 x1 r1 e2 post => ?_
  obtain ⟨ds, d, h1, h2, rfl, rfl⟩ := eF_some e2
  exact hf B G1 H1 δ' σ vs ds d Q a1 (imms_ok r1 h1) h2 fun v G' H' a' x' rv => post G' H' a' x' v rv
def fLen : List D → Option D
  | [d] => dLen d
  | _ => none
theorem snd_len : SndF X.K fLen (rLenA X.K) := fun B G H δ σ xs as d Q at' rx h k => by
  cases rx with
  | nil => cases h
  | cons r0 r1 =>
    cases r1 with
    | cons _ _ => cases h
    | nil =>
      obtain ⟨n, rfl, h2⟩ := sh_len (r0.sh at'.vw) h
      exact ⟨_, n, rfl, h2, k _ G H at' (Ext.refl _) (.int _)⟩
theorem de_len (hg : Gl X x) (hm : X.mg x = none) (hv : bootBuiltins x = some (.builtin "len")) (ha : DA X W (e :: es) A) (hn : x ≠ "__name__" := by decide) (hdb : (x == ("__debug__" : Str)) = false := by decide)
    (he : starEach (e :: es) X.env = (false, eval e X.env) :: starEach es X.env := by rfl) (hpl : (backTo pos (starEach es X.env)).any (·.1) = false := by rfl) : DE X W (.Call (.Name x p) (e :: es) [] pos) (eF fLen A) :=
  de_tCB snd_len (pe_callB call_lenA hg hm hv ha hn hdb he hpl)
/-- len(x), x a slot that keeps its object -/
def eLenV (i : Nat) : Mo D := fun δ => match δ[i]? with
  | some s => (slD s).bind dLen |>.map fun d => (.ok d, δ)
  | none => none
theorem de_lenV {i : Nat} (hg : Gl X x) (hm : X.mg x = none) (hv : bootBuiltins x = some (.builtin "len")) (ha : PA X [e] (tCons (tVar i) tNil)) (hn : x ≠ "__name__" := by decide) (hdb : (x == ("__debug__" : Str)) = false := by decide)
    (he : starEach [e] X.env = (false, eval e X.env) :: starEach [] X.env := by rfl) (hpl : (backTo pos (starEach [] X.env)).any (·.1) = false := by rfl) : DE X W (.Call (.Name x p) [e] [] pos) (eLenV i) :=
  PE.weak (pe_callB call_lenA hg hm hv ha hn hdb he hpl) fun σ H Q ⟨B, G, δ, r', δ', at', e1, post⟩ => by
  unfold eLenV at e1
  cases q : δ[i]? with
  | none => rw [q] at e1; cases e1
  | some s =>
    rw [q] at e1
    cases q2 : slD s with
    | none => simp only [q2] at e1; cases e1
    | some d =>
      simp only [q2, Option.bind_some] at e1
      cases q3 : dLen d with
      | none => rw [q3] at e1; cases e1
      | some z =>
        rw [q3] at e1; cases e1
        obtain ⟨v, Gc, h1, h2, _⟩ := at'.see q q2
        obtain ⟨n, rfl, h3⟩ := sh_len h2 q3
        exact ⟨v, h1, v, n, rfl, h3, post G H at' (Ext.refl _) _ (.int _)⟩
end
end M

set_option Elab.async false
set_option linter.all false
set_option maxRecDepth 100000
/-! Part G: equality, in, is; changes of own objects; built-ins. -/
namespace M
open PySem L2 PySem.Spec PyProof.Rows

/-! ### data as the library's plain data -/
mutual
def toPy : D → PyData
  | .non => .none
  | .bl b => .bool b
  | .int i => .int i
  | .str s => .str s
  | .tup l => .tuple (toPys l)
  | .lst l => .list (toPys l)
  | .scr l => .list (toPys l)
  | .dK _ => .dict []
  | .dT _ => .dict []
def toPys : List D → List PyData
  | [] => []
  | d :: ds => toPy d :: toPys ds
end
section
variable {K : PySem.W.Frag} {G H : Hp}
mutual
theorem R.dp (vw : Vw G H) : ∀ {v : V} {d : D}, R K G v d → (toPy d).canLay0 = true → Dp K H v (toPy d)
  | _, _, .non, _ => .non
  | _, _, .bl b, _ => .bl b
  | _, _, .int i, _ => .int i
  | _, _, .str s, _ => .str s
  | _, _, .tup g l r, h => .tup (SqT.of (vw.tup g)) (RL.dp vw r (by simpa [toPy, PyData.canLay0] using h))
  | _, _, .lst g l r, h => .lst (SqL.of (vw.lst g)) (RL.dp vw r (by simpa [toPy, PyData.canLay0] using h))
  | _, _, .scr g l r, h => .lst (vw.sql g) (RL.dp vw r (by simpa [toPy, PyData.canLay0] using h))
  | _, _, .dK _ _ _ _, h => by simp [toPy, PyData.canLay0] at h
  | _, _, .dT _ _ _ _, h => by simp [toPy, PyData.canLay0] at h
theorem RL.dp (vw : Vw G H) : ∀ {vs : List V} {ds : List D}, RL K G vs ds → PyData.canLayAll0 (toPys ds) = true → DpAll K H vs (toPys ds)
  | _, _, .nil, _ => .nil
  | _, _, .cons r t, h => by
    simp only [toPys, PyData.canLayAll0, Bool.and_eq_true] at h
    exact .cons (R.dp vw r h.1) (RL.dp vw t h.2)
end
end
def shp (d : D) : Bool := SeqAt.shaped (toPy d)
theorem shp_dp {K : PySem.W.Frag} {G H : Hp} (vw : Vw G H) {v : V} {d : D} (r : R K G v d) (h : shp d = true) : Dp K H v (toPy d) := r.dp vw (SeqAt.canLay_of_shaped h)
/-- == where neither is a dict -/
def dEq (a b : D) : Option D := if shp a = true ∧ shp b = true then some (.bl (PyData.eqv (toPy a) (toPy b))) else none
def dNe (a b : D) : Option D := if shp a = true ∧ shp b = true then some (.bl (!PyData.eqv (toPy a) (toPy b))) else none
section
variable {X : Cx} {W : WK} {e a b c : Expr} {pos : Pos} {E Ea Eb Ec : Mo D}
theorem snd_eq : Snd2 X.K dEq (rEqD X.K) := fun B G H δ σ x y a b d Q at' rx ry h k => by
  unfold dEq at h
  split at h
  · rename_i q; cases h
    exact ⟨_, _, shp_dp at'.vw rx q.1, shp_dp at'.vw ry q.2, q.1, q.2, k _ G H at' (Ext.refl _) (.bl _)⟩
  · cases h
theorem snd_ne : Snd2 X.K dNe (rNeD X.K) := fun B G H δ σ x y a b d Q at' rx ry h k => by
  unfold dNe at h
  split at h
  · rename_i q; cases h
    exact ⟨_, _, shp_dp at'.vw rx q.1, shp_dp at'.vw ry q.2, q.1, q.2, k _ G H at' (Ext.refl _) (.bl _)⟩
  · cases h
theorem de_eq (hu : X.A.units + 64 < cLine) (ha : DE X W a Ea) (hb : DE X W b Eb) : DE X W (.Compare a [.Eq] [b] pos) (eBin dEq Ea Eb) := de_cmp (op_eqD hu) snd_eq ha hb (nomark _)
theorem de_ne (hu : X.A.units + 64 < cLine) (ha : DE X W a Ea) (hb : DE X W b Eb) : DE X W (.Compare a [.NotEq] [b] pos) (eBin dNe Ea Eb) := de_cmp (op_neD hu) snd_ne ha hb (nomark _)

/-! ### in -/
def hasPy (x : D) (l : List D) : Bool := (toPys l).any fun z => PyData.eqv z (toPy x)
/-- == of flat data -/
def eqF : D → D → Bool
  | .non, .non => true
  | .bl a, .bl b => a == b
  | .bl a, .int b => (if a then 1 else 0) == b
  | .int a, .bl b => a == (if b then 1 else 0)
  | .int a, .int b => a == b
  | .str a, .str b => a == b
  | _, _ => false
def hasF (x : D) (l : List D) : Bool := l.any fun y => eqF y x
def dIn (neg : Bool) : D → D → Option D
  | x, .lst l => if shp x = true ∧ shp (.lst l) = true then some (.bl (if neg then !hasPy x l else hasPy x l)) else none
  | x, .scr l => if shp x = true ∧ shp (.scr l) = true then some (.bl (if neg then !hasPy x l else hasPy x l)) else none
  | x, .tup l => if flatD x = true ∧ l.all flatD = true then some (.bl (if neg then !hasF x l else hasF x l)) else none
  | .non, .dK _ => some (.bl neg)
  | x, .dK l => (dGet (.dK l) x).map fun o => .bl (if neg then !o.isSome else o.isSome)
  | x, .dT l => (dGet (.dT l) x).map fun o => .bl (if neg then !o.isSome else o.isSome)
  | _, _ => none
def rDIn (neg : Bool) : R2 := fun y x H Q => ∃ a o, x = .ref a ∧ DGet H a y o ∧ Q (.bl (if neg then !o.isSome else o.isSome)) H
def rNIn (neg : Bool) : R2 := fun y x H Q => ∃ a kvs, x = .ref a ∧ y = .non ∧ Rd H a (.dK kvs) ∧ Q (.bl neg) H
theorem opd_in (hu : X.A.units + 1 < cLine) : OpR X (compareOp .In) (rDIn false) := fun pins s σ H y x u v Q I ry rx h => by
  obtain ⟨a, o, rfl, g, q⟩ := h
  cases rx
  exact d_in hu I g ry fun s' I' => ⟨.bl o.isSome, H, I', rfl, q⟩
theorem opd_notin (hu : X.A.units + 1 < cLine) : OpR X (compareOp .NotIn) (rDIn true) := fun pins s σ H y x u v Q I ry rx h => by
  obtain ⟨a, o, rfl, g, q⟩ := h
  cases rx
  exact d_notIn hu I g ry fun s' I' => ⟨.bl (!o.isSome), H, I', rfl, q⟩
theorem opn_in : OpR X (compareOp .In) (rNIn false) := fun pins s σ H y x u v Q I ry rx h => by
  obtain ⟨a, kvs, rfl, rfl, g, q⟩ := h
  cases rx; cases ry
  exact d_inNone I g fun s' I' => ⟨.bl false, H, I', rfl, q⟩
theorem opn_notin : OpR X (compareOp .NotIn) (rNIn true) := fun pins s σ H y x u v Q I ry rx h => by
  obtain ⟨a, kvs, rfl, rfl, g, q⟩ := h
  cases rx; cases ry
  exact d_notInNone I g fun s' I' => ⟨.bl true, H, I', rfl, q⟩
theorem flat_V {K : PySem.W.Frag} {G : Hp} {v : V} {d : D} (r : R K G v d) (f : flatD d = true) : flatV v = true := by
  cases r <;> first | rfl | (cases f; done)
theorem flat_Vs {K : PySem.W.Frag} {G : Hp} : ∀ {vs : List V} {ds : List D}, RL K G vs ds → ds.all flatD = true → vs.all flatV = true
  | _, _, .nil, _ => rfl
  | _, _, .cons r t, h => by
    rw [List.all_cons, Bool.and_eq_true] at h
    rw [List.all_cons, flat_V r h.1, flat_Vs t h.2]; rfl
theorem eqF_V {K : PySem.W.Frag} {G : Hp} {v w : V} {d e : D} (r : R K G v d) (s : R K G w e) (f : flatD d = true) (g : flatD e = true) : eqV v w = eqF d e := by
  cases r <;> first | (cases f; done) | (cases s <;> first | rfl | (cases g; done))
theorem hasF_V {K : PySem.W.Frag} {G : Hp} {w : V} {e : D} (s : R K G w e) (g : flatD e = true) : ∀ {vs : List V} {ds : List D}, RL K G vs ds → ds.all flatD = true → inV w vs = hasF e ds
  | _, _, .nil, _ => rfl
  | _, _, .cons r t, h => by
    rw [List.all_cons, Bool.and_eq_true] at h
    unfold inV hasF
    rw [List.any_cons, List.any_cons, eqF_V r s h.1 g]
    have := hasF_V s g t h.2
    unfold inV hasF at this
    rw [this]
abbrev rInA (K : PySem.W.Frag) (neg : Bool) : R2 := fun x y H Q => ((if neg then rNotInD K else rInD K) x y H Q ∨ rIn K neg x y H Q) ∨ (rDIn neg x y H Q ∨ rNIn neg x y H Q)
theorem opA_in (hu : X.A.units + 65 < cLine) : OpR X (compareOp .In) (rInA X.K false) := OpR.or (OpR.or (op_inD hu) op_in_seq) (OpR.or (opd_in (by omega)) opn_in)
theorem opA_notin (hu : X.A.units + 65 < cLine) : OpR X (compareOp .NotIn) (rInA X.K true) := OpR.or (OpR.or (op_notInD hu) op_notIn_seq) (OpR.or (opd_notin (by omega)) opn_notin)
/-- the container seen -/
theorem sh_in {K : PySem.W.Frag} {G Gc H : Hp} {neg : Bool} {x y : V} {d c z : D} {Q : VK} (vw : Vw G H) (vc : Vw Gc H) (rx : R K G x d) (ry : Sh K Gc H y c) (h : dIn neg d c = some z) (q : ∀ b, z = .bl b → Q (.bl b) H) : rInA K neg x y H Q := by
  have dct : ∀ o, dGet c d = some o → z = .bl (if neg then !o.isSome else o.isSome) → rInA K neg x y H Q := fun o h1 h2 => by
    obtain ⟨a, o', e1, _, e2, e3⟩ := sh_get vw ry rx h1
    have ho : o'.isSome = o.isSome := by
      rcases e3 with ⟨v, d, rfl, rfl, _⟩ | ⟨rfl, rfl⟩ <;> rfl
    exact .inr (.inl ⟨a, o', e1, e2, by rw [ho]; exact q _ h2⟩)
  cases ry with
  | lst g l r =>
    rename_i a xs ds
    have h : (if shp d = true ∧ shp (.lst ds) = true then some (D.bl (if neg then !hasPy d ds else hasPy d ds)) else none) = some z := h
    split at h
    · rename_i c; cases h
      have d2 : Dp K H (.ref a) (.list (toPys ds)) := .lst (SqL.of g) (r.dp vc (by have := SeqAt.canLay_of_shaped c.2; simpa [toPy, PyData.canLay0] using this))
      refine .inl (.inl ?_)
      cases neg
      · exact ⟨_, _, shp_dp vw rx c.1, d2, c.1, c.2, q _ rfl⟩
      · exact ⟨_, _, shp_dp vw rx c.1, d2, c.1, c.2, q _ rfl⟩
    · cases h
  | scr g l r =>
    rename_i a xs ds
    have h : (if shp d = true ∧ shp (.scr ds) = true then some (D.bl (if neg then !hasPy d ds else hasPy d ds)) else none) = some z := h
    split at h
    · rename_i c; cases h
      have d2 : Dp K H (.ref a) (.list (toPys ds)) := .lst g (r.dp vc (by have := SeqAt.canLay_of_shaped c.2; simpa [toPy, PyData.canLay0] using this))
      refine .inl (.inl ?_)
      cases neg
      · exact ⟨_, _, shp_dp vw rx c.1, d2, c.1, c.2, q _ rfl⟩
      · exact ⟨_, _, shp_dp vw rx c.1, d2, c.1, c.2, q _ rfl⟩
    · cases h
  | tup g l r =>
    rename_i a xs ds
    have h : (if flatD d = true ∧ ds.all flatD = true then some (D.bl (if neg then !hasF d ds else hasF d ds)) else none) = some z := h
    split at h
    · rename_i c; cases h
      refine .inl (.inr ⟨a, xs, rfl, .inr (SqT.of g), flat_V rx c.1, flat_Vs r c.2, ?_⟩)
      rw [hasF_V (rx.flat c.1) c.1 r c.2]
      exact q _ rfl
    · cases h
  | dK g l r =>
    rename_i a kvs ds
    by_cases hn : d = .non
    · subst hn; cases h
      cases rx
      exact .inr (.inr ⟨a, kvs, rfl, rfl, g, q _ rfl⟩)
    · have h' : ((dGet (.dK ds) d).map fun o => D.bl (if neg then !o.isSome else o.isSome)) = some z := by
        cases d <;> first | exact absurd rfl hn | exact h
      cases q2 : dGet (.dK ds) d with
      | none => rw [q2] at h'; cases h'
      | some o => rw [q2] at h'; cases h'; exact dct o q2 rfl
  | dT g l r =>
    rename_i a kvs ds
    have h' : ((dGet (.dT ds) d).map fun o => D.bl (if neg then !o.isSome else o.isSome)) = some z := by
      cases d <;> exact h
    cases q2 : dGet (.dT ds) d with
    | none => rw [q2] at h'; cases h'
    | some o => rw [q2] at h'; cases h'; exact dct o q2 rfl
  | flat r f =>
    cases r with
    | _ => first | (cases f; done) | (cases d <;> cases h)
theorem snd_in {neg : Bool} : Snd2 X.K (dIn neg) (rInA X.K neg) := fun B G H δ σ x y a b d Q at' rx ry h k =>
  sh_in at'.vw at'.vw rx (ry.sh at'.vw) h fun b hb => by subst hb; exact k _ G H at' (Ext.refl _) (.bl _)
theorem de_in (hu : X.A.units + 65 < cLine) (ha : DE X W a Ea) (hb : DE X W b Eb) (hm : behindInMarks .In b = false := by rfl) : DE X W (.Compare a [.In] [b] pos) (eBin (dIn false) Ea Eb) := de_cmp (opA_in hu) snd_in ha hb hm
theorem de_notin (hu : X.A.units + 65 < cLine) (ha : DE X W a Ea) (hb : DE X W b Eb) (hm : behindInMarks .NotIn b = false := by rfl) : DE X W (.Compare a [.NotIn] [b] pos) (eBin (dIn true) Ea Eb) := de_cmp (opA_notin hu) snd_in ha hb hm
/-- e in x, x a slot that keeps its object -/
def eInV (neg : Bool) (A : Mo D) (i : Nat) : Mo D := A.bind fun x => fun δ => match δ[i]? with
  | some s => ((slD s).bind fun c => dIn neg x c).map fun d => (.ok d, δ)
  | none => none
theorem inV_ok {neg : Bool} {i : Nat} (h : PE X e (tOp (rInA X.K neg) (tE X.K W Ea) (tVar i))) : DE X W e (eInV neg Ea i) := PE.weak h fun σ H Q ⟨B, G, δ, r', δ', at', e1, post⟩ => by
  refine tE_bind at' e1 post fun v H1 G1 δ1 d a1 x1 r1 e2 post => ?_
  cases q : δ1[i]? with
  | none => simp only [q] at e2; cases e2
  | some s =>
    simp only [q] at e2
    cases q2 : slD s with
    | none => rw [q2] at e2; cases e2
    | some c =>
      rw [q2, Option.bind_some] at e2
      cases q3 : dIn neg d c with
      | none => rw [q3] at e2; cases e2
      | some z =>
        rw [q3] at e2; cases e2
        obtain ⟨u, Gc, h1, h2, h3, _⟩ := a1.see q q2
        exact ⟨u, h1, sh_in a1.vw h3 r1 h2 q3 fun b hb => by subst hb; exact post G1 H1 a1 (Ext.refl _) _ (.bl _)⟩
theorem de_inV {i : Nat} (hu : X.A.units + 65 < cLine) (ha : DE X W a Ea) (hb : PE X b (tVar i)) (hm : behindInMarks .In b = false := by rfl) : DE X W (.Compare a [.In] [b] pos) (eInV false Ea i) := inV_ok (pe_cmpR (opA_in hu) ha hb hm)
theorem de_notinV {i : Nat} (hu : X.A.units + 65 < cLine) (ha : DE X W a Ea) (hb : PE X b (tVar i)) (hm : behindInMarks .NotIn b = false := by rfl) : DE X W (.Compare a [.NotIn] [b] pos) (eInV true Ea i) := inV_ok (pe_cmpR (opA_notin hu) ha hb hm)

/-! ### is None -/
def dIs (neg : Bool) : D → D → Option D
  | .non, .non => some (.bl (!neg))
  | _, .non => some (.bl neg)
  | _, _ => none
def rIsN (neg : Bool) : R2 := fun x y H Q => y = .non ∧ Q (.bl (if neg then !decide (x = .non) else decide (x = .non))) H
theorem snd_is {neg : Bool} : Snd2 X.K (dIs neg) (rIsN neg) := fun B G H δ σ x y a b d Q at' rx ry h k => by
  cases ry with
  | non =>
    refine ⟨rfl, ?_⟩
    cases rx with
    | non => cases h; have := k (.bl (!neg)) G H at' (Ext.refl _) (.bl _); cases neg <;> exact this
    | _ => cases h; have := k (.bl neg) G H at' (Ext.refl _) (.bl _); cases neg <;> exact this
  | _ => cases rx <;> cases h
theorem de_isN (ha : DE X W a Ea) (hb : DE X W b Eb) : DE X W (.Compare a [.Is] [b] pos) (eBin (dIs false) Ea Eb) := de_cmp (r := rIsN false) op_isN snd_is ha hb (nomark _)
theorem de_notN (ha : DE X W a Ea) (hb : DE X W b Eb) : DE X W (.Compare a [.IsNot] [b] pos) (eBin (dIs true) Ea Eb) := de_cmp (r := rIsN true) op_notN snd_is ha hb (nomark _)
end

/-! ### an own object is changed -/
def chM (i : Nat) (f : D → Option D) : Mo Unit := fun δ => match δ[i]? with
  | some (.own d) => (f d).map fun d' => (.ok (), δ.set i (.own d'))
  | some (.io d) => (f d).map fun d' => (.ok (), δ.set i (.io d'))
  | _ => none
theorem chM_ok {K : PySem.W.Frag} {B : Bs} {G H : Hp} {δ δ' : Env} {σ : St} {i : Nat} {f : D → Option D} {u : Except Exn Unit} (a : At K B G δ σ H) (h : chM i f δ = some (u, δ')) :
    u = .ok () ∧ ∃ p d d', σ[i]? = some (some (.ref p)) ∧ Ow K G H p d ∧ f d = some d' ∧ ∀ o, Mut (some o) → Ow K G (upd H p o) p d' → At K B G δ' σ (upd H p o) := by
  unfold chM at h
  split at h
  · rename_i d q
    cases q2 : f d with
    | none => rw [q2] at h; cases h
    | some d' =>
      rw [q2] at h; cases h
      obtain ⟨p, h1, h2, h3, h4⟩ := a.own q
      exact ⟨rfl, p, d, d', h1, h3, q2, fun o m w => a.change q (.inl ⟨rfl, rfl⟩) h1 m w⟩
  · rename_i d q
    cases q2 : f d with
    | none => rw [q2] at h; cases h
    | some d' =>
      rw [q2] at h; cases h
      obtain ⟨p, h1, h2, h3, h4⟩ := a.io q
      exact ⟨rfl, p, d, d', h1, h3, q2, fun o m w => a.change q (.inr ⟨rfl, rfl⟩) h1 m w⟩
  · cases h
def isSet (δ : Env) (i : Nat) : Bool := match δ[i]? with
  | some (.own _) => true
  | some (.io _) => true
  | _ => false
theorem isSet_ok {K : PySem.W.Frag} {B : Bs} {G H : Hp} {δ : Env} {σ : St} {i : Nat} (a : At K B G δ σ H) (h : isSet δ i = true) : ∃ p d, σ[i]? = some (some (.ref p)) ∧ Ow K G H p d := by
  unfold isSet at h
  split at h
  · rename_i d q; obtain ⟨p, h1, _, h3, _⟩ := a.own q; exact ⟨p, d, h1, h3⟩
  · rename_i d q; obtain ⟨p, h1, _, h3, _⟩ := a.io q; exact ⟨p, d, h1, h3⟩
  · cases h
def dAppend (x : D) : D → Option D
  | .lst l => if l.length < sizeLine then some (.lst (l ++ [x])) else none
  | _ => none
/-- x.append(e) -/
def isLst (δ : Env) (i : Nat) : Bool := match δ[i]? with
  | some (.own (.lst _)) => true
  | some (.io (.lst _)) => true
  | _ => false
theorem isLst_ok {K : PySem.W.Frag} {B : Bs} {G H : Hp} {δ : Env} {σ : St} {i : Nat} (a : At K B G δ σ H) (h : isLst δ i = true) : ∃ p xs, σ[i]? = some (some (.ref p)) ∧ H p = some (.lst xs) := by
  unfold isLst at h
  split at h
  · rename_i d q; obtain ⟨p, h1, _, h3, _⟩ := a.own q; cases h3 with | lst g l r => exact ⟨p, _, h1, g⟩
  · rename_i d q; obtain ⟨p, h1, _, h3, _⟩ := a.io q; cases h3 with | lst g l r => exact ⟨p, _, h1, g⟩
  · cases h
def sApp (i : Nat) (E : Mo D) : Mo Out := fun δ => if isLst δ i = true then (E.bind fun x => (chM i (dAppend x)).bind fun _ => Mo.ret .nx) δ else none
section
variable {X : Cx} {W : WK} {o e a b c : Expr} {pos apos cpos : Pos} {E Ea Eb Ec : Mo D}
theorem ds_app {i : Nat} (ho : PE X o (tVar i)) (he : DE X W e E) (hs : starEach [e] X.env = (false, eval e X.env) :: starEach [] X.env := by rfl)
    (hbase : attributeBase o "append" X.env (eval o X.env) = eval o X.env := by rfl)
    (hfew : ((backTo cpos (starEach [e] X.env)).all (fun x => !x.1) && (backToKw cpos (keywordEach [] X.env)).all (fun x => x.1.isSome)
      && decide (([e] : List Expr).length + ([] : List Keyword).length + (if ([] : List Keyword).isEmpty then 0 else 1) < 30)) = true := by rfl)
    (hline : (apos.endLine == cpos.line) = true := by rfl) (hplain : (backTo cpos (starEach [] X.env)).any (·.1) = false := by rfl)
    (hsw : swapsWith (.Call (.Attribute o "append" apos) [e] [] cpos) none pos.line X.env = pure false := by rfl) :
    DS X W (.Expr (.Call (.Attribute o "append" apos) [e] [] cpos) pos) (sApp i E) :=
  PS.weak (ps_expr (pe_bm PySem.F.plainAttrs_list PySem.F.slot_list_append PySem.F.type_list_append mt_append ho (pa_cons he pa_nil hs) hbase hfew hline hs hplain) hsw) fun Dn σ H ⟨B, G, δ, r, δ', at', e1, post⟩ => by
  unfold sApp at e1
  split at e1
  · rename_i hi
    obtain ⟨p, xs, hp, hx⟩ := isLst_ok at' hi
    refine ⟨_, hp, .inl ⟨rfl, xs, SqL.of hx⟩, ?_⟩
    refine tE_bindS at' e1 post fun v H1 G1 δ1 d a1 x1 r1 e2 post => ?_
    rcases unit_bind e2 with ⟨q, rfl⟩ | ⟨x, q, rfl⟩
    · obtain ⟨_, p', dd, d', h1, h2, h3, h4⟩ := chM_ok a1 q
      rw [hp] at h1; cases h1
      cases h2 with
      | lst g l rl =>
        rename_i ys ds
        have h3 : (if ds.length < sizeLine then some (D.lst (ds ++ [d])) else none) = some d' := h3
        split at h3
        · rename_i hl
          cases h3
          rw [← rl.length] at hl
          refine ⟨p, ys, v, rfl, rfl, g, hl, ?_⟩
          exact post G1 σ _ (h4 (.lst (ys ++ [v])) trivial (.lst upd_same (by rw [List.length_append]; exact hl) (rl.append (.cons r1 .nil)))) (Ext.refl _)
        · cases h3
      | dK => cases h3
      | dT => cases h3
    · have := (chM_ok a1 q).1; cases this
  · cases e1
/-- o[e] = v -/
def dSet (k v : D) : D → Option D
  | .lst l => match k with
    | .int i => (ixN l.length i).map fun j => .lst (l.set j v)
    | _ => none
  | .dK l => dPut (.dK l) k v
  | .dT l => dPut (.dT l) k v
  | _ => none
def sSet (i : Nat) (Ek Ev : Mo D) : Mo Out := Ev.bind fun v => fun δ => if isSet δ i = true then (Ek.bind fun k => (chM i (dSet k v)).bind fun _ => Mo.ret .nx) δ else none
abbrev rSetA : TSet := fun o i v H Q => rSetL o i v H Q ∨ ∃ a H', o = .ref a ∧ DPut H a i v H' ∧ Q H'
theorem set_all (hu : X.A.units + 1 < cLine) : PSet X rSetA := fun pins s σ H o i v ov iv u Q I ro ri rv h => by
  rcases h with h | ⟨a, H', rfl, g, q⟩
  · exact set_list pins s σ H o i v ov iv u Q I ro ri rv h
  · cases ro
    exact d_setItem hu I g ri rv fun s' I' => ⟨H', I', q⟩
theorem tE_bindS' {K : PySem.W.Frag} {B : Bs} {G H : Hp} {δ δ' : Env} {σ : St} {r : Except Exn Out} {Dn : Ends} {k : D → Mo Out} {Q : VK} (a : At K B G δ σ H) (h : Mo.bind E k δ = some (r, δ')) (post : PostS K W B G Dn r δ')
    (q : ∀ v H1 G1 δ1 d, At K B G1 δ1 σ H1 → Ext G G1 → R K G1 v d → k d δ1 = some (r, δ') → PostS K W B G1 Dn r δ' → Q v H1) : tE K W E σ H Q := tE_bindS a h post q
theorem ds_sub {i : Nat} {pos' : Pos} (hu : X.A.units + 1 < cLine) (ho : PE X o (tVar i)) (hk : DE X W a Ea) (hv : DE X W b Eb) (hs : swapsWithSole [.Subscript o a pos'] b pos.line X.env = pure false := by rfl) (hw : swappedStores [.Subscript o a pos'] b X.env = pure none := by rfl)
    (h1 : (assignEach [.Subscript o a pos'] X.env).map (·.2) = [assign (.Subscript o a pos') X.env] := by rfl)
    (ha : ∀ v, assign (.Subscript o a pos') X.env v = (do
      let ov ← holding [v] (eval o X.env)
      let iv ← holding [v, ov] (eval a X.env)
      standAt pos'
      holding [v, ov, iv] (setItem ov iv v)
      release [v, ov, iv] []) := by intro _; rfl) :
    DS X W (.Assign [.Subscript o a pos'] b pos) (sSet i Ea Eb) := PS.weak (ps_asg hv (pg_sub ho hk (set_all hu) ha) hs hw h1) fun Dn σ H ⟨B, G, δ, r, δ', at', e1, post⟩ => by
  refine tE_bindS at' e1 post fun v H1 G1 δ1 vd a1 x1 r1 e2 post => ?_
  split at e2
  · rename_i hi
    obtain ⟨p, d0, hp, _⟩ := isSet_ok a1 hi
    refine ⟨_, hp, ?_⟩
    refine tE_bindS a1 e2 post fun y H2 G2 δ2 kd a2 x2 r2 e3 post => ?_
    rcases unit_bind e3 with ⟨q, rfl⟩ | ⟨x, q, rfl⟩
    · obtain ⟨_, p', dd, d', h1, h2, h3, h4⟩ := chM_ok a2 q
      rw [hp] at h1; cases h1
      have rv := r1.mono x2
      have dct : dPut dd kd vd = some d' → rSetA (.ref p) y v H2 fun H3 => Dn.nx σ H3 := fun hh => by
        obtain ⟨o1, g1, g2, g3⟩ := dPut_ok a2.vw h2 r2 rv hh
        exact .inr ⟨p, _, rfl, g1, post G2 σ _ (h4 o1 g2 g3) (Ext.refl _)⟩
      cases h2 with
      | lst g l rl =>
        rename_i ys ds
        cases r2 with
        | int j =>
          have h3 : (ixN ds.length j).map (fun m => D.lst (ds.set m vd)) = some d' := h3
          cases q2 : ixN ds.length j with
          | none => rw [q2] at h3; cases h3
          | some m =>
            rw [q2] at h3; cases h3
            refine .inl ⟨p, ys, j, m, rfl, rfl, g, by rw [rl.length]; exact q2, ?_⟩
            exact post G2 σ _ (h4 (.lst (ys.set m v)) trivial (.lst upd_same (by rw [List.length_set]; exact l) (rl.set m rv))) (Ext.refl _)
        | _ => cases h3
      | dK => exact dct h3
      | dT => exact dct h3
    · have := (chM_ok a2 q).1; cases this
  · cases e2
end

/-! ### built-ins -/
section
variable {X : Cx} {W : WK} {e a b c : Expr} {pos p : Pos} {x : Str} {es : List Expr} {E Ea Eb Ec : Mo D} {A : Mo (List Ag)}
def fAbs : List D → Option D
  | [.int i] => some (.int (if i < 0 then -i else i))
  | _ => none
theorem rl1 {K : PySem.W.Frag} {G : Hp} {xs : List V} {d : D} (h : RL K G xs [d]) : ∃ v, xs = [v] ∧ R K G v d := by
  cases h with
  | cons r t => cases t; exact ⟨_, rfl, r⟩
theorem rl2 {K : PySem.W.Frag} {G : Hp} {xs : List V} {d e : D} (h : RL K G xs [d, e]) : ∃ v w, xs = [v, w] ∧ R K G v d ∧ R K G w e := by
  cases h with
  | cons r t => obtain ⟨w, rfl, r2⟩ := rl1 t; exact ⟨_, _, rfl, r, r2⟩
theorem r_int {K : PySem.W.Frag} {G : Hp} {v : V} {i : Int} (h : R K G v (.int i)) : v = .int i := by cases h; rfl
theorem r_bl {K : PySem.W.Frag} {G : Hp} {v : V} {i : Bool} (h : R K G v (.bl i)) : v = .bl i := by cases h; rfl
theorem r_str {K : PySem.W.Frag} {G : Hp} {v : V} {i : Str} (h : R K G v (.str i)) : v = .str i := by cases h; rfl
theorem snd_abs : SndF X.K fAbs (fun xs H Q => ∃ i, xs = [.int i] ∧ Q (.int (if i < 0 then -i else i)) H) := fun B G H δ σ xs as d Q at' rx h k => by
  unfold fAbs at h
  split at h
  · cases h
    obtain ⟨v, rfl, r⟩ := rl1 rx
    rw [r_int r]
    exact ⟨_, rfl, k _ G H at' (Ext.refl _) (.int _)⟩
  · cases h
theorem de_abs (hg : Gl X x) (hm : X.mg x = none) (hv : bootBuiltins x = some (.builtin "abs")) (ha : DA X W (e :: es) A) (hn : x ≠ "__name__" := by decide) (hdb : (x == ("__debug__" : Str)) = false := by decide)
    (he : starEach (e :: es) X.env = (false, eval e X.env) :: starEach es X.env := by rfl) (hpl : (backTo pos (starEach es X.env)).any (·.1) = false := by rfl) : DE X W (.Call (.Name x p) (e :: es) [] pos) (eF fAbs A) :=
  de_tCB snd_abs (pe_callB call_abs hg hm hv ha hn hdb he hpl)
def fInt : List D → Option D
  | [.int i] => some (.int i)
  | [.bl k] => some (.int (if k then 1 else 0))
  | _ => none
theorem snd_fint : SndF X.K fInt (fun xs H Q => (∃ i, xs = [.int i] ∧ Q (.int i) H) ∨ ∃ k, xs = [.bl k] ∧ Q (.int (if k then 1 else 0)) H) := fun B G H δ σ xs as d Q at' rx h k => by
  unfold fInt at h
  split at h
  · cases h
    obtain ⟨v, rfl, r⟩ := rl1 rx
    rw [r_int r]
    exact .inl ⟨_, rfl, k _ G H at' (Ext.refl _) (.int _)⟩
  · cases h
    obtain ⟨v, rfl, r⟩ := rl1 rx
    rw [r_bl r]
    exact .inr ⟨_, rfl, k _ G H at' (Ext.refl _) (.int _)⟩
  · cases h
theorem de_int1 (hg : Gl X x) (hm : X.mg x = none) (hv : bootBuiltins x = some (.type "int")) (ha : DA X W (e :: es) A) (hn : x ≠ "__name__" := by decide) (hdb : (x == ("__debug__" : Str)) = false := by decide)
    (he : starEach (e :: es) X.env = (false, eval e X.env) :: starEach es X.env := by rfl) (hpl : (backTo pos (starEach es X.env)).any (·.1) = false := by rfl) : DE X W (.Call (.Name x p) (e :: es) [] pos) (eF fInt A) :=
  de_tCB snd_fint (pe_callTy call_int1 hg hm hv ha hn hdb he hpl)
def fMax2 : List D → Option D
  | [.int i, .int j] => some (.int (if j > i then j else i))
  | _ => none
def fMin2 : List D → Option D
  | [.int i, .int j] => some (.int (if j < i then j else i))
  | _ => none
theorem snd_max2 : SndF X.K fMax2 (fun xs H Q => ∃ i j, xs = [.int i, .int j] ∧ Q (.int (if j > i then j else i)) H) := fun B G H δ σ xs as d Q at' rx h k => by
  unfold fMax2 at h
  split at h
  · cases h
    obtain ⟨v, w, rfl, r, r2⟩ := rl2 rx
    rw [r_int r, r_int r2]
    exact ⟨_, _, rfl, k _ G H at' (Ext.refl _) (.int _)⟩
  · cases h
theorem snd_min2 : SndF X.K fMin2 (fun xs H Q => ∃ i j, xs = [.int i, .int j] ∧ Q (.int (if j < i then j else i)) H) := fun B G H δ σ xs as d Q at' rx h k => by
  unfold fMin2 at h
  split at h
  · cases h
    obtain ⟨v, w, rfl, r, r2⟩ := rl2 rx
    rw [r_int r, r_int r2]
    exact ⟨_, _, rfl, k _ G H at' (Ext.refl _) (.int _)⟩
  · cases h
theorem de_max2 (hc : X.calm = true) (hg : Gl X x) (hm : X.mg x = none) (hv : bootBuiltins x = some (.builtin "max")) (ha : DA X W (e :: es) A) (hn : x ≠ "__name__" := by decide) (hdb : (x == ("__debug__" : Str)) = false := by decide)
    (he : starEach (e :: es) X.env = (false, eval e X.env) :: starEach es X.env := by rfl) (hpl : (backTo pos (starEach es X.env)).any (·.1) = false := by rfl) : DE X W (.Call (.Name x p) (e :: es) [] pos) (eF fMax2 A) :=
  de_tCB snd_max2 (pe_callB (call_max2 hc) hg hm hv ha hn hdb he hpl)
theorem de_min2 (hc : X.calm = true) (hg : Gl X x) (hm : X.mg x = none) (hv : bootBuiltins x = some (.builtin "min")) (ha : DA X W (e :: es) A) (hn : x ≠ "__name__" := by decide) (hdb : (x == ("__debug__" : Str)) = false := by decide)
    (he : starEach (e :: es) X.env = (false, eval e X.env) :: starEach es X.env := by rfl) (hpl : (backTo pos (starEach es X.env)).any (·.1) = false := by rfl) : DE X W (.Call (.Name x p) (e :: es) [] pos) (eF fMin2 A) :=
  de_tCB snd_min2 (pe_callB (call_min2 hc) hg hm hv ha hn hdb he hpl)
end
end M

set_option Elab.async false
set_option linter.all false
set_option maxRecDepth 100000
/-! Part H: copies of lists and dicts. -/
namespace M
open PySem L2 PySem.Spec PyProof.Rows

section
variable {prog : Program} {w : World} {κ : Type} [DecidableEq κ] {knd : HeapKind prog w κ} {A : Around} {E : Value → Shared → Prop} {s : Shared}
/-- dict(d), the keys tuples whose hashes differ -/
theorem dict_of_H {o : Addr} {xs : List (κ × Addr × Value)} {Q : Value → Shared → Prop} (room : knd.room A.in1.in1) (lo : (o == sysModules) = false) (ho : s.heap.DictOfH knd o xs) (hz : xs.length ≤ sizeLine)
    (st : knd.Stays) (hap : (xs.map fun x => knd.hash x.1).Nodup)
    (h : ∀ h', h'.DictOfH knd s.heap.objs.size xs → (∀ b u, s.heap.get? b = some u → h'.get? b = some u) → Q (.ref s.heap.objs.size) { s with heap := h' }) :
    wpAny (model prog w) A (call (.type "dict") [.ref o]) Q E s := by
  refine callType_codes (Q₁ := fun v t => v = .ref s.heap.objs.size ∧ t = { s with heap := s.heap.push { cls := .type "dict", data := .dict #[] } }) F.kt_called_dict (F.kt_typeCall_dict_1 _) F.entry_dict_init (kt_code_dict_new _ ⟨rfl, rfl⟩) ?_
  rintro v t ⟨rfl, rfl⟩
  have kp : ∀ b u, s.heap.get? b = some u → (s.heap.push { cls := .type "dict", data := .dict #[] }).get? b = some u := fun b u e => Heap.get?_push_of_some _ e
  have e0 : (s.heap.push { cls := .type "dict", data := .dict #[] }).DictOfH knd s.heap.objs.size [] := Heap.DictOfH.new s.heap
  have e1 : (s.heap.push { cls := .type "dict", data := .dict #[] }).DictOfH knd o xs := by
    obtain ⟨x, es, ep, a1, a2, a3, a4, a5, a6⟩ := ho
    exact ⟨x, es, ep, kp _ _ a1, a2, a3, a4, fun z hz' => st.all _ (fun b u _ e => kp b u e) _ _ (a5 z hz'), a6⟩
  have hne : s.heap.objs.size ≠ o := by
    obtain ⟨x, es, ep, a1, _⟩ := ho
    exact fun e => absurd (Heap.lt_size a1) (by rw [e]; exact Nat.lt_irrefl _)
  refine ⟨e0.typeIs, F.args_dict_init_2 _ _, ?_⟩
  unfold Builtin.«dict.__init__»
  refine wpAny_bind ?_
  unfold Builtin.Dict.selfAndRest
  refine wpAny_bind (wpAny_notOrdered_dict e0.typeIs ?_)
  show wpAny _ _ (pure (s.heap.objs.size, [Value.ref o])) _ _ _
  refine wpAny_pure ?_
  refine updateFrom_dictH .none room hne lo e0 e1 (.inr ⟨keyed_apart st e1, hap⟩) (by simpa using hz) fun h' g1 g2 g3 => ?_
  rw [storedAllH_nil_of_nodup _ e1.nodup] at g1
  refine ⟨rfl, h h' g1 fun b u e => ?_⟩
  rw [g3.2 b (Nat.ne_of_lt (Heap.lt_size e))]
  exact kp b u e
end

/-! ### dict(d), list(d) -/
def ikHash (ks : List Key) : Int := reduceHash (Builtin.Tuple.tupleHashOf (ks.map fun k => match k with
  | .inl i => hashInt i
  | .inr _ => 0))
def intKey (ks : List Key) : Bool := ks.all fun k => match k with
  | .inl _ => true
  | .inr _ => false
theorem ikHash_eq {P : Program} {w : World} : ∀ {ks : List Key}, intKey ks = true → tupleKeyHash (mixKind P w) ks = ikHash ks := fun {ks} h => by
  unfold tupleKeyHash ikHash
  congr 2
  apply List.map_congr_left
  intro k hk
  have := List.all_eq_true.mp h k hk
  cases k with
  | inl i => rfl
  | inr s => cases this
/-- the keys' hashes differ: what a copy of such a dict asks -/
def apart (ks : List (List Key)) : Prop := (∀ k ∈ ks, intKey k = true) ∧ (ks.map ikHash).Nodup
section
variable {X : Cx} {W : WK} {e a b c : Expr} {pos p : Pos} {x : Str} {es : List Expr} {E Ea Eb Ec : Mo D} {A : Mo (List Ag)}
def rDictA : List V → Hp → VK → Prop := fun xs H Q => (∃ a kvs, xs = [.ref a] ∧ Rd H a (.dK kvs) ∧ ∀ q, H q = none → Q (.ref q) (upd H q (.dK kvs))) ∨
  ∃ a kvs, xs = [.ref a] ∧ Rd H a (.dT kvs) ∧ apart (kvs.map (·.1)) ∧ ∀ q, H q = none → Q (.ref q) (upd H q (.dT kvs))
theorem call_dictA (hu : X.A.units + 4 < cLine) : CallR X (.type "dict") rDictA := fun pins s σ H xs us Q I rv h => by
  rcases h with ⟨a, kvs, rfl, hd, q⟩ | ⟨a, kvs, rfl, hd, ⟨h1, h2⟩, q⟩
  · obtain ⟨u, rfl, rx⟩ := vals1 rv
    obtain rfl : u = .ref a := rx
    exact d_copyOf I hd fun p s' hp I' => ⟨.ref p, _, I', rfl, q p hp⟩
  · obtain ⟨u, rfl, rx⟩ := vals1 rv
    obtain rfl : u = .ref a := rx
    obtain ⟨z, lo, ys, rel, dd⟩ := dt_rd I.hok hd
    have hl : kvs.length = ys.length := Paired.length rel
    have hk : ys.map (·.1) = kvs.map (·.1) := by
      clear q h1 h2 dd hl hd z
      induction rel with
      | nil => rfl
      | cons h _ ih => rw [List.map_cons, List.map_cons, ih, h.1]
    have hap : (ys.map fun x => (tupleKind (mixKind X.prog X.w)).hash x.1).Nodup := by
      have e : (ys.map fun x => (tupleKind (mixKind X.prog X.w)).hash x.1) = (kvs.map (·.1)).map ikHash := by
        rw [← hk, List.map_map]
        apply List.map_congr_left
        intro y hy
        have : y.1 ∈ kvs.map (·.1) := by rw [← hk]; exact List.mem_map.mpr ⟨y, hy, rfl⟩
        exact ikHash_eq (h1 _ this)
      rw [e]; exact h2
    refine dict_of_H (by show X.A.units + 1 + 1 < cLine; omega) lo dd (by rw [← hl]; exact z) tupleKind_stays hap fun h' g1 g2 => ?_
    obtain ⟨o, es, ep, a1, a2, a3, a4, a5, a6⟩ := g1
    refine ⟨.ref s.heap.objs.size, _, I.laid (t' := s.toks) (o := .dT kvs) g2 (Nat.le_refl _) ?_, rfl, q _ (I.hok.fresh (Nat.le_refl _))⟩
    refine ⟨z, beq_eq_false_iff_ne.mpr (Ne.symm (Nat.ne_of_lt I.big)), ys, rel.keeps fun b xs hb => ?_, o, es, ep, a1, a2, a3, a4, a6⟩
    rw [upd_ne (ne_of_none hb (I.hok.fresh (Nat.le_refl _)))]; exact hb
open Classical in
noncomputable def fDict : List D → Option D
  | [.dK l] => some (.dK l)
  | [.dT l] => if apart (l.map (·.1)) then some (.dT l) else none
  | _ => none
theorem snd_dict : SndFO X.K fDict rDictA := fun B G H δ σ xs as d Q at' rx h k => by
  unfold fDict at h
  split at h
  · cases h
    obtain ⟨v, rfl, r⟩ := rl1 rx
    cases r with
    | dK g l hk r =>
      refine .inl ⟨_, _, rfl, at'.vw.rd g, fun q hq => ?_⟩
      obtain ⟨b1, b2⟩ := at'.own1 (p := q) (o := .dK _) hq (.dK upd_same l hk r)
      exact k q _ _ b1 (Ext.refl _) b2
  · rename_i l
    split at h
    · rename_i ap
      cases h
      obtain ⟨v, rfl, r⟩ := rl1 rx
      cases r with
      | dT g l hk r =>
        refine .inr ⟨_, _, rfl, at'.vw.rd g, by rw [hk]; exact ap, fun q hq => ?_⟩
        obtain ⟨b1, b2⟩ := at'.own1 (p := q) (o := .dT _) hq (.dT upd_same l hk r)
        exact k q _ _ b1 (Ext.refl _) b2
    · cases h
  · cases h
theorem do_dict (hu : X.A.units + 4 < cLine) (hg : Gl X x) (hm : X.mg x = none) (hv : bootBuiltins x = some (.type "dict")) (ha : DA X W (e :: es) A) (hn : x ≠ "__name__" := by decide) (hdb : (x == ("__debug__" : Str)) = false := by decide)
    (he : starEach (e :: es) X.env = (false, eval e X.env) :: starEach es X.env := by rfl) (hpl : (backTo pos (starEach es X.env)).any (·.1) = false := by rfl) : DO X W (.Call (.Name x p) (e :: es) [] pos) (eF fDict A) :=
  do_tCB snd_dict (pe_callTy (call_dictA hu) hg hm hv ha hn hdb he hpl)

/-! ### list(x), tuple(x) -/
def fList : List D → Option D
  | [.lst l] => some (.lst l)
  | [.scr l] => some (.lst l)
  | [.tup l] => some (.lst l)
  | _ => none
def rListA (K : PySem.W.Frag) : List V → Hp → VK → Prop := fun xs H Q => (∃ p ys, xs = [.ref p] ∧ (SqL K H p ys ∨ SqT K H p ys) ∧ ∀ l, H l = none → Q (.ref l) (upd H l (.lst ys))) ∨
  ∃ d kvs, xs = [V.ref d] ∧ Rd H d (.dT kvs) ∧ ∀ p bs, H p = none → IsKeys H kvs bs → Q (.ref p) (upd H p (.lst (bs.map V.ref)))
theorem call_listA (hc : X.calm = true) : CallR X (.type "list") (rListA X.K) := fun pins s σ H xs us Q I rv h => by
  rcases h with h | h
  · exact call_list_of pins s σ H xs us Q I rv h
  · exact call_list_dT hc pins s σ H xs us Q I rv h
theorem keys_rl {K : PySem.W.Frag} {B : Bs} {H : Hp} {δ : Env} {σ : St} : ∀ {kvs : List (List Key × V)} {bs : List Addr}, IsKeys H kvs bs → kvs.length ≤ sizeLine → (∀ p ∈ kvs, p.1.length ≤ sizeLine) → ∀ {G : Hp}, At K B G δ σ H → ∃ G', At K B G' δ σ H ∧ Ext G G' ∧ RL K G' (bs.map V.ref) (kvs.map fun p => .tup (p.1.map kD))
  | _, _, .nil, _, _, G, a => ⟨G, a, Ext.refl _, .nil⟩
  | p :: kvs, b :: bs, .cons h t, hl, hk, G, a => by
    obtain ⟨G1, a1, x1, g1⟩ := a.tuple h
    obtain ⟨G2, a2, x2, r2⟩ := keys_rl t (by rw [List.length_cons] at hl; omega) (fun q hq => hk q (List.mem_cons_of_mem _ hq)) a1
    refine ⟨G2, a2, x1.trans x2, ?_⟩
    rw [List.map_cons, List.map_cons]
    exact .cons (.tup (x2 _ _ g1) (by rw [List.length_map]; exact hk p List.mem_cons_self) (kDs_ok _)) r2
/-- keys are short -/
def shortK (ks : List (List Key)) : Bool := ks.all fun k => decide (k.length ≤ 1000)
def fList' : List D → Option D
  | [.dT l] => if shortK (l.map (·.1)) = true then some (.lst (l.map fun p => .tup (p.1.map kD))) else none
  | as => fList as
theorem snd_list : SndFO X.K fList' (rListA X.K) := fun B G H δ σ xs as d Q at' rx h k => by
  have seq : ∀ v l, (∃ a ys, v = V.ref a ∧ (SqL X.K H a ys ∨ SqT X.K H a ys) ∧ ys.length ≤ sizeLine ∧ RL X.K G ys l) → d = .lst l → xs = [v] → rListA X.K xs H Q := fun v l hh hd hx => by
    obtain ⟨a, ys, rfl, h1, h2, h3⟩ := hh
    subst hd hx
    refine .inl ⟨a, ys, rfl, h1, fun q hq => ?_⟩
    obtain ⟨b1, b2⟩ := at'.own1 (p := q) (o := .lst _) hq (.lst upd_same h2 h3)
    exact k q _ _ b1 (Ext.refl _) b2
  unfold fList' at h
  split at h
  · rename_i l
    split at h
    · rename_i hs
      cases h
      obtain ⟨v, rfl, r⟩ := rl1 rx
      cases r with
      | dT g hl hk r =>
        rename_i a kvs
        refine .inr ⟨a, kvs, rfl, at'.vw.rd g, fun q bs hq hb => ?_⟩
        have hlen := congrArg List.length hk
        rw [List.length_map, List.length_map] at hlen
        obtain ⟨G2, a2, x2, r2⟩ := keys_rl hb hl (fun p hp => by
          have : p.1 ∈ l.map (·.1) := by rw [← hk]; exact List.mem_map.mpr ⟨p, hp, rfl⟩
          exact small_line (of_decide_eq_true (List.all_eq_true.mp hs p.1 this))) at'
        have e : (kvs.map fun p => D.tup (p.1.map kD)) = l.map fun p => D.tup (p.1.map kD) := by
          have : ∀ m : List (List Key × V), (m.map fun p => D.tup (p.1.map kD)) = (m.map (·.1)).map fun k => D.tup (k.map kD) := fun m => by rw [List.map_map]; rfl
          rw [this, hk, List.map_map]; rfl
        rw [e] at r2
        obtain ⟨b1, b2⟩ := a2.own1 (p := q) (o := .lst (bs.map V.ref)) hq (.lst upd_same (by rw [r2.length, List.length_map]; omega) r2)
        exact k q _ _ b1 x2 b2
    · cases h
  · unfold fList at h
    split at h
    · cases h
      obtain ⟨v, rfl, r⟩ := rl1 rx
      cases r with
      | lst g l r => exact seq _ _ ⟨_, _, rfl, .inl (SqL.of (at'.vw.lst g)), l, r⟩ rfl rfl
    · cases h
      obtain ⟨v, rfl, r⟩ := rl1 rx
      cases r with
      | scr g l r => exact seq _ _ ⟨_, _, rfl, .inl (at'.vw.sql g), l, r⟩ rfl rfl
    · cases h
      obtain ⟨v, rfl, r⟩ := rl1 rx
      cases r with
      | tup g l r => exact seq _ _ ⟨_, _, rfl, .inr (SqT.of (at'.vw.tup g)), l, r⟩ rfl rfl
    · cases h
theorem do_list (hc : X.calm = true) (hg : Gl X x) (hm : X.mg x = none) (hv : bootBuiltins x = some (.type "list")) (ha : DA X W (e :: es) A) (hn : x ≠ "__name__" := by decide) (hdb : (x == ("__debug__" : Str)) = false := by decide)
    (he : starEach (e :: es) X.env = (false, eval e X.env) :: starEach es X.env := by rfl) (hpl : (backTo pos (starEach es X.env)).any (·.1) = false := by rfl) : DO X W (.Call (.Name x p) (e :: es) [] pos) (eF fList' A) :=
  do_tCB snd_list (pe_callTy (call_listA hc) hg hm hv ha hn hdb he hpl)
def fTuple : List D → Option D
  | [.lst l] => some (.tup l)
  | [.tup l] => some (.tup l)
  | _ => none
theorem snd_tuple : SndF X.K fTuple (fun xs H Q => ∃ p ys, xs = [.ref p] ∧ ((SqL X.K H p ys ∧ ∀ l, H l = none → Q (.ref l) (upd H l (.tup ys))) ∨ (SqT X.K H p ys ∧ Q (.ref p) H))) := fun B G H δ σ xs as d Q at' rx h k => by
  unfold fTuple at h
  split at h
  · cases h
    obtain ⟨v, rfl, r⟩ := rl1 rx
    cases r with
    | lst g l r =>
      rename_i a xs
      refine ⟨_, _, rfl, .inl ⟨SqL.of (at'.vw.lst g), fun q hq => ?_⟩⟩
      have ex := Ext.new (o := .tup xs) (at'.vw.none hq)
      exact k _ _ _ (at'.laid hq fun _ z => by cases z) ex (.tup upd_same l (r.mono ex))
  · cases h
    obtain ⟨v, rfl, r⟩ := rl1 rx
    cases r with
    | tup g l r => exact ⟨_, _, rfl, .inr ⟨SqT.of (at'.vw.tup g), k _ G H at' (Ext.refl _) (.tup g l r)⟩⟩
  · cases h
theorem de_tuple (hg : Gl X x) (hm : X.mg x = none) (hv : bootBuiltins x = some (.type "tuple")) (ha : DA X W (e :: es) A) (hn : x ≠ "__name__" := by decide) (hdb : (x == ("__debug__" : Str)) = false := by decide)
    (he : starEach (e :: es) X.env = (false, eval e X.env) :: starEach es X.env := by rfl) (hpl : (backTo pos (starEach es X.env)).any (·.1) = false := by rfl) : DE X W (.Call (.Name x p) (e :: es) [] pos) (eF fTuple A) :=
  de_tCB snd_tuple (pe_callTy call_tuple_of hg hm hv ha hn hdb he hpl)

/-! ### sums, least, any, all, sorted -/
def intsD : List D → Option (List Int)
  | [] => some []
  | .int i :: l => (intsD l).map (i :: ·)
  | _ => none
theorem intsD_ok {K : PySem.W.Frag} {G : Hp} : ∀ {xs : List V} {l : List D} {ns : List Int}, RL K G xs l → intsD l = some ns → xs = ns.map V.int
  | _, _, _, .nil, h => by cases h; rfl
  | _, d :: l, _, .cons r t, h => by
    cases r with
    | int i =>
      unfold intsD at h
      cases q : intsD l with
      | none => rw [q] at h; cases h
      | some ns => rw [q] at h; cases h; rw [intsD_ok t q]; rfl
    | _ => cases h
theorem rl_ints {K : PySem.W.Frag} {G : Hp} : ∀ ns : List Int, RL K G (ns.map V.int) (ns.map D.int)
  | [] => .nil
  | n :: ns => .cons (.int n) (rl_ints ns)
/-- the list of ints that a value is -/
def lstInts : List D → Option (List Int)
  | [.lst l] => intsD l
  | _ => none
theorem lstInts_ok {K : PySem.W.Frag} {G H : Hp} {xs : List V} {as : List D} {ns : List Int} (vw : Vw G H) (rx : RL K G xs as) (h : lstInts as = some ns) : ∃ a, xs = [.ref a] ∧ SqL K H a (ns.map V.int) ∧ ns.length ≤ sizeLine := by
  unfold lstInts at h
  split at h
  · obtain ⟨v, rfl, r⟩ := rl1 rx
    cases r with
    | lst g l r =>
      have := intsD_ok r h
      subst this
      exact ⟨_, rfl, SqL.of (vw.lst g), by simpa using l⟩
  · cases h
def fSum (as : List D) : Option D := (lstInts as).map fun ns => .int ns.sum
theorem snd_sum : SndF X.K fSum (rSum X.K) := fun B G H δ σ xs as d Q at' rx h k => by
  unfold fSum at h
  cases q : lstInts as with
  | none => rw [q] at h; cases h
  | some ns =>
    rw [q] at h; cases h
    obtain ⟨a, rfl, h1, _⟩ := lstInts_ok at'.vw rx q
    exact ⟨a, ns, rfl, h1, k _ G H at' (Ext.refl _) (.int _)⟩
theorem de_sum (hc : X.calm = true) (hg : Gl X x) (hm : X.mg x = none) (hv : bootBuiltins x = some (.builtin "sum")) (ha : DA X W (e :: es) A) (hn : x ≠ "__name__" := by decide) (hdb : (x == ("__debug__" : Str)) = false := by decide)
    (he : starEach (e :: es) X.env = (false, eval e X.env) :: starEach es X.env := by rfl) (hpl : (backTo pos (starEach es X.env)).any (·.1) = false := by rfl) : DE X W (.Call (.Name x p) (e :: es) [] pos) (eF fSum A) :=
  de_tCB snd_sum (pe_callB (cr_sum hc) hg hm hv ha hn hdb he hpl)
def minL : List Int → Option Int
  | [] => none
  | n :: ns => some (ns.foldl min n)
def maxL : List Int → Option Int
  | [] => none
  | n :: ns => some (ns.foldl max n)
theorem foldl_min : ∀ (ns : List Int) (n : Int), (ns.foldl min n = n ∨ ns.foldl min n ∈ ns) ∧ ns.foldl min n ≤ n ∧ ∀ y ∈ ns, ns.foldl min n ≤ y
  | [], n => ⟨.inl rfl, Int.le_refl _, fun y h => by cases h⟩
  | m :: ns, n => by
    obtain ⟨h1, h2, h3⟩ := foldl_min ns (min n m)
    rw [List.foldl_cons]
    refine ⟨?_, by omega, fun y hy => ?_⟩
    · rcases h1 with h1 | h1
      · rw [h1]
        by_cases c : n ≤ m
        · exact .inl (by omega)
        · exact .inr (by rw [show min n m = m by omega]; exact List.mem_cons_self)
      · exact .inr (List.mem_cons_of_mem _ h1)
    · rcases List.mem_cons.mp hy with rfl | hy
      · omega
      · exact h3 y hy
theorem foldl_max : ∀ (ns : List Int) (n : Int), (ns.foldl max n = n ∨ ns.foldl max n ∈ ns) ∧ n ≤ ns.foldl max n ∧ ∀ y ∈ ns, y ≤ ns.foldl max n
  | [], n => ⟨.inl rfl, Int.le_refl _, fun y h => by cases h⟩
  | m :: ns, n => by
    obtain ⟨h1, h2, h3⟩ := foldl_max ns (max n m)
    rw [List.foldl_cons]
    refine ⟨?_, by omega, fun y hy => ?_⟩
    · rcases h1 with h1 | h1
      · rw [h1]
        by_cases c : m ≤ n
        · exact .inl (by omega)
        · exact .inr (by rw [show max n m = m by omega]; exact List.mem_cons_self)
      · exact .inr (List.mem_cons_of_mem _ h1)
    · rcases List.mem_cons.mp hy with rfl | hy
      · omega
      · exact h3 y hy
theorem minL_ok {ns : List Int} {m m' : Int} (h : minL ns = some m) (h1 : m' ∈ ns) (h2 : ∀ y ∈ ns, m' ≤ y) : m' = m := by
  cases ns with
  | nil => cases h
  | cons n ns =>
    cases h
    obtain ⟨a, b, c⟩ := foldl_min ns n
    have : m' ≤ ns.foldl min n := by
      rcases a with a | a
      · rw [a]; exact h2 _ List.mem_cons_self
      · exact h2 _ (List.mem_cons_of_mem _ a)
    have : ns.foldl min n ≤ m' := by
      rcases List.mem_cons.mp h1 with rfl | h1
      · exact b
      · exact c _ h1
    omega
theorem maxL_ok {ns : List Int} {m m' : Int} (h : maxL ns = some m) (h1 : m' ∈ ns) (h2 : ∀ y ∈ ns, y ≤ m') : m' = m := by
  cases ns with
  | nil => cases h
  | cons n ns =>
    cases h
    obtain ⟨a, b, c⟩ := foldl_max ns n
    have : ns.foldl max n ≤ m' := by
      rcases a with a | a
      · rw [a]; exact h2 _ List.mem_cons_self
      · exact h2 _ (List.mem_cons_of_mem _ a)
    have : m' ≤ ns.foldl max n := by
      rcases List.mem_cons.mp h1 with rfl | h1
      · exact b
      · exact c _ h1
    omega
theorem minL_some {ns : List Int} {m : Int} (h : minL ns = some m) : 0 < ns.length := by cases ns <;> first | cases h; done | simp
theorem maxL_some {ns : List Int} {m : Int} (h : maxL ns = some m) : 0 < ns.length := by cases ns <;> first | cases h; done | simp
def fMin (as : List D) : Option D := ((lstInts as).bind minL).map .int
def fMax (as : List D) : Option D := ((lstInts as).bind maxL).map .int
theorem snd_min : SndF X.K fMin (rMin X.K) := fun B G H δ σ xs as d Q at' rx h k => by
  unfold fMin at h
  cases q : lstInts as with
  | none => rw [q] at h; cases h
  | some ns =>
    rw [q, Option.bind_some] at h
    cases q2 : minL ns with
    | none => rw [q2] at h; cases h
    | some m =>
      rw [q2] at h; cases h
      obtain ⟨a, rfl, h1, _⟩ := lstInts_ok at'.vw rx q
      exact ⟨a, ns, rfl, h1, minL_some q2, fun m' z1 z2 => by rw [minL_ok q2 z1 z2]; exact k _ G H at' (Ext.refl _) (.int _)⟩
theorem snd_max : SndF X.K fMax (rMax X.K) := fun B G H δ σ xs as d Q at' rx h k => by
  unfold fMax at h
  cases q : lstInts as with
  | none => rw [q] at h; cases h
  | some ns =>
    rw [q, Option.bind_some] at h
    cases q2 : maxL ns with
    | none => rw [q2] at h; cases h
    | some m =>
      rw [q2] at h; cases h
      obtain ⟨a, rfl, h1, _⟩ := lstInts_ok at'.vw rx q
      exact ⟨a, ns, rfl, h1, maxL_some q2, fun m' z1 z2 => by rw [maxL_ok q2 z1 z2]; exact k _ G H at' (Ext.refl _) (.int _)⟩
theorem de_min (hc : X.calm = true) (hg : Gl X x) (hm : X.mg x = none) (hv : bootBuiltins x = some (.builtin "min")) (ha : DA X W (e :: es) A) (hn : x ≠ "__name__" := by decide) (hdb : (x == ("__debug__" : Str)) = false := by decide)
    (he : starEach (e :: es) X.env = (false, eval e X.env) :: starEach es X.env := by rfl) (hpl : (backTo pos (starEach es X.env)).any (·.1) = false := by rfl) : DE X W (.Call (.Name x p) (e :: es) [] pos) (eF fMin A) :=
  de_tCB snd_min (pe_callB (cr_min hc) hg hm hv ha hn hdb he hpl)
theorem de_max (hc : X.calm = true) (hg : Gl X x) (hm : X.mg x = none) (hv : bootBuiltins x = some (.builtin "max")) (ha : DA X W (e :: es) A) (hn : x ≠ "__name__" := by decide) (hdb : (x == ("__debug__" : Str)) = false := by decide)
    (he : starEach (e :: es) X.env = (false, eval e X.env) :: starEach es X.env := by rfl) (hpl : (backTo pos (starEach es X.env)).any (·.1) = false := by rfl) : DE X W (.Call (.Name x p) (e :: es) [] pos) (eF fMax A) :=
  de_tCB snd_max (pe_callB (cr_max hc) hg hm hv ha hn hdb he hpl)
/-- sorted ints: a list, or the keys of a dict -/
def sortI (ns : List Int) : List Int := ns.mergeSort (fun a b => decide (a ≤ b))
theorem sortI_perm (ns : List Int) : (sortI ns).Perm ns := List.mergeSort_perm _ _
theorem sortI_sorted (ns : List Int) : (sortI ns).Pairwise (· ≤ ·) := by
  have := List.pairwise_mergeSort (le := fun a b : Int => decide (a ≤ b)) (fun a b c h1 h2 => by simp only [decide_eq_true_eq] at *; omega) (fun a b => by simp only [Bool.or_eq_true, decide_eq_true_eq]; omega) ns
  exact this.imp (fun h => of_decide_eq_true h)
theorem sortI_uniq : ∀ {l m : List Int}, l.Perm m → l.Pairwise (· ≤ ·) → m.Pairwise (· ≤ ·) → l = m
  | [], m, p, _, _ => by rw [List.nil_perm.mp p]
  | x :: l, m, p, h1, h2 => by
    cases m with
    | nil => exact absurd p.length_eq (by simp)
    | cons y m =>
      obtain ⟨a1, a2⟩ := List.pairwise_cons.mp h1
      obtain ⟨b1, b2⟩ := List.pairwise_cons.mp h2
      have hx : x ∈ y :: m := p.mem_iff.mp List.mem_cons_self
      have hy : y ∈ x :: l := p.mem_iff.mpr List.mem_cons_self
      have e : x = y := by
        rcases List.mem_cons.mp hx with e | hx
        · exact e
        · rcases List.mem_cons.mp hy with e | hy
          · exact e.symm
          · have := b1 x hx; have := a1 y hy; omega
      subst e
      rw [sortI_uniq ((List.perm_cons x).mp p) a2 b2]
def keyInts : List Key → Option (List Int)
  | [] => some []
  | .inl i :: l => (keyInts l).map (i :: ·)
  | _ => none
theorem keyInts_ok : ∀ {l : List Key} {ns : List Int}, keyInts l = some ns → l = ns.map Sum.inl
  | [], _, h => by cases h; rfl
  | .inl i :: l, _, h => by
    unfold keyInts at h
    cases q : keyInts l with
    | none => rw [q] at h; cases h
    | some ns => rw [q] at h; cases h; rw [keyInts_ok q]; rfl
  | .inr _ :: _, _, h => by cases h
def fSortI : List D → Option D
  | [.lst l] => (intsD l).map fun ns => .lst ((sortI ns).map D.int)
  | [.dK l] => (keyInts (l.map (·.1))).bind fun ns => if ns.length < 64 then some (.lst ((sortI ns).map D.int)) else none
  | _ => none
def rSortA (K : PySem.W.Frag) : List V → Hp → VK → Prop := fun vs H Q => rSortedI K vs H Q ∨ ∃ (a : Addr) (kvs : List (Key × V)) (ks : List Int), vs = [.ref a] ∧ Rd H a (.dK kvs) ∧ kvs.map (·.1) = ks.map Sum.inl ∧ ks.length < 64 ∧
    ∀ (ys : List Int) (p : Addr), ys.Perm ks → ys.Pairwise (· ≤ ·) → H p = none → Q (.ref p) (upd H p (.lst (ys.map V.int)))
theorem call_sortA (hc : X.calm = true) : CallR X (.builtin "sorted") (rSortA X.K) := fun pins s σ H xs us Q I rv h => by
  rcases h with h | h
  · exact cr_sortedI pins s σ H xs us Q I rv h
  · exact call_sortedDI hc pins s σ H xs us Q I rv h
theorem snd_sortI : SndFO X.K fSortI (rSortA X.K) := fun B G H δ σ xs as d Q at' rx h k => by
  have fin : ∀ ns : List Int, d = .lst ((sortI ns).map D.int) → ns.length ≤ sizeLine → ∀ (ns' : List Int) (p : Addr), ns'.Perm ns → ns'.Pairwise (· ≤ ·) → H p = none → Q (.ref p) (upd H p (.lst (ns'.map V.int))) := fun ns hd hl ns' p z1 z2 z3 => by
    have e : ns' = sortI ns := sortI_uniq (z1.trans (sortI_perm ns).symm) z2 (sortI_sorted ns)
    subst e hd
    obtain ⟨b1, b2⟩ := at'.own1 (p := p) (o := .lst ((sortI ns).map V.int)) z3 (.lst upd_same (by rw [List.length_map, (sortI_perm ns).length_eq]; exact hl) (rl_ints _))
    exact k p _ _ b1 (Ext.refl _) b2
  unfold fSortI at h
  split at h
  · rename_i l
    cases q : intsD l with
    | none => rw [q] at h; cases h
    | some ns =>
      rw [q] at h; cases h
      obtain ⟨a, rfl, h1, h2⟩ := lstInts_ok (as := [.lst l]) at'.vw rx q
      exact .inl ⟨a, ns, rfl, h1, fin ns rfl h2⟩
  · rename_i l
    cases q : keyInts (l.map (·.1)) with
    | none => rw [q] at h; cases h
    | some ns =>
      rw [q, Option.bind_some] at h
      split at h
      · rename_i hl
        cases h
        obtain ⟨v, rfl, r⟩ := rl1 rx
        cases r with
        | dK g l hk r => exact .inr ⟨_, _, ns, rfl, at'.vw.rd g, by rw [hk]; exact keyInts_ok q, hl, fin ns rfl (small64 hl)⟩
      · cases h
  · cases h
theorem do_sortI (hc : X.calm = true) (hg : Gl X x) (hm : X.mg x = none) (hv : bootBuiltins x = some (.builtin "sorted")) (ha : DA X W (e :: es) A) (hn : x ≠ "__name__" := by decide) (hdb : (x == ("__debug__" : Str)) = false := by decide)
    (he : starEach (e :: es) X.env = (false, eval e X.env) :: starEach es X.env := by rfl) (hpl : (backTo pos (starEach es X.env)).any (·.1) = false := by rfl) : DO X W (.Call (.Name x p) (e :: es) [] pos) (eF fSortI A) :=
  do_tCB snd_sortI (pe_callB (call_sortA hc) hg hm hv ha hn hdb he hpl)
end
end M

set_option Elab.async false
set_option linter.all false
set_option maxRecDepth 100000
/-! Part I: what the printed texts name. -/
theorem L2.Room.u1 {k : Nat} {A : PySem.Around} (r : L2.Room k A) : A.units + 1 < PySem.cLine := by have := r.un; omega
theorem L2.Room.u4 {k : Nat} {A : PySem.Around} (r : L2.Room k A) : A.units + 4 < PySem.cLine := by have := r.un; omega
theorem L2.Room.u65 {k : Nat} {A : PySem.Around} (r : L2.Room k A) : A.units + 65 < PySem.cLine := by have := r.un; omega
namespace M
open PySem L2 PySem.Spec PyProof.Rows
theorem bt_len : bootBuiltins "len" = some (.builtin "len") := by decide +kernel
theorem bt_abs : bootBuiltins "abs" = some (.builtin "abs") := by decide +kernel
theorem bt_min : bootBuiltins "min" = some (.builtin "min") := by decide +kernel
theorem bt_max : bootBuiltins "max" = some (.builtin "max") := by decide +kernel
theorem bt_sum : bootBuiltins "sum" = some (.builtin "sum") := by decide +kernel
theorem bt_sorted : bootBuiltins "sorted" = some (.builtin "sorted") := by decide +kernel
theorem bt_any : bootBuiltins "any" = some (.builtin "any") := by decide +kernel
theorem bt_all : bootBuiltins "all" = some (.builtin "all") := by decide +kernel
theorem bt_isinstance : bootBuiltins "isinstance" = some (.builtin "isinstance") := by decide +kernel
theorem bt_int : bootBuiltins "int" = some (.type "int") := by decide +kernel
theorem bt_list : bootBuiltins "list" = some (.type "list") := by decide +kernel
theorem bt_dict : bootBuiltins "dict" = some (.type "dict") := by decide +kernel
theorem bt_tuple : bootBuiltins "tuple" = some (.type "tuple") := by decide +kernel
theorem bt_set : bootBuiltins "set" = some (.type "set") := by decide +kernel
theorem bt_str : bootBuiltins "str" = some (.type "str") := by decide +kernel
/-- a def that may be called by its name -/
structure CalM (P : Program) (w : World) (K : PySem.W.Frag) (mg : Str → Option Value) (base : Heap) (k : Nat) (x : Str) (n : Nat) (ro : Bool) (m : Mo D) : Prop where
  ex : ∃ (f : Addr) (fd : FuncData) (ps : List Str), FnOk P w K mg base CX0 k f fd ps (spM Wn K n ro m) ∧ mg x = some (.ref f) ∧ PySem.W.keepIn K (.ref f) = true ∧ Binds K fd ps []
section
variable {X : Cx} {W : WK} {e : Expr} {es : List Expr} {A : Mo (List Ag)} {k n : Nat} {x : Str} {p pos : Pos} {m : Mo D} {st : Stmt}
theorem de_callC (C : CalM X.prog X.w X.K X.mg X.base k x n false m) (hr : Room k X.A) (hg : Gl X x) (hl : ALen A n) (ha : DA X W0 (e :: es) A) (hdb : (x == ("__debug__" : Str)) = false := by decide)
    (he : starEach (e :: es) X.env = (false, eval e X.env) :: starEach es X.env := by rfl) (hpl : (backTo pos (starEach es X.env)).any (·.1) = false := by rfl) : DE X W0 (.Call (.Name x p) (e :: es) [] pos) (eCall m A) := by
  obtain ⟨f, fd, ps, F, hm, hk, hb⟩ := C.ex
  exact de_call F hr hg hm hk hb hl ha hdb he hpl
theorem do_callC (C : CalM X.prog X.w X.K X.mg X.base k x n true m) (hr : Room k X.A) (hg : Gl X x) (hl : ALen A n) (ha : DA X W0 (e :: es) A) (hdb : (x == ("__debug__" : Str)) = false := by decide)
    (he : starEach (e :: es) X.env = (false, eval e X.env) :: starEach es X.env := by rfl) (hpl : (backTo pos (starEach es X.env)).any (·.1) = false := by rfl) : DO X W0 (.Call (.Name x p) (e :: es) [] pos) (eCall m A) := by
  obtain ⟨f, fd, ps, F, hm, hk, hb⟩ := C.ex
  exact do_call F hr hg hm hk hb hl ha hdb he hpl
/-- a statement that is never come to -/
def sNever : Mo Out := fun _ => none
theorem ds_never : DS X W st sNever := ⟨fun pins s σ H Dn I ⟨B, G, δ, r, δ', a, e1, post⟩ => by cases e1⟩
end
/-! ### comparisons as tests -/
section
variable {X : Cx} {W : WK} {a b c : Expr} {pos : Pos} {Ea Eb Ec : Mo D}
theorem tOp_ok {K : PySem.W.Frag} {f : D → D → Option D} {r : R2} (hf : Snd2 K f r) {σ : St} {H : Hp} {Q : VK} (q : tE K W (eBin f Ea Eb) σ H Q) : tOp r (tE K W Ea) (tE K W Eb) σ H Q := by
  obtain ⟨B, G, δ, r', δ', a, e1, post⟩ := q
  refine tE_bind a e1 post fun v H1 G1 δ1 d a1 x1 r1 e2 post => ?_
  refine tE_bind a1 e2 post fun w H2 G2 δ2 d2 a2 x2 r2 e3 post => ?_
  obtain ⟨z, hz, hr⟩ := lift_some e3
  cases hr
  exact hf B G2 H2 δ' σ v w d d2 z Q a2 (r1.mono x2) r2 hz fun v G' H' a' x' r' => post G' H' a' x' v r'
theorem tTest_ok {K : PySem.W.Frag} {E : Mo D} {t : TE} (h : ∀ σ H Q, tE K W E σ H Q → t σ H Q) {σ : St} {H : Hp} {Q : Bool → Hp → Prop} (q : tT K W (eB E) σ H Q) : tTest t σ H Q := by
  obtain ⟨B, G, δ, r', δ', a, e1, post⟩ := q
  refine h _ _ _ (tE_bind a e1 post fun v H1 G1 δ1 d a1 x1 r1 e2 post => ?_)
  obtain ⟨z, hz, hr⟩ := lift_some e2
  cases hr
  obtain rfl := dBl_some hz
  cases r1
  exact ⟨z, rfl, post G1 H1 a1 (Ext.refl _)⟩
theorem dt_cmp {op : CmpOp} {f : D → D → Option D} {r : R2} (ho : OpR X (compareOp op) r) (hf : Snd2 X.K f r) (ha : DE X W a Ea) (hb : DE X W b Eb) (hm : behindInMarks op b = false) : DT X W (.Compare a [op] [b] pos) (eB (eBin f Ea Eb)) :=
  PT.weak (pt_cmpR ho ha hb hm) fun σ H Q q => tTest_ok (fun _ _ _ z => tOp_ok hf z) q
theorem dt_lt (ha : DE X W a Ea) (hb : DE X W b Eb) : DT X W (.Compare a [.Lt] [b] pos) (eB (eBin dLt Ea Eb)) := dt_cmp opc_lt snd_cmp' ha hb (nomark _)
theorem dt_le (ha : DE X W a Ea) (hb : DE X W b Eb) : DT X W (.Compare a [.LtE] [b] pos) (eB (eBin dLe Ea Eb)) := dt_cmp opc_le snd_cmp' ha hb (nomark _)
theorem dt_gt (ha : DE X W a Ea) (hb : DE X W b Eb) : DT X W (.Compare a [.Gt] [b] pos) (eB (eBin dGt Ea Eb)) := dt_cmp opc_gt snd_cmp' ha hb (nomark _)
theorem dt_ge (ha : DE X W a Ea) (hb : DE X W b Eb) : DT X W (.Compare a [.GtE] [b] pos) (eB (eBin dGe Ea Eb)) := dt_cmp opc_ge snd_cmp' ha hb (nomark _)
theorem dt_eq (hu : X.A.units + 64 < cLine) (ha : DE X W a Ea) (hb : DE X W b Eb) : DT X W (.Compare a [.Eq] [b] pos) (eB (eBin dEq Ea Eb)) := dt_cmp (op_eqD hu) snd_eq ha hb (nomark _)
theorem dt_ne (hu : X.A.units + 64 < cLine) (ha : DE X W a Ea) (hb : DE X W b Eb) : DT X W (.Compare a [.NotEq] [b] pos) (eB (eBin dNe Ea Eb)) := dt_cmp (op_neD hu) snd_ne ha hb (nomark _)
theorem dt_in (hu : X.A.units + 65 < cLine) (ha : DE X W a Ea) (hb : DE X W b Eb) (hm : behindInMarks .In b = false := by rfl) : DT X W (.Compare a [.In] [b] pos) (eB (eBin (dIn false) Ea Eb)) := dt_cmp (opA_in hu) snd_in ha hb hm
theorem dt_notin (hu : X.A.units + 65 < cLine) (ha : DE X W a Ea) (hb : DE X W b Eb) (hm : behindInMarks .NotIn b = false := by rfl) : DT X W (.Compare a [.NotIn] [b] pos) (eB (eBin (dIn true) Ea Eb)) := dt_cmp (opA_notin hu) snd_in ha hb hm
theorem dt_isN (ha : DE X W a Ea) (hb : DE X W b Eb) : DT X W (.Compare a [.Is] [b] pos) (eB (eBin (dIs false) Ea Eb)) := dt_cmp (r := rIsN false) op_isN snd_is ha hb (nomark _)
theorem dt_notN (ha : DE X W a Ea) (hb : DE X W b Eb) : DT X W (.Compare a [.IsNot] [b] pos) (eB (eBin (dIs true) Ea Eb)) := dt_cmp (r := rIsN true) op_notN snd_is ha hb (nomark _)
theorem tInV_ok {K : PySem.W.Frag} {neg : Bool} {i : Nat} {σ : St} {H : Hp} {Q : VK} (q : tE K W (eInV neg Ea i) σ H Q) : tOp (rInA K neg) (tE K W Ea) (tVar i) σ H Q := by
  obtain ⟨B, G, δ, r', δ', at', e1, post⟩ := q
  refine tE_bind at' e1 post fun v H1 G1 δ1 d a1 x1 r1 e2 post => ?_
  cases q : δ1[i]? with
  | none => simp only [q] at e2; cases e2
  | some s =>
    simp only [q] at e2
    cases q2 : slD s with
    | none => rw [q2] at e2; cases e2
    | some c =>
      rw [q2, Option.bind_some] at e2
      cases q3 : dIn neg d c with
      | none => rw [q3] at e2; cases e2
      | some z =>
        rw [q3] at e2; cases e2
        obtain ⟨u, Gc, h1, h2, h3, _⟩ := a1.see q q2
        exact ⟨u, h1, sh_in a1.vw h3 r1 h2 q3 fun b hb => by subst hb; exact post G1 H1 a1 (Ext.refl _) _ (.bl _)⟩
theorem dt_inV {i : Nat} (hu : X.A.units + 65 < cLine) (ha : DE X W a Ea) (hb : PE X b (tVar i)) (hm : behindInMarks .In b = false := by rfl) : DT X W (.Compare a [.In] [b] pos) (eB (eInV false Ea i)) :=
  PT.weak (pt_cmpR (opA_in hu) ha hb hm) fun σ H Q q => tTest_ok (fun _ _ _ z => tInV_ok z) q
theorem dt_notinV {i : Nat} (hu : X.A.units + 65 < cLine) (ha : DE X W a Ea) (hb : PE X b (tVar i)) (hm : behindInMarks .NotIn b = false := by rfl) : DT X W (.Compare a [.NotIn] [b] pos) (eB (eInV true Ea i)) :=
  PT.weak (pt_cmpR (opA_notin hu) ha hb hm) fun σ H Q q => tTest_ok (fun _ _ _ z => tInV_ok z) q
theorem tChain_ok {K : PySem.W.Frag} {f g : D → D → Option D} {r r' : R2} (hf : Snd2 K f r) (hg : Snd2 K g r') {σ : St} {H : Hp} {Q : VK} (q : tE K W (eChain f g Ea Eb Ec) σ H Q) : tChain r r' (tE K W Ea) (tE K W Eb) (tE K W Ec) σ H Q := by
  obtain ⟨B, G, δ, r1, δ', at', e1, post⟩ := q
  refine tE_bind at' e1 post fun v H1 G1 δ1 d a1 x1 r1 e2 post => ?_
  refine tE_bind a1 e2 post fun w H2 G2 δ2 d2 a2 x2 r2 e3 post => ?_
  unfold Mo.bind Mo.lift at e3
  cases q : (f d d2).bind dBl with
  | none => rw [q] at e3; cases e3
  | some k =>
    rw [q] at e3
    simp only [] at e3
    cases q2 : f d d2 with
    | none => rw [q2] at q; cases q
    | some z =>
      rw [q2, Option.bind_some] at q
      obtain rfl := dBl_some q
      refine hf B G2 H2 δ2 σ v w d d2 _ _ a2 (r1.mono x2) r2 q2 fun v3 G3 H3 a3 x3 r3 => ?_
      cases r3
      refine ⟨k, rfl, ?_⟩
      cases k with
      | false => rw [if_neg Bool.false_ne_true] at e3 ⊢; cases e3; exact (post.mono x3) G3 H3 a3 (Ext.refl _) _ (.bl _)
      | true =>
        rw [if_pos rfl] at e3 ⊢
        refine tE_bind (k := fun z => Mo.lift (g d2 z)) a3 e3 (post.mono x3) fun u H4 G4 δ4 d4 a4 x4 r4 e4 post => ?_
        obtain ⟨z, hz, hr⟩ := lift_some e4
        cases hr
        exact hg B G4 H4 δ' σ w u d2 d4 z Q a4 (r2.mono (x3.trans x4)) r4 hz fun v G' H' a' x' r' => post G' H' a' x' v r'
theorem dt_chain {op op' : CmpOp} {f g : D → D → Option D} {r r' : R2} (ho : OpR X (compareOp op) r) (ho' : OpR X (compareOp op') r') (hf : Snd2 X.K f r) (hg : Snd2 X.K g r') (ha : DE X W a Ea) (hb : DE X W b Eb) (hc : DE X W c Ec)
    (hm : lastMarks [op, op'] [b, c] = false := by with_unfolding_all rfl) : DT X W (.Compare a [op, op'] [b, c] pos) (eB (eChain f g Ea Eb Ec)) := PT.weak (pt_chain ho ho' ha hb hc hm) fun σ H Q q => tTest_ok (fun _ _ _ z => tChain_ok hf hg z) q
end
end M

set_option Elab.async false
set_option linter.all false
set_option maxRecDepth 100000
/-! Part J: a dict display; a list of own lists. -/
namespace M
open PySem L2 PySem.Spec PyProof.Rows
section
variable {K : PySem.W.Frag} {B : Bs} {G H H' : Hp} {δ : Env} {σ : St}
def grow (L : List Addr) (G H' : Hp) : Hp := fun p => if p ∈ L then H' p else G p
theorem grow_in {L : List Addr} {p : Addr} (h : p ∈ L) : grow L G H' p = H' p := if_pos h
theorem grow_out {L : List Addr} {p : Addr} (h : p ∉ L) : grow L G H' p = G p := if_neg h
/-- new objects that nobody knows are told -/
theorem At.more (a : At K B G δ σ H) (L : List Addr) (hn : ∀ p ∈ L, H p = none) (hs : ∀ p, p ∉ L → H' p = H p) (ht : ∀ p ∈ L, ∀ ps, H' p ≠ some (.tbl ps)) : At K B (grow L G H') δ σ H' ∧ Ext G (grow L G H') := by
  have nl : ∀ p o, H p = some o → p ∉ L := fun p o e m => by rw [hn p m] at e; cases e
  have gl : ∀ p o, G p = some o → p ∉ L := fun p o e m => by rw [a.vw.none (hn p m)] at e; cases e
  have ex : Ext G (grow L G H') := fun p o e => by rw [grow_out (gl p o e)]; exact e
  have vw : ∀ F, Vw F H → Vw F H' := fun F v p o e => by
    have := v.there e
    have hp : p ∉ L := fun m => this (hn p m)
    rw [hs p hp]; exact v p o e
  refine ⟨⟨fun p o e => ?_, a.g0.trans ex, fun p o e z => ?_, fun p e => ?_, fun p o e t z => ?_, fun i p e => ?_, fun j => vw _ (a.bo j), a.bod, a.len, fun i s e => ?_, a.apart, ⟨fun P hP => (a.tb.1 P hP).ext fun b o e => by rw [hs b (nl b o e)]; exact e, a.tb.2.1, fun b ps e => (by
    by_cases c : b ∈ L
    · rw [grow_in c] at e; exact ht b c ps e
    · rw [grow_out c] at e; exact a.tb.2.2.1 b ps e), a.tb.2.2.2⟩⟩, ex⟩
  · by_cases c : p ∈ L
    · rw [grow_in c] at e; exact .inl e
    · rw [grow_out c] at e; rw [hs p c]; exact a.vw p o e
  · have := a.keep p o e z
    rw [hs p (nl p o this)]; exact this
  · have := a.dom p e
    rw [hs p fun m => this (hn p m)]; exact this
  · have := a.leak p o e t z
    have h0 : H p ≠ none := a.dom p (by rw [e]; simp)
    rw [grow_out fun m => h0 (hn p m)]; exact this
  · obtain ⟨a1, a2, a3, o, a4, a5⟩ := a.iok i p e
    exact ⟨a1, a2, a3, o, by rw [hs p (nl p o a4)]; exact a4, a5⟩
  · obtain ⟨ov, h1, h2⟩ := a.sl i s e
    refine ⟨ov, h1, ?_⟩
    cases s with
    | no => trivial
    | imm d => obtain ⟨v, q, r⟩ := h2; exact ⟨v, q, r.mono ex⟩
    | bor d => exact h2
    | own d =>
      obtain ⟨p, q1, q2, q3, q4⟩ := h2
      obtain ⟨o, b1, _⟩ := q3.obj
      exact ⟨p, q1, by rw [grow_out (nl p o b1)]; exact q2, (q3.at' (hs p (nl p o b1))).mono ex, q4⟩
    | io d =>
      obtain ⟨p, q1, q2, q3, q4⟩ := h2
      obtain ⟨o, b1, _⟩ := q3.obj
      exact ⟨p, q1, by rw [grow_out (nl p o b1)]; exact q2, (q3.at' (hs p (nl p o b1))).mono ex, q4⟩
end
/-! ### {k: v} -/
def eDisp1 (Ek Ev : Mo D) : Mo D := fun δ => match Ek δ with
  | some (.ok k, δ1) => match Ev δ1 with
    | some (.ok v, δ2) => (keyK k).map fun kk => (.ok (.dK [(kk, v)]), δ2)
    | _ => none
  | _ => none
theorem nodup_inj {α : Type} : ∀ {l : List α} {i j : Nat} {x : α}, l.Nodup → l[i]? = some x → l[j]? = some x → i = j
  | [], i, j, x, _, h, _ => by simp at h
  | y :: l, 0, 0, x, _, _, _ => rfl
  | y :: l, 0, j + 1, x, n, h1, h2 => by
    simp at h1 h2; subst h1
    exact absurd (List.mem_of_getElem? h2) (List.nodup_cons.mp n).1
  | y :: l, i + 1, 0, x, n, h1, h2 => by
    simp at h1 h2; subst h2
    exact absurd (List.mem_of_getElem? h1) (List.nodup_cons.mp n).1
  | y :: l, i + 1, j + 1, x, n, h1, h2 => by
    have := nodup_inj (i := i) (j := j) (x := x) (List.nodup_cons.mp n).2 (by simpa using h1) (by simpa using h2)
    rw [this]
theorem do_disp1 {X : Cx} {W : WK} {k v : Expr} {pos : Pos} {Ek Ev : Mo D} (hk : DE X W0 k Ek) (hv : DE X W0 v Ev) : DO X W (.Dict [some k] [v] pos) (eDisp1 Ek Ev) :=
  PE.weak (pe_disp (pps_cons hk hv pps_nil) rfl rfl (by simp) (by simp)) fun σ H Q ⟨B, G, δ, r, δ', a, e1, post⟩ => by
  intro p hp
  unfold eDisp1 at e1
  cases q : Ek δ with
  | none => simp only [q] at e1; cases e1
  | some z =>
    obtain ⟨u, δ1⟩ := z
    cases u with
    | error u => simp only [q] at e1; cases e1
    | ok dk =>
      simp only [q] at e1
      cases q2 : Ev δ1 with
      | none => simp only [q2] at e1; cases e1
      | some z =>
        obtain ⟨u, δ2⟩ := z
        cases u with
        | error u => simp only [q2] at e1; cases e1
        | ok dv =>
          simp only [q2] at e1
          cases q3 : keyK dk with
          | none => rw [q3] at e1; cases e1
          | some kk =>
            rw [q3] at e1; cases e1
            have b0 := a.fresh0 hp
            have ot := a.out1 b0 (a.vw.none hp)
            have a1 := (a.alloc (o := .dK []) hp).add (D1 := p) nt_dK upd_same (a.vw.none hp) (a.noOwn hp)
            refine ⟨_, G, δ, .ok dk, δ1, a1, q, fun G1 H1 a2 x2 x rx => ?_⟩
            refine ⟨_, G1, δ1, .ok dv, _, a2, q2, fun G2 H2 a3 x3 y ry => ?_⟩
            obtain ⟨h1, h2, h3, h4⟩ := a3.drop ot nt_dK
            have hx := keyK_ok rx q3
            refine ⟨h1, [(kk, y)], by rw [hx]; rfl, by simp, ?_⟩
            refine post G2 _ (h4 _) (x2.trans x3) p ⟨h2, b0, h3, .dK upd_same (small_line (by simp [mergeK, putK])) rfl ?_⟩
            exact .cons ry .nil
/-! ### found = [[] for ..]; found[a].append(k) -/
def edAB : D → Option (Nat × Nat)
  | .tup (.int a :: .int b :: _) => if 0 ≤ a ∧ 0 ≤ b then some (a.toNat, b.toNat) else none
  | _ => none
def edsAB : List D → Option (List (Nat × Nat))
  | [] => some []
  | d :: ds => match edAB d with
    | none => none
    | some p => match edsAB ds with
      | none => none
      | some ps => some (p :: ps)
def addAt (ls : List (List Int)) (i : Nat) (x : Int) : List (List Int) := ls.set i (ls.getD i [] ++ [x])
def touchL : Nat → List (Nat × Nat) → List (List Int) → List (List Int)
  | _, [], ls => ls
  | k, (a, b) :: r, ls => touchL (k + 1) r (addAt (addAt ls a k) b k)
def llD (ls : List (List Int)) : D := .lst (ls.map fun l => .lst (l.map D.int))
def m_touching : Mo D := fun δ => match δ with
  | [.imm (.int c), .imm (.lst es)] => match edsAB es with
    | some ps => if (0 ≤ c ∧ c ≤ 1000) ∧ es.length ≤ 1000 ∧ (∀ p ∈ ps, (p.1 : Int) < c ∧ (p.2 : Int) < c) then some (.ok (llD (touchL 0 ps (List.replicate c.toNat []))), [.no, .no]) else none
    | none => none
  | _ => none
/-- the lists under construction -/
structure TL (H0 H : Hp) (D : Addr) (ps : List Addr) (ls : List (List Int)) : Prop where
  len : ps.length = ls.length
  d : H D = some (.lst (ps.map V.ref))
  nd : (D :: ps).Nodup
  el : ∀ (i : Nat) p l, ps[i]? = some p → ls[i]? = some l → H p = some (.lst (l.map V.int))
  fr : ∀ p ∈ D :: ps, H0 p = none
  out : ∀ p, p ∉ D :: ps → H p = H0 p
theorem TL.start {H0 : Hp} {D : Addr} (h : H0 D = none) : TL H0 (upd H0 D (.lst [])) D [] [] := by
  refine ⟨rfl, upd_same, by simp, fun i p l e => by simp at e, fun p hp => ?_, fun p hp => upd_ne fun c => hp (by rw [c]; simp)⟩
  simp at hp; rw [hp]; exact h
theorem TL.there {H0 H : Hp} {D : Addr} {ps : List Addr} {ls : List (List Int)} (t : TL H0 H D ps ls) {p : Addr} (h : p ∈ D :: ps) : H p ≠ none := by
  rcases List.mem_cons.mp h with rfl | h
  · rw [t.d]; simp
  · obtain ⟨i, hi, e⟩ := List.mem_iff_getElem.mp h
    have e2 : ps[i]? = some p := by rw [List.getElem?_eq_getElem hi, e]
    rw [t.el i p _ e2 (List.getElem?_eq_getElem (by rw [← t.len]; exact hi))]; simp
theorem TL.push {H0 H : Hp} {D : Addr} {ps : List Addr} {ls : List (List Int)} (t : TL H0 H D ps ls) {p : Addr} (hp : H p = none) : TL H0 (upd (upd H p (.lst [])) D (.lst (ps.map V.ref ++ [V.ref p]))) D (ps ++ [p]) (ls ++ [[]]) := by
  have nm : p ∉ D :: ps := fun m => t.there m hp
  have h0 : H0 p = none := by rw [← t.out p nm]; exact hp
  have nD : p ≠ D := fun c => nm (by rw [c]; simp)
  have nps : p ∉ ps := fun m => nm (List.mem_cons_of_mem _ m)
  obtain ⟨n1, n2⟩ := List.nodup_cons.mp t.nd
  refine ⟨by rw [List.length_append, List.length_append, t.len]; rfl, by rw [upd_same, List.map_append]; rfl, ?_, fun i q l e1 e2 => ?_, fun q hq => ?_, fun q hq => ?_⟩
  · refine List.nodup_cons.mpr ⟨fun m => ?_, ?_⟩
    · rcases List.mem_append.mp m with m | m
      · exact n1 m
      · simp at m; exact nD m.symm
    · refine List.nodup_append.mpr ⟨n2, by simp, fun x hx y hy => ?_⟩
      simp at hy; subst hy
      intro c; subst c; exact nps hx
  · have qD : q ≠ D := fun c => by
      have : q ∈ ps ++ [p] := List.mem_of_getElem? e1
      rcases List.mem_append.mp this with m | m
      · exact n1 (c ▸ m)
      · simp at m; exact nD (m ▸ c)
    rw [upd_ne qD]
    by_cases hi : i < ps.length
    · rw [List.getElem?_append_left hi] at e1
      rw [List.getElem?_append_left (by rw [← t.len]; exact hi)] at e2
      have qp : q ≠ p := fun c => nps (c ▸ List.mem_of_getElem? e1)
      rw [upd_ne qp]; exact t.el i q l e1 e2
    · rw [List.getElem?_append_right (by omega)] at e1
      rw [List.getElem?_append_right (by rw [← t.len]; omega), ← t.len] at e2
      cases hz : i - ps.length with
      | zero => rw [hz] at e1 e2; simp at e1 e2; subst e1 e2; rw [upd_same]; rfl
      | succ m => rw [hz] at e1; simp at e1
  · rcases List.mem_cons.mp hq with rfl | hq
    · exact t.fr _ List.mem_cons_self
    · rcases List.mem_append.mp hq with m | m
      · exact t.fr _ (List.mem_cons_of_mem _ m)
      · simp at m; subst m; exact h0
  · have a1 : q ≠ D := fun c => hq (by rw [c]; exact List.mem_cons_self)
    have a2 : q ∉ ps := fun m => hq (List.mem_cons_of_mem _ (List.mem_append_left _ m))
    have a3 : q ≠ p := fun c => hq (List.mem_cons_of_mem _ (List.mem_append_right _ (by rw [c]; simp)))
    rw [upd_ne a1, upd_ne a3]
    exact t.out q fun m => (List.mem_cons.mp m).elim a1 a2
theorem TL.add {H0 H : Hp} {D : Addr} {ps : List Addr} {ls : List (List Int)} (t : TL H0 H D ps ls) {i : Nat} {p : Addr} (x : Int) (hp : ps[i]? = some p) : TL H0 (upd H p (.lst ((ls.getD i []).map V.int ++ [V.int x]))) D ps (addAt ls i x) := by
  obtain ⟨n1, n2⟩ := List.nodup_cons.mp t.nd
  have hm := List.mem_of_getElem? hp
  have pD : p ≠ D := fun c => n1 (c ▸ hm)
  have hi : i < ps.length := (List.getElem?_eq_some_iff.mp hp).1
  have hil : i < ls.length := by rw [← t.len]; exact hi
  refine ⟨by unfold addAt; rw [List.length_set]; exact t.len, by rw [upd_ne pD.symm]; exact t.d, t.nd, fun j q l e1 e2 => ?_, t.fr, fun q hq => ?_⟩
  · unfold addAt at e2
    by_cases c : i = j
    · subst c
      rw [hp] at e1; cases e1
      rw [List.getElem?_set_self hil] at e2; cases e2
      rw [upd_same, List.map_append]; rfl
    · rw [List.getElem?_set_ne c] at e2
      have qp : q ≠ p := fun z => by
        subst z
        exact c (nodup_inj n2 hp e1)
      rw [upd_ne qp]; exact t.el j q l e1 e2
  · rw [upd_ne fun c => hq (by rw [c]; exact List.mem_cons_of_mem _ hm)]; exact t.out q hq
theorem TL.fin {K : PySem.W.Frag} {B : Bs} {G H0 H : Hp} {δ : Env} {σ : St} {D : Addr} {ps : List Addr} {ls : List (List Int)} (t : TL H0 H D ps ls) (a : At K B G δ σ H0) (hl : ls.length ≤ sizeLine) (hls : ∀ l ∈ ls, l.length ≤ sizeLine) : ∃ G', At K B G' δ σ H ∧ Ext G G' ∧ R K G' (.ref D) (llD ls) := by
  obtain ⟨a1, x1⟩ := a.more (D :: ps) t.fr t.out fun p hp ts e => by
    rcases List.mem_cons.mp hp with rfl | hp
    · rw [t.d] at e; cases e
    · obtain ⟨i, hi, ei⟩ := List.mem_iff_getElem.mp hp
      have h1 : ls[i]? = some (ls[i]'(by rw [← t.len]; exact hi)) := List.getElem?_eq_getElem _
      rw [t.el i p _ (by rw [List.getElem?_eq_getElem hi, ei]) h1] at e
      cases e
  refine ⟨_, a1, x1, ?_⟩
  have hD : grow (D :: ps) G H D = some (.lst (ps.map V.ref)) := by rw [grow_in List.mem_cons_self]; exact t.d
  refine .lst hD (by rw [List.length_map, t.len]; exact hl) ?_
  -- the inner lists
  have key : ∀ (qs : List Addr) (ms : List (List Int)), qs.length = ms.length → (∀ (i : Nat) q l, qs[i]? = some q → ms[i]? = some l → q ∈ D :: ps ∧ H q = some (.lst (l.map V.int)) ∧ l.length ≤ sizeLine) → RL K (grow (D :: ps) G H) (qs.map V.ref) (ms.map fun l => .lst (l.map M.D.int)) := by
    intro qs
    induction qs with
    | nil => intro ms h _; cases ms with | nil => exact .nil | cons _ _ => simp at h
    | cons q qs ih =>
      intro ms h k
      cases ms with
      | nil => simp at h
      | cons m ms =>
        obtain ⟨k1, k2, k3⟩ := k 0 q m rfl rfl
        refine .cons (.lst (xs := m.map V.int) (by rw [grow_in k1]; exact k2) (by rw [List.length_map]; exact k3) (rl_ints m)) (ih ms (by simpa using h) fun i q' l e1 e2 => k (i + 1) q' l (by simpa using e1) (by simpa using e2))
  exact key ps ls t.len fun i q l e1 e2 => ⟨List.mem_cons_of_mem _ (List.mem_of_getElem? e1), t.el i q l e1 e2, hls l (List.mem_of_getElem? e2)⟩
theorem addAt_len (ls : List (List Int)) (i : Nat) (x : Int) : (addAt ls i x).length = ls.length := by unfold addAt; rw [List.length_set]
theorem addAt_le {ls : List (List Int)} {i : Nat} {x : Int} {n : Nat} (h : ∀ l ∈ ls, l.length ≤ n) : ∀ l ∈ addAt ls i x, l.length ≤ n + 1 := fun l m => by
  unfold addAt at m
  rcases List.mem_or_eq_of_mem_set m with m | rfl
  · have := h l m; omega
  · rw [List.length_append, List.length_singleton]
    rw [List.getD_eq_getElem?_getD]
    cases q : ls[i]? with
    | none => simp
    | some l => have := h l (List.mem_of_getElem? q); simpa using this
theorem atI_nat {α : Type} {l : List α} {n : Nat} {x : α} (h : l[n]? = some x) : atI l ((n : Nat) : Int) = some x := by
  have hn := (List.getElem?_eq_some_iff.mp h).1
  unfold atI ixN
  rw [if_pos (Int.natCast_nonneg n), if_pos (by omega)]
  simpa using h
def tTouch (K : PySem.W.Frag) : TS := tSeq (tAsg (tLc (iRng1 (tCons (tVar 0) tNil)) (gName 4) tYes (tLst tNil) [4]) (gName 2))
  (tSeq (tFor (iRng1 (tCons (tCB (fun xs H_1 Q => ∃ p ys, xs = [V.ref p] ∧ (SqL K H_1 p ys ∨ SqT K H_1 p ys) ∧ Q (V.int ys.length) H_1) (tCons (tVar 1) tNil)) tNil)) (gName 3)
    (tSeq (tDrop (tBM K "list" rAppend (tOp (rIxL K) (tVar 2) (tOp (rIxT K) (tOp (rIxL K) (tVar 1) (tVar 3)) (tC (V.int 0)))) (tCons (tVar 3) tNil)))
      (tDrop (tBM K "list" rAppend (tOp (rIxL K) (tVar 2) (tOp (rIxT K) (tOp (rIxL K) (tVar 1) (tVar 3)) (tC (V.int 1)))) (tCons (tVar 3) tNil)))))
  (tRet (tVar 2)))
theorem edsAB_len : ∀ {es : List D} {ps : List (Nat × Nat)}, edsAB es = some ps → ps.length = es.length
  | [], _, h => by cases h; rfl
  | d :: ds, ps, h => by
    unfold edsAB at h
    cases q : edAB d with
    | none => rw [q] at h; cases h
    | some p =>
      simp only [q] at h
      cases q2 : edsAB ds with
      | none => rw [q2] at h; cases h
      | some qs => rw [q2] at h; cases h; rw [List.length_cons, List.length_cons, edsAB_len q2]
theorem edsAB_get : ∀ {es : List D} {ps : List (Nat × Nat)} {i : Nat} {p : Nat × Nat}, edsAB es = some ps → ps[i]? = some p → ∃ d, es[i]? = some d ∧ edAB d = some p
  | [], _, i, p, h, e => by cases h; simp at e
  | d :: ds, ps, i, p, h, e => by
    unfold edsAB at h
    cases q : edAB d with
    | none => rw [q] at h; cases h
    | some p0 =>
      simp only [q] at h
      cases q2 : edsAB ds with
      | none => rw [q2] at h; cases h
      | some qs =>
        rw [q2] at h; cases h
        cases i with
        | zero => simp at e; subst e; exact ⟨d, rfl, q⟩
        | succ i =>
          obtain ⟨d', h1, h2⟩ := edsAB_get q2 (i := i) (p := p) (by simpa using e)
          exact ⟨d', by simpa using h1, h2⟩
theorem edAB_ok {K : PySem.W.Frag} {G : Hp} {v : V} {d : D} {p : Nat × Nat} (r : R K G v d) (h : edAB d = some p) : ∃ t rest, v = .ref t ∧ G t = some (.tup (.int p.1 :: .int p.2 :: rest)) := by
  cases r with
  | tup g l r =>
    cases r with
    | nil => cases h
    | cons r1 r2 =>
      cases r1 with
      | int a =>
        cases r2 with
        | nil => cases h
        | @cons _ vs0 _ _ r2 r3 =>
          cases r2 with
          | int b =>
            have h : (if 0 ≤ a ∧ 0 ≤ b then some (a.toNat, b.toNat) else none) = some p := h
            split at h
            · rename_i c
              cases h
              refine ⟨_, vs0, rfl, ?_⟩
              rw [g]
              show some (HO.tup (V.int a :: V.int b :: vs0)) = some (HO.tup (V.int ((a.toNat : Nat) : Int) :: V.int ((b.toNat : Nat) : Int) :: vs0))
              rw [Int.toNat_of_nonneg c.1, Int.toNat_of_nonneg c.2]
            · cases h
          | _ => cases h
      | _ => cases h
  | _ => cases h
theorem touch_ok {K : PySem.W.Frag} {N : List Str} {vs : List V} {H : Hp} {Q : VK} {E : XK} (hN : N.length = 5) (h : spM Wn K 2 false m_touching vs H Q E) : tTouch K { nx := fun _ H' => Q .non H', rt := Q } (L2.start N vs) H := by
  obtain ⟨hl, B, G, δ, r, δ', hio, a, hm, post⟩ := h
  unfold m_touching at hm
  split at hm
  · rename_i c es
    split at hm
    · rename_i prs hprs
      split at hm
      · rename_i hc
        obtain ⟨⟨c0, c1⟩, el, eb⟩ := hc
        cases hm
        obtain ⟨v0, w0, r0⟩ := a.imm (i := 0) rfl
        obtain ⟨v1, w1, r1⟩ := a.imm (i := 1) rfl
        match vs, hl with
        | [u0, u1], _ =>
          cases w0; cases w1
          cases r0
          cases r1 with
          | @lst e xs _ g gl rl =>
            have hst : L2.start N [V.int c, V.ref e] = [some (V.int c), some (V.ref e), none, none, none] := by
              unfold L2.start
              rw [hN]
              rfl
            rw [hst]
            have hS : ∀ {H' D ps ls}, TL H H' D ps ls → H' e = some (.lst xs) := fun {H' D ps ls} t => by
              have he := a.vw.lst g
              rw [t.out e fun m => by rw [t.fr e m] at he; cases he]; exact he
            refine ⟨_, rfl, c, rfl, by omega, by omega, fun D hD => lc_range (fun i H' => ∃ ps, ps.length = i ∧ TL H H' D ps (List.replicate i [])) ⟨[], rfl, TL.start hD⟩ ?_ ?_⟩
            · rintro i H' hi ⟨ps, hps, t⟩
              refine ⟨rfl, ?_⟩
              unfold tYes
              show (if true = true then (fun H3 => tLst tNil (List.set (wipe [some (V.int c), some (V.ref e), none, none, none] [4]) 4 (some (V.int (0 + ↑i)))) H3 _) H' else _)
              rw [if_pos rfl]
              refine ⟨Nat.zero_le _, fun p hp => ⟨ps.map V.ref, ?_, ?_, ps ++ [p], ?_, ?_⟩⟩
              · have hD' := t.d
                rw [upd_ne fun z => by rw [z, hp] at hD'; cases hD']; exact hD'
              · rw [List.length_map, hps]; rw [sizeLine_eq]; omega
              · rw [List.length_append, hps]; rfl
              · have := t.push hp
                rw [List.replicate_succ']; exact this
            · rintro H1 ⟨ps, hps, t⟩
              show tSeq _ _ _ [some (V.int c), some (V.ref e), some (V.ref D), none, none] H1
              refine ⟨_, rfl, e, xs, rfl, .inl (SqL.of (hS t)), _, rfl, by omega, by rw [rl.length]; omega, ?_⟩
              have hxl : xs.length = prs.length := rl.length.trans (edsAB_len hprs).symm
              rw [Int.toNat_natCast]
              refine for_range (fun i σ H' => ∃ ls x, σ = [some (V.int c), some (V.ref e), some (V.ref D), x, none] ∧ TL H H' D ps ls ∧ (∀ l ∈ ls, l.length ≤ 2 * i) ∧ touchL i (prs.drop i) ls = touchL 0 prs (List.replicate c.toNat [])) ⟨_, none, rfl, t, fun l m => by rw [List.eq_of_mem_replicate m]; simp, rfl⟩ ?_ ?_
              · rintro i σ H2 hi ⟨ls, x, rfl, t2, hls, htl⟩
                have hip : i < prs.length := by omega
                have hdr : prs.drop i = prs[i] :: prs.drop (i + 1) := List.drop_eq_getElem_cons hip
                obtain ⟨d, hd1, hd2⟩ := edsAB_get hprs (List.getElem?_eq_getElem hip)
                obtain ⟨v, hv1, hv2⟩ := rl.get hd1
                obtain ⟨tp, rest, rfl, gt⟩ := edAB_ok hv2 hd2
                obtain ⟨b1, b2⟩ := eb prs[i] (List.getElem_mem hip)
                have hcl : ps.length = c.toNat := hps
                have ha : prs[i].1 < ps.length := by omega
                have hb : prs[i].2 < ps.length := by omega
                have tupS : ∀ {H' ls}, TL H H' D ps ls → H' tp = some (.tup (.int prs[i].1 :: .int prs[i].2 :: rest)) := fun {H' ls} t => by
                  have he := a.vw.tup gt
                  rw [t.out tp fun m => by rw [t.fr tp m] at he; cases he]; exact he
                show tSeq _ _ _ [some (V.int c), some (V.ref e), some (V.ref D), some (V.int (0 + (i : Int))), none] H2
                rw [Int.zero_add]
                have pa : ps[prs[i].1]? = some ps[prs[i].1] := List.getElem?_eq_getElem ha
                have pb : ps[prs[i].2]? = some ps[prs[i].2] := List.getElem?_eq_getElem hb
                have la : ∀ {ls : List (List Int)}, ps.length = ls.length → ∀ {j : Nat}, j < ps.length → ls[j]? = some (ls.getD j []) := fun {ls} h {j} hj => by
                  rw [List.getD_eq_getElem?_getD, List.getElem?_eq_getElem (by omega)]; rfl
                refine ⟨_, rfl, _, rfl, _, rfl, e, xs, i, _, rfl, rfl, SqL.of (hS t2), atI_nat hv1, tp, _, 0, _, rfl, rfl, SqT.of (tupS t2), atI_nat (n := 0) rfl, D, ps.map V.ref, ((prs[i].1 : Nat) : Int), V.ref ps[prs[i].1], rfl, rfl, SqL.of t2.d, atI_nat (by rw [List.getElem?_map, pa]; rfl), Or.inl ⟨rfl, _, SqL.of (t2.el _ _ _ pa (la t2.len ha))⟩, _, rfl, _, _, _, rfl, rfl, t2.el _ _ _ pa (la t2.len ha), ?_, ?_⟩
                · rw [List.length_map]
                  have := hls _ (List.mem_of_getElem? (la t2.len ha))
                  have := edsAB_len hprs
                  rw [sizeLine_eq]; omega
                · have t3 := t2.add (i : Int) pa
                  refine ⟨_, rfl, _, rfl, _, rfl, e, xs, i, _, rfl, rfl, SqL.of (hS t3), atI_nat hv1, tp, _, 1, _, rfl, rfl, SqT.of (tupS t3), atI_nat (n := 1) rfl, D, ps.map V.ref, ((prs[i].2 : Nat) : Int), V.ref ps[prs[i].2], rfl, rfl, SqL.of t3.d, atI_nat (by rw [List.getElem?_map, pb]; rfl), Or.inl ⟨rfl, _, SqL.of (t3.el _ _ _ pb (la t3.len hb))⟩, _, rfl, _, _, _, rfl, rfl, t3.el _ _ _ pb (la t3.len hb), ?_, ?_⟩
                  · rw [List.length_map]
                    have := addAt_le hls _ (List.mem_of_getElem? (la t3.len hb))
                    have := edsAB_len hprs
                    rw [sizeLine_eq]; omega
                  · refine ⟨_, _, rfl, t3.add (i : Int) pb, fun l m => ?_, ?_⟩
                    · have := addAt_le (addAt_le hls) l m; omega
                    · rw [hdr] at htl; exact htl
              · rintro σ H2 ⟨ls, x, rfl, t2, hls, htl⟩
                rw [hxl, List.drop_length] at htl
                have htl : ls = touchL 0 prs (List.replicate c.toNat []) := htl
                obtain ⟨G', a', x', r'⟩ := t2.fin a (by rw [← t2.len, hps, sizeLine_eq]; omega) (fun l m => by have := hls l m; have := edsAB_len hprs; rw [sizeLine_eq]; omega)
                refine ⟨_, rfl, ?_⟩
                have a2 : At K B G' [.no, .no] ([V.int c, V.ref e].map some) H2 := a'.forget rfl fun j s q => by
                  match j, q with
                  | 0, q => cases q; exact .inl rfl
                  | 1, q => cases q; exact .inl rfl
                have pp := post G' H2 a2 x'
                rw [if_neg Bool.false_ne_true] at pp
                rw [htl] at r'
                exact pp _ r'
      · cases hm
    · cases hm
  · cases hm
end M

set_option Elab.async false
set_option linter.all false
set_option maxRecDepth 100000
/-! Part K: slices, any, isinstance, is True, dict comprehensions. -/
namespace M
open PySem L2 PySem.Spec PyProof.Rows
/-! ### slices -/
def eP0 : Mo (Option Int) := Mo.ret none
def dPart : D → Option (Option Int)
  | .int i => some (some i)
  | _ => none
def eP1 (E : Mo D) : Mo (Option Int) := E.bind fun d => Mo.lift (dPart d)
def tP (K : PySem.W.Frag) (W : WK) (P : Mo (Option Int)) : TO := fun σ H Q => ∃ B G δ r δ', At K B G δ σ H ∧ P δ = some (r, δ') ∧ Post K W B G σ r δ' (fun o G' H' => Q o H')
def DP (X : Cx) (W : WK) (e : Option Expr) (P : Mo (Option Int)) : Prop := PO X e (tP X.K W P)
section
variable {X : Cx} {W : WK} {e : Expr} {E : Mo D} {P : Mo (Option Int)}
theorem PO.weak {e : Option Expr} {t t' : TO} (h : PO X e t) (w : ∀ σ H Q, t' σ H Q → t σ H Q) : PO X e t' := ⟨fun pins s σ H Q I q => h.run pins s σ H Q I (w σ H Q q)⟩
theorem dp_none : DP X W none eP0 := PO.weak po_none fun σ H Q ⟨B, G, δ, r, δ', a, e1, post⟩ => by
  cases e1; exact post G H a (Ext.refl _)
theorem dp_some (h : DE X W e E) : DP X W (some e) (eP1 E) := PO.weak (po_some h) fun σ H Q ⟨B, G, δ, r, δ', a, e1, post⟩ => by
  refine tE_bind a e1 post fun v H1 G1 δ1 d a1 x1 r1 e2 post => ?_
  obtain ⟨z, hz, hr⟩ := lift_some e2
  cases hr
  cases r1 with
  | int i => cases hz; exact ⟨i, rfl, post G1 H1 a1 (Ext.refl _)⟩
  | _ => cases hz
def cutD {α : Type} (xs : List α) (lo hi : Option Int) : List α := (xs.drop (HT.sIx xs.length 0 lo)).take (HT.sIx xs.length xs.length hi - HT.sIx xs.length 0 lo)
def dSlL : D → Option Int → Option Int → Option D
  | .lst l, lo, hi => some (.lst (cutD l lo hi))
  | .scr l, lo, hi => some (.lst (cutD l lo hi))
  | _, _, _ => none
def dSl : D → Option Int → Option Int → Option D
  | .tup l, lo, hi => some (.tup (cutD l lo hi))
  | .str s, lo, hi => if s.length ≤ sizeLine then some (.str (cutS s lo hi)) else none
  | _, _, _ => none
def eSl (f : D → Option Int → Option Int → Option D) (E : Mo D) (L U : Mo (Option Int)) : Mo D := E.bind fun d => L.bind fun l => U.bind fun u => Mo.lift (f d l u)
theorem tP_bind {K : PySem.W.Frag} {B : Bs} {G H : Hp} {δ δ' : Env} {σ : St} {β : Type} {r : Except Exn β} {ok : β → Hp → Hp → Prop} {k : Option Int → Mo β} {Q : Option Int → Hp → Prop} (a : At K B G δ σ H) (h : Mo.bind P k δ = some (r, δ')) (post : Post K W B G σ r δ' ok)
    (q : ∀ H1 G1 δ1 d, At K B G1 δ1 σ H1 → Ext G G1 → k d δ1 = some (r, δ') → Post K W B G1 σ r δ' ok → Q d H1) : tP K W P σ H Q := by
  unfold Mo.bind at h
  cases e : P δ with
  | none => rw [e] at h; cases h
  | some z =>
    obtain ⟨x, δ1⟩ := z
    rw [e] at h
    cases x with
    | error x => cases h; exact ⟨B, G, δ, .error x, _, a, e, post⟩
    | ok d => exact ⟨B, G, δ, .ok d, δ1, a, e, fun G1 H1 a1 e1 => q H1 G1 δ1 d a1 e1 h (post.mono e1)⟩
theorem cut_len {α : Type} (xs : List α) (lo hi : Option Int) : (cutD xs lo hi).length ≤ xs.length := by
  unfold cutD; rw [List.length_take, List.length_drop]; omega
theorem rl_cut {K : PySem.W.Frag} {G : Hp} {xs : List V} {ds : List D} (r : RL K G xs ds) (lo hi : Option Int) : RL K G (cutV xs lo hi) (cutD ds lo hi) := by
  unfold cutV cutD
  rw [r.length]
  exact (r.drop _).take _
theorem do_sl {a : Expr} {lo hi : Option Expr} {p2 pos : Pos} {L U : Mo (Option Int)} (ha : DE X W a E) (hl : DP X W lo L) (hu : DP X W hi U) : DO X W (.Subscript a (.Slice lo hi none p2) pos) (eSl dSlL E L U) :=
  PE.weak (pe_slice sl_list ha hl hu) fun σ H Q ⟨B, G, δ, r, δ', at', e1, post⟩ => by
  refine tO_of_sl at' e1 post
where
  tO_of_sl {K : PySem.W.Frag} {B : Bs} {G H : Hp} {δ δ' : Env} {σ : St} {r : Except Exn D} {L U : Mo (Option Int)} {Q : VK} (a : At K B G δ σ H) (e1 : eSl dSlL E L U δ = some (r, δ')) (post : Post K W B G σ r δ' (fun d G' H' => ∀ p, Fr1 K B G' δ' σ H' p d → Q (.ref p) H')) : tSl (rSlL K) (tE K W E) (tP K W L) (tP K W U) σ H Q := by
    refine tE_bind a e1 post fun v H1 G1 δ1 d a1 x1 r1 e2 post => ?_
    refine tP_bind a1 e2 post fun H2 G2 δ2 l a2 x2 e3 post => ?_
    refine tP_bind a2 e3 post fun H3 G3 δ3 u a3 x3 e4 post => ?_
    obtain ⟨z, hz, hr⟩ := lift_some e4
    cases hr
    have fin : ∀ p xs ds, v = .ref p → SqL K H3 p xs → RL K G3 xs ds → xs.length ≤ sizeLine → z = .lst (cutD ds l u) → rSlL K v l u H3 Q := fun p xs ds hv hs hr hl hz => by
      subst hv hz
      refine ⟨p, xs, rfl, hs, fun q hq => ?_⟩
      obtain ⟨b1, b2⟩ := a3.own1 (p := q) (o := .lst _) hq (.lst upd_same (Nat.le_trans (cutV_length xs l u) hl) (rl_cut hr l u))
      exact post G3 _ b1 (Ext.refl _) q b2
    have r3 := r1.mono (x2.trans x3)
    cases r3 with
    | lst g hl rl => cases hz; exact fin _ _ _ rfl (SqL.of (a3.vw.lst g)) rl hl rfl
    | scr g hl rl => cases hz; exact fin _ _ _ rfl (a3.vw.sql g) rl hl rfl
    | _ => cases hz
theorem SlR.or2 {r r' : V → Option Int → Option Int → Hp → VK → Prop} (h : SlR X r) (h' : SlR X r') : SlR X (fun x lo hi H Q => r x lo hi H Q ∨ r' x lo hi H Q) := SlR.or h h'
theorem cut_all {α : Type} {xs : List α} {lo hi : Option Int} (h : HT.sIx xs.length 0 lo = 0 ∧ HT.sIx xs.length xs.length hi = xs.length) : cutD xs lo hi = xs := by
  unfold cutD; rw [h.1, h.2, List.drop_zero, Nat.sub_zero, List.take_length]
theorem de_sl {a : Expr} {lo hi : Option Expr} {p2 pos : Pos} {L U : Mo (Option Int)} (ha : DE X W a E) (hl : DP X W lo L) (hu : DP X W hi U) : DE X W (.Subscript a (.Slice lo hi none p2) pos) (eSl dSl E L U) :=
  PE.weak (pe_slice (SlR.or2 sl_tupA sl_str) ha hl hu) fun σ H Q ⟨B, G, δ, r, δ', at', e1, post⟩ => by
  refine tE_bind at' e1 post fun v H1 G1 δ1 d a1 x1 r1 e2 post => ?_
  refine tP_bind a1 e2 post fun H2 G2 δ2 l a2 x2 e3 post => ?_
  refine tP_bind a2 e3 post fun H3 G3 δ3 u a3 x3 e4 post => ?_
  obtain ⟨z, hz, hr⟩ := lift_some e4
  cases hr
  have r3 := r1.mono (x2.trans x3)
  cases r3 with
  | tup g hl rl =>
    rename_i p xs ds
    cases hz
    refine .inl ⟨p, xs, rfl, SqT.of (a3.vw.tup g), fun hh => ?_, fun _ q hq => ?_⟩
    · have hh2 : HT.sIx ds.length 0 l = 0 ∧ HT.sIx ds.length ds.length u = ds.length := by rw [← rl.length]; exact hh
      rw [cut_all hh2] at post
      exact post G3 H3 a3 (Ext.refl _) _ (.tup g hl rl)
    · have ex := Ext.new (o := .tup (cutV xs l u)) (a3.vw.none hq)
      exact post _ _ (a3.laid hq fun _ z => by cases z) ex _ (.tup upd_same (Nat.le_trans (cutV_length xs l u) hl) ((rl_cut rl l u).mono ex))
  | str s =>
    have hz : (if s.length ≤ sizeLine then some (D.str (cutS s l u)) else none) = some z := hz
    split at hz
    · rename_i hs
      cases hz
      exact .inr ⟨s, rfl, hs, post G3 H3 a3 (Ext.refl _) _ (.str _)⟩
    · cases hz
  | _ => cases hz
end

/-! ### any, all -/
def blsD : List D → Option (List Bool)
  | [] => some []
  | .bl b :: l => (blsD l).map (b :: ·)
  | _ => none
theorem blsD_ok {K : PySem.W.Frag} {G : Hp} : ∀ {xs : List V} {l : List D} {bs : List Bool}, RL K G xs l → blsD l = some bs → xs = bs.map V.bl
  | _, _, _, .nil, h => by cases h; rfl
  | _, d :: l, _, .cons r t, h => by
    cases r with
    | bl i =>
      unfold blsD at h
      cases q : blsD l with
      | none => rw [q] at h; cases h
      | some ns => rw [q] at h; cases h; rw [blsD_ok t q]; rfl
    | _ => cases h
theorem truth_ints {prog : Program} {w : World} {A : PySem.Around} {ns : List Int} {its : List Value} (e : IntsAre its ns) :
    TruthOf prog w A (fun i v => its.toArray[i]? = some v) (fun i => ns.getD i 0 != 0) := fun i v s Q E hv hq => by
  obtain ⟨t, rfl⟩ := IntsAre.int_at e i v (by simpa using hv)
  exact PySem.P.truthy_int hq
theorem any_int_range : ∀ ns : List Int, ((List.range ns.length).any fun i => ns.getD i 0 != 0) = ns.any (· != 0)
  | [] => rfl
  | b :: bs => by
    rw [List.length_cons, List.range_succ_eq_map, List.any_cons, List.any_map, List.any_cons, ← any_int_range bs]
    all_goals rfl
def rAnyI (K : PySem.W.Frag) : List V → Hp → VK → Prop := fun vs H Q => ∃ (a : Addr) (ns : List Int), vs = [V.ref a] ∧ SqL K H a (ns.map V.int) ∧ Q (.bl (ns.any (· != 0))) H
theorem cr_anyI {X : Cx} (hc : X.calm = true) : CallR X (.builtin "any") (rAnyI X.K) := by
  rintro pins s σ H vs us Q I r ⟨a, ns, rfl, hs, q⟩
  obtain ⟨its, rv, hl, _⟩ := I.list hs
  have hi : IntsAre its ns := ints_of_vals rv
  rw [Vals.ref1 r]
  refine call_any_walk (iter_any hl.isList fun s2 e2 st hne => ?_)
  subst e2
  refine ⟨_, _, _, _, _, _, _, rfl, Walks.list (A := X.A.in1) (I.ok.hd hc) _ a hne its.toArray, st, truth_ints hi, fun h' tk hk => ⟨.bl _, H, I.kept fun b o eo => hk b o (fun hmem => ?_) (Heap.get?_push_of_some _ eo), ?_, q⟩⟩
  · rcases List.mem_cons.mp hmem with z | z
    · rw [z] at eo; exact absurd (Heap.lt_size eo) (Nat.lt_irrefl _)
    · cases z
  · show Value.bool _ = Value.bool _
    rw [← any_int_range, List.size_toArray, IntsAre.length hi]
/-- any of a list of bools, or of a list of ints -/
def fAny : List D → Option D
  | [.lst l] => match blsD l with
    | some bs => some (.bl (bs.any id))
    | none => match intsD l with
      | some ns => some (.bl (ns.any (· != 0)))
      | none => none
  | _ => none
theorem snd_any {K : PySem.W.Frag} : SndF K fAny (fun vs H Q => rAny K vs H Q ∨ rAnyI K vs H Q) := fun B G H δ σ xs as d Q at' rx h k => by
  unfold fAny at h
  split at h
  · rename_i l
    obtain ⟨v, rfl, r⟩ := rl1 rx
    cases r with
    | lst g hl r =>
      split at h
      · rename_i bs hb
        cases h
        have := blsD_ok r hb
        subst this
        exact .inl ⟨_, bs, rfl, SqL.of (at'.vw.lst g), k _ G H at' (Ext.refl _) (.bl _)⟩
      · split at h
        · rename_i ns hn
          cases h
          have := intsD_ok r hn
          subst this
          exact .inr ⟨_, ns, rfl, SqL.of (at'.vw.lst g), k _ G H at' (Ext.refl _) (.bl _)⟩
        · cases h
  · cases h
theorem callR_or {X : Cx} {f : Value} {r r' : List V → Hp → VK → Prop} (h : CallR X f r) (h' : CallR X f r') : CallR X f (fun vs H Q => r vs H Q ∨ r' vs H Q) := fun pins s σ H xs us Q I rv q => q.elim (h pins s σ H xs us Q I rv) (h' pins s σ H xs us Q I rv)
section
variable {X : Cx} {W : WK} {e a b c : Expr} {es : List Expr} {x : Str} {p pos : Pos} {E Ea Eb : Mo D} {A : Mo (List Ag)}
theorem de_any (hc : X.calm = true) (hg : Gl X x) (hm : X.mg x = none) (hv : bootBuiltins x = some (.builtin "any")) (ha : DA X W (e :: es) A) (hn : x ≠ "__name__" := by decide) (hdb : (x == ("__debug__" : Str)) = false := by decide)
    (he : starEach (e :: es) X.env = (false, eval e X.env) :: starEach es X.env := by rfl) (hpl : (backTo pos (starEach es X.env)).any (·.1) = false := by rfl) : DE X W (.Call (.Name x p) (e :: es) [] pos) (eF fAny A) :=
  de_tCB snd_any (pe_callB (callR_or (cr_any hc) (cr_anyI hc)) hg hm hv ha hn hdb he hpl)

/-! ### isinstance(e, T), T a built-in type -/
def tyN : D → String
  | .non => "NoneType" | .bl _ => "bool" | .int _ => "int" | .str _ => "str" | .tup _ => "tuple" | .lst _ => "list" | .scr _ => "list" | .dK _ => "dict" | .dT _ => "dict"
def eIsi (T : String) (E : Mo D) : Mo D := E.bind fun d => Mo.lift ((kitB (tyN d) T).map D.bl)
theorem ty_of {K : PySem.W.Frag} {G H : Hp} {v : V} {d : D} (vw : Vw G H) (r : R K G v d) (hk : isDct d = false) (hs : ∀ l, d ≠ .scr l) : TyX K H v (.type (tyN d)) := by
  cases r with
  | non => exact .base .non
  | bl b => exact .base (.bl b)
  | int i => exact .base (.int i)
  | str s => exact .base (.str s)
  | tup g => exact .base (.tup (vw.tup g))
  | lst g => exact .base (.lst (vw.lst g))
  | scr => exact absurd rfl (hs _)
  | dK => cases hk
  | dT => cases hk
def noScr : D → Bool
  | .scr _ => false
  | d => !isDct d
def eIsi' (T : String) (E : Mo D) : Mo D := E.bind fun d => Mo.lift (if noScr d = true then (kitB (tyN d) T).map D.bl else none)
theorem de_isi {T : String} {y : Str} {py : Pos} (hg : Gl X x) (hm : X.mg x = none) (hv : bootBuiltins x = some (.builtin "isinstance")) (hg2 : Gl X y) (hm2 : X.mg y = none) (hv2 : bootBuiltins y = some (.type T)) (ha : DE X W e E)
    (hn : x ≠ "__name__" := by decide) (hdb : (x == ("__debug__" : Str)) = false := by decide) (hn2 : y ≠ "__name__" := by decide) (hdb2 : (y == ("__debug__" : Str)) = false := by decide)
    (he : starEach [e, .Name y py] X.env = (false, eval e X.env) :: starEach [.Name y py] X.env := by rfl) (hpl : (backTo pos (starEach [.Name y py] X.env)).any (·.1) = false := by rfl) :
    DE X W (.Call (.Name x p) [e, .Name y py] [] pos) (eIsi' T E) := PE.weak (pe_callB call_isi hg hm hv (pa_cons ha (pa_cons (pe_bltn (v := .ty T) hg2 hm2 hv2 rfl hn2 hdb2) pa_nil) he) hn hdb he hpl) fun σ H Q ⟨B, G, δ, r, δ', at', e1, post⟩ => by
  refine tE_bind at' e1 post fun v H1 G1 δ1 d a1 x1 r1 e2 post => ?_
  obtain ⟨z, hz, hr⟩ := lift_some e2
  cases hr
  split at hz
  · rename_i hs
    cases q : kitB (tyN d) T with
    | none => rw [q] at hz; cases hz
    | some b =>
      rw [q] at hz; cases hz
      refine ⟨v, .ty T, .type (tyN d), .type T, b, rfl, .ty T, ty_of a1.vw r1 (by cases d <;> first | rfl | cases hs) (fun l c => by subst c; cases hs), kit_ty q, post G1 H1 a1 (Ext.refl _) _ (.bl b)⟩
  · cases hz

/-! ### is True -/
def dIsB (neg : Bool) : D → D → Option D
  | .bl a, .bl b => some (.bl (if neg then !decide (a = b) else decide (a = b)))
  | _, _ => none
theorem snd_isB {K : PySem.W.Frag} {neg : Bool} : Snd2 K (dIsB neg) (if neg then rNotB else rIsB) := fun B G H δ σ x y a b d Q at' rx ry h k => by
  cases rx with
  | bl i =>
    cases ry with
    | bl j =>
      cases h
      cases neg
      · exact ⟨i, j, rfl, rfl, k _ G H at' (Ext.refl _) (.bl _)⟩
      · exact ⟨i, j, rfl, rfl, k _ G H at' (Ext.refl _) (.bl _)⟩
    | _ => cases h
  | _ => cases h
theorem de_isB (ha : DE X W a Ea) (hb : DE X W b Eb) : DE X W (.Compare a [.Is] [b] pos) (eBin (dIsB false) Ea Eb) := de_cmp (r := rIsB) op_isBl (snd_isB (neg := false)) ha hb (nomark _)
theorem de_notB (ha : DE X W a Ea) (hb : DE X W b Eb) : DE X W (.Compare a [.IsNot] [b] pos) (eBin (dIsB true) Ea Eb) := de_cmp (r := rNotB) op_notBl (snd_isB (neg := true)) ha hb (nomark _)
theorem dt_isB (ha : DE X W a Ea) (hb : DE X W b Eb) : DT X W (.Compare a [.Is] [b] pos) (eB (eBin (dIsB false) Ea Eb)) := dt_cmp (r := rIsB) op_isBl (snd_isB (neg := false)) ha hb (nomark _)
theorem dt_notB (ha : DE X W a Ea) (hb : DE X W b Eb) : DT X W (.Compare a [.IsNot] [b] pos) (eB (eBin (dIsB true) Ea Eb)) := dt_cmp (r := rNotB) op_notBl (snd_isB (neg := true)) ha hb (nomark _)
end
end M

set_option Elab.async false
set_option linter.all false
set_option maxRecDepth 100000
/-! Part L: dict comprehensions with keys ints and texts. -/
namespace M
open PySem L2 PySem.Spec PyProof.Rows
def dcM (T : D → Mo Unit) (C : Mo Bool) (Ek Ev : Mo D) (vs : List Nat) : List D → List (Key × D) → Mo D
  | [], acc => fun δ => some (.ok (.dK acc), δ)
  | d :: ds, acc => fun δ => match T d δ with
    | some (.ok (), δ1) => match C δ1 with
      | some (.ok true, δ2) => match Ek δ2 with
        | some (.ok k, δ3) => match Ev δ3 with
          | some (.ok v, δ4) => match keyK k with
            | some kk => dcM T C Ek Ev vs ds (putA acc kk v) (wipeE δ4 vs)
            | none => none
          | _ => none
        | _ => none
      | some (.ok false, δ2) => dcM T C Ek Ev vs ds acc (wipeE δ2 vs)
      | _ => none
    | _ => none
def eDc (I : Mo (List D)) (T : D → Mo Unit) (C : Mo Bool) (Ek Ev : Mo D) (vs : List Nat) : Mo D := I.bind fun ds => fun δ => if ds.length < sizeLine then dcM T C Ek Ev vs ds [] (wipeE δ vs) else none
section
variable {K : PySem.W.Frag} {W : WK} {I : Mo (List D)} {sl vs : List Nat} {T : D → Mo Unit} {C : Mo Bool} {E Ek Ev : Mo D} {σ : St} {H : Hp} {Q : VK}
theorem kvp_mono {G G' : Hp} (e : Ext G G') {kvs : List (Key × V)} {ds : List (Key × D)} (h : KVP K G kvs ds) : KVP K G' kvs ds := Paired.mapP h fun _ _ z => ⟨z.1, z.2.mono e⟩
theorem kvp_len {G : Hp} {kvs : List (Key × V)} {ds : List (Key × D)} (h : KVP K G kvs ds) : kvs.length = ds.length := Paired.length h
theorem tDc_at {B : Bs} {G1 H1 : Hp} {δ1 δ' : Env} {J : It} {ds : List D} {r : Except Exn D} (hsl : ∀ j ∈ sl, j ∈ vs) (a1 : At K B G1 δ1 σ H1) (yl : Yl K B J G1 ds) (e2 : (if ds.length < sizeLine then dcM T C Ek Ev vs ds [] (wipeE δ1 vs) else none) = some (r, δ')) (post : Post K W B G1 σ r δ' (fun d G' H' => ∀ p, Fr1 K B G' δ' σ H' p d → Q (.ref p) H')) : tDc (wiJ J) (tG K sl T) (tT K W0 C) (tE K W0 Ek) (tE K W0 Ev) vs σ H1 Q := by
  intro D1 hD
  split at e2
  · rename_i hlen
    have b0 := a1.fresh0 hD
    have ot := a1.out1 b0 (a1.vw.none hD)
    refine ⟨fun i m H2 => m + i = ds.length ∧ ∃ G2 δ2 acc xs, At K B G2 δ2 (wipe σ vs) H2 ∧ Ext G1 G2 ∧ H2 D1 = some (.dK xs) ∧ KVP K G2 xs acc ∧ xs.length ≤ i ∧ G2 D1 = none ∧ (∀ j, ¬ OwnAt δ2 (wipe σ vs) j D1) ∧ (∀ j ∈ vs, ∀ s, δ2[j]? = some s → s = .no) ∧ dcM T C Ek Ev vs (ds.drop i) acc δ2 = some (r, δ'),
      ⟨ds.length, by omega, G1, wipeE δ1 vs, [], [], (a1.alloc hD).wipe vs, Ext.refl _, upd_same, .nil, Nat.zero_le _, a1.vw.none hD, (a1.wipe vs).noOwn hD, wipeE_no, e2⟩, ?_⟩
    rintro i m H2 ⟨hm, G2, δ2, acc, xs, a2, x2, hx, rx, hxl, g2, no2, hno, e3⟩
    by_cases hi : ds.length ≤ i
    · refine .inl ⟨(yl B G2 H2 δ2 _ (BLe.refl B) a2 x2 i).2 hi, ?_⟩
      rw [List.drop_eq_nil_of_le hi] at e3
      cases e3
      have a3 := a2.unwipe hno
      refine post G2 H2 a3 x2 D1 ⟨g2, b0, fun j z => ?_, .dK hx (by omega) (kvp_keys rx) (kvp_vals rx)⟩
      obtain ⟨⟨d, z1⟩, z2⟩ := z
      by_cases c : j ∈ vs
      · rcases z1 with z1 | z1
        · cases hno j c _ z1
        · cases hno j c _ z1
      · exact no2 j ⟨⟨d, z1⟩, by rw [wipe_out c]; exact z2⟩
    · have hlt : i < ds.length := by omega
      have a2' := a2.add nt_dK hx g2 no2
      obtain ⟨y1, _⟩ := yl (B.add D1 (.dK xs)) G2 H2 δ2 _ (BLe.add b0) a2' x2 i
      obtain ⟨gg1, gg2⟩ := y1 ds[i] (List.getElem?_eq_getElem hlt)
      rw [List.drop_eq_getElem_cons hlt] at e3
      refine .inr ⟨gg1, fun H' => ∃ m', m' < m ∧ (m' + (i + 1) = ds.length ∧ ∃ G2 δ2 acc xs, At K B G2 δ2 (wipe σ vs) H' ∧ Ext G1 G2 ∧ H' D1 = some (.dK xs) ∧ KVP K G2 xs acc ∧ xs.length ≤ i + 1 ∧ G2 D1 = none ∧ (∀ j, ¬ OwnAt δ2 (wipe σ vs) j D1) ∧ (∀ j ∈ vs, ∀ s, δ2[j]? = some s → s = .no) ∧ dcM T C Ek Ev vs (ds.drop (i + 1)) acc δ2 = some (r, δ')), fun H' z => z, fun x H' hy => ?_⟩
      obtain ⟨rfl, G3, a3, x3, r3⟩ := gg2 x H' hy
      unfold dcM at e3
      cases q : T ds[i] δ2 with
      | none => simp only [q] at e3; cases e3
      | some z =>
        obtain ⟨u, δ3⟩ := z
        cases u with
        | error u => simp only [q] at e3; cases e3
        | ok u =>
          simp only [q] at e3
          refine ⟨B.add D1 (.dK xs), G3, δ2, ds[i], δ3, a3, r3, q, fun σ4 a4 oa => ?_⟩
          have hw : wipe σ4 vs = wipe σ vs := wipe_eq (oa.1.trans (wipe_length _ _)) fun j hj => oa.2 j fun c => hj (hsl j c)
          refine ⟨hw, ?_⟩
          have fin : ∀ {G5 H5 δ5 ys acc'}, At K (B.add D1 (.dK xs)) G5 δ5 σ4 H5 → Ext G3 G5 → KVP K G5 ys acc' → ys.length ≤ i + 1 → dcM T C Ek Ev vs (ds.drop (i + 1)) acc' (wipeE δ5 vs) = some (r, δ') → ∃ m', m' < m ∧ (m' + (i + 1) = ds.length ∧ ∃ G2 δ2 acc xs, At K B G2 δ2 (wipe σ vs) (upd H5 D1 (.dK ys)) ∧ Ext G1 G2 ∧ (upd H5 D1 (.dK ys)) D1 = some (.dK xs) ∧ KVP K G2 xs acc ∧ xs.length ≤ i + 1 ∧ G2 D1 = none ∧ (∀ j, ¬ OwnAt δ2 (wipe σ vs) j D1) ∧ (∀ j ∈ vs, ∀ s, δ2[j]? = some s → s = .no) ∧ dcM T C Ek Ev vs (ds.drop (i + 1)) acc δ2 = some (r, δ')) := fun {G5 H5 δ5 ys acc'} a5 x5 r5 l5 e5 => by
            obtain ⟨h1, h2, h3, h4⟩ := (a5.wipe' hw).drop ot nt_dK
            exact ⟨m - 1, by omega, by omega, G5, wipeE δ5 vs, acc', ys, h4 _, (x2.trans x3).trans x5, upd_same, r5, l5, h2, h3, wipeE_no, e5⟩
          cases qc : C δ3 with
          | none => simp only [qc] at e3; cases e3
          | some z =>
            obtain ⟨u, δ4⟩ := z
            cases u with
            | error u => simp only [qc] at e3; cases e3
            | ok b =>
              refine ⟨_, G3, δ3, .ok b, δ4, a4, qc, fun G4 H4 a5 x5 => ?_⟩
              cases b with
              | false =>
                simp only [qc] at e3
                rw [if_neg Bool.false_ne_true]
                have f := fin a5 x5 (kvp_mono (x3.trans x5) rx) (by omega) e3
                have hk := (a5.drop ot nt_dK).1
                have : upd H4 D1 (.dK xs) = H4 := by
                  funext b; by_cases c : b = D1
                  · subst c; rw [upd_same, hk]
                  · rw [upd_ne c]
                rw [this] at f; exact f
              | true =>
                simp only [qc] at e3
                rw [if_pos rfl]
                cases qe : Ek δ4 with
                | none => simp only [qe] at e3; cases e3
                | some z =>
                  obtain ⟨u, δ5⟩ := z
                  cases u with
                  | error u => simp only [qe] at e3; cases e3
                  | ok kd =>
                    simp only [qe] at e3
                    refine ⟨_, G4, δ4, .ok kd, δ5, a5, qe, fun G6 H6 a6 x6 y ry => ?_⟩
                    cases qv : Ev δ5 with
                    | none => simp only [qv] at e3; cases e3
                    | some z =>
                      obtain ⟨u, δ6⟩ := z
                      cases u with
                      | error u => simp only [qv] at e3; cases e3
                      | ok vd =>
                        simp only [qv] at e3
                        cases qk : keyK kd with
                        | none => simp only [qk] at e3; cases e3
                        | some kk =>
                          simp only [qk] at e3
                          refine ⟨_, G6, δ5, .ok vd, δ6, a6, qv, fun G7 H7 a7 x7 v rv => ?_⟩
                          refine ⟨xs, kk, keyK_ok ry qk, (a7.drop ot nt_dK).1, by omega, ?_⟩
                          have := length_putK xs kk v
                          exact fin a7 (x5.trans (x6.trans x7)) (kvp_put (kvp_mono (x3.trans (x5.trans (x6.trans x7))) rx) kk rv) (by omega) e3
  · cases e2
theorem tDc_ok (hsl : ∀ j ∈ sl, j ∈ vs) (q : tO K W (eDc I T C Ek Ev vs) σ H Q) : tDc (tI K W I) (tG K sl T) (tT K W0 C) (tE K W0 Ek) (tE K W0 Ev) vs σ H Q := by
  obtain ⟨B, G, δ, r, δ', a, e1, post⟩ := q
  exact tI_bind a e1 post fun J H1 G1 δ1 ds a1 x1 yl e2 post => tDc_at hsl a1 yl e2 post
end
section
variable {X : Cx} {W : WK} {kx vx tg iter : Expr} {ifs : List Expr} {scope : Scope} {own : List (Str × Nat)} {pos : Pos} {I : Mo (List D)} {sl : List Nat} {T : D → Mo Unit} {C : Mo Bool} {Ek Ev : Mo D}
theorem do_dc (hc : X.calm = true) (hN : X.N.Nodup) (hi : DI X W tg iter I) (ok : BlkOk X.N X.env.scope scope own) (hsl : ∀ j ∈ sl, j ∈ own.map (·.2))
    (hg : ∀ (s : Shared) (H : Hp) (Ca : Addr) (cl : List (Str × Addr)) (fp : List Addr), DG (X.blk s H scope (compEnvC scope cl Ca X.env) fp) tg sl T) (ht : ∀ (s : Shared) (H : Hp) (Ca : Addr) (cl : List (Str × Addr)) (fp : List Addr), DTs (X.blk s H scope (compEnvC scope cl Ca X.env) fp) W0 ifs C)
    (hk : ∀ (s : Shared) (H : Hp) (Ca : Addr) (cl : List (Str × Addr)) (fp : List Addr), DE (X.blk s H scope (compEnvC scope cl Ca X.env) fp) W0 kx Ek)
    (he : ∀ (s : Shared) (H : Hp) (Ca : Addr) (cl : List (Str × Addr)) (fp : List Addr), DE (X.blk s H scope (compEnvC scope cl Ca X.env) fp) W0 vx Ev) (hs : ∀ x, foldedSetIterable iter X.env x = pure x := by intro _; rfl) :
    DO X W (.DictComp kx vx [⟨tg, iter, ifs, 0⟩] scope pos) (eDc I T C Ek Ev (own.map (·.2))) :=
  PE.weak (pe_dc (g := tG X.K sl T) (tt := tT X.K W0 C) (tk := tE X.K W0 Ek) (tv := tE X.K W0 Ev) hc hN hi ok hg ht hk he hs) fun σ H Q q => tDc_ok hsl q
/-- name = {k: v for ..}: the name is stored by the comprehension itself -/
theorem ps_setDc {i : Nat} {y : Str} {py spos : Pos} {wi : TI} {g : TG} {tt : TT} {tk tv : TE} (hc : X.calm = true) (hN : X.N.Nodup) (hy : X.N[i]? = some y) (hyl : X.env.scope.names.lookup y = some .local)
    (hsw : swapsWith (.DictComp kx vx [⟨tg, iter, ifs, 0⟩] scope pos) (some (.Name y py)) spos.line X.env = pure true) (hi : PI X tg iter wi) (ok : BlkOk X.N X.env.scope scope own)
    (hg : ∀ (s : Shared) (H : Hp) (Ca : Addr) (cl : List (Str × Addr)) (fp : List Addr), PG (X.blk s H scope (compEnvC scope cl Ca X.env) fp) tg g) (ht : ∀ (s : Shared) (H : Hp) (Ca : Addr) (cl : List (Str × Addr)) (fp : List Addr), PTs (X.blk s H scope (compEnvC scope cl Ca X.env) fp) ifs tt)
    (hk : ∀ (s : Shared) (H : Hp) (Ca : Addr) (cl : List (Str × Addr)) (fp : List Addr), PE (X.blk s H scope (compEnvC scope cl Ca X.env) fp) kx tk)
    (he : ∀ (s : Shared) (H : Hp) (Ca : Addr) (cl : List (Str × Addr)) (fp : List Addr), PE (X.blk s H scope (compEnvC scope cl Ca X.env) fp) vx tv) (hs : ∀ x, foldedSetIterable iter X.env x = pure x) :
    PS X (.Assign [.Name y py] (.DictComp kx vx [⟨tg, iter, ifs, 0⟩] scope pos) spos) (tAsg (tDc wi g tt tk tv (own.map (·.2))) (gName i)) := by
  constructor
  intro pins s σ H Dn I q0
  rw [exec_Assign_Name_used _ _ _ _ hsw]
  refine wpAny_bind (wpAny_standAt (wpAny_bind ?_))
  show wpAny _ X.A (do
    let _ ← comprehension (.DictComp kx vx [⟨tg, iter, ifs, 0⟩] scope pos) scope X.env (firstIterPos [⟨tg, iter, ifs, 0⟩] pos) newDict false (eval iter X.env) (some (assign (.Name y py) X.env))) _ _ s
  have q1 : tDc wi g tt tk tv (own.map (·.2)) σ H (fun x H1 => gName i x σ H1 Dn.nx) := q0
  refine wpAny_bind (thn (dc_core (Qf := fun _ s' => SP X pins Dn .next s') hc hN I hi ok hg ht hk he hs q1 fun L C s' m H' I' q hn fp => ?_) fun _ s' hq => wpAny_pure (wpAny_pure hq))
  show wpAny _ _ (assign (.Name y py) X.env (.ref L)) _ _ _
  refine wpAny_assign_Name (store_ok2 (v := V.ref L) I' hN hy (.inl hyl) rfl (fun s2 I2 z => ?_) (.inr hyl))
  obtain ⟨b, sb, hb⟩ := z
  obtain ⟨f0, f1, f2, f3, f4, f5⟩ := fp
  have ne : C ≠ b := by
    rcases hb with w | w
    · rw [w]; exact f1
    · exact fun e => f4 y b w e.symm
  exact ⟨m, hn.sameBut sb ne, fun h3 sb3 => ⟨_, H', I2.turned (t' := s2.toks) (fun c o hc e => (sb3.2 c hc).trans e) f0 f1 f3 f4 f5, q⟩⟩
theorem sw_trueD {y : Str} {py : Pos} {gs : List Comprehension} {l : Nat} {env : PySem.Env} (hk : env.scope.kind = .function) (hy : env.scope.names.lookup y = some .local) (hl : (py.line == pos.line) = true)
    (ha : (scope.names.any fun (n, k) => n == y && (k == .local || k == .cell)) = false) : swapsWith (.DictComp kx vx gs scope pos) (some (.Name y py)) l env = pure true := by
  have h1 : env.kindOf y = some .local := hy
  have h2 : env.blockKind = .function := by unfold PySem.Env.blockKind; rw [hk]; rfl
  unfold swapsWith
  simp only [h2, h1, ha, Expr.pos, hl]
  rfl
theorem tAsgF_ok {K : PySem.W.Frag} {E : Mo D} {t : TE} {i : Nat} {Dn : Ends} {σ : St} {H : Hp} (ht : ∀ Q, tE K W E σ H Q → t σ H Q) (q : tS K W (sAsg (gN i) E) Dn σ H) : tAsg t (gName i) Dn σ H := by
  obtain ⟨B, G, δ, r, δ', a, e1, post⟩ := q
  refine ht _ (tE_bindS a e1 post fun v H1 G1 δ1 d a1 x1 r1 e2 post => ?_)
  rcases unit_bind e2 with ⟨q, rfl⟩ | ⟨x, q, rfl⟩
  · unfold gN at q
    split at q
    · cases q
      exact post G1 _ H1 (a1.setImm r1 i) (Ext.refl _)
    · cases q
  · exact absurd q (calm_N _ _ _ _)
/-- a new object's rule gives data as well -/
theorem tO_of_tE {K : PySem.W.Frag} {E : Mo D} {σ : St} {H : Hp} {Q : VK} (q : tE K W E σ H Q) : tO K W E σ H Q := by
  obtain ⟨B, G, δ, r, δ', a, e1, post⟩ := q
  refine ⟨B, G, δ, r, δ', a, e1, ?_⟩
  cases r with
  | error x => exact post
  | ok d =>
    rintro G' H' a' ex p ⟨h1, h2, h3, h4⟩
    obtain ⟨o, q1, qm, q2⟩ := h4.obj
    exact post (upd G' p o) H' (a'.fix q1 h1 h2 h3 (mut_notbl qm)) (ex.trans (Ext.new h1)) (.ref p) (q2 _ upd_same (Ext.new h1))
theorem ds_setDcO {i : Nat} {y : Str} {py spos : Pos} (hc : X.calm = true) (hN : X.N.Nodup) (hy : X.N[i]? = some y) (hyl : X.env.scope.names.lookup y = some .local)
    (hsw : swapsWith (.DictComp kx vx [⟨tg, iter, ifs, 0⟩] scope pos) (some (.Name y py)) spos.line X.env = pure true) (hi : DI X W tg iter I) (ok : BlkOk X.N X.env.scope scope own) (hsl : ∀ j ∈ sl, j ∈ own.map (·.2))
    (hg : ∀ (s : Shared) (H : Hp) (Ca : Addr) (cl : List (Str × Addr)) (fp : List Addr), DG (X.blk s H scope (compEnvC scope cl Ca X.env) fp) tg sl T) (ht : ∀ (s : Shared) (H : Hp) (Ca : Addr) (cl : List (Str × Addr)) (fp : List Addr), DTs (X.blk s H scope (compEnvC scope cl Ca X.env) fp) W0 ifs C)
    (hk : ∀ (s : Shared) (H : Hp) (Ca : Addr) (cl : List (Str × Addr)) (fp : List Addr), DE (X.blk s H scope (compEnvC scope cl Ca X.env) fp) W0 kx Ek)
    (he : ∀ (s : Shared) (H : Hp) (Ca : Addr) (cl : List (Str × Addr)) (fp : List Addr), DE (X.blk s H scope (compEnvC scope cl Ca X.env) fp) W0 vx Ev) (hs : ∀ x, foldedSetIterable iter X.env x = pure x) :
    DS X W (.Assign [.Name y py] (.DictComp kx vx [⟨tg, iter, ifs, 0⟩] scope pos) spos) (sAsgO i (eDc I T C Ek Ev (own.map (·.2)))) :=
  PS.weak (ps_setDc (g := tG X.K sl T) (tt := tT X.K W0 C) (tk := tE X.K W0 Ek) (tv := tE X.K W0 Ev) hc hN hy hyl hsw hi ok hg ht hk he hs) fun Dn σ H q => tAsgO_ok (fun Q z => tDc_ok hsl z) q
end
end M

set_option Elab.async false
set_option linter.all false
set_option maxRecDepth 100000
set_option maxHeartbeats 1000000
/-! Part O: sorted(cells, key=lambda cell: (cell[1], cell[0])). -/
namespace M
open PySem L2 PySem.Spec PyProof.Rows
section
variable {prog : Program} {w : World} {A : Around} {E : Value → Shared → Prop} {s : Shared} {env : PySem.Env} {x : Str} {m : Str → Option Value} {t : Addr} {items : Array Value}
theorem row_sub {i : Int} {j c : Nat} {v : Value} {p1 p2 p3 : Pos} {Q : Value → Shared → Prop} (hk : env.scope.kind = .function) (hl : env.kindOf x = some .local) (hn : s.heap.Ns env.locals m) (hv : m x = some (.ref t)) (ht : IsTup s.heap t items)
    (h0 : 0 ≤ i) (h1 : i < 100) (hj : seqIndex? i items.size = some j) (hx : items[j]? = some v) (hd : (x == ("__debug__" : Str)) = false) (h : ∀ tk, Q v { s with toks := tk }) :
    wpAny (model prog w) A (eval (.Subscript (.Name x p1) (.Constant (.int i) c p2) p3) env) Q E s := by
  refine Subscript_ (wpAny_Name (wpAny_loadName_local hk hl hn hv ?_) hd)
  refine wpAny_Constant_int ?_
  refine subscriptTail_builtin ht.typeIs slot_tuple_getitem.lookup (getItem_tuple ht (by omega) (by omega) hj hx (h _)) (by intros; rfl) (by intros; rfl)
theorem row_key {c1 c2 k : Nat} {v0 v1 : Value} {p1 p2 p3 p4 p5 p6 p7 : Pos} {Q : Value → Shared → Prop} (hk : env.scope.kind = .function) (hl : env.kindOf x = some .local) (hn : s.heap.Ns env.locals m) (hv : m x = some (.ref t)) (ht : IsTup s.heap t #[v0, v1])
    (hd : (x == ("__debug__" : Str)) = false) (h : ∀ tk, Q (.ref s.heap.objs.size) { s with heap := s.heap.push { cls := .type "tuple", data := .seq #[v1, v0] }, toks := tk }) :
    wpAny (model prog w) A (eval (.Tuple [.Subscript (.Name x p1) (.Constant (.int 1) c1 p2) p3, .Subscript (.Name x p4) (.Constant (.int 0) c2 p5) p6] k p7) env) Q E s := by
  refine wpAny_Tuple_spliced ?_
  show wpAny _ _ (spliced [(false, _), (false, _)]) _ _ _
  refine Calls.spliced_cons (row_sub (i := 1) (j := 1) hk hl hn hv ht (by decide) (by decide) rfl rfl hd fun tk => ?_)
  refine Calls.spliced_cons (row_sub (s := { s with toks := tk }) (i := 0) (j := 0) hk hl hn hv ht (by decide) (by decide) rfl rfl hd fun tk2 => ?_)
  exact Calls.spliced_nil ⟨small_line (by simp), h _⟩
/-- the lambda's call -/
theorem row_call {f c' : Addr} {q : Str} {params : Arguments} {scope : Scope} {pm ctv : Value} {c1 c2 k : Nat} {v0 v1 : Value} {p1 p2 p3 p4 p5 p6 p7 : Pos} {Q : Value → Shared → Prop} (hroom : A.depth < recursionLimit)
    (ho : s.heap.get? f = some (PySem.W.kla_obj "<lambda>" q params (.Tuple [.Subscript (.Name x p1) (.Constant (.int 1) c1 p2) p3, .Subscript (.Name x p4) (.Constant (.int 0) c2 p5) p6] k p7) scope [] pm c' ctv))
    (hc : scope.isCoroutine = false) (hg : scope.isGenerator = false) (hk : scope.kind = .function) (hx : scope.names = [(x, .local)]) (hcd : s.heap.CodeRec (.ref c') q) (hlim : s.heap.NoLimit)
    (hb : ∀ u, bindArgs (PySem.W.kla_fn "<lambda>" q params (.Tuple [.Subscript (.Name x p1) (.Constant (.int 1) c1 p2) p3, .Subscript (.Name x p4) (.Constant (.int 0) c2 p5) p6] k p7) scope [] pm (.ref c') ctv) ⟨[u], []⟩ = pure [(x, u)])
    (ht : IsTup s.heap t #[v0, v1]) (hd : (x == ("__debug__" : Str)) = false)
    (h : ∀ h' tk, (∀ b o, s.heap.get? b = some o → h'.get? b = some o) → ∀ p, h'.get? p = some { cls := .type "tuple", data := .seq #[v1, v0] } → Q (.ref p) { s with heap := h', toks := tk }) :
    wpAny (model prog w) A (call (.ref f) [.ref t]) Q E s := by
  refine wpAny_call (PySem.W.kla_callFunE hroom ho rfl hc hg rfl hcd ?_)
  rw [hb]
  have hl : scope.names.lookup x = some .local := by rw [hx]; simp [List.lookup]
  refine wpAny_pure (wpAny_newFunctionEnv (fun y hy => by rw [hx] at hy; simp at hy; subst hy; simp) (fun y hy => by simp at hy; subst hy; exact hl) (fun h₁ hns hsb => ⟨hlim.fresh _ hsb, ?_⟩) hk)
  have kp : ∀ b o, s.heap.get? b = some o → h₁.get? b = some o := fun b o e => hsb.extBut b o (Nat.ne_of_lt (Heap.lt_size e)) (Heap.get?_push_of_some _ e)
  refine PySem.W.kla_codeExpr ?_
  refine row_key (m := fun y => [(x, Value.ref t)].reverse.lookup y) hk hl hns (by simp [List.lookup]) (ht.keeps kp) hd fun tk => ?_
  exact h _ tk (fun b o e => Heap.get?_push_of_some _ (kp b o e)) _ (Heap.get?_push_size _ rfl)
end

/-! ### the rule -/
def rowLe (p q : Int × Int) : Bool := decide (p.2 < q.2 ∨ (p.2 = q.2 ∧ p.1 ≤ q.1))
def byRows (ps : List (Int × Int)) : List (Int × Int) := ps.mergeSort rowLe
/-- the cells of ts, sorted -/
def SortedAs (ts : List Addr) (ps : List (Int × Int)) (ts' : List Addr) : Prop := PySem.W.EachIs (fun t p => ∃ i : Nat, ts[i]? = some t ∧ ps[i]? = some p) ts' (byRows ps)
def rRows (K : PySem.W.Frag) (P : Addr) (H : Hp) (vs : List V) (Q : VK) : Prop := ∃ (a : Addr) (ts : List Addr) (ps : List (Int × Int)), vs = [V.ref a] ∧ SqL K H a (ts.map V.ref) ∧ ts.length = ps.length ∧ (∀ (i : Nat) t p, ts[i]? = some t → ps[i]? = some p → H t = some (.tup [.int p.1, .int p.2])) ∧
  LamX.TabS H P tabQ ∧ ∀ (H2 : Hp) (ts' : List Addr) (q : Addr), LamX.ExtN H H2 → LamX.TabS H2 P tabQ → H2 q = none → SortedAs ts ps ts' → Q (.ref q) (upd H2 q (.lst (ts'.map V.ref)))
theorem each_refs {ts : List Addr} {ps : List (Int × Int)} : ∀ {out : List Value} {ps' : List (Int × Int)}, PySem.W.EachIs (fun v p => ∃ (i : Nat) (t : Addr), v = .ref t ∧ ts[i]? = some t ∧ ps[i]? = some p) out ps' →
    ∃ ts', out = ts'.map Value.ref ∧ PySem.W.EachIs (fun t p => ∃ i : Nat, ts[i]? = some t ∧ ps[i]? = some p) ts' ps'
  | _, _, .nil => ⟨[], rfl, .nil⟩
  | _, _, .cons h hs => by
    obtain ⟨i, t, rfl, h1, h2⟩ := h
    obtain ⟨ts', rfl, h3⟩ := each_refs hs
    exact ⟨t :: ts', rfl, .cons ⟨i, h1, h2⟩ h3⟩
theorem each_self {ts : List Addr} {ps : List (Int × Int)} : ∀ (us : List Addr) (qs : List (Int × Int)) (k : Nat), us.length = qs.length → (∀ i, us[i]? = ts[k + i]?) → (∀ i, qs[i]? = ps[k + i]?) →
    PySem.W.EachIs (fun v p => ∃ (i : Nat) (t : Addr), v = .ref t ∧ ts[i]? = some t ∧ ps[i]? = some p) (us.map Value.ref) qs
  | [], [], _, _, _, _ => .nil
  | u :: us, q :: qs, k, hl, h1, h2 => .cons ⟨k, u, rfl, by have := h1 0; simpa using this.symm, by have := h2 0; simpa using this.symm⟩
      (each_self us qs (k + 1) (by simpa using hl) (fun i => by have := h1 (i + 1); rw [List.getElem?_cons_succ] at this; rw [this]; congr 1; omega) (fun i => by have := h2 (i + 1); rw [List.getElem?_cons_succ] at this; rw [this]; congr 1; omega))
  | [], _ :: _, _, hl, _, _ => by simp at hl
  | _ :: _, [], _, hl, _, _ => by simp at hl
theorem vals_refs : ∀ {ts : List Addr} {us : List Value}, Vals (ts.map V.ref) us → us = ts.map Value.ref
  | [], _, .nil => rfl
  | t :: ts, _, .cons r rs => by
    cases r
    rw [vals_refs rs]; rfl
theorem refs_vals : ∀ (ts : List Addr), Vals (ts.map V.ref) (ts.map Value.ref)
  | [] => .nil
  | t :: ts => .cons rfl (refs_vals ts)
section
variable {X : Cx} {x y : Str} {e : Expr} {c P : Addr} {k : Nat} {ta : TA} {params : Arguments} {scope : Scope} {pos p lpos kpos : Pos} {c1 c2 k1 : Nat} {p1 p2 p3 p4 p5 p6 p7 : Pos}
abbrev rowLam (y : Str) (params : Arguments) (scope : Scope) (lpos : Pos) (c1 c2 k1 : Nat) (p1 p2 p3 p4 p5 p6 p7 : Pos) : Expr := .Lambda params (.Tuple [.Subscript (.Name y p1) (.Constant (.int 1) c1 p2) p3, .Subscript (.Name y p4) (.Constant (.int 0) c2 p5) p6] k1 p7) scope lpos
theorem pe_rows (hr : Room k X.A) (hg : Gl X x) (hm : X.mg x = none) (hv : bootBuiltins x = some (.builtin "sorted")) (TB : LamX.TabB X.base X.mg c P) (hcode : X.env.code = .ref c) (hq : X.env.qual ++ "<lambda>" = tabQ) (hdef : defaultsOf params X.env = ([], []))
    (hco : scope.isCoroutine = false) (hge : scope.isGenerator = false) (hk : scope.kind = .function) (hy : scope.names = [(y, .local)]) (hyd : (y == ("__debug__" : Str)) = false)
    (hb : ∀ (q : Str) (pm cv ctv u : Value), bindArgs (PySem.W.kla_fn "<lambda>" q params (.Tuple [.Subscript (.Name y p1) (.Constant (.int 1) c1 p2) p3, .Subscript (.Name y p4) (.Constant (.int 0) c2 p5) p6] k1 p7) scope [] pm cv ctv) ⟨[u], []⟩ = pure [(y, u)])
    (ha : PA X [e] ta) (hn : x ≠ "__name__" := by decide) (hdb : (x == ("__debug__" : Str)) = false := by decide)
    (he : backTo pos (starEach [e] X.env) = (false, eval e X.env) :: backTo pos (starEach [] X.env) := by rfl) (hpl : (backTo pos (starEach [e] X.env)).any (·.1) = false := by rfl) :
    PE X (.Call (.Name x p) [e] [⟨some "key", rowLam y params scope lpos c1 c2 k1 p1 p2 p3 p4 p5 p6 p7, kpos⟩] pos) (fun σ H Q => ta σ H fun vs H1 => rRows X.K P H1 vs Q) := by
  refine ⟨fun pins s σ H Q I h => ?_⟩
  refine wpAny_Call_Name_kw (ld_blt I hg hm hv ?_ hn hdb)
  refine PyProof.Rows.callWith_kw (thn (ha.run pos pins s σ H _ I h) fun us s1 ⟨vs, H1, I1, r1, a, ts, ps, hvs, hs, hlen, hcells, htab, q1⟩ => ?_) he hpl
  subst hvs
  obtain rfl := Vals.ref1 r1
  show wpAny _ _ (evalAll [do let v ← eval (rowLam y params scope lpos c1 c2 k1 p1 p2 p3 p4 p5 p6 p7) X.env; standAt pos; pure v]) _ _ s1
  have hfree : ∀ z ∈ scope.names, z.2 = .free → ∃ c, X.env.cells.lookup z.1 = some c := fun z hz e => by
    rw [hy] at hz; simp at hz; subst hz; cases e
  have hclo : cloFrom X.env.cells scope.names [] = [] := by rw [hy]; rfl
  refine wpAny_evalAll_cons (wpAny_bind (LamX.lam_make2 (T := [(P, X.env.qual ++ "<lambda>")]) I1 TB hcode (List.mem_singleton_self _) (fun z hz _ => by simp at hz; rw [hz]) (fun z hz => by simp at hz; subst hz; rw [hq]; exact htab) hdef hfree fun f c' pm ctv H2 s2 I2 eN T2 hf hfn hfr hcO => wpAny_bind (wpAny_standAt (wpAny_pure (wpAny_evalAll_nil ?_)))))
  rw [hclo, hq] at hf
  rw [hq] at hcO
  have htab2 : LamX.TabS H2 P tabQ := by have := T2 _ (List.mem_singleton_self _); rw [hq] at this; exact this
  show wpAny _ _ (call (.builtin "sorted") [.ref a] [(Str.ofString "key", .ref f)]) _ _ s2
  have hs2 : SqL X.K H2 a (ts.map V.ref) := by
    rcases hs with (h | ⟨o, h⟩) | h
    · exact .inl (.inl (eN _ _ h fun _ e => by cases e))
    · exact .inl (.inr ⟨o, eN _ _ h fun _ e => by cases e⟩)
    · exact .inr h
  obtain ⟨its, rv, li, hz⟩ := I2.list hs2
  obtain rfl := vals_refs rv
  obtain ⟨⟨oc, vs, t, hoc, hdc, hvc⟩, _, _⟩ := I2.hok c' _ hcO
  refine PySem.W.sorted_key_data (β := Int × Int) (b := false) (bs := ps) (R := fun v p => ∃ (i : Nat) (t : Addr), v = .ref t ∧ ts[i]? = some t ∧ ps[i]? = some p) (fun p => .tuple [.int p.2, .int p.1]) li.isList
    (each_self ts ps 0 hlen (fun i => by rw [Nat.zero_add]) (fun i => by rw [Nat.zero_add])) ?_ ?_ ?_ ?_ (PyProof.Rows.ksk_s1 _ _) (fun _ => PyProof.Rows.ksk_l1 _ _) (fun _ => PyProof.Rows.ksk_t1 _ _) ?_ ?_
  · intro d hd d' hd'
    obtain ⟨p, _, rfl⟩ := List.mem_map.mp hd
    obtain ⟨q, _, rfl⟩ := List.mem_map.mp hd'
    rfl
  · refine .inl fun d hd => ?_
    obtain ⟨p, _, rfl⟩ := List.mem_map.mp hd
    exact ⟨_, _, rfl⟩
  · rw [← hlen]; rw [List.length_map] at hz; exact hz
  · intro p _
    have h1 : (PyData.tuple [.int p.2, .int p.1]).depth ≤ 3 := by simp [PyData.depth, PyData.depthAll]
    have := hr.un
    omega
  · rintro v p0 ⟨i, t0, rfl, e1, e2⟩ hmem h tk kp
    have hT : H2 t0 = some (.tup [.int p0.1, .int p0.2]) := eN _ _ (hcells i t0 p0 e1 e2) fun _ e => by cases e
    obtain ⟨its2, r2, ht, _⟩ := I2.tuple (SqT.of hT)
    obtain ⟨u1, u2, rfl, rx, ry⟩ := vals2 r2
    obtain ⟨t1, rfl⟩ := rx
    obtain ⟨t2, rfl⟩ := ry
    refine row_call (s := { s2 with heap := h, toks := tk }) ?_ (kp _ _ hf) hco hge hk hy ⟨c', oc, vs, t, rfl, kp _ _ hoc, hdc, hvc⟩ (I2.nolimit.keeps kp) (fun u => hb _ _ _ _ u) (ht.keeps kp) hyd fun h' tk' kp' q0 hq0 => ?_
    · show X.A.depth < _
      have := hr.dp
      omega
    · exact ⟨h', tk', rfl, kp', .tuple hq0 rfl rfl (.cons (.int _ _) (.cons (.int _ _) .nil))⟩
  · rintro out cc h' tk kp hfr2 hob hl' hes
    obtain ⟨ts', rfl, hes'⟩ := each_refs hes
    have eL : PySem.W.dataLe false (fun p : Int × Int => PyData.tuple [.int p.2, .int p.1]) = rowLe := PySem.W.dataLe_ii (fun p : Int × Int => p.2) (fun p => p.1)
    rw [eL] at hes'
    have hlen' : (ts'.map V.ref).length ≤ sizeLine := by
      rw [List.length_map] at hl' hz ⊢
      rw [hl', ← hlen]; exact hz
    exact ⟨.ref _, upd H2 (s2.heap.objs.size + 1) (.lst (ts'.map V.ref)), I2.laid (t' := tk) kp (Nat.le_succ _) ⟨hlen', _, cc, refs_vals ts', hob⟩, rfl, q1 H2 ts' _ eN htab2 (I2.hok.fresh (Nat.le_succ _)) hes'⟩
end

/-! ### the data -/
theorem At.tabl {K : PySem.W.Frag} {B : Bs} {G H H2 : Hp} {δ : Env} {σ : St} (a : At K B G δ σ H) (e : LamX.ExtN H H2) (t : ∀ P, tabOf K = some P → LamX.TabS H2 P tabQ) : At K B G δ σ H2 := by
  have vw : ∀ F : Hp, Vw F H → (∀ b ps, F b ≠ some (.tbl ps)) → Vw F H2 := fun F v n b o q => by
    have no : ∀ ps, o ≠ .tbl ps := fun ps c => n b ps (by rw [q, c])
    rcases v b o q with z | ⟨z1, x, z⟩
    · exact .inl (e _ _ z no)
    · exact .inr ⟨z1, x, e _ _ z fun _ c => by cases c⟩
  refine ⟨vw G a.vw a.tb.2.2.1, a.g0, fun p o q z => e _ _ (a.keep p o q z) (fun ps c => a.tb.2.1 p ps (by rw [q, c])), fun p q => ?_, a.leak, fun i p q => ?_, fun j => vw _ (a.bo j) (a.tb.2.2.2.1 j), a.bod, a.len, fun i s q => ?_, a.apart, ⟨t, a.tb.2⟩⟩
  · obtain ⟨o, h1, h2⟩ := a.was q
    rw [e _ _ h1 h2]; simp
  · obtain ⟨a1, a2, a3, o, a4, a5⟩ := a.iok i p q
    exact ⟨a1, a2, a3, o, e _ _ a4 (mut_notbl a5), a5⟩
  · obtain ⟨ov, h1, h2⟩ := a.sl i s q
    refine ⟨ov, h1, ?_⟩
    cases s with
    | own d =>
      obtain ⟨p, q1, q2, q3, q4⟩ := h2
      obtain ⟨o, b1, b2⟩ := q3.nt
      exact ⟨p, q1, q2, q3.at' ((e _ _ b1 b2.tbl).trans b1.symm), q4⟩
    | io d =>
      obtain ⟨p, q1, q2, q3, q4⟩ := h2
      obtain ⟨o, b1, b2⟩ := q3.nt
      exact ⟨p, q1, q2, q3.at' ((e _ _ b1 b2.tbl).trans b1.symm), q4⟩
    | _ => exact h2
def pairD : D → Option (Int × Int)
  | .tup [.int x, .int y] => some (x, y)
  | _ => none
def pairsD : List D → Option (List (Int × Int))
  | [] => some []
  | d :: l => (pairD d).bind fun p => (pairsD l).map (p :: ·)
def pD (p : Int × Int) : D := .tup [.int p.1, .int p.2]
theorem pairD_some {d : D} {p : Int × Int} (h : pairD d = some p) : d = pD p := by
  unfold pairD at h
  split at h
  · cases h; rfl
  · cases h
theorem pairsD_some : ∀ {l : List D} {ps : List (Int × Int)}, pairsD l = some ps → l = ps.map pD
  | [], ps, h => by cases h; rfl
  | d :: l, ps, h => by
    unfold pairsD at h
    cases q : pairD d with
    | none => rw [q] at h; cases h
    | some p =>
      rw [q, Option.bind_some] at h
      cases q2 : pairsD l with
      | none => rw [q2] at h; cases h
      | some ps' =>
        rw [q2] at h; cases h
        rw [pairD_some q, pairsD_some q2]; rfl
theorem pairsD_map : ∀ ps : List (Int × Int), pairsD (ps.map pD) = some ps
  | [] => rfl
  | p :: ps => by rw [List.map_cons]; unfold pairsD; rw [pairsD_map ps]; rfl
theorem pD_ref {K : PySem.W.Frag} {G : Hp} {v : V} {p : Int × Int} (r : R K G v (pD p)) : ∃ a, v = .ref a ∧ G a = some (.tup [.int p.1, .int p.2]) := by
  cases r with
  | tup g l rl =>
    cases rl with
    | cons r1 r2 =>
      cases r1
      cases r2 with
      | cons r3 r4 => cases r3; cases r4; exact ⟨_, rfl, g⟩
theorem cells_refs {K : PySem.W.Frag} {G : Hp} : ∀ {vs : List V} {ps : List (Int × Int)}, RL K G vs (ps.map pD) → ∃ ts : List Addr, vs = ts.map V.ref ∧ ts.length = ps.length ∧ ∀ (i : Nat) t p, ts[i]? = some t → ps[i]? = some p → G t = some (.tup [.int p.1, .int p.2])
  | [], [], _ => ⟨[], rfl, rfl, fun i t p h => by simp at h⟩
  | v :: vs, p :: ps, h => by
    rw [List.map_cons] at h
    cases h with
    | cons h1 h2 =>
      obtain ⟨a, rfl, ha⟩ := pD_ref h1
      obtain ⟨ts, rfl, hl, hc⟩ := cells_refs h2
      refine ⟨a :: ts, rfl, by rw [List.length_cons, List.length_cons, hl], fun i t q e1 e2 => ?_⟩
      cases i with
      | zero => simp at e1 e2; subst e1 e2; exact ha
      | succ i => exact hc i t q (by simpa using e1) (by simpa using e2)
  | [], p :: ps, h => by rw [List.map_cons] at h; cases h
  | v :: vs, [], h => by cases h
theorem rl_each {K : PySem.W.Frag} {G : Hp} {ts : List Addr} {ps : List (Int × Int)} (hc : ∀ (i : Nat) t p, ts[i]? = some t → ps[i]? = some p → G t = some (.tup [.int p.1, .int p.2])) : ∀ {us : List Addr} {qs : List (Int × Int)}, PySem.W.EachIs (fun t p => ∃ i : Nat, ts[i]? = some t ∧ ps[i]? = some p) us qs → RL K G (us.map V.ref) (qs.map pD)
  | _, _, .nil => .nil
  | _, _, .cons h hs => by
    obtain ⟨i, h1, h2⟩ := h
    exact .cons (.tup (hc i _ _ h1 h2) (small_line (by simp)) (.cons (.int _) (.cons (.int _) .nil))) (rl_each hc hs)
def fRows : List D → Option D
  | [.lst l] => (pairsD l).map fun ps => .lst ((byRows ps).map pD)
  | _ => none
theorem byRows_len (ps : List (Int × Int)) : (byRows ps).length = ps.length := by unfold byRows; rw [List.length_mergeSort]
section
variable {X : Cx} {W : WK} {x y : Str} {e : Expr} {A : Mo (List Ag)} {c P : Addr} {k : Nat} {params : Arguments} {scope : Scope} {pos p lpos kpos : Pos} {c1 c2 k1 : Nat} {p1 p2 p3 p4 p5 p6 p7 : Pos}
/-- what a maker of the lambda needs -/
structure TabX (X : Cx) : Prop where
  ex : ∃ c P, LamX.TabB X.base X.mg c P ∧ X.env.code = .ref c ∧ tabOf X.K = some P ∧ X.env.qual ++ "<lambda>" = tabQ
theorem do_rows (hr : Room k X.A) (hg : Gl X x) (hm : X.mg x = none) (hv : bootBuiltins x = some (.builtin "sorted")) (TX : TabX X) (hdef : defaultsOf params X.env = ([], []))
    (hco : scope.isCoroutine = false) (hge : scope.isGenerator = false) (hk : scope.kind = .function) (hy : scope.names = [(y, .local)]) (hyd : (y == ("__debug__" : Str)) = false)
    (hb : ∀ (q : Str) (pm cv ctv u : Value), bindArgs (PySem.W.kla_fn "<lambda>" q params (.Tuple [.Subscript (.Name y p1) (.Constant (.int 1) c1 p2) p3, .Subscript (.Name y p4) (.Constant (.int 0) c2 p5) p6] k1 p7) scope [] pm cv ctv) ⟨[u], []⟩ = pure [(y, u)])
    (ha : DA X W [e] A) (hn : x ≠ "__name__" := by decide) (hdb : (x == ("__debug__" : Str)) = false := by decide)
    (he : backTo pos (starEach [e] X.env) = (false, eval e X.env) :: backTo pos (starEach [] X.env) := by rfl) (hpl : (backTo pos (starEach [e] X.env)).any (·.1) = false := by rfl) :
    DO X W (.Call (.Name x p) [e] [⟨some "key", rowLam y params scope lpos c1 c2 k1 p1 p2 p3 p4 p5 p6 p7, kpos⟩] pos) (eF fRows A) := by
  obtain ⟨c, P, TB, hcode, hT, hq⟩ := TX.ex
  refine PE.weak (pe_rows hr hg hm hv TB hcode hq hdef hco hge hk hy hyd hb ha hn hdb he hpl) fun σ H Q ⟨B, G, δ, r, δ', at', e1, post⟩ => ?_
  refine tA_bind at' e1 post fun vs H1 G1 δ1 as a1 x1 r1 e2 post => ?_
  obtain ⟨ds, d, h1, h2, rfl, rfl⟩ := eF_some e2
  have r2 := imms_ok r1 h1
  unfold fRows at h2
  split at h2
  · rename_i l
    obtain ⟨v, rfl, rv⟩ := rl1 r2
    cases rv with
    | lst g hl rl =>
      cases q : pairsD l with
      | none => rw [q] at h2; cases h2
      | some ps =>
        rw [q] at h2
        cases h2
        have hx := pairsD_some q
        subst hx
        obtain ⟨ts, rfl, hlen, hc⟩ := cells_refs rl
        have up : ∀ t p, G1 t = some (.tup p) → H1 t = some (.tup p) := fun t p h => a1.vw.tup h
        refine ⟨_, ts, ps, rfl, SqL.of (a1.vw.lst g), hlen, fun i t p e1 e2 => up _ _ (hc i t p e1 e2), a1.tb.1 P hT, fun H2 ts' q eN t2 hq0 hs => ?_⟩
        have a2 := a1.tabl eN (fun P' hP' => by rw [hT] at hP'; cases hP'; exact t2)
        have hsz : (ts'.map V.ref).length ≤ sizeLine := by
          rw [List.length_map, hs.length, byRows_len, ← hlen]; rw [List.length_map] at hl; exact hl
        obtain ⟨b1, b2⟩ := a2.own1 (p := q) (o := .lst (ts'.map V.ref)) hq0 (.lst upd_same hsz (rl_each hc hs))
        exact post G1 _ b1 (Ext.refl _) q b2
  · cases h2
end
end M

set_option Elab.async false
set_option linter.all false
set_option maxRecDepth 100000
set_option maxHeartbeats 1000000
/-! Part P: == of dicts with tuple keys. -/
namespace M
open PySem L2 PySem.Spec PyProof.Rows PySem.W PySem.Calls
section
variable {prog : Program} {w : World} {A : Around} {E : Value → Shared → Prop} {s : Shared} {K : Type} [DecidableEq K] {knd : HeapKind prog w K}
/-- the answer of the comparison's walk -/
inductive HitsT (prog : Program) (w : World) (A : Around) (s : Shared) (xb : List (K × Addr × Value)) : List (K × Addr × Value) → Bool → Prop
  | nil : HitsT prog w A s xb [] true
  | miss {k : K} {p : Addr × Value} {r : List (K × Addr × Value)} : atKey xb k = none → HitsT prog w A s xb ((k, p) :: r) false
  | hit {k : K} {p y : Addr × Value} {r : List (K × Addr × Value)} {e b : Bool} : atKey xb k = some y → SeqAt.EqP prog w A s p.2 y.2 e → HitsT prog w A s xb r b → HitsT prog w A s xb ((k, p) :: r) (e && b)
theorem pairsT {nm : String} {a b : Addr} {xa xb : List (K × Addr × Value)} {z : Bool} {Q : Bool → Shared → Prop} (hu : knd.room A) (na : (a == sysModules) = false) (nb : (b == sysModules) = false)
    (da : s.heap.DictOfH knd a xa) (db : s.heap.DictOfH knd b xb) (hits : xa.length = xb.length → HitsT prog w A s xb xa z) (h : Q (xa.length == xb.length && z) s) :
    wpAny (model prog w) A (Builtin.Dict.samePairs nm a b) Q E s := by
  obtain ⟨o1, e1, t1, g1, c1, d1, l1, i1, n1⟩ := da
  obtain ⟨o2, e2, t2, g2, c2, d2, l2, i2, n2⟩ := db
  have z1 : e1.size = xa.length := size_of_entries l1
  have z2 : e2.size = xb.length := size_of_entries l2
  unfold Builtin.Dict.samePairs Builtin.Dict.showsAll
  rw [na, nb]
  simp only [Bool.false_eq_true, if_false]
  refine wpAny_bind (wpAny_pure (wpAny_bind (wpAny_pure (wpAny_bind (wpAny_dictEntries g1 d1 ?_)))))
  refine wpAny_bind (wpAny_dictEntries g2 d2 ?_)
  by_cases hz : xa.length = xb.length
  · have ez : ¬ (e1.size != e2.size) = true := by rw [z1, z2, hz]; simp
    rw [if_neg ez]
    have h1 : Q z s := by rw [hz, beq_self_eq_true, Bool.true_and] at h; exact h
    refine wpAny_bind (wpAny_dictEpoch g1 d1 (wpAny_bind ?_))
    rw [Std.Legacy.Range.forIn_eq_forIn_range', Std.Legacy.Range.size]
    simp only [Nat.add_sub_cancel, Nat.div_one, Nat.sub_zero]
    refine wpAny_forIn_list _ (fun rest q s' => s' = s ∧ q = (none, ()) ∧ ∃ i, i ≤ xa.length ∧ rest = List.range' i (xa.length - i) ∧ HitsT prog w A s xb (xa.drop i) z) _ ?_ ?_ _ _ ⟨rfl, rfl, 0, Nat.zero_le _, by rw [Nat.sub_zero, z1], hits hz⟩
    · rintro j rest q s' ⟨rfl, rfl, i, hi, hr, hh⟩
      have hi2 : i < xa.length := by
        apply Nat.lt_of_not_le
        intro c
        rw [Nat.sub_eq_zero_of_le c, List.range'_zero] at hr
        cases hr
      have hs : xa.length - i = (xa.length - (i + 1)) + 1 := by omega
      rw [hs, List.range'_succ] at hr
      obtain ⟨rfl, rfl⟩ := List.cons.inj hr
      have ex : xa.drop j = xa[j] :: xa.drop (j + 1) := List.drop_eq_getElem_cons hi2
      cases hkp : xa[j] with
      | mk k p =>
        rw [hkp] at ex
        rw [ex] at hh
        have en : e1[j]? = some (entryOfKey knd (k, p)) := by rw [entry_at l1 j, List.getElem?_eq_getElem hi2, hkp]; rfl
        have hk : knd.is s'.heap k p.1 := i1 (k, p) (by rw [← hkp]; exact List.getElem_mem hi2)
        refine wpAny_bind (wpAny_dictEntries g1 d1 ?_)
        rw [en]
        refine wpAny_bind (wpAny_holding (wpAny_bind (wpAny_dictFind_heap hu hk g2 d2 l2 i2 n2 (fun hno => ?_) fun i' y hy => ?_)))
        · have hn := atKey_none_of_get hno
          cases hh with
          | miss _ => exact wpAny_pure (wpAny_pure (wpAny_pure h1))
          | hit hy _ _ => rw [hn] at hy; cases hy
        · have hn := atKey_of_get n2 hy
          cases hh with
          | miss hx => rw [hn] at hx; cases hx
          | hit hx he hr2 =>
            rw [hn] at hx
            cases hx
            refine wpAny_bind (wpAny_dictEntries g2 d2 ?_)
            rw [entry_at l2 i', hy]
            refine wpAny_holding (he _ _ ?_)
            rename_i e b
            cases e with
            | false => exact wpAny_pure (wpAny_pure h1)
            | true =>
              refine wpAny_bind (wpAny_dictEpoch g1 d1 ?_)
              rw [if_neg (by simp)]
              exact wpAny_pure ⟨rfl, rfl, j + 1, hi2, rfl, hr2⟩
    · rintro q s' ⟨rfl, rfl, i, hi, hr, hh⟩
      have hi2 : i = xa.length := by
        apply Nat.le_antisymm hi
        apply Nat.le_of_not_lt
        intro c
        have hs : xa.length - i = (xa.length - (i + 1)) + 1 := by omega
        rw [hs, List.range'_succ] at hr
        cases hr
      rw [hi2, List.drop_length] at hh
      cases hh
      exact wpAny_pure h1
  · have ez : (e1.size != e2.size) = true := by rw [z1, z2]; simpa using hz
    rw [if_pos ez]
    have hf : (xa.length == xb.length) = false := by simpa using hz
    rw [hf, Bool.false_and] at h
    exact wpAny_bind (wpAny_rule (wpAny_pure h))
theorem rc_dictsT {a b : Addr} {xa xb : List (K × Addr × Value)} {z : Bool} (hr : knd.room A.in1) (hu : A.units < cLine) (na : (a == sysModules) = false) (nb : (b == sysModules) = false)
    (da : s.heap.DictOfH knd a xa) (db : s.heap.DictOfH knd b xb) (hits : xa.length = xb.length → HitsT prog w A.in1 s xb xa z) (Q : Value → Shared → Prop) (h : Q (.bool (xa.length == xb.length && z)) s) : wpAny (model prog w) A (richCompare .Eq (.ref a) (.ref b)) Q E s := by
  refine wpAny_richCompare_same_room (op := .Eq) da.typeIs db.typeIs PySem.F.slot_dict_eq (wpAny_call_entry PySem.F.slot_dict_eq da.typeIs PySem.F.entry_dict_eq ?_ (PySem.F.args_dict_eq_2 _ _)) hu
  refine wpAny_bind (m := Builtin.Dict.dictSlotArgs "__eq__" ⟨[.ref a, .ref b], []⟩) ?_
  unfold Builtin.Dict.dictSlotArgs
  refine wpAny_bind (wpAny_notOrdered_dict da.typeIs ?_)
  refine wpAny_pure (wpAny_bind (wpAny_isInstance (T := "dict") db.typeIs PySem.F.sub_dict_dict ?_))
  simp only [Bool.false_eq_true, Bool.not_true, if_false]
  refine wpAny_bind (wpAny_pure (wpAny_bind (wpAny_pure (wpAny_bind (pairsT hr na nb da db hits ?_)))))
  refine wpAny_pure ⟨_, rfl, (fun x => nomatch x), ?_⟩
  simpa using h
theorem rn_dictsT {a b : Addr} {xa xb : List (K × Addr × Value)} {z : Bool} (hr : knd.room A.in1) (hu : A.units < cLine) (na : (a == sysModules) = false) (nb : (b == sysModules) = false)
    (da : s.heap.DictOfH knd a xa) (db : s.heap.DictOfH knd b xb) (hits : xa.length = xb.length → HitsT prog w A.in1 s xb xa z) (Q : Value → Shared → Prop) (h : Q (.bool (!(xa.length == xb.length && z))) s) : wpAny (model prog w) A (richCompare .NotEq (.ref a) (.ref b)) Q E s := by
  refine wpAny_richCompare_same_room (op := .NotEq) da.typeIs db.typeIs PySem.F.slot_dict_ne (wpAny_call_entry PySem.F.slot_dict_ne da.typeIs PySem.F.entry_dict_ne ?_ (PySem.F.args_dict_ne_2 _ _)) hu
  refine wpAny_bind (m := Builtin.Dict.dictSlotArgs "__ne__" ⟨[.ref a, .ref b], []⟩) ?_
  unfold Builtin.Dict.dictSlotArgs
  refine wpAny_bind (wpAny_notOrdered_dict da.typeIs ?_)
  refine wpAny_pure (wpAny_bind (wpAny_isInstance (T := "dict") db.typeIs PySem.F.sub_dict_dict ?_))
  simp only [Bool.false_eq_true, Bool.not_true, if_false]
  refine wpAny_bind (wpAny_pure (wpAny_bind (wpAny_pure (wpAny_bind (pairsT hr na nb da db hits ?_)))))
  refine wpAny_pure ⟨_, rfl, (fun x => nomatch x), ?_⟩
  simpa using h
end
/-! ### the data -/
/-- two tables compared -/
def eqTab {κ : Type} [DecidableEq κ] (l m : List (κ × D)) : Bool := l.length == m.length && l.all fun kv => match lookA m kv.1 with
  | some d => PyData.eqv (toPy kv.2) (toPy d)
  | none => false
def allShp {κ : Type} (l : List (κ × D)) : Bool := l.all fun kv => shp kv.2
def dEqX (a b : D) : Option D := match a, b with
  | .dT l, .dT m => if (allShp l && allShp m) = true then some (.bl (eqTab l m)) else none
  | .dK l, .dK m => if (allShp l && allShp m) = true then some (.bl (eqTab l m)) else none
  | a, b => dEq a b
def dNeX (a b : D) : Option D := match a, b with
  | .dT l, .dT m => if (allShp l && allShp m) = true then some (.bl (!eqTab l m)) else none
  | .dK l, .dK m => if (allShp l && allShp m) = true then some (.bl (!eqTab l m)) else none
  | a, b => dNe a b
section
variable {X : Cx} {pins : List (Addr × Obj)} {σ : St} {G H : Hp} {s : Shared} {A : Around}
theorem hitsT_of (I : Inv X pins σ H s) (vw : Vw G H) (hu : A.in1.units + 64 < cLine) {lb : List (List Key × V)} {mb : List (List Key × D)} {xb : List (List Key × Addr × Value)} (rb : KT H lb xb) (kb : KVP X.K G lb mb) (sb : allShp mb = true) :
    ∀ {la : List (List Key × V)} {ma : List (List Key × D)} {xa : List (List Key × Addr × Value)}, KT H la xa → KVP X.K G la ma → allShp ma = true →
      HitsT X.prog X.w A.in1 s xb xa (ma.all fun kv => match lookA mb kv.1 with
        | some d => PyData.eqv (toPy kv.2) (toPy d)
        | none => false) := by
  intro la ma xa ra
  induction ra generalizing ma with
  | nil => intro ka _; cases ka; exact .nil
  | @cons p q ps qs h t ih =>
    intro ka sa
    cases ka with
    | @cons _ kd _ ms h' t' =>
      obtain ⟨h1, h2, h3⟩ := h
      obtain ⟨g1, g2⟩ := h'
      have sa2 : shp kd.2 = true ∧ allShp ms = true := by
        unfold allShp at sa ⊢
        rw [List.all_cons, Bool.and_eq_true] at sa
        exact sa
      have ihr := ih t' sa2.2
      rw [List.all_cons]
      obtain ⟨kq, bq, vq⟩ := q
      have ekq : kd.1 = kq := g1.symm.trans h1
      rw [ekq]
      rcases kvp_look kb kq with ⟨v, d, e1, e2, e3⟩ | ⟨e1, e2⟩
      · obtain ⟨w', hw, rw'⟩ := RelO.some_of (v := v) (o := (atKey xb kq).map (·.2)) (by rw [← e1]; exact rb.val kq)
        obtain ⟨p', hp', hp2⟩ := Option.map_eq_some_iff.mp hw
        rw [e2]
        refine .hit hp' ?_ ihr
        rw [hp2]
        have sd : shp d = true := by
          unfold allShp at sb
          have := List.all_eq_true.mp sb
          unfold lookA at e2
          obtain ⟨kv, hkv, rfl⟩ := Option.map_eq_some_iff.mp e2
          exact this kv (List.mem_of_find?_eq_some hkv)
        obtain ⟨as, r1⟩ := Dp.reads I _ _ _ (shp_dp vw g2 sa2.1) h3
        obtain ⟨bs, r2⟩ := Dp.reads I _ _ _ (shp_dp vw e3 sd) rw'
        exact (PySem.W.keq_at r1 r2 sa2.1 sd hu).eqP
      · rw [e2]
        have hn : atKey xb kq = none := by
          have := rb.val kq
          rw [e1] at this
          cases z : atKey xb kq with
          | none => rfl
          | some p' => rw [z] at this; exact this.elim
        show HitsT X.prog X.w A.in1 s xb _ (false && _)
        rw [Bool.false_and]
        exact .miss hn
theorem hitsK_of (I : Inv X pins σ H s) (vw : Vw G H) (hu : A.in1.units + 64 < cLine) {lb : List (Key × V)} {mb : List (Key × D)} {xb : List (Key × Value)} (rb : KV lb xb) (kb : KVP X.K G lb mb) (sb : allShp mb = true) :
    ∀ {la : List (Key × V)} {ma : List (Key × D)} {xa : List (Key × Value)}, KV la xa → KVP X.K G la ma → allShp ma = true →
      PySem.W.KeqHits A.in1 s xb xa (ma.all fun kv => match lookA mb kv.1 with
        | some d => PyData.eqv (toPy kv.2) (toPy d)
        | none => false) := by
  intro la ma xa ra
  unfold KV at ra
  induction ra generalizing ma with
  | nil => intro ka _; cases ka; exact .nil
  | @cons p q ps qs h t ih =>
    intro ka sa
    cases ka with
    | @cons _ kd _ ms h' t' =>
      obtain ⟨h1, h3⟩ := h
      obtain ⟨g1, g2⟩ := h'
      have sa2 : shp kd.2 = true ∧ allShp ms = true := by
        unfold allShp at sa ⊢
        rw [List.all_cons, Bool.and_eq_true] at sa
        exact sa
      have ihr := ih t' sa2.2
      rw [List.all_cons]
      obtain ⟨kq, vq⟩ := q
      have ekq : kd.1 = kq := g1.symm.trans h1
      rw [ekq]
      rcases kvp_look kb kq with ⟨v, d, e1, e2, e3⟩ | ⟨e1, e2⟩
      · obtain ⟨w', hw, rw'⟩ := RelO.some_of (v := v) (o := valueAt xb kq) (by rw [← e1]; exact rb.val kq)
        rw [e2]
        refine .hit hw ?_ ihr
        have sd : shp d = true := by
          unfold allShp at sb
          have := List.all_eq_true.mp sb
          unfold lookA at e2
          obtain ⟨kv, hkv, rfl⟩ := Option.map_eq_some_iff.mp e2
          exact this kv (List.mem_of_find?_eq_some hkv)
        obtain ⟨as, r1⟩ := Dp.reads I _ _ _ (shp_dp vw g2 sa2.1) h3
        obtain ⟨bs, r2⟩ := Dp.reads I _ _ _ (shp_dp vw e3 sd) rw'
        exact PySem.W.keq_at r1 r2 sa2.1 sd hu
      · rw [e2]
        have hn : valueAt xb kq = none := by
          have := rb.val kq
          rw [e1] at this
          cases z : valueAt xb kq with
          | none => rfl
          | some p' => rw [z] at this; exact this.elim
        show PySem.W.KeqHits A.in1 s xb _ (false && _)
        rw [Bool.false_and]
        exact .miss hn
end
def rTabT (K : PySem.W.Frag) (ne : Bool) : R2 := fun x y H Q => ∃ (a b : Addr) (G : Hp) (la lb : List (List Key × V)) (ma mb : List (List Key × D)), Vw G H ∧ x = .ref a ∧ y = .ref b ∧ Rd H a (.dT la) ∧ Rd H b (.dT lb) ∧ KVP K G la ma ∧ KVP K G lb mb ∧ allShp ma = true ∧ allShp mb = true ∧ Q (.bl (if ne = true then !eqTab ma mb else eqTab ma mb)) H
def rTabK (K : PySem.W.Frag) (ne : Bool) : R2 := fun x y H Q => ∃ (a b : Addr) (G : Hp) (la lb : List (Key × V)) (ma mb : List (Key × D)), Vw G H ∧ x = .ref a ∧ y = .ref b ∧ Rd H a (.dK la) ∧ Rd H b (.dK lb) ∧ KVP K G la ma ∧ KVP K G lb mb ∧ allShp ma = true ∧ allShp mb = true ∧ Q (.bl (if ne = true then !eqTab ma mb else eqTab ma mb)) H
section
variable {X : Cx}
theorem op_tabT {op : CmpOp} {ne : Bool} (hop : (op = .Eq ∧ ne = false) ∨ (op = .NotEq ∧ ne = true)) (hu : X.A.units + 65 < cLine) : OpR X (compareOp op) (rTabT X.K ne) := by
  intro pins s σ H x y v u Q I rx ry h
  obtain ⟨a, b, G, la, lb, ma, mb, vw, rfl, rfl, ea, eb, ka, kb, sa, sb, q⟩ := h
  obtain rfl : v = Value.ref a := rx
  obtain rfl : u = Value.ref b := ry
  obtain ⟨_, na, xa, ra, da⟩ := dt_rd I.hok ea
  obtain ⟨_, nb, xb, rb, db⟩ := dt_rd I.hok eb
  have hu1 : X.A.in1.units + 64 < cLine := by show X.A.units + 1 + 64 < cLine; omega
  have hits := hitsT_of I vw hu1 rb kb sb ra ka sa
  have l1 : xa.length = ma.length := (Paired.length ra).symm.trans (Paired.length ka)
  have l2 : xb.length = mb.length := (Paired.length rb).symm.trans (Paired.length kb)
  have hu2 : X.A.units + 1 < cLine := by omega
  rcases hop with ⟨rfl, rfl⟩ | ⟨rfl, rfl⟩
  · refine rc_dictsT (tupleKind_room_in1 hu2) (by omega) na nb da db (fun _ => hits) _ ⟨.bl _, H, I, rfl, ?_⟩
    rw [l1, l2]; exact q
  · refine rn_dictsT (tupleKind_room_in1 hu2) (by omega) na nb da db (fun _ => hits) _ ⟨.bl _, H, I, rfl, ?_⟩
    rw [l1, l2]; exact q
theorem op_tabK {op : CmpOp} {ne : Bool} (hop : (op = .Eq ∧ ne = false) ∨ (op = .NotEq ∧ ne = true)) (hu : X.A.units + 65 < cLine) : OpR X (compareOp op) (rTabK X.K ne) := by
  intro pins s σ H x y v u Q I rx ry h
  obtain ⟨a, b, G, la, lb, ma, mb, vw, rfl, rfl, ea, eb, ka, kb, sa, sb, q⟩ := h
  obtain rfl : v = Value.ref a := rx
  obtain rfl : u = Value.ref b := ry
  obtain ⟨_, na, xa, ra, da⟩ := dk_rd I.hok ea
  obtain ⟨_, nb, xb, rb, db⟩ := dk_rd I.hok eb
  have hu1 : X.A.in1.units + 64 < cLine := by show X.A.units + 1 + 64 < cLine; omega
  have hits := hitsK_of I vw hu1 rb kb sb ra ka sa
  have l1 : xa.length = ma.length := (Paired.length ra).symm.trans (Paired.length ka)
  have l2 : xb.length = mb.length := (Paired.length rb).symm.trans (Paired.length kb)
  rcases hop with ⟨rfl, rfl⟩ | ⟨rfl, rfl⟩
  · refine PySem.W.keq_eq na nb da db (by omega) (fun _ => hits) ⟨.bl _, H, I, rfl, ?_⟩
    rw [l1, l2]; exact q
  · refine PySem.W.keq_ne na nb da db (by omega) (fun _ => hits) ⟨.bl _, H, I, rfl, ?_⟩
    rw [l1, l2]; exact q
def rEqX (K : PySem.W.Frag) : R2 := fun x y H Q => (rEqD K x y H Q ∨ rTabT K false x y H Q) ∨ rTabK K false x y H Q
def rNeX (K : PySem.W.Frag) : R2 := fun x y H Q => (rNeD K x y H Q ∨ rTabT K true x y H Q) ∨ rTabK K true x y H Q
theorem snd_eqX : Snd2 X.K dEqX (rEqX X.K) := fun B G H δ σ x y a b d Q at' rx ry h k => by
  unfold dEqX at h
  split at h
  · split at h
    · rename_i q
      cases h
      rw [Bool.and_eq_true] at q
      cases rx with
      | dT g1 l1 k1 r1 =>
        cases ry with
        | dT g2 l2 k2 r2 => exact .inl (.inr ⟨_, _, G, _, _, _, _, at'.vw, rfl, rfl, at'.vw.rd g1, at'.vw.rd g2, kvp_of k1 r1, kvp_of k2 r2, q.1, q.2, k _ G H at' (Ext.refl _) (.bl _)⟩)
    · cases h
  · split at h
    · rename_i q
      cases h
      rw [Bool.and_eq_true] at q
      cases rx with
      | dK g1 l1 k1 r1 =>
        cases ry with
        | dK g2 l2 k2 r2 => exact .inr ⟨_, _, G, _, _, _, _, at'.vw, rfl, rfl, at'.vw.rd g1, at'.vw.rd g2, kvp_of k1 r1, kvp_of k2 r2, q.1, q.2, k _ G H at' (Ext.refl _) (.bl _)⟩
    · cases h
  · exact .inl (.inl (snd_eq (X := X) B G H δ σ x y a b d Q at' rx ry h k))
theorem snd_neX : Snd2 X.K dNeX (rNeX X.K) := fun B G H δ σ x y a b d Q at' rx ry h k => by
  unfold dNeX at h
  split at h
  · split at h
    · rename_i q
      cases h
      rw [Bool.and_eq_true] at q
      cases rx with
      | dT g1 l1 k1 r1 =>
        cases ry with
        | dT g2 l2 k2 r2 => exact .inl (.inr ⟨_, _, G, _, _, _, _, at'.vw, rfl, rfl, at'.vw.rd g1, at'.vw.rd g2, kvp_of k1 r1, kvp_of k2 r2, q.1, q.2, k _ G H at' (Ext.refl _) (.bl _)⟩)
    · cases h
  · split at h
    · rename_i q
      cases h
      rw [Bool.and_eq_true] at q
      cases rx with
      | dK g1 l1 k1 r1 =>
        cases ry with
        | dK g2 l2 k2 r2 => exact .inr ⟨_, _, G, _, _, _, _, at'.vw, rfl, rfl, at'.vw.rd g1, at'.vw.rd g2, kvp_of k1 r1, kvp_of k2 r2, q.1, q.2, k _ G H at' (Ext.refl _) (.bl _)⟩
    · cases h
  · exact .inl (.inl (snd_ne (X := X) B G H δ σ x y a b d Q at' rx ry h k))
theorem op_eqX (hu : X.A.units + 65 < cLine) : OpR X (compareOp .Eq) (rEqX X.K) := OpR.or (OpR.or (op_eqD (by omega)) (op_tabT (.inl ⟨rfl, rfl⟩) hu)) (op_tabK (.inl ⟨rfl, rfl⟩) hu)
theorem op_neX (hu : X.A.units + 65 < cLine) : OpR X (compareOp .NotEq) (rNeX X.K) := OpR.or (OpR.or (op_neD (by omega)) (op_tabT (.inr ⟨rfl, rfl⟩) hu)) (op_tabK (.inr ⟨rfl, rfl⟩) hu)
variable {W : WK} {a b : Expr} {Ea Eb : Mo D} {pos : Pos}
theorem de_eqX (hu : X.A.units + 65 < cLine) (ha : DE X W a Ea) (hb : DE X W b Eb) : DE X W (.Compare a [.Eq] [b] pos) (eBin dEqX Ea Eb) := de_cmp (op_eqX hu) snd_eqX ha hb (nomark _)
theorem de_neX (hu : X.A.units + 65 < cLine) (ha : DE X W a Ea) (hb : DE X W b Eb) : DE X W (.Compare a [.NotEq] [b] pos) (eBin dNeX Ea Eb) := de_cmp (op_neX hu) snd_neX ha hb (nomark _)
theorem dt_eqX (hu : X.A.units + 65 < cLine) (ha : DE X W a Ea) (hb : DE X W b Eb) : DT X W (.Compare a [.Eq] [b] pos) (eB (eBin dEqX Ea Eb)) := dt_cmp (op_eqX hu) snd_eqX ha hb (nomark _)
theorem dt_neX (hu : X.A.units + 65 < cLine) (ha : DE X W a Ea) (hb : DE X W b Eb) : DT X W (.Compare a [.NotEq] [b] pos) (eB (eBin dNeX Ea Eb)) := dt_cmp (op_neX hu) snd_neX ha hb (nomark _)
end
end M

set_option Elab.async false
set_option linter.all false
set_option maxRecDepth 100000
set_option maxHeartbeats 1000000
/-! Part Q: what walks a dict: it is locked meanwhile. -/
namespace M
open PySem L2 PySem.Spec PyProof.Rows
/-- the dict at a is locked as od -/
def Bs.lock (B : Bs) (a : Addr) (od : Obj) (u : HO) : Bs := { B with H0 := upd B.H0 a (.frz od u), G0 := upd B.G0 a u }
theorem isD_nt {u : HO} (h : isD u = true) : NT u := by
  cases u with
  | dK l => exact nt_dK
  | dT l => exact nt_dT
  | _ => cases h
theorem nt_frz {od : Obj} {u : HO} : NT (.frz od u) := ⟨fun _ e => (by cases e), fun _ e => (by cases e), fun _ _ e => (by unfold LamX.CodeO at e; cases e)⟩
theorem tabS_same {H H2 : Hp} {P a : Addr} {q : Str} {o : HO} (t : LamX.TabS H P q) (h : H a = some o) (n : NT o) (h1 : ∀ b, b ≠ a → H2 b = H b) : LamX.TabS H2 P q := by
  obtain ⟨ps, e1, e2, e3⟩ := t
  have c1 : P ≠ a := fun c => by subst c; rw [h] at e1; cases e1; exact n.tbl _ rfl
  refine ⟨ps, by rw [h1 P c1]; exact e1, e2, fun pos cv hc => ?_⟩
  obtain ⟨c, x1, x2⟩ := e3 pos cv hc
  have c2 : c ≠ a := fun z => by subst z; rw [h] at x2; cases x2; exact n.code _ _ rfl
  exact ⟨c, x1, by rw [h1 c c2]; exact x2⟩
section
variable {K : PySem.W.Frag} {B : Bs} {G G' H H' Hl H2 : Hp} {δ δ' : Env} {σ σ' : St} {a : Addr} {od : Obj} {u : HO}
theorem At.ofG (a0 : At K B G δ σ H) (g : G a = some u) (hd : isD u = true) : ∃ o, H a = some o ∧ (o = u ∨ ∃ x, o = .frz x u) ∧ NT o := by
  rcases a0.vw a u g with h | ⟨_, x, h⟩
  · exact ⟨u, h, .inl rfl, isD_nt hd⟩
  · exact ⟨_, h, .inr ⟨x, rfl⟩, nt_frz⟩
theorem At.noIO (a0 : At K B G δ σ H) (g : G a = some u) : ∀ i, (i, a) ∉ B.IO := fun i io => by
  obtain ⟨b1, b2, _⟩ := a0.iok i a io
  cases z : B.H0 a with
  | none => exact b2 z
  | some o =>
    have := a0.leak a o z (fun xs c => a0.tb.2.2.2.2 i a xs io (by rw [z, c])) b1
    rw [g] at this; cases this
theorem At.lock (a0 : At K B G δ σ H) (g : G a = some u) (hd : isD u = true) (h3 : H a = some u ∨ H a = some (.frz od u)) (h1 : ∀ b, b ≠ a → Hl b = H b) (h2 : Hl a = some (.frz od u)) : At K (B.lock a od u) G δ σ Hl := by
  have nio := a0.noIO g
  have hnt : ∃ o, H a = some o ∧ NT o := by
    rcases h3 with h | h
    · exact ⟨_, h, isD_nt hd⟩
    · exact ⟨_, h, nt_frz⟩
  obtain ⟨o, ho, no⟩ := hnt
  have vw : ∀ F : Hp, Vw F H → Vw F Hl := fun F v b x e => by
    by_cases cb : b = a
    · subst cb
      rcases h3 with h | h
      · rcases v b x e with q | ⟨_, y, q⟩
        · rw [h] at q; cases q; exact .inr ⟨hd, od, h2⟩
        · rw [h] at q; cases q; cases hd
      · rw [h2, ← h]; exact v b x e
    · rw [h1 b cb]; exact v b x e
  have neA : ∀ b x, H b = some x → Mut (some x) → (∀ j, ¬ OwnAt δ σ j b) ∨ b ≠ a := fun b x e m => by
    by_cases c : b = a
    · left
      intro j z
      have := (a0.ownAt z).1
      rw [c, g] at this; cases this
    · exact .inr c
  refine ⟨vw G a0.vw, fun b x e => ?_, fun b x e z => ?_, fun b e => ?_, fun b x e t z => ?_, fun i b e => ?_, fun j => vw _ (a0.bo j), fun j b e => ?_, a0.len, fun i s e => ?_, a0.apart, ⟨fun P hP => tabS_same (a0.tb.1 P hP) ho no h1, fun b ps e => ?_, a0.tb.2.2.1, a0.tb.2.2.2.1, fun i b xs e z => ?_⟩⟩
  · have e : upd B.G0 a u b = some x := e
    by_cases c : b = a
    · rw [c, upd_same] at e; cases e; rw [c]; exact g
    · rw [upd_ne c] at e; exact a0.g0 b x e
  · have e : upd B.H0 a (.frz od u) b = some x := e
    by_cases c : b = a
    · rw [c, upd_same] at e; cases e; rw [c]; exact h2
    · rw [upd_ne c] at e; rw [h1 b c]; exact a0.keep b x e z
  · have e : upd B.H0 a (.frz od u) b ≠ none := e
    by_cases c : b = a
    · rw [c, h2]; simp
    · rw [upd_ne c] at e; rw [h1 b c]; exact a0.dom b e
  · have e : upd B.H0 a (.frz od u) b = some x := e
    have z : upd B.G0 a u b = none := z
    by_cases c : b = a
    · rw [c, upd_same] at z; cases z
    · rw [upd_ne c] at e z; exact a0.leak b x e t z
  · obtain ⟨b1, b2, b3, x, b4, b5⟩ := a0.iok i b e
    have c : b ≠ a := fun c => nio i (by rw [← c]; exact e)
    exact ⟨by show upd B.G0 a u b = none; rw [upd_ne c]; exact b1, by show upd B.H0 a (.frz od u) b ≠ none; rw [upd_ne c]; exact b2, b3, x, by rw [h1 b c]; exact b4, b5⟩
  · show upd B.H0 a (.frz od u) b ≠ none
    by_cases c : b = a
    · rw [c, upd_same]; simp
    · rw [upd_ne c]; exact a0.bod j b e
  · obtain ⟨ov, q1, q2⟩ := a0.sl i s e
    refine ⟨ov, q1, ?_⟩
    cases s with
    | no => trivial
    | imm d => exact q2
    | bor d => exact q2
    | own d =>
      obtain ⟨p, r1, r2, r3, r4⟩ := q2
      have c : p ≠ a := fun c => by rw [c, g] at r2; cases r2
      exact ⟨p, r1, r2, r3.at' (h1 p c), by show upd B.H0 a (.frz od u) p = none; rw [upd_ne c]; exact r4⟩
    | io d =>
      obtain ⟨p, r1, r2, r3, r4⟩ := q2
      have c : p ≠ a := fun c => by rw [c, g] at r2; cases r2
      exact ⟨p, r1, r2, r3.at' (h1 p c), r4⟩
  · have e : upd B.H0 a (.frz od u) b = some (.tbl ps) := e
    by_cases c : b = a
    · rw [c, upd_same] at e; cases e
    · rw [upd_ne c] at e; exact a0.tb.2.1 b ps e
  · have z : upd B.H0 a (.frz od u) b = some (.tup xs) := z
    by_cases c : b = a
    · rw [c, upd_same] at z; cases z
    · rw [upd_ne c] at z; exact a0.tb.2.2.2.2 i b xs e z
theorem At.held (a1 : At K (B.lock a od u) G' δ' σ' H') (nio : ∀ i, (i, a) ∉ B.IO) : H' a = some (.frz od u) := a1.keep a _ upd_same nio
theorem At.unlock (a0 : At K B G δ σ H) (g : G a = some u) (hd : isD u = true) (h3 : H a = some u ∨ H a = some (.frz od u)) (a1 : At K (B.lock a od u) G' δ' σ' H') (h1 : ∀ b, b ≠ a → H2 b = H' b) (h2 : H2 a = H a) : At K B G' δ' σ' H2 := by
  have nio := a0.noIO g
  have hh := a1.held nio
  have g' : G' a = some u := a1.g0 a u upd_same
  have vw : ∀ F : Hp, Vw F H' → (∀ x, F a = some x → Vw F H) → Vw F H2 := fun F v w b x e => by
    by_cases cb : b = a
    · subst cb
      rw [h2]; exact w x e b x e
    · rw [h1 b cb]; exact v b x e
  refine ⟨fun b x e => ?_, fun b x e => ?_, fun b x e z => ?_, fun b e => ?_, fun b x e t z => ?_, fun i b e => ?_, fun j => vw _ (a1.bo j) fun _ _ => a0.bo j, a0.bod, a1.len, fun i s e => ?_, a1.apart, ⟨fun P hP => tabS_same (a1.tb.1 P hP) hh nt_frz h1, a0.tb.2.1, a1.tb.2.2.1, a0.tb.2.2.2.1, a0.tb.2.2.2.2⟩⟩
  · by_cases cb : b = a
    · subst cb
      rw [g'] at e; cases e
      rw [h2]
      rcases h3 with h | h
      · exact .inl h
      · exact .inr ⟨hd, od, h⟩
    · rw [h1 b cb]; exact a1.vw b x e
  · by_cases cb : b = a
    · subst cb
      have := a0.g0 b x e
      rw [g] at this; cases this
      exact g'
    · exact a1.g0 b x (by show upd B.G0 a u b = some x; rw [upd_ne cb]; exact e)
  · by_cases cb : b = a
    · subst cb
      rw [h2]; exact a0.keep b x e z
    · rw [h1 b cb]; exact a1.keep b x (by show upd B.H0 a (.frz od u) b = some x; rw [upd_ne cb]; exact e) z
  · by_cases cb : b = a
    · subst cb
      rw [h2]; exact a0.dom b e
    · rw [h1 b cb]; exact a1.dom b (by show upd B.H0 a (.frz od u) b ≠ none; rw [upd_ne cb]; exact e)
  · by_cases cb : b = a
    · subst cb
      have := a0.leak b x e t z
      rw [g] at this; cases this
    · exact a1.leak b x (by show upd B.H0 a (.frz od u) b = some x; rw [upd_ne cb]; exact e) t (by show upd B.G0 a u b = none; rw [upd_ne cb]; exact z)
  · have c : b ≠ a := fun c => nio i (by rw [← c]; exact e)
    obtain ⟨b1, b2, b3, x, b4, b5⟩ := a1.iok i b e
    have b1 : upd B.G0 a u b = none := b1
    have b2 : upd B.H0 a (.frz od u) b ≠ none := b2
    rw [upd_ne c] at b1 b2
    exact ⟨b1, b2, b3, x, by rw [h1 b c]; exact b4, b5⟩
  · obtain ⟨ov, q1, q2⟩ := a1.sl i s e
    refine ⟨ov, q1, ?_⟩
    cases s with
    | no => trivial
    | imm d => exact q2
    | bor d => exact q2
    | own d =>
      obtain ⟨p, r1, r2, r3, r4⟩ := q2
      have c : p ≠ a := fun c => by rw [c, g'] at r2; cases r2
      have r4 : upd B.H0 a (.frz od u) p = none := r4
      rw [upd_ne c] at r4
      exact ⟨p, r1, r2, r3.at' (h1 p c), r4⟩
    | io d =>
      obtain ⟨p, r1, r2, r3, r4⟩ := q2
      have c : p ≠ a := fun c => by rw [c, g'] at r2; cases r2
      exact ⟨p, r1, r2, r3.at' (h1 p c), r4⟩
/-! ### the keys -/
/-- the keys of a dict, as data -/
def keysD : D → Option (List D)
  | .dK l => some (l.map fun p => kD p.1)
  | .dT l => if shortK (l.map (·.1)) = true then some (l.map fun p => .tup (p.1.map kD)) else none
  | _ => none
theorem yl_keys {kvs : List (Key × V)} {ds : List (Key × D)} (h : ∀ (B' : Bs) (G2 H : Hp) (δ : Env) (σ : St), BLe B B' → At K B' G2 δ σ H → H a = some (.frz od (.dK kvs))) (hk : kvs.map (·.1) = ds.map (·.1)) : Yl K B (Itk a od kvs) G (ds.map fun p => kD p.1) := fun B' G2 H2 δ2 σ2 le at' ex i => by
  have hq := h B' G2 H2 δ2 σ2 le at'
  have hl : kvs.length = ds.length := by have := congrArg List.length hk; rw [List.length_map, List.length_map] at this; exact this
  refine ⟨fun d hd => ⟨⟨hq, ?_⟩, ?_⟩, fun hs => ⟨hq, by rw [List.length_map] at hs; omega⟩⟩
  · have := (List.getElem?_eq_some_iff.mp hd).1
    rw [List.length_map] at this; omega
  · rintro x H3 ⟨rfl, k, v, e1, rfl⟩
    refine ⟨rfl, G2, at', Ext.refl _, ?_⟩
    rw [List.getElem?_map] at hd
    cases z : ds[i]? with
    | none => rw [z] at hd; cases hd
    | some p =>
      rw [z] at hd; cases hd
      have e2 : (kvs.map (·.1))[i]? = (ds.map (·.1))[i]? := by rw [hk]
      rw [List.getElem?_map, List.getElem?_map, e1, z] at e2
      have e2 : k = p.1 := Option.some.inj e2
      rw [e2]; exact kD_ok _
theorem yl_keysT {kvs : List (List Key × V)} {ds : List (List Key × D)} (h : ∀ (B' : Bs) (G2 H : Hp) (δ : Env) (σ : St), BLe B B' → At K B' G2 δ σ H → H a = some (.frz od (.dT kvs))) (hk : kvs.map (·.1) = ds.map (·.1)) (sk : shortK (ds.map (·.1)) = true) : Yl K B (Itkt a od kvs) G (ds.map fun p => .tup (p.1.map kD)) := fun B' G2 H2 δ2 σ2 le at' ex i => by
  have hq := h B' G2 H2 δ2 σ2 le at'
  have hl : kvs.length = ds.length := by have := congrArg List.length hk; rw [List.length_map, List.length_map] at this; exact this
  refine ⟨fun d hd => ⟨⟨hq, ?_⟩, ?_⟩, fun hs => ⟨hq, by rw [List.length_map] at hs; omega⟩⟩
  · have := (List.getElem?_eq_some_iff.mp hd).1
    rw [List.length_map] at this; omega
  · rintro x H3 ⟨rfl, k, v, q, e1, rfl, e3⟩
    obtain ⟨G3, a3, x3, g3⟩ := at'.tuple e3
    refine ⟨rfl, G3, a3, x3, ?_⟩
    rw [List.getElem?_map] at hd
    cases z : ds[i]? with
    | none => rw [z] at hd; cases hd
    | some p =>
      rw [z] at hd; cases hd
      have e2 : (kvs.map (·.1))[i]? = (ds.map (·.1))[i]? := by rw [hk]
      rw [List.getElem?_map, List.getElem?_map, e1, z] at e2
      have e2 : k = p.1 := Option.some.inj e2
      subst e2
      refine .tup g3 ?_ (kDs_ok _)
      rw [List.length_map]
      have := List.all_eq_true.mp sk p.1 (List.mem_map.mpr ⟨p, List.mem_of_getElem? z, rfl⟩)
      exact small_line (of_decide_eq_true this)
end

/-! ### the rules -/
/-- the keys of the dict in the slot i -/
def iKy (i : Nat) : Mo (List D) := fun δ => match δ[i]? with
  | some (.imm d) => (keysD d).map fun ks => (.ok ks, δ)
  | some (.own d) => (keysD d).map fun ks => (.ok ks, δ.set i (.imm d))
  | _ => none
section
variable {K : PySem.W.Frag} {B : Bs} {G H : Hp} {δ : Env} {σ : St}
theorem iKy_ok {i : Nat} {β : Type} {r : Except Exn β} {δ' : Env} {k : List D → Mo β} (a : At K B G δ σ H) (h : Mo.bind (iKy i) k δ = some (r, δ')) :
    ∃ (G1 : Hp) (δ1 : Env) (d : D) (v : V) (ks : List D), At K B G1 δ1 σ H ∧ Ext G G1 ∧ σ[i]? = some (some v) ∧ R K G1 v d ∧ keysD d = some ks ∧ k ks δ1 = some (r, δ') := by
  unfold Mo.bind iKy at h
  cases q : δ[i]? with
  | none => rw [q] at h; cases h
  | some s =>
    rw [q] at h
    cases s with
    | imm d =>
      cases q2 : keysD d with
      | none => simp only [q2] at h; cases h
      | some ks =>
        simp only [q2, Option.map_some] at h
        obtain ⟨v, e1, e2⟩ := a.imm q
        exact ⟨G, δ, d, v, ks, a, Ext.refl _, e1, e2, q2, h⟩
    | own d =>
      cases q2 : keysD d with
      | none => simp only [q2] at h; cases h
      | some ks =>
        simp only [q2, Option.map_some] at h
        obtain ⟨G1, p, e1, e2, e3, e4⟩ := a.freeze q
        exact ⟨G1, _, d, _, ks, e4, e3, e1, e2, q2, h⟩
    | _ => cases h
/-- what a locked dict's walk needs -/
structure LockAt (K : PySem.W.Frag) (B : Bs) (G : Hp) (δ : Env) (σ : St) (H : Hp) (i : Nat) (ks : List D) (a : Addr) (u : HO) : Prop where
  at_ : At K B G δ σ H
  slot : σ[i]? = some (some (.ref a))
  g : G a = some u
  hd : isD u = true
  keys : (∃ (kvs : List (Key × V)) (ds : List (Key × D)), u = .dK kvs ∧ kvs.map (·.1) = ds.map (·.1) ∧ ks = ds.map fun p : Key × D => kD p.1) ∨ ∃ (kvs : List (List Key × V)) (ds : List (List Key × D)), u = .dT kvs ∧ kvs.map (·.1) = ds.map (·.1) ∧ shortK (ds.map (·.1)) = true ∧ ks = ds.map fun p : List Key × D => .tup (p.1.map kD)
theorem lockAt_of {i : Nat} {d : D} {v : V} {ks : List D} (a : At K B G δ σ H) (hs : σ[i]? = some (some v)) (r : R K G v d) (hk : keysD d = some ks) : ∃ a u, LockAt K B G δ σ H i ks a u := by
  cases r with
  | dK g l k rl => cases hk; exact ⟨_, _, a, hs, g, rfl, .inl ⟨_, _, rfl, k, rfl⟩⟩
  | dT g l k rl =>
    unfold keysD at hk
    simp only at hk
    split at hk
    · rename_i q
      cases hk
      exact ⟨_, _, a, hs, g, rfl, .inr ⟨_, _, rfl, k, q, rfl⟩⟩
    · cases hk
  | _ => cases hk
/-- the walk over the locked dict: J, its reading -/
theorem LockAt.walk {i : Nat} {ks : List D} {a : Addr} {u : HO} {od : Obj} {Hl : Hp} {R' : It → Hp → Prop} (L : LockAt K B G δ σ H i ks a u) (h2 : Hl a = some (.frz od u)) (q : ∀ J, Yl K (B.lock a od u) J G ks → R' J Hl) : iKeys (tVar i) σ Hl R' := by
  have nio := L.at_.noIO L.g
  have held : ∀ (B' : Bs) (G2 H : Hp) (δ : Env) (σ : St), BLe (B.lock a od u) B' → At K B' G2 δ σ H → H a = some (.frz od u) := fun B' G2 H δ σ le at' =>
    at'.keep a _ (le.1 a _ upd_same) fun j z => nio j (by rw [← show B'.IO = B.IO from le.2]; exact z)
  refine ⟨.ref a, L.slot, a, od, rfl, ?_⟩
  rcases L.keys with ⟨kvs, ds, rfl, k, rfl⟩ | ⟨kvs, ds, rfl, k, sk, rfl⟩
  · exact .inl ⟨kvs, h2, q _ (yl_keys held k)⟩
  · exact .inr ⟨kvs, h2, q _ (yl_keysT held k sk)⟩
theorem LockAt.two {i : Nat} {ks : List D} {a : Addr} {u : HO} (L : LockAt K B G δ σ H i ks a u) : (H a = some u ∧ Mut (some u)) ∨ ∃ od, H a = some (.frz od u) := by
  rcases L.at_.vw a u L.g with h | ⟨_, x, h⟩
  · left
    refine ⟨h, ?_⟩
    rcases L.keys with ⟨_, _, rfl, _⟩ | ⟨_, _, rfl, _⟩ <;> trivial
  · exact .inr ⟨x, h⟩
theorem post_lockS {G1 : Hp} {Dn Dn' : Ends} {r : Except Exn Out} {δ' : Env} {u : HO} {od : Obj} {a : Addr} (a0 : At K B G δ σ H) (x : Ext G G1) (g : G a = some u) (hd : isD u = true) (h3 : H a = some u ∨ H a = some (.frz od u)) (F : Hp → Hp) (h1 : ∀ H' b, b ≠ a → F H' b = H' b) (h2 : ∀ H', H' a = some (.frz od u) → F H' a = H a)
    (dn : ∀ σ' H', H' a = some (.frz od u) → Dn.nx σ' (F H') → Dn'.nx σ' H') (db : ∀ σ' H', H' a = some (.frz od u) → Dn.bk σ' (F H') → Dn'.bk σ' H') (dc : ∀ σ' H', H' a = some (.frz od u) → Dn.ct σ' (F H') → Dn'.ct σ' H') (dr : ∀ v H', H' a = some (.frz od u) → Dn.rt v (F H') → Dn'.rt v H')
    (post : PostS K W0 B G1 Dn r δ') : PostS K W0 (B.lock a od u) G1 Dn' r δ' := by
  have nio := a0.noIO g
  have un : ∀ {G' σ' H'}, At K (B.lock a od u) G' δ' σ' H' → H' a = some (.frz od u) ∧ At K B G' δ' σ' (F H') := fun {G' σ' H'} a1 => ⟨a1.held nio, a0.unlock g hd h3 a1 (h1 H') (h2 H' (a1.held nio))⟩
  cases r with
  | error e => exact fun G' σ' H' a1 x1 => post G' σ' (F H') (un a1).2 x1
  | ok o =>
    cases o with
    | nx => exact fun G' σ' H' a1 x1 => dn _ _ (un a1).1 (post G' σ' (F H') (un a1).2 x1)
    | bk => exact fun G' σ' H' a1 x1 => db _ _ (un a1).1 (post G' σ' (F H') (un a1).2 x1)
    | ct => exact fun G' σ' H' a1 x1 => dc _ _ (un a1).1 (post G' σ' (F H') (un a1).2 x1)
    | rt d => exact fun G' σ' H' a1 x1 v rv => dr _ _ (un a1).1 (post G' σ' (F H') (un a1).2 x1 v rv)
    | rtO d =>
      refine fun G' σ' H' a1 x1 p hp => dr _ _ (un a1).1 (post G' σ' (F H') (un a1).2 x1 p ?_)
      obtain ⟨p1, p2, p3, p4⟩ := hp
      have g' : G' a = some u := a1.g0 a u upd_same
      have c : p ≠ a := fun c => by rw [c, g'] at p1; cases p1
      have p2 : upd B.H0 a (.frz od u) p = none := p2
      rw [upd_ne c] at p2
      exact ⟨p1, p2, p3, p4.at' (h1 H' p c)⟩
theorem post_lockO {W : WK} {G1 : Hp} {Q Q' : VK} {d : D} {δ' : Env} {u : HO} {od : Obj} {a : Addr} (a0 : At K B G δ σ H) (g : G a = some u) (hd : isD u = true) (h3 : H a = some u ∨ H a = some (.frz od u)) (F : Hp → Hp) (h1 : ∀ H' b, b ≠ a → F H' b = H' b) (h2 : ∀ H', H' a = some (.frz od u) → F H' a = H a)
    (dn : ∀ v H', H' a = some (.frz od u) → Q v (F H') → Q' v H') (post : Post K W B G1 σ (.ok d) δ' (fun d G' H' => ∀ p, Fr1 K B G' δ' σ H' p d → Q (.ref p) H')) : Post K W (B.lock a od u) G1 σ (.ok d) δ' (fun d G' H' => ∀ p, Fr1 K (B.lock a od u) G' δ' σ H' p d → Q' (.ref p) H') := by
  have nio := a0.noIO g
  intro G' H' a1 x1 p hp
  have hh := a1.held nio
  refine dn _ _ hh (post G' (F H') (a0.unlock g hd h3 a1 (h1 H') (h2 H' hh)) x1 p ?_)
  obtain ⟨p1, p2, p3, p4⟩ := hp
  have g' : G' a = some u := a1.g0 a u upd_same
  have c : p ≠ a := fun c => by rw [c, g'] at p1; cases p1
  have p2 : upd B.H0 a (.frz od u) p = none := p2
  rw [upd_ne c] at p2
  exact ⟨p1, p2, p3, p4.at' (h1 H' p c)⟩
theorem lcM_good {T : D → Mo Unit} {C : Mo Bool} {E : Mo D} {vs : List Nat} : ∀ {ds acc : List D} {δ δ' : Env} {r : Except Exn D}, lcM T C E vs ds acc δ = some (r, δ') → ∃ d, r = .ok d
  | [], acc, δ, δ', r, h => by cases h; exact ⟨_, rfl⟩
  | d :: ds, acc, δ, δ', r, h => by
    unfold lcM at h
    split at h
    · split at h
      · split at h
        · exact lcM_good h
        · cases h
      · exact lcM_good h
      · cases h
    · cases h
theorem dcM_good {T : D → Mo Unit} {C : Mo Bool} {Ek Ev : Mo D} {vs : List Nat} : ∀ {ds : List D} {acc : List (Key × D)} {δ δ' : Env} {r : Except Exn D}, dcM T C Ek Ev vs ds acc δ = some (r, δ') → ∃ d, r = .ok d
  | [], acc, δ, δ', r, h => by cases h; exact ⟨_, rfl⟩
  | d :: ds, acc, δ, δ', r, h => by
    unfold dcM at h
    split at h
    · split at h
      · split at h
        · split at h
          · split at h
            · exact dcM_good h
            · cases h
          · cases h
        · cases h
      · exact dcM_good h
      · cases h
    · cases h
end
theorem PE.or' {X : Cx} {e : Expr} {t1 t2 : TE} (h1 : PE X e t1) (h2 : PE X e t2) : PE X e (fun σ H Q => t1 σ H Q ∨ t2 σ H Q) := ⟨fun pins s σ H Q I h => h.elim (h1.run pins s σ H Q I) (h2.run pins s σ H Q I)⟩
section
variable {X : Cx} {st : Stmt} {e c tg : Expr} {pos p : Pos} {T : D → Mo Unit} {S : Mo Out} {C : Mo Bool} {E Ek Ev : Mo D} {sl : List Nat} {i : Nat} {y : Str}
theorem upd_back {H : Hp} {a : Addr} {o o' : HO} (h : H a = some o) : upd (upd H a o') a o = H := by
  funext b
  by_cases c : b = a
  · rw [c, upd_same, h]
  · rw [upd_ne c, upd_ne c]
theorem ds_forK {body : List Stmt} (hp : PassesOwn (model X.prog X.w) X.A X.env X.xe) (hc : X.calm = true) (hT : Calm T) (hi : PE X (.Name y p) (tVar i)) (hg : DG X tg sl T) (hb : DSs X W0 body S)
    (hs : ∀ x, foldedSetIterable (.Name y p) X.env x = pure x := by intro _; rfl) : DS X W0 (.For tg (.Name y p) body [] pos) (sFor (iKy i) T S) := by
  have base := ps_for (pos := pos) hp hc (pi_keys (tg := tg) hi) hg hb hs
  refine PS.weak (PS.or (ps_lock base) base) fun Dn σ H ⟨B, G, δ, r, δ', a, e1, post⟩ => ?_
  obtain ⟨G1, δ1, d, v, ks, a1, x1, h1, h2, h3, e2⟩ := iKy_ok a e1
  obtain ⟨ad, u, L⟩ := lockAt_of a1 h1 h2 h3
  rcases L.two with ⟨hu, mu⟩ | ⟨od, hu⟩
  · refine .inl ⟨ad, u, hu, mu, fun od => L.walk upd_same fun J yl => tFor_at hT (a1.lock L.g L.hd (.inl hu) (fun b hb => upd_ne hb) upd_same) yl e2 ?_⟩
    exact post_lockS a1 (Ext.refl _) L.g L.hd (.inl hu) (fun H' => upd H' ad u) (fun H' b hb => upd_ne hb) (fun H' _ => by rw [upd_same, hu]) (fun _ _ q z => ⟨q, z⟩) (fun _ _ q z => ⟨q, z⟩) (fun _ _ q z => ⟨q, z⟩) (fun _ _ q z => ⟨q, z⟩) (post.mono x1)
  · refine .inr (L.walk hu fun J yl => tFor_at hT (a1.lock L.g L.hd (.inr hu) (fun b hb => rfl) hu) yl e2 ?_)
    exact post_lockS a1 (Ext.refl _) L.g L.hd (.inr hu) (fun H' => H') (fun H' b hb => rfl) (fun H' q => by rw [q, hu]) (fun _ _ _ z => z) (fun _ _ _ z => z) (fun _ _ _ z => z) (fun _ _ _ z => z) (post.mono x1)
variable {W : WK} {elt kx vx : Expr} {ifs : List Expr} {scope : Scope} {own : List (Str × Nat)}
theorem do_lcK (hc : X.calm = true) (hN : X.N.Nodup) (hi : PE X (.Name y p) (tVar i)) (ok : BlkOk X.N X.env.scope scope own) (hsl : ∀ j ∈ sl, j ∈ own.map (·.2))
    (hg : ∀ (s : Shared) (H : Hp) (Ca : Addr) (cl : List (Str × Addr)) (fp : List Addr), DG (X.blk s H scope (compEnvC scope cl Ca X.env) fp) tg sl T) (ht : ∀ (s : Shared) (H : Hp) (Ca : Addr) (cl : List (Str × Addr)) (fp : List Addr), DTs (X.blk s H scope (compEnvC scope cl Ca X.env) fp) W0 ifs C)
    (he : ∀ (s : Shared) (H : Hp) (Ca : Addr) (cl : List (Str × Addr)) (fp : List Addr), DE (X.blk s H scope (compEnvC scope cl Ca X.env) fp) W0 elt E) (hs : ∀ x, foldedSetIterable (.Name y p) X.env x = pure x := by intro _; rfl) :
    DO X W (.ListComp elt [⟨tg, .Name y p, ifs, 0⟩] scope pos) (eLc (iKy i) T C E (own.map (·.2))) := by
  have base := pe_lc (pos := pos) (g := tG X.K sl T) (tt := tT X.K W0 C) (te := tE X.K W0 E) hc hN (pi_keys (tg := tg) hi) ok hg ht he hs
  refine PE.weak (PE.or' (pe_lock base) base) fun σ H Q ⟨B, G, δ, r, δ', a, e1, post⟩ => ?_
  obtain ⟨G1, δ1, d, v, ks, a1, x1, h1, h2, h3, e2⟩ := iKy_ok a e1
  obtain ⟨ad, u, L⟩ := lockAt_of a1 h1 h2 h3
  have hr : ∃ d, r = .ok d := by
    split at e2
    · exact lcM_good e2
    · cases e2
  obtain ⟨z, rfl⟩ := hr
  have post := Post.mono post x1
  rcases L.two with ⟨hu, mu⟩ | ⟨od, hu⟩
  · refine .inl ⟨ad, u, hu, mu, fun od => L.walk upd_same fun J yl => tLc_at (W := W) (Q := fun v H' => H' ad = some (.frz od u) ∧ Q v (upd H' ad u)) (H1 := upd H ad (.frz od u)) hsl (a1.lock L.g L.hd (.inl hu) (fun b hb => upd_ne hb) upd_same) yl e2 ?_⟩
    exact post_lockO (Q := Q) (Q' := fun v H' => H' ad = some (.frz od u) ∧ Q v (upd H' ad u)) a1 L.g L.hd (.inl hu) (fun H' => upd H' ad u) (fun H' b hb => upd_ne hb) (fun H' _ => by rw [upd_same, hu]) (fun _ _ q z => ⟨q, z⟩) post
  · refine .inr (L.walk hu fun J yl => tLc_at (W := W) (Q := Q) (H1 := H) hsl (a1.lock L.g L.hd (.inr hu) (fun b hb => rfl) hu) yl e2 ?_)
    exact post_lockO (Q := Q) (Q' := Q) a1 L.g L.hd (.inr hu) (fun H' => H') (fun H' b hb => rfl) (fun H' q => by rw [q, hu]) (fun _ _ _ z => z) post
theorem ds_setLcKO {j : Nat} {z : Str} {pz spos : Pos} (hc : X.calm = true) (hN : X.N.Nodup) (hz : X.N[j]? = some z) (hzl : X.env.scope.names.lookup z = some .local)
    (hsw : swapsWith (.ListComp elt [⟨tg, .Name y p, ifs, 0⟩] scope pos) (some (.Name z pz)) spos.line X.env = pure true) (hi : PE X (.Name y p) (tVar i)) (ok : BlkOk X.N X.env.scope scope own) (hsl : ∀ j ∈ sl, j ∈ own.map (·.2))
    (hg : ∀ (s : Shared) (H : Hp) (Ca : Addr) (cl : List (Str × Addr)) (fp : List Addr), DG (X.blk s H scope (compEnvC scope cl Ca X.env) fp) tg sl T) (ht : ∀ (s : Shared) (H : Hp) (Ca : Addr) (cl : List (Str × Addr)) (fp : List Addr), DTs (X.blk s H scope (compEnvC scope cl Ca X.env) fp) W0 ifs C)
    (he : ∀ (s : Shared) (H : Hp) (Ca : Addr) (cl : List (Str × Addr)) (fp : List Addr), DE (X.blk s H scope (compEnvC scope cl Ca X.env) fp) W0 elt E) (hs : ∀ x, foldedSetIterable (.Name y p) X.env x = pure x := by intro _; rfl) :
    DS X W (.Assign [.Name z pz] (.ListComp elt [⟨tg, .Name y p, ifs, 0⟩] scope pos) spos) (sAsgO j (eLc (iKy i) T C E (own.map (·.2)))) := by
  have base := ps_setLc (spos := spos) (pos := pos) (py := pz) (g := tG X.K sl T) (tt := tT X.K W0 C) (te := tE X.K W0 E) hc hN hz hzl hsw (pi_keys (tg := tg) hi) ok hg ht he hs
  refine PS.weak (PS.or (ps_lock base) base) fun Dn σ H ⟨B, G, δ, r, δ', a, e0, post0⟩ => ?_
  -- the comprehension, then the store
  have key : tO X.K W (eLc (iKy i) T C E (own.map (·.2))) σ H (fun v H1 => gName j v σ H1 Dn.nx) := by
    refine tO_bindS a e0 post0 fun v H1 G1 δ1 d a1 x1 r1 e2 post => ?_
    obtain ⟨w1, w2, w3, w4⟩ := r1
    rcases unit_bind e2 with ⟨q, rfl⟩ | ⟨x, q, rfl⟩
    · unfold gO at q
      split at q
      · cases q
        exact post G1 _ H1 (a1.setOwn w1 w4 w2 w3 j) (Ext.refl _)
      · cases q
    · unfold gO at q; split at q <;> cases q
  obtain ⟨B, G, δ, r, δ', a, e1, post⟩ := key
  obtain ⟨G1, δ1, d, v, ks, a1, x1, h1, h2, h3, e2⟩ := iKy_ok a e1
  obtain ⟨ad, u, L⟩ := lockAt_of a1 h1 h2 h3
  have hr : ∃ d, r = .ok d := by
    split at e2
    · exact lcM_good e2
    · cases e2
  obtain ⟨w, rfl⟩ := hr
  have post := Post.mono post x1
  rcases L.two with ⟨hu, mu⟩ | ⟨od, hu⟩
  · refine .inl ⟨ad, u, hu, mu, fun od => show tLc (iKeys (tVar i)) (tG X.K sl T) (tT X.K W0 C) (tE X.K W0 E) (own.map (·.2)) σ (upd H ad (.frz od u)) (fun v H' => H' ad = some (.frz od u) ∧ Dn.nx (σ.set j (some v)) (upd H' ad u)) from L.walk upd_same fun J yl => tLc_at (W := W) (Q := fun v H' => H' ad = some (.frz od u) ∧ Dn.nx (σ.set j (some v)) (upd H' ad u)) (H1 := upd H ad (.frz od u)) hsl (a1.lock L.g L.hd (.inl hu) (fun b hb => upd_ne hb) upd_same) yl e2 ?_⟩
    exact post_lockO (Q := fun v H1 => gName j v σ H1 Dn.nx) (Q' := fun v H' => H' ad = some (.frz od u) ∧ Dn.nx (σ.set j (some v)) (upd H' ad u)) a1 L.g L.hd (.inl hu) (fun H' => upd H' ad u) (fun H' b hb => upd_ne hb) (fun H' _ => by rw [upd_same, hu]) (fun _ _ q z => ⟨q, z⟩) post
  · refine .inr (show tLc (iKeys (tVar i)) (tG X.K sl T) (tT X.K W0 C) (tE X.K W0 E) (own.map (·.2)) σ H (fun v H1 => gName j v σ H1 Dn.nx) from L.walk hu fun J yl => tLc_at (W := W) (Q := fun v H1 => gName j v σ H1 Dn.nx) (H1 := H) hsl (a1.lock L.g L.hd (.inr hu) (fun b hb => rfl) hu) yl e2 ?_)
    exact post_lockO (Q := fun v H1 => gName j v σ H1 Dn.nx) (Q' := fun v H1 => gName j v σ H1 Dn.nx) a1 L.g L.hd (.inr hu) (fun H' => H') (fun H' b hb => rfl) (fun H' q => by rw [q, hu]) (fun _ _ _ z => z) post
/-! ### new dicts -/
def eD0 (d : D) : Mo D := Mo.ret d
theorem do_new0T : DO X W (.Dict [] [] pos) (eD0 (.dT [])) := PE.weak pe_dnewT fun σ H Q ⟨B, G, δ, r, δ', a, e1, post⟩ p hp => by
  cases e1
  obtain ⟨b1, b2⟩ := a.own1 (p := p) (o := .dT []) hp (.dT (kvs := []) (ds := []) upd_same (Nat.zero_le _) rfl .nil)
  exact post G _ b1 (Ext.refl _) p b2
theorem do_new0K : DO X W (.Dict [] [] pos) (eD0 (.dK [])) := PE.weak pe_dnewK fun σ H Q ⟨B, G, δ, r, δ', a, e1, post⟩ p hp => by
  cases e1
  obtain ⟨b1, b2⟩ := a.own1 (p := p) (o := .dK []) hp (.dK (kvs := []) (ds := []) upd_same (Nat.zero_le _) rfl .nil)
  exact post G _ b1 (Ext.refl _) p b2
end
end M

set_option Elab.async false
set_option linter.all false
set_option maxRecDepth 100000
set_option maxHeartbeats 1000000
/-! Part R: sorted(pairs); dict comprehensions with tuple keys. -/
namespace M
open PySem L2 PySem.Spec PyProof.Rows
def pairLe (p q : Int × Int) : Bool := decide (p.1 < q.1 ∨ (p.1 = q.1 ∧ p.2 ≤ q.2))
def sortP (ps : List (Int × Int)) : List (Int × Int) := ps.mergeSort pairLe
def fSortP : List D → Option D
  | [.lst l] => (pairsD l).map fun ps => .lst ((sortP ps).map pD)
  | _ => none
theorem pairLe_tr : ∀ a b c : Int × Int, pairLe a b = true → pairLe b c = true → pairLe a c = true := fun a b c h1 h2 => by
  unfold pairLe at *
  rw [decide_eq_true_eq] at *
  omega
theorem pairLe_total : ∀ a b : Int × Int, (pairLe a b || pairLe b a) = true := fun a b => by
  unfold pairLe
  rw [Bool.or_eq_true, decide_eq_true_eq, decide_eq_true_eq]
  omega
theorem pairLe_anti {a b : Int × Int} (h1 : pairLe a b = true) (h2 : pairLe b a = true) : a = b := by
  unfold pairLe at *
  rw [decide_eq_true_eq] at *
  obtain ⟨x, y⟩ := a
  obtain ⟨z, w⟩ := b
  simp only at *
  have e1 : x = z := by omega
  have e2 : y = w := by omega
  rw [e1, e2]
theorem sorted_uniq {α : Type} {le : α → α → Bool} (anti : ∀ {a b}, le a b = true → le b a = true → a = b) : ∀ {l m : List α}, l.Perm m → l.Pairwise (fun a b => le a b = true) → m.Pairwise (fun a b => le a b = true) → (∀ a, le a a = true) → l = m := fun {l m} hp h1 h2 rf =>
  hp.eq_of_pairwise (fun a b _ _ x y => anti x y) h1 h2
theorem sortP_uniq {ps qs : List (Int × Int)} (hp : qs.Perm ps) (hs : qs.Pairwise (fun a b => pairLe a b = true)) : qs = sortP ps :=
  (hp.trans (List.mergeSort_perm ps pairLe).symm).eq_of_pairwise (fun a b _ _ x y => pairLe_anti x y) hs (List.pairwise_mergeSort (fun a b c => pairLe_tr a b c) (fun a b => pairLe_total a b) ps)
theorem sortP_len (ps : List (Int × Int)) : (sortP ps).length = ps.length := by unfold sortP; rw [List.length_mergeSort]
/-- what stands at an address -/
def cellAt (G : Hp) : V → Int × Int
  | .ref a => match G a with
    | some (.tup [.int x, .int y]) => (x, y)
    | _ => (0, 0)
  | _ => (0, 0)
theorem cellAt_of {K : PySem.W.Frag} {G : Hp} {v : V} {p : Int × Int} (r : R K G v (pD p)) : cellAt G v = p := by
  obtain ⟨a, rfl, h⟩ := pD_ref r
  unfold cellAt
  simp only [h]
theorem cells_map {K : PySem.W.Frag} {G : Hp} : ∀ {vs : List V} {ps : List (Int × Int)}, RL K G vs (ps.map pD) → vs.map (cellAt G) = ps ∧ ∀ v ∈ vs, R K G v (pD (cellAt G v))
  | [], [], _ => ⟨rfl, fun v h => by simp at h⟩
  | v :: vs, p :: ps, h => by
    rw [List.map_cons] at h
    cases h with
    | cons h1 h2 =>
      obtain ⟨e1, e2⟩ := cells_map h2
      have e := cellAt_of h1
      refine ⟨by rw [List.map_cons, e, e1], fun w hw => ?_⟩
      rcases List.mem_cons.mp hw with rfl | hw
      · rw [e]; exact h1
      · exact e2 w hw
  | [], p :: ps, h => by rw [List.map_cons] at h; cases h
  | v :: vs, [], h => by cases h
theorem rl_cells {K : PySem.W.Frag} {G : Hp} : ∀ {vs : List V}, (∀ v ∈ vs, R K G v (pD (cellAt G v))) → RL K G vs ((vs.map (cellAt G)).map pD)
  | [], _ => .nil
  | v :: vs, h => .cons (h v List.mem_cons_self) (rl_cells fun w hw => h w (List.mem_cons_of_mem _ hw))
section
variable {X : Cx} {W : WK} {x : Str} {e : Expr} {es : List Expr} {A : Mo (List Ag)} {p pos : Pos}
theorem snd_sortP : SndFO X.K fSortP (rSortedPO X.K) := fun B G H δ σ xs as d Q at' rx h k => by
  unfold fSortP at h
  split at h
  · rename_i l
    cases q : pairsD l with
    | none => rw [q] at h; cases h
    | some ps =>
      rw [q] at h
      cases h
      have hx := pairsD_some q
      subst hx
      obtain ⟨v, rfl, rv⟩ := rl1 rx
      cases rv with
      | lst g hl rl =>
        obtain ⟨c1, c2⟩ := cells_map rl
        refine ⟨_, _, cellAt G, rfl, SqL.of (at'.vw.lst g), fun v hv => ?_, fun ys a hs hst ha => ?_⟩
        · obtain ⟨t, e1, e2⟩ := pD_ref (c2 v hv)
          exact ⟨t, e1, at'.vw.tup e2⟩
        · have hp : ys.Perm _ := hst.perm
          have e1 : (ys.map (cellAt G)) = sortP ps := by
            refine sortP_uniq (by rw [← c1]; exact hp.map _) ?_
            rw [List.pairwise_map]
            refine List.Pairwise.imp (fun {a b} hab => ?_) hs
            have hab : L2.ltP (cellAt G) b a = false := hab
            have hn : ¬ SrtO.lexB (cellAt G b) (cellAt G a) = true := by
              have hab : SrtO.lexB (cellAt G b) (cellAt G a) = false := hab
              rw [hab]; simp
            rw [SrtO.lexB_iff] at hn
            unfold pairLe
            rw [decide_eq_true_eq]
            omega
          have r2 : RL X.K G ys ((sortP ps).map pD) := by
            rw [← e1]; exact rl_cells fun v hv => c2 v (hp.mem_iff.mp hv)
          obtain ⟨b1, b2⟩ := at'.own1 (p := a) (o := .lst ys) ha (.lst upd_same (by rw [hp.length_eq]; exact hl) r2)
          exact k a _ _ b1 (Ext.refl _) b2
  · cases h
theorem do_sortP (hg : Gl X x) (hm : X.mg x = none) (hv : bootBuiltins x = some (.builtin "sorted")) (ha : DA X W (e :: es) A) (hn : x ≠ "__name__" := by decide) (hdb : (x == ("__debug__" : Str)) = false := by decide)
    (he : starEach (e :: es) X.env = (false, eval e X.env) :: starEach es X.env := by rfl) (hpl : (backTo pos (starEach es X.env)).any (·.1) = false := by rfl) : DO X W (.Call (.Name x p) (e :: es) [] pos) (eF fSortP A) :=
  do_tCB snd_sortP (pe_callB cr_sortedPO hg hm hv ha hn hdb he hpl)
end

/-! ### {k: v for ..}, the keys tuples -/
section
variable {X : Cx}
theorem setT_run {pins : List (Addr × Obj)} {σ : St} {H : Hp} {s : Shared} {E : Value → Shared → Prop} {Dd kb : Addr} {kvs : List (List Key × V)} {k : List Key} {v : V} {r : Value} {Q : Unit → Shared → Prop} (hu : X.A.units < cLine) (I : Inv X pins σ H s) (hD : H Dd = some (.dT kvs)) (hk : H kb = some (.tup (k.map kV)))
    (hz : kvs.length < sizeLine) (rv : RelV v r) (h : ∀ s', Inv X pins σ (upd H Dd (.dT (putK kvs k v))) s' → Q () s') : wpAny (model X.prog X.w) X.A (dictSet Dd (.ref kb) r) Q E s := by
  obtain ⟨z0, ns, xs, kt, dd⟩ := dt_of I.hok hD
  have zx : xs.length ≤ sizeLine := by rw [← Paired.length kt]; exact z0
  have zp : (putK kvs k v).length ≤ sizeLine := Nat.le_trans (length_putK kvs k v) hz
  refine wpAny_dictSet_heap (hsz := zx) (show (tupleKind (mixKind X.prog X.w)).room X.A from hu) (key_of I.hok hk) dd fun g dd2 sb => h _ ?_
  obtain ⟨ob, es, ep, y1, y2, y3, y4, _, y5⟩ := dd2
  have mu : Mut (H Dd) := by rw [hD]; trivial
  refine d_write I mu sb ⟨ob, y1⟩ ⟨zp, ns, _, (kt.put k hk rv).keeps fun cc ys ec => ?_, ob, es, ep, y1, y2, y3, y4, y5⟩
  have cn : cc ≠ Dd := fun z => by rw [z, hD] at ec; cases ec
  rw [upd_ne cn]; exact ec
/-- as tDc, the keys tuples -/
def tDcT (wi : TI) (g : TG) (tt : TT) (tk tv : TE) (vs : List Nat) : TE := fun σ H Q => wi σ H fun J H1 => ∀ Dd, H1 Dd = none → ∃ Wv : Nat → Nat → Hp → Prop, (∃ m, Wv 0 m (upd H1 Dd (.dT []))) ∧ ∀ i m H, Wv i m H →
  (J.stop i H ∧ Q (.ref Dd) H) ∨ (J.go i H ∧ ∃ Nx : Hp → Prop, (∀ H', Nx H' → ∃ m', m' < m ∧ Wv (i + 1) m' H') ∧ ∀ x H', J.yld i H x H' → g x (wipe σ vs) H' fun σ2 H2 => wipe σ2 vs = wipe σ vs ∧ tt σ2 H2 fun b H3 =>
    if b = true then tk σ2 H3 fun y H4 => tv σ2 H4 fun z H5 => ∃ kvs k kb, y = .ref kb ∧ H5 kb = some (.tup (k.map kV)) ∧ H5 Dd = some (.dT kvs) ∧ kvs.length < sizeLine ∧ Nx (upd H5 Dd (.dT (putK kvs k z))) else Nx H3)
variable {pins : List (Addr × Obj)} {s : Shared} {σ : St} {H : Hp} {Q : VK} {kx vx tg iter : Expr} {ifs : List Expr} {scope : Scope} {own : List (Str × Nat)} {pos pos' : Pos} {wi : TI} {g : TG} {tt : TT} {tk tv : TE} {use : Option (Value → Sem Unit)} {Qf : Value → Shared → Prop}
theorem dcT_run (hu : X.A.units < cLine) (hc : X.calm = true) (hN : X.N.Nodup) (I : Inv X pins σ H s) (hi : PI X tg iter wi) (ok : BlkOk X.N X.env.scope scope own)
    (hg : ∀ (s : Shared) (H : Hp) (Ca : Addr) (cl : List (Str × Addr)) (fp : List Addr), PG (X.blk s H scope (compEnvC scope cl Ca X.env) fp) tg g) (ht : ∀ (s : Shared) (H : Hp) (Ca : Addr) (cl : List (Str × Addr)) (fp : List Addr), PTs (X.blk s H scope (compEnvC scope cl Ca X.env) fp) ifs tt)
    (hk : ∀ (s : Shared) (H : Hp) (Ca : Addr) (cl : List (Str × Addr)) (fp : List Addr), PE (X.blk s H scope (compEnvC scope cl Ca X.env) fp) kx tk)
    (hv : ∀ (s : Shared) (H : Hp) (Ca : Addr) (cl : List (Str × Addr)) (fp : List Addr), PE (X.blk s H scope (compEnvC scope cl Ca X.env) fp) vx tv) (hs : ∀ x, foldedSetIterable iter X.env x = pure x) (h : tDcT wi g tt tk tv (own.map (·.2)) σ H Q)
    (fin : ∀ Dd Ca s' m H', Inv X pins σ H' s' → Q (.ref Dd) H' → s'.heap.Ns Ca m → FpOk X pins H' Ca → compPost (model X.prog X.w) X.A X.xe use Qf (.ref Dd) Ca (.ok .next) s') :
    wpAny (model X.prog X.w) X.A (comprehension (.DictComp kx vx [⟨tg, iter, ifs, 0⟩] scope pos) scope X.env pos' newDict false (eval iter X.env) use) Qf X.xe s := by
  have caught : ∀ y ∈ scope.names, y.2 = .free → ∃ c, X.env.cells.lookup y.1 = some c := fun y hy e => (ok.free y hy e).elim (fun z => I.ok.has _ (.inl z)) fun z => I.ok.has _ (.inr z)
  have uniq : ∀ y ∈ scope.names, y.2 = .local → scope.names.lookup y.1 = some .local := fun y hy e => by rw [ok.uniq y hy, e]
  refine wpAny_comprehension_free (use := use) rfl hs (closure_ok caught) ok.kind uniq (thn (hi.run pins s σ H _ I h) fun _ _ a1 => thn a1 fun _ t1 a2 => ?_)
  obtain ⟨it, fp, tn, J, Ha, rfl, Ia, tu, tna, fpa, start⟩ := a2
  refine wpAny_newObj_type ?_
  obtain ⟨Dd, eD⟩ : ∃ Dd, t1.heap.objs.size = Dd := ⟨_, rfl⟩
  obtain ⟨Wv, ⟨m0, w0⟩, turn⟩ := start Dd (Ia.hok.fresh (Nat.le_of_eq eD))
  rw [eD]
  obtain ⟨t2, et2⟩ : ∃ t2 : Shared, { t1 with heap := t1.heap.push { cls := .type "dict", data := .dict #[] } } = t2 := ⟨_, rfl⟩
  rw [et2]
  refine newEnv_comp ?_
  have grow2 : ∀ b o, t1.heap.get? b = some o → t2.heap.get? b = some o := fun b o e => by rw [← et2]; exact Heap.get?_push_of_some _ e
  have size2 : t2.heap.objs.size = t1.heap.objs.size + 1 := by rw [← et2]; exact Heap.size_push ..
  obtain ⟨Hb, eHb⟩ : ∃ Hb, upd Ha Dd (.dT []) = Hb := ⟨_, rfl⟩
  have Ib : Inv X pins σ Hb t2 := by
    rw [← eHb, ← et2, ← eD]
    refine Ia.laid (t' := t1.toks) (fun b o e => Heap.get?_push_of_some _ e) (Nat.le_refl _) ?_
    have big := Ia.big
    have ns : (t1.heap.objs.size == sysModules) = false := by
      have : t1.heap.objs.size ≠ sysModules := Nat.ne_of_gt big
      simpa using this
    exact ⟨Nat.zero_le _, ns, [], .nil, _, _, _, Heap.get?_push_size _ rfl, ⟨rfl, rfl, rfl⟩, rfl, rfl, List.nodup_nil⟩
  have fpLt : ∀ b ∈ fp, b < t1.heap.objs.size := fun b hb => by
    obtain ⟨_, e, _⟩ := tu.obj _ _ tna b hb
    exact Heap.lt_size e
  have fpb : ∀ b ∈ fp, FpOk X pins Hb b ∧ b < t2.heap.objs.size := fun b hb => by
    have lt := fpLt b hb
    refine ⟨⟨?_, (fpa b hb).2⟩, by rw [size2]; exact Nat.lt_succ_of_lt lt⟩
    rw [← eHb, upd_ne (by rw [← eD]; exact Nat.ne_of_lt lt)]
    exact (fpa b hb).1
  have tnb : tn 0 t2.heap := tu.keep _ _ _ tna fun b _ o e => grow2 b o e
  have Ic := block_start Ib ok hN fpb
  obtain ⟨Ca, eC⟩ : ∃ Ca, t2.heap.objs.size = Ca := ⟨_, rfl⟩
  obtain ⟨cl, ecl⟩ : ∃ cl, cellsFrom (t2.heap.objs.size + 1) scope.names (cloFrom X.env.cells scope.names []) = cl := ⟨_, rfl⟩
  have Rg := hg t2 Hb Ca cl fp
  have Rt := ht t2 Hb Ca cl fp
  have Rk := hk t2 Hb Ca cl fp
  have Rv := hv t2 Hb Ca cl fp
  rw [ecl, eC] at Ic
  show codeAny _ _ (.compStart (.DictComp kx vx [⟨tg, iter, ifs, 0⟩] scope pos) 0 (.ref it) (.ref Dd) (compEnvC scope (cellsFrom (t2.heap.objs.size + 1) scope.names (cloFrom X.env.cells scope.names [])) t2.heap.objs.size X.env))
    (compPost (model X.prog X.w) X.A X.xe use Qf (.ref Dd) t2.heap.objs.size) { t2 with heap := pushCells (t2.heap.push { cls := .type "dict", data := .dict #[] }) scope.names }
  rw [ecl, eC]
  obtain ⟨t3, et3⟩ : ∃ t3 : Shared, { t2 with heap := pushCells (t2.heap.push { cls := .type "dict", data := .dict #[] }) scope.names } = t3 := ⟨_, rfl⟩
  rw [et3] at Ic ⊢
  have tnc : tn 0 t3.heap := tu.keep _ _ _ tnb fun b _ o e => by
    rw [← et3]
    exact pushCells_keeps _ _ _ _ (Heap.get?_push_of_some _ e)
  obtain ⟨ce, ece⟩ : ∃ ce, compEnvC scope cl Ca X.env = ce := ⟨_, rfl⟩
  have ceL : ce.locals = Ca := by rw [← ece]; rfl
  rw [ece] at Rg Rt Rk Rv Ic ⊢
  let Y : Cx := X.blk t2 Hb scope ce fp
  have fpY : ∀ {σ' : St} {H' : Hp} {s' : Shared}, Inv Y [] σ' H' s' → (∀ b ∈ fp, H' b = none) → ∀ b ∈ fp, FpOk Y [] H' b := fun {_ _ _} I' no b hb =>
    ⟨no b hb, (I'.ok.exf b hb).1, I'.ok.exfs b hb, .inl hb, fun x c e => (I'.ok.exf b hb).2 x c e, fun p hp => by cases hp⟩
  have noB : ∀ b ∈ fp, Hb b = none := fun b hb => (fpb b hb).1.1
  have LOOP : codeAny (model X.prog X.w) X.A (.compLoop (.DictComp kx vx [⟨tg, iter, ifs, 0⟩] scope pos) 0 (.ref it) (.ref Dd) ce) (compPost (model X.prog X.w) X.A X.xe use Qf (.ref Dd) Ca) t3 := by
    refine compLoop_anyD (fun n s' => ∃ i H', Inv Y [] (wipe σ (own.map (·.2))) H' s' ∧ tn i s'.heap ∧ (∀ b ∈ fp, H' b = none) ∧ Wv i n H') ?_ m0 ⟨0, Hb, Ic, tnc, noB, by rw [← eHb]; exact w0⟩
    rintro n u0 ⟨i, H0, I0, n0, no0, wv0⟩
    rcases turn i n H0 wv0 with ⟨hstop, hQ⟩ | ⟨hgo, Nx, back, step⟩
    · refine thnF (tu.done Y rfl rfl rfl hc i [] u0 _ H0 (fun _ _ => False) I0 (fpY I0 no0) n0 hstop) fun r u1 z1 => ?_
      obtain ⟨rfl, I1⟩ := z1
      have Iout : Inv X pins σ H0 u1 := Ib.call' (ch := fp) I1.os I1.base I1.hok I1.bare fun b hb => by
        obtain ⟨_, q1, q2, q3, q4, q5⟩ := (fpb b hb).1
        exact ⟨q3, q1, q4, q5⟩
      have noC : H0 Ca = none := by rw [← ceL]; exact I1.free
      obtain ⟨mm, hns, _⟩ := I1.loc
      have hns : u1.heap.Ns Ca mm := by rw [← ceL]; exact hns
      exact fin Dd Ca u1 mm H0 Iout hQ hns (Ib.fpOk (Nat.le_of_eq eC) noC)
    · refine thnF (tu.item Y rfl rfl rfl hc i [] u0 _ H0 (fun _ _ => False) I0 (fpY I0 no0) n0 hgo) fun r u1 z1 => ?_
      obtain ⟨xu, rfl, z1⟩ := z1
      refine thnF z1 fun _ u2 ⟨x, H2, I2, rx, yx, n2, no2⟩ => ?_
      have J2 := I2.pinned (fpY I2 no2) (tu.obj _ _ n2)
      refine thnF (Rg.run _ u2 _ H2 x xu _ J2 rx (step x H2 yx)) fun _ u3 ⟨σ3, H3, I3, hw3, q3⟩ => ?_
      have close : ∀ {s' : Shared} {H' : Hp}, Inv Y ([] ++ pinsAt fp u2.heap) σ3 H' s' → Nx H' → ∃ m, m < n ∧ ∃ i H', Inv Y [] (wipe σ (own.map (·.2))) H' s' ∧ tn i s'.heap ∧ (∀ b ∈ fp, H' b = none) ∧ Wv i m H' := fun {s' H'} I' nx => by
        obtain ⟨m', lt', wv'⟩ := back H' nx
        have pinned : ∀ b ∈ fp, ∀ o, u2.heap.get? b = some o → s'.heap.get? b = some o ∧ H' b = none := fun b hb o e => by
          have zz := I'.pin (b, o) (List.mem_append_right _ (List.mem_append_right _ (mem_pinsAt hb e)))
          exact ⟨zz.1, zz.2.1⟩
        have ln : (wipe σ (own.map (·.2))).length = σ3.length := by rw [← hw3, wipe_length]
        refine ⟨m', lt', i + 1, H', (I'.unpinned (pins := [])).weak ln fun j v e => ?_, tu.keep _ _ _ n2 fun b hb o e => (pinned b hb o e).1, fun b hb => ?_, wv'⟩
        · rw [← hw3] at e; exact (wipe_some e).1
        · obtain ⟨o, e, _⟩ := tu.obj _ _ n2 b hb
          exact (pinned b hb o e).2
      refine thnF (Rt.run _ u3 σ3 H3 _ I3 q3) fun bb u4 ⟨H4, I4, q4⟩ => ?_
      cases bb with
      | false => exact close I4 q4
      | true =>
        refine thnF (Rk.run _ u4 σ3 H4 _ I4 q4) fun zk u5 ⟨yk, H5, I5, rk, q5⟩ => thnF (Rv.run _ u5 σ3 H5 _ I5 q5) fun zv u6 ⟨yv, H6, I6, rv, kvs, k, kb, ek, hkb, hD6, hz6, nx⟩ => ?_
        subst ek
        obtain rfl : zk = Value.ref kb := rk
        exact setT_run (X := Y) hu I6 hD6 hkb hz6 rv fun u7 I7 => close I7 nx
  exact codeAny_compStart_dict LOOP (tu.self X.A 0 _ _ _ tnc LOOP)
end

/-- a tuple as a key -/
def keyT : D → Option (List Key)
  | .tup l => keysK l
  | _ => none
theorem keyT_ok {K : PySem.W.Frag} {G : Hp} {v : V} {d : D} {k : List Key} (r : R K G v d) (h : keyT d = some k) : ∃ b, v = .ref b ∧ G b = some (.tup (k.map kV)) := by
  cases r with
  | tup g l rl =>
    have hx := keysK_ok rl h
    subst hx
    exact ⟨_, rfl, g⟩
  | _ => cases h
def dcTM (T : D → Mo Unit) (C : Mo Bool) (Ek Ev : Mo D) (vs : List Nat) : List D → List (List Key × D) → Mo D
  | [], acc => fun δ => some (.ok (.dT acc), δ)
  | d :: ds, acc => fun δ => match T d δ with
    | some (.ok (), δ1) => match C δ1 with
      | some (.ok true, δ2) => match Ek δ2 with
        | some (.ok k, δ3) => match Ev δ3 with
          | some (.ok v, δ4) => match keyT k with
            | some kk => dcTM T C Ek Ev vs ds (putA acc kk v) (wipeE δ4 vs)
            | none => none
          | _ => none
        | _ => none
      | some (.ok false, δ2) => dcTM T C Ek Ev vs ds acc (wipeE δ2 vs)
      | _ => none
    | _ => none
def eDcT (I : Mo (List D)) (T : D → Mo Unit) (C : Mo Bool) (Ek Ev : Mo D) (vs : List Nat) : Mo D := I.bind fun ds => fun δ => if ds.length < sizeLine then dcTM T C Ek Ev vs ds [] (wipeE δ vs) else none
section
variable {K : PySem.W.Frag} {W : WK} {I : Mo (List D)} {sl vs : List Nat} {T : D → Mo Unit} {C : Mo Bool} {E Ek Ev : Mo D} {σ : St} {H : Hp} {Q : VK}
theorem kvpT_mono {G G' : Hp} (e : Ext G G') {kvs : List (List Key × V)} {ds : List (List Key × D)} (h : KVP K G kvs ds) : KVP K G' kvs ds := Paired.mapP h fun _ _ z => ⟨z.1, z.2.mono e⟩
theorem tDcT_at {B : Bs} {G1 H1 : Hp} {δ1 δ' : Env} {J : It} {ds : List D} {r : Except Exn D} (hsl : ∀ j ∈ sl, j ∈ vs) (a1 : At K B G1 δ1 σ H1) (yl : Yl K B J G1 ds) (e2 : (if ds.length < sizeLine then dcTM T C Ek Ev vs ds [] (wipeE δ1 vs) else none) = some (r, δ')) (post : Post K W B G1 σ r δ' (fun d G' H' => ∀ p, Fr1 K B G' δ' σ H' p d → Q (.ref p) H')) : tDcT (wiJ J) (tG K sl T) (tT K W0 C) (tE K W0 Ek) (tE K W0 Ev) vs σ H1 Q := by
  intro D1 hD
  split at e2
  · rename_i hlen
    have b0 := a1.fresh0 hD
    have ot := a1.out1 b0 (a1.vw.none hD)
    refine ⟨fun i m H2 => m + i = ds.length ∧ ∃ G2 δ2 acc xs, At K B G2 δ2 (wipe σ vs) H2 ∧ Ext G1 G2 ∧ H2 D1 = some (.dT xs) ∧ KVP K G2 xs acc ∧ xs.length ≤ i ∧ G2 D1 = none ∧ (∀ j, ¬ OwnAt δ2 (wipe σ vs) j D1) ∧ (∀ j ∈ vs, ∀ s, δ2[j]? = some s → s = .no) ∧ dcTM T C Ek Ev vs (ds.drop i) acc δ2 = some (r, δ'),
      ⟨ds.length, by omega, G1, wipeE δ1 vs, [], [], (a1.alloc hD).wipe vs, Ext.refl _, upd_same, .nil, Nat.zero_le _, a1.vw.none hD, (a1.wipe vs).noOwn hD, wipeE_no, e2⟩, ?_⟩
    rintro i m H2 ⟨hm, G2, δ2, acc, xs, a2, x2, hx, rx, hxl, g2, no2, hno, e3⟩
    by_cases hi : ds.length ≤ i
    · refine .inl ⟨(yl B G2 H2 δ2 _ (BLe.refl B) a2 x2 i).2 hi, ?_⟩
      rw [List.drop_eq_nil_of_le hi] at e3
      cases e3
      have a3 := a2.unwipe hno
      refine post G2 H2 a3 x2 D1 ⟨g2, b0, fun j z => ?_, .dT hx (by omega) (kvp_keys rx) (kvp_vals rx)⟩
      obtain ⟨⟨d, z1⟩, z2⟩ := z
      by_cases c : j ∈ vs
      · rcases z1 with z1 | z1
        · cases hno j c _ z1
        · cases hno j c _ z1
      · exact no2 j ⟨⟨d, z1⟩, by rw [wipe_out c]; exact z2⟩
    · have hlt : i < ds.length := by omega
      have a2' := a2.add nt_dT hx g2 no2
      obtain ⟨y1, _⟩ := yl (B.add D1 (.dT xs)) G2 H2 δ2 _ (BLe.add b0) a2' x2 i
      obtain ⟨gg1, gg2⟩ := y1 ds[i] (List.getElem?_eq_getElem hlt)
      rw [List.drop_eq_getElem_cons hlt] at e3
      refine .inr ⟨gg1, fun H' => ∃ m', m' < m ∧ (m' + (i + 1) = ds.length ∧ ∃ G2 δ2 acc xs, At K B G2 δ2 (wipe σ vs) H' ∧ Ext G1 G2 ∧ H' D1 = some (.dT xs) ∧ KVP K G2 xs acc ∧ xs.length ≤ i + 1 ∧ G2 D1 = none ∧ (∀ j, ¬ OwnAt δ2 (wipe σ vs) j D1) ∧ (∀ j ∈ vs, ∀ s, δ2[j]? = some s → s = .no) ∧ dcTM T C Ek Ev vs (ds.drop (i + 1)) acc δ2 = some (r, δ')), fun H' z => z, fun x H' hy => ?_⟩
      obtain ⟨rfl, G3, a3, x3, r3⟩ := gg2 x H' hy
      unfold dcTM at e3
      cases q : T ds[i] δ2 with
      | none => simp only [q] at e3; cases e3
      | some z =>
        obtain ⟨u, δ3⟩ := z
        cases u with
        | error u => simp only [q] at e3; cases e3
        | ok u =>
          simp only [q] at e3
          refine ⟨B.add D1 (.dT xs), G3, δ2, ds[i], δ3, a3, r3, q, fun σ4 a4 oa => ?_⟩
          have hw : wipe σ4 vs = wipe σ vs := wipe_eq (oa.1.trans (wipe_length _ _)) fun j hj => oa.2 j fun c => hj (hsl j c)
          refine ⟨hw, ?_⟩
          have fin : ∀ {G5 H5 δ5 ys acc'}, At K (B.add D1 (.dT xs)) G5 δ5 σ4 H5 → Ext G3 G5 → KVP K G5 ys acc' → ys.length ≤ i + 1 → dcTM T C Ek Ev vs (ds.drop (i + 1)) acc' (wipeE δ5 vs) = some (r, δ') → ∃ m', m' < m ∧ (m' + (i + 1) = ds.length ∧ ∃ G2 δ2 acc xs, At K B G2 δ2 (wipe σ vs) (upd H5 D1 (.dT ys)) ∧ Ext G1 G2 ∧ (upd H5 D1 (.dT ys)) D1 = some (.dT xs) ∧ KVP K G2 xs acc ∧ xs.length ≤ i + 1 ∧ G2 D1 = none ∧ (∀ j, ¬ OwnAt δ2 (wipe σ vs) j D1) ∧ (∀ j ∈ vs, ∀ s, δ2[j]? = some s → s = .no) ∧ dcTM T C Ek Ev vs (ds.drop (i + 1)) acc δ2 = some (r, δ')) := fun {G5 H5 δ5 ys acc'} a5 x5 r5 l5 e5 => by
            obtain ⟨h1, h2, h3, h4⟩ := (a5.wipe' hw).drop ot nt_dT
            exact ⟨m - 1, by omega, by omega, G5, wipeE δ5 vs, acc', ys, h4 _, (x2.trans x3).trans x5, upd_same, r5, l5, h2, h3, wipeE_no, e5⟩
          cases qc : C δ3 with
          | none => simp only [qc] at e3; cases e3
          | some z =>
            obtain ⟨u, δ4⟩ := z
            cases u with
            | error u => simp only [qc] at e3; cases e3
            | ok b =>
              refine ⟨_, G3, δ3, .ok b, δ4, a4, qc, fun G4 H4 a5 x5 => ?_⟩
              cases b with
              | false =>
                simp only [qc] at e3
                rw [if_neg Bool.false_ne_true]
                have f := fin a5 x5 (kvpT_mono (x3.trans x5) rx) (by omega) e3
                have hk := (a5.drop ot nt_dT).1
                have : upd H4 D1 (.dT xs) = H4 := by
                  funext b; by_cases c : b = D1
                  · subst c; rw [upd_same, hk]
                  · rw [upd_ne c]
                rw [this] at f; exact f
              | true =>
                simp only [qc] at e3
                rw [if_pos rfl]
                cases qe : Ek δ4 with
                | none => simp only [qe] at e3; cases e3
                | some z =>
                  obtain ⟨u, δ5⟩ := z
                  cases u with
                  | error u => simp only [qe] at e3; cases e3
                  | ok kd =>
                    simp only [qe] at e3
                    refine ⟨_, G4, δ4, .ok kd, δ5, a5, qe, fun G6 H6 a6 x6 y ry => ?_⟩
                    cases qv : Ev δ5 with
                    | none => simp only [qv] at e3; cases e3
                    | some z =>
                      obtain ⟨u, δ6⟩ := z
                      cases u with
                      | error u => simp only [qv] at e3; cases e3
                      | ok vd =>
                        simp only [qv] at e3
                        cases qk : keyT kd with
                        | none => simp only [qk] at e3; cases e3
                        | some kk =>
                          simp only [qk] at e3
                          refine ⟨_, G6, δ5, .ok vd, δ6, a6, qv, fun G7 H7 a7 x7 v rv => ?_⟩
                          obtain ⟨kb, rfl, hkb⟩ := keyT_ok ry qk
                          refine ⟨xs, kk, kb, rfl, a7.vw.tup (x7 _ _ hkb), (a7.drop ot nt_dT).1, by omega, ?_⟩
                          have := length_putK xs kk v
                          exact fin a7 (x5.trans (x6.trans x7)) (kvp_put (kvpT_mono (x3.trans (x5.trans (x6.trans x7))) rx) kk rv) (by omega) e3
  · cases e2
theorem tDcT_ok (hsl : ∀ j ∈ sl, j ∈ vs) (q : tO K W (eDcT I T C Ek Ev vs) σ H Q) : tDcT (tI K W I) (tG K sl T) (tT K W0 C) (tE K W0 Ek) (tE K W0 Ev) vs σ H Q := by
  obtain ⟨B, G, δ, r, δ', a, e1, post⟩ := q
  exact tI_bind a e1 post fun J H1 G1 δ1 ds a1 x1 yl e2 post => tDcT_at hsl a1 yl e2 post
theorem dcTM_good {T : D → Mo Unit} {C : Mo Bool} {Ek Ev : Mo D} {vs : List Nat} : ∀ {ds : List D} {acc : List (List Key × D)} {δ δ' : Env} {r : Except Exn D}, dcTM T C Ek Ev vs ds acc δ = some (r, δ') → ∃ d, r = .ok d
  | [], acc, δ, δ', r, h => by cases h; exact ⟨_, rfl⟩
  | d :: ds, acc, δ, δ', r, h => by
    unfold dcTM at h
    split at h
    · split at h
      · split at h
        · split at h
          · split at h
            · exact dcTM_good h
            · cases h
          · cases h
        · cases h
      · exact dcTM_good h
      · cases h
    · cases h
end
section
variable {X : Cx} {W : WK} {kx vx tg iter : Expr} {ifs : List Expr} {scope : Scope} {own : List (Str × Nat)} {pos p : Pos} {I : Mo (List D)} {sl : List Nat} {T : D → Mo Unit} {C : Mo Bool} {Ek Ev : Mo D} {i : Nat} {y : Str}
theorem pe_dcT {wi : TI} {g : TG} {tt : TT} {tk tv : TE} (hu : X.A.units < cLine) (hc : X.calm = true) (hN : X.N.Nodup) (hi : PI X tg iter wi) (ok : BlkOk X.N X.env.scope scope own)
    (hg : ∀ (s : Shared) (H : Hp) (Ca : Addr) (cl : List (Str × Addr)) (fp : List Addr), PG (X.blk s H scope (compEnvC scope cl Ca X.env) fp) tg g) (ht : ∀ (s : Shared) (H : Hp) (Ca : Addr) (cl : List (Str × Addr)) (fp : List Addr), PTs (X.blk s H scope (compEnvC scope cl Ca X.env) fp) ifs tt)
    (hk : ∀ (s : Shared) (H : Hp) (Ca : Addr) (cl : List (Str × Addr)) (fp : List Addr), PE (X.blk s H scope (compEnvC scope cl Ca X.env) fp) kx tk)
    (he : ∀ (s : Shared) (H : Hp) (Ca : Addr) (cl : List (Str × Addr)) (fp : List Addr), PE (X.blk s H scope (compEnvC scope cl Ca X.env) fp) vx tv) (hs : ∀ x, foldedSetIterable iter X.env x = pure x) :
    PE X (.DictComp kx vx [⟨tg, iter, ifs, 0⟩] scope pos) (tDcT wi g tt tk tv (own.map (·.2))) := by
  constructor
  intro pins s σ H Q I q0
  rw [arm_eval_DictComp]
  refine dcT_run hu hc hN I hi ok hg ht hk he hs q0 fun Dd Ca s2 m H2 J z hn fp => ⟨m, hn, fun h3 sb => ?_⟩
  obtain ⟨f0, f1, f2, f3, f4, f5⟩ := fp
  exact ⟨.ref Dd, H2, J.turned (t' := s2.toks) (fun c o hcc e => (sb.2 c hcc).trans e) f0 f1 f3 f4 f5, rfl, z⟩
theorem do_dcT (hu : X.A.units < cLine) (hc : X.calm = true) (hN : X.N.Nodup) (hi : DI X W tg iter I) (ok : BlkOk X.N X.env.scope scope own) (hsl : ∀ j ∈ sl, j ∈ own.map (·.2))
    (hg : ∀ (s : Shared) (H : Hp) (Ca : Addr) (cl : List (Str × Addr)) (fp : List Addr), DG (X.blk s H scope (compEnvC scope cl Ca X.env) fp) tg sl T) (ht : ∀ (s : Shared) (H : Hp) (Ca : Addr) (cl : List (Str × Addr)) (fp : List Addr), DTs (X.blk s H scope (compEnvC scope cl Ca X.env) fp) W0 ifs C)
    (hk : ∀ (s : Shared) (H : Hp) (Ca : Addr) (cl : List (Str × Addr)) (fp : List Addr), DE (X.blk s H scope (compEnvC scope cl Ca X.env) fp) W0 kx Ek)
    (he : ∀ (s : Shared) (H : Hp) (Ca : Addr) (cl : List (Str × Addr)) (fp : List Addr), DE (X.blk s H scope (compEnvC scope cl Ca X.env) fp) W0 vx Ev) (hs : ∀ x, foldedSetIterable iter X.env x = pure x := by intro _; rfl) :
    DO X W (.DictComp kx vx [⟨tg, iter, ifs, 0⟩] scope pos) (eDcT I T C Ek Ev (own.map (·.2))) :=
  PE.weak (pe_dcT (g := tG X.K sl T) (tt := tT X.K W0 C) (tk := tE X.K W0 Ek) (tv := tE X.K W0 Ev) hu hc hN hi ok hg ht hk he hs) fun σ H Q q => tDcT_ok hsl q
theorem do_dcTK (hu : X.A.units < cLine) (hc : X.calm = true) (hN : X.N.Nodup) (hi : PE X (.Name y p) (tVar i)) (ok : BlkOk X.N X.env.scope scope own) (hsl : ∀ j ∈ sl, j ∈ own.map (·.2))
    (hg : ∀ (s : Shared) (H : Hp) (Ca : Addr) (cl : List (Str × Addr)) (fp : List Addr), DG (X.blk s H scope (compEnvC scope cl Ca X.env) fp) tg sl T) (ht : ∀ (s : Shared) (H : Hp) (Ca : Addr) (cl : List (Str × Addr)) (fp : List Addr), DTs (X.blk s H scope (compEnvC scope cl Ca X.env) fp) W0 ifs C)
    (hk : ∀ (s : Shared) (H : Hp) (Ca : Addr) (cl : List (Str × Addr)) (fp : List Addr), DE (X.blk s H scope (compEnvC scope cl Ca X.env) fp) W0 kx Ek)
    (he : ∀ (s : Shared) (H : Hp) (Ca : Addr) (cl : List (Str × Addr)) (fp : List Addr), DE (X.blk s H scope (compEnvC scope cl Ca X.env) fp) W0 vx Ev) (hs : ∀ x, foldedSetIterable (.Name y p) X.env x = pure x := by intro _; rfl) :
    DO X W (.DictComp kx vx [⟨tg, .Name y p, ifs, 0⟩] scope pos) (eDcT (iKy i) T C Ek Ev (own.map (·.2))) := by
  have base := pe_dcT (pos := pos) (g := tG X.K sl T) (tt := tT X.K W0 C) (tk := tE X.K W0 Ek) (tv := tE X.K W0 Ev) hu hc hN (pi_keys (tg := tg) hi) ok hg ht hk he hs
  refine PE.weak (PE.or' (pe_lock base) base) fun σ H Q ⟨B, G, δ, r, δ', a, e1, post⟩ => ?_
  obtain ⟨G1, δ1, d, v, ks, a1, x1, h1, h2, h3, e2⟩ := iKy_ok a e1
  obtain ⟨ad, u, L⟩ := lockAt_of a1 h1 h2 h3
  have hr : ∃ d, r = .ok d := by
    split at e2
    · exact dcTM_good e2
    · cases e2
  obtain ⟨z, rfl⟩ := hr
  have post := Post.mono post x1
  rcases L.two with ⟨hu, mu⟩ | ⟨od, hu⟩
  · refine .inl ⟨ad, u, hu, mu, fun od => L.walk upd_same fun J yl => tDcT_at (W := W) (Q := fun v H' => H' ad = some (.frz od u) ∧ Q v (upd H' ad u)) (H1 := upd H ad (.frz od u)) hsl (a1.lock L.g L.hd (.inl hu) (fun b hb => upd_ne hb) upd_same) yl e2 ?_⟩
    exact post_lockO (Q := Q) (Q' := fun v H' => H' ad = some (.frz od u) ∧ Q v (upd H' ad u)) a1 L.g L.hd (.inl hu) (fun H' => upd H' ad u) (fun H' b hb => upd_ne hb) (fun H' _ => by rw [upd_same, hu]) (fun _ _ q z => ⟨q, z⟩) post
  · refine .inr (L.walk hu fun J yl => tDcT_at (W := W) (Q := Q) (H1 := H) hsl (a1.lock L.g L.hd (.inr hu) (fun b hb => rfl) hu) yl e2 ?_)
    exact post_lockO (Q := Q) (Q' := Q) a1 L.g L.hd (.inr hu) (fun H' => H') (fun H' b hb => rfl) (fun H' q => by rw [q, hu]) (fun _ _ _ z => z) post
/-- name = {k: v for ..} -/
theorem ps_setDcT {py spos : Pos} {wi : TI} {g : TG} {tt : TT} {tk tv : TE} (hu : X.A.units < cLine) (hc : X.calm = true) (hN : X.N.Nodup) (hy : X.N[i]? = some y) (hyl : X.env.scope.names.lookup y = some .local)
    (hsw : swapsWith (.DictComp kx vx [⟨tg, iter, ifs, 0⟩] scope pos) (some (.Name y py)) spos.line X.env = pure true) (hi : PI X tg iter wi) (ok : BlkOk X.N X.env.scope scope own)
    (hg : ∀ (s : Shared) (H : Hp) (Ca : Addr) (cl : List (Str × Addr)) (fp : List Addr), PG (X.blk s H scope (compEnvC scope cl Ca X.env) fp) tg g) (ht : ∀ (s : Shared) (H : Hp) (Ca : Addr) (cl : List (Str × Addr)) (fp : List Addr), PTs (X.blk s H scope (compEnvC scope cl Ca X.env) fp) ifs tt)
    (hk : ∀ (s : Shared) (H : Hp) (Ca : Addr) (cl : List (Str × Addr)) (fp : List Addr), PE (X.blk s H scope (compEnvC scope cl Ca X.env) fp) kx tk)
    (he : ∀ (s : Shared) (H : Hp) (Ca : Addr) (cl : List (Str × Addr)) (fp : List Addr), PE (X.blk s H scope (compEnvC scope cl Ca X.env) fp) vx tv) (hs : ∀ x, foldedSetIterable iter X.env x = pure x) :
    PS X (.Assign [.Name y py] (.DictComp kx vx [⟨tg, iter, ifs, 0⟩] scope pos) spos) (tAsg (tDcT wi g tt tk tv (own.map (·.2))) (gName i)) := by
  constructor
  intro pins s σ H Dn I q0
  rw [exec_Assign_Name_used _ _ _ _ hsw]
  refine wpAny_bind (wpAny_standAt (wpAny_bind ?_))
  show wpAny _ X.A (do
    let _ ← comprehension (.DictComp kx vx [⟨tg, iter, ifs, 0⟩] scope pos) scope X.env (firstIterPos [⟨tg, iter, ifs, 0⟩] pos) newDict false (eval iter X.env) (some (assign (.Name y py) X.env))) _ _ s
  have q1 : tDcT wi g tt tk tv (own.map (·.2)) σ H (fun x H1 => gName i x σ H1 Dn.nx) := q0
  refine wpAny_bind (thn (dcT_run (Qf := fun _ s' => SP X pins Dn .next s') hu hc hN I hi ok hg ht hk he hs q1 fun L C s' m H' I' q hn fp => ?_) fun _ s' hq => wpAny_pure (wpAny_pure hq))
  show wpAny _ _ (assign (.Name y py) X.env (.ref L)) _ _ _
  refine wpAny_assign_Name (store_ok2 (v := V.ref L) I' hN hy (.inl hyl) rfl (fun s2 I2 z => ?_) (.inr hyl))
  obtain ⟨b, sb, hb⟩ := z
  obtain ⟨f0, f1, f2, f3, f4, f5⟩ := fp
  have ne : C ≠ b := by
    rcases hb with w | w
    · rw [w]; exact f1
    · exact fun e => f4 y b w e.symm
  exact ⟨m, hn.sameBut sb ne, fun h3 sb3 => ⟨_, H', I2.turned (t' := s2.toks) (fun c o hc e => (sb3.2 c hc).trans e) f0 f1 f3 f4 f5, q⟩⟩
theorem ds_setDcTO {py spos : Pos} (hu : X.A.units < cLine) (hc : X.calm = true) (hN : X.N.Nodup) (hy : X.N[i]? = some y) (hyl : X.env.scope.names.lookup y = some .local)
    (hsw : swapsWith (.DictComp kx vx [⟨tg, iter, ifs, 0⟩] scope pos) (some (.Name y py)) spos.line X.env = pure true) (hi : DI X W tg iter I) (ok : BlkOk X.N X.env.scope scope own) (hsl : ∀ j ∈ sl, j ∈ own.map (·.2))
    (hg : ∀ (s : Shared) (H : Hp) (Ca : Addr) (cl : List (Str × Addr)) (fp : List Addr), DG (X.blk s H scope (compEnvC scope cl Ca X.env) fp) tg sl T) (ht : ∀ (s : Shared) (H : Hp) (Ca : Addr) (cl : List (Str × Addr)) (fp : List Addr), DTs (X.blk s H scope (compEnvC scope cl Ca X.env) fp) W0 ifs C)
    (hk : ∀ (s : Shared) (H : Hp) (Ca : Addr) (cl : List (Str × Addr)) (fp : List Addr), DE (X.blk s H scope (compEnvC scope cl Ca X.env) fp) W0 kx Ek)
    (he : ∀ (s : Shared) (H : Hp) (Ca : Addr) (cl : List (Str × Addr)) (fp : List Addr), DE (X.blk s H scope (compEnvC scope cl Ca X.env) fp) W0 vx Ev) (hs : ∀ x, foldedSetIterable iter X.env x = pure x) :
    DS X W (.Assign [.Name y py] (.DictComp kx vx [⟨tg, iter, ifs, 0⟩] scope pos) spos) (sAsgO i (eDcT I T C Ek Ev (own.map (·.2)))) :=
  PS.weak (ps_setDcT (g := tG X.K sl T) (tt := tT X.K W0 C) (tk := tE X.K W0 Ek) (tv := tE X.K W0 Ev) hu hc hN hy hyl hsw hi ok hg ht hk he hs) fun Dn σ H q => tAsgO_ok (fun Q z => tDcT_ok hsl z) q
end
end M

set_option Elab.async false
set_option linter.all false
set_option maxRecDepth 100000
set_option maxHeartbeats 4000000
/-! Part N: set(list of ints), and its sorted list. -/
namespace M
open PySem L2 PySem.Spec PyProof.Rows
/-- the new, empty set -/
abbrev eSet (w : World) : Obj := ⟨.type "set", none, .set #[] 0 (.fresh 0 0 (!w.params.followText "set-order")), #[]⟩
section
variable {P : Program} {w : World} {A : PySem.Around} {E : Value → Shared → Prop} {s : Shared}
theorem set_of_list {p : Addr} {its : Array Value} (ns : List Int) {Q : Value → Shared → Prop} (ha : A.handled = none) (hp : s.heap.IsList p its) (hi : IntsAre its.toList ns) (hb : ns.length + 1 < scanBound)
    (k : ∀ (h' : Heap) (tk c : Nat), SetR w h' s.heap.objs.size (fun j => decide (j ∈ ns)) c → c ≤ ns.length → (∀ b o, s.heap.get? b = some o → h'.get? b = some o) → Q (.ref s.heap.objs.size) { s with heap := h', toks := tk }) : wpAny (model P w) A (call (.type "set") [.ref p]) Q E s := by
  have size_its : its.size = ns.length := (Array.length_toList (xs := its)).symm.trans (IntsAre.length hi)
  obtain ⟨c0, tl0, mro0⟩ := F.called_set.mro
  have made0 := F.called_set.made
  have sub0 := F.called_set.sub
  refine wpAny_call (codeAny_of_tree ?_)
  show wpAny _ _ (callAny (.type "set") _) _ _ _
  refine wpAny_pure ⟨Code.quiet_builtin _ (by decide +kernel), codeAny_builtin F.entry_type_call ?_⟩
  rw [Around.under_plain (weight_type_call_type "set" [.ref p] []) rfl]
  have nt0 := F.called_set.notType
  have cc0 := F.called_set.canCreate
  have ct0 := F.typeCall_set_1 (.ref p)
  repeat (any_goals (first | assumption | wp_step))
  have new0 : codeAny (model P w) A.in1 (.call (.builtin "set.__new__") ⟨[.type "set", .ref p], []⟩) (wants (fun ob s1 => ob = .ref s.heap.objs.size ∧ s1 = { s with heap := s.heap.push (eSet w) }) E) s := code_set_led1 (.ref p) ⟨rfl, rfl⟩
  refine codeAny_mono new0 fun r s1 hr => ?_
  cases r with
  | error e => exact hr
  | ok fl =>
    cases fl with
    | ret ob =>
      obtain ⟨rfl, rfl⟩ := hr
      have there : (s.heap.push (eSet w)).get? s.heap.objs.size = some (eSet w) := Heap.get?_push_size _ rfl
      have isSet0 : Shared.TypeIs { s with heap := s.heap.push (eSet w) } (.ref s.heap.objs.size) "set" := ⟨_, there, rfl⟩
      have look0 := F.called_set.init.lookup
      have bind0 := F.called_set.init.bind (.ref s.heap.objs.size)
      repeat (any_goals (first | assumption | wp_step))
      refine codeAny_mono (codeAny_call_builtin (R := wants (fun r s2 => r = .none ∧ ∃ h' tk c, s2 = { s with heap := h', toks := tk } ∧ SetR w h' s.heap.objs.size (fun j => decide (j ∈ ns)) c ∧ c ≤ ns.length ∧ ∀ b o, s.heap.get? b = some o → h'.get? b = some o) E) F.called_set.init.plain F.entry_set_init (check_set_init_1 isSet0 ?_)) fun r2 s2 hr2 => ?_
      · have hp1 : (s.heap.push (eSet w)).IsList p its := hp.push _
        have lt0 : p < s.heap.objs.size := by obtain ⟨_, e, _⟩ := hp; exact Heap.lt_size e
        obtain ⟨ol, hol, hcl, nl, hdl⟩ := id hp1
        obtain ⟨ocls, odict, odata, oslots⟩ := ol
        simp only at hcl hdl
        subst hcl; subst hdl
        have no1 := PySem.F.sub_list_set
        have no2 := PySem.F.sub_list_frozenset
        have no3 : (Value.type "list" == Value.type "dict") = false := by decide
        unfold Builtin.«set.__init__» noKeywords Builtin.Frozenset.updateFrom
        generalize hPI : pyIter = PI
        wp_walk
        subst hPI
        refine wpAny_pyIter_list hp1 ?_
        refine wpAny_bind (wpAny_runValue ?_)
        have calm0 : A.in1.in1.in1.handled = none := by simp [ha]
        have sz1 : (s.heap.push (eSet w)).objs.size = s.heap.objs.size + 1 := Heap.size_push ..
        have apart1 : p ≠ (s.heap.push (eSet w)).objs.size := by rw [sz1]; exact Nat.ne_of_lt (Nat.lt_succ_of_lt lt0)
        have apart2 : s.heap.objs.size ∉ [(s.heap.push (eSet w)).objs.size, p] := by
          rw [sz1]
          intro m
          rcases List.mem_cons.mp m with e | m
          · omega
          · exact Nat.ne_of_gt lt0 (List.mem_singleton.mp m)
        have vals : ∀ (i : Nat) (v : Value), its[i]? = some v → ∃ z t, ns[i]? = some z ∧ v = .int z t := fun i v hv => by
          have lt1 : i < ns.length := by rw [← size_its]; exact (Array.getElem?_eq_some_iff.mp hv).1
          obtain ⟨t, e⟩ := PyProof.Rows.IntsAre.int_at hi i v (by rw [Array.getElem?_toList]; exact hv)
          exact ⟨ns[i], t, List.getElem?_eq_getElem lt1, by rw [e, List.getD_eq_getElem?_getD, List.getElem?_eq_getElem lt1]; rfl⟩
        refine set_update_ints ((Walks.list calm0 _ p apart1 its).toS) s.heap.objs.size apart2 ns size_its hb vals (its.size - 0) 0 _ (by omega) (Nat.zero_le _) ⟨⟨_, Heap.get?_push_size _ rfl, rfl, rfl⟩, hp1.push _⟩ ?first ?last
        case first => exact ⟨0, Nat.le_refl 0, setR_new_at (Heap.get?_push_of_some _ there)⟩
        case last =>
          rintro ⟨h', g2, d', tk', os'⟩ c' mv hc' hS'
          have eg : g2 = s.gens := mv.gens
          have ed : d' = s.drawn := mv.drawn
          have eo : os' = s.os := mv.os
          subst eg ed eo
          show wpAny _ _ _ _ _ _
          refine wpAny_pure ?_
          show wpAny _ _ (ret Value.none) _ _ _
          rw [size_its] at hc'
          refine wpAny_pure ⟨rfl, h', tk', c', rfl, hS', hc', fun b o e => ?_⟩
          have lt2 : b < s.heap.objs.size := Heap.lt_size e
          refine mv.heap b o (fun m => ?_) (Heap.get?_push_of_some _ (Heap.get?_push_of_some _ e))
          rcases List.mem_cons.mp m with z | m
          · exact Nat.ne_of_lt lt2 z
          · have e1 := List.mem_singleton.mp m
            rw [sz1] at e1
            exact Nat.ne_of_lt (Nat.lt_succ_of_lt lt2) e1
      · cases r2 with
        | error e => exact hr2
        | ok fl2 =>
          cases fl2 with
          | ret r =>
            obtain ⟨rfl, h', tk, c', rfl, hS', hc', hk'⟩ := hr2
            repeat (any_goals (first | assumption | wp_step))
            exact k _ _ _ hS' hc' hk'
          | _ => exact hr2.elim
    | _ => exact hr.elim
end
section
variable {X : Cx} {W : WK} {e : Expr} {x y : Str} {p p2 pos pos2 : Pos} {A : Mo (List Ag)}
def rSetL (K : PySem.W.Frag) (w : World) : List V → Hp → VK → Prop := fun xs H Q => ∃ (a : Addr) (ns : List Int), xs = [V.ref a] ∧ SqL K H a (ns.map V.int) ∧ ns.length ≤ 1000 ∧ ∀ (q : Addr) (c : Nat), H q = none → c ≤ ns.length → Q (.ref q) (upd H q (SetO w q (fun j => decide (j ∈ ns)) c))
theorem call_setL (hc : X.calm = true) : CallR X (.type "set") (rSetL X.K X.w) := by
  rintro pins s σ H xs us Q I r ⟨a, ns, rfl, hs, hl, q⟩
  obtain ⟨its, rv, li, _⟩ := I.list hs
  rw [Vals.ref1 r]
  refine set_of_list ns (I.ok.hd hc) li.isList (ints_of_vals rv) (by unfold scanBound; omega) fun h' tk c new hcn kept => ?_
  exact ⟨.ref _, upd H s.heap.objs.size (SetO X.w s.heap.objs.size (fun j => decide (j ∈ ns)) c), I.laid kept (Nat.le_refl _) (setO_new new), rfl, q _ c (I.hok.fresh (Nat.le_refl _)) hcn⟩
def onceI : List Int → List Int
  | [] => []
  | x :: l => if x ∈ onceI l then onceI l else x :: onceI l
theorem once_mem {k : Int} : ∀ {l : List Int}, k ∈ onceI l ↔ k ∈ l
  | [] => Iff.rfl
  | x :: l => by
    unfold onceI
    have ih := once_mem (k := k) (l := l)
    split
    · rename_i h
      rw [ih, List.mem_cons]
      refine ⟨.inr, fun z => ?_⟩
      rcases z with rfl | z
      · exact once_mem.mp h
      · exact z
    · rw [List.mem_cons, List.mem_cons, ih]
theorem once_nodup : ∀ {l : List Int}, (onceI l).Nodup
  | [] => List.nodup_nil
  | x :: l => by
    unfold onceI
    split
    · exact once_nodup
    · rename_i h; exact List.nodup_cons.mpr ⟨h, once_nodup⟩
def sortSet (ns : List Int) : List Int := sortI (onceI ns)
theorem sortSet_uniq {ns ys : List Int} (h1 : ys.Pairwise (· < ·)) (h2 : ∀ k, k ∈ ys ↔ k ∈ ns) : ys = sortSet ns := by
  have nd : ys.Nodup := h1.imp fun h => by omega
  have hp : ys.Perm (onceI ns) := (List.perm_ext_iff_of_nodup nd once_nodup).mpr fun k => by rw [h2, once_mem]
  exact sortI_uniq (hp.trans (sortI_perm _).symm) (h1.imp fun h => by omega) (sortI_sorted _)
def fSortSet : List D → Option D
  | [.lst l] => (intsD l).bind fun ns => if ns.length < 64 then some (.lst ((sortSet ns).map D.int)) else none
  | _ => none
theorem setO_notup {w : World} {a : Addr} {S : Int → Bool} {n : Nat} : ∀ ys, SetO w a S n ≠ .tup ys := fun ys e => by cases e
theorem do_sortSet (hc : X.calm = true) (hg : Gl X x) (hm : X.mg x = none) (hv : bootBuiltins x = some (.builtin "sorted")) (hg2 : Gl X y) (hm2 : X.mg y = none) (hv2 : bootBuiltins y = some (.type "set")) (ha : DA X W [e] A)
    (hn : x ≠ "__name__" := by decide) (hdb : (x == ("__debug__" : Str)) = false := by decide) (hn2 : y ≠ "__name__" := by decide) (hdb2 : (y == ("__debug__" : Str)) = false := by decide)
    (he : starEach [.Call (.Name y p2) [e] [] pos2] X.env = (false, eval (.Call (.Name y p2) [e] [] pos2) X.env) :: starEach [] X.env := by rfl) (he2 : starEach [e] X.env = (false, eval e X.env) :: starEach [] X.env := by rfl)
    (hpl : (backTo pos (starEach [] X.env)).any (·.1) = false := by rfl) (hpl2 : (backTo pos2 (starEach [] X.env)).any (·.1) = false := by rfl) :
    DO X W (.Call (.Name x p) [.Call (.Name y p2) [e] [] pos2] [] pos) (eF fSortSet A) :=
  PE.weak (pe_callB (cr_sortedSet hc) hg hm hv (pa_cons (pe_callTy (call_setL hc) hg2 hm2 hv2 ha hn2 hdb2 he2 hpl2) pa_nil he) hn hdb he hpl) fun σ H Q ⟨B, G, δ, r, δ', at', e1, post⟩ => by
  refine tA_bind at' e1 post fun vs H1 G1 δ1 as a1 x1 r1 e2 post => ?_
  obtain ⟨ds, d, h1, h2, rfl, rfl⟩ := eF_some e2
  have r2 := imms_ok r1 h1
  unfold fSortSet at h2
  split at h2
  · rename_i l
    obtain ⟨v, rfl, rv⟩ := rl1 r2
    cases rv with
    | lst g hl rl =>
      cases q : intsD l with
      | none => rw [q] at h2; cases h2
      | some ns =>
        rw [q, Option.bind_some] at h2
        split at h2
        · rename_i h64
          cases h2
          have hx := intsD_ok rl q
          subst hx
          refine ⟨_, ns, rfl, SqL.of (a1.vw.lst g), by omega, fun p0 c hp0 hcn => ?_⟩
          refine ⟨p0, _, c, rfl, upd_same, by omega, fun ys p1 hs1 hs2 hs3 hp1 => ?_⟩
          have ey : ys = sortSet ns := sortSet_uniq hs1 fun k => by rw [hs2]; exact decide_eq_true_iff
          have a2 := a1.alloc (o := SetO X.w p0 (fun j => decide (j ∈ ns)) c) hp0
          obtain ⟨b1, b2⟩ := a2.own1 (p := p1) (o := .lst (ys.map V.int)) hp1 (.lst upd_same (by rw [List.length_map, hs3]; exact small_line (by omega)) (rl_ints ys))
          rw [← ey] at post
          exact post G1 _ b1 (Ext.refl _) p1 b2
        · cases h2
  · cases h2
end
end M

set_option Elab.async false
set_option linter.all false
set_option maxRecDepth 100000
set_option maxHeartbeats 1000000
/-! Part S: the def that makes a lambda; the end of such a law. -/
theorem L2.Room.u0 {k : Nat} {A : PySem.Around} (r : L2.Room k A) : A.units < PySem.cLine := by have := r.un; omega
namespace M
open PySem L2 PySem.Spec PyProof.Rows
section
variable {P : Program} {w : World} {K : PySem.W.Frag} {mg : Str → Option Value} {base : Heap} {x qual : Str} {st : Stmt} {f : Addr} {N ps : List Str} {k n : Nat} {body : Mo Out} {oc kV doc pm cdv ct : Value} {od an : Option Addr} {osl : Array (Option Value)}
theorem fn_okT (lk : K.lookup f = some ⟨oc, od, .func (PySem.W.fnOf x qual (defArgs st) (defBody st) (defScope st) .none kV doc pm an cdv ct), osl⟩) (hcd : PySem.W.codeIn K cdv qual = true) (S : FnScope N ps (defScope st)) (hn : ps.length = n)
    (hb : ∀ (A : Around) (outer : List PySem.Env) (s : Shared) (H : Hp) (E : XK), Room k (A.deeper (envOfC qual (defScope st) s.heap.objs.size f cdv)) → DSs (cxOf CX0 P w K mg base N qual (defScope st) f cdv A outer s H E).nox W0 (defBody st) body) :
    FnOk P w K mg base CX0 (k + 1) f (PySem.W.fnOf x qual (defArgs st) (defBody st) (defScope st) .none kV doc pm an cdv ct) ps (spM Wn K n false (fnM N.length n body)) :=
  fn_of lk hcd S (fn_len hn) fun A outer s H vs Q E hr h => ⟨tS K W0 body, (hb A outer s H E hr).nox, body_ok (E := E) (fun _ _ _ _ _ _ _ h => h) h⟩
end
theorem walkT {l : PySem.W.OpenLaw} {q : Program} {loose : List Str} {XP : (Str → Option Value) → Heap → Prop} {d : DefRec} {K : Params → PySem.W.Frag} {as ts : List Addr} {e : ∀ P, as = (K P).map (·.1)} {k : Nat} {m : Mo D} (hn : l.most = some 63) (hdf : d.params.defaults = []) (hr : Room k callerA)
    (F : ∀ (w : World) (mg : Str → Option Value) (fa : Addr) (h : Heap), (K w.params).In h → h.Ns mainGlobals mg → mg d.name = some (.ref fa) →
      ∃ (fd : FuncData) (c P : Addr), P ∈ ts ∧ tabOf (K w.params) = some P ∧ (K w.params).lookup P = none ∧ PySem.W.codeHdIn (K w.params) c P = true ∧ (∀ (s : Shared) (u : Value), BindsTo s fd ⟨[u], []⟩ [("_law_script", u)]) ∧
        ∀ base : Heap, (K w.params).In base → base.Ns mainGlobals mg → LamX.TabB base mg c P → FnOk l.prog w (K w.params) mg base CX0 k fa fd ["_law_script"] (spM Wn (K w.params) 1 false m))
    (ht : ∀ ns : List Int, ns.length ≤ 63 → m [.imm (.scr (ns.map D.int))] = some (.ok (.bl true), [.no])) :
    PySem.W.WalkO q loose XP (PySem.W.kmHook K as e ts).says l.row.toRowW d [] (fun f vs => PySem.call f vs) := by
  refine LamX.walk_ofTs (n := 63) (k := k) (x := "_law_script") (CX := fun _ => CX0) (K := K) hn (by decide) hdf hr (fun w h Y => PySem.W.km_in_of Y) (fun w mg fa h Y KX G hmg => ?_) (fun _ _ _ _ _ z => z)
  obtain ⟨fd, c, P, h1, h2, h3, h4, h5, h6⟩ := F w mg fa h KX G hmg
  refine ⟨fd, [(c, P)], spM Wn (K w.params) 1 false m, fun p hp => ?_, fun p hp => ?_, fun p hp => ?_, h5, fun H a ns hl _ hT hS => ?_, fun base h7 h8 h9 => h6 base h7 h8 (h9 _ (List.mem_singleton_self _))⟩
  · simp at hp; subst hp
    exact PySem.W.km_tabs_of Y P h1
  · simp at hp; subst hp; exact h3
  · simp at hp; subst hp
    exact PySem.W.codeHd_of_K KX h4
  · refine law_sp (fun P' hP' => ?_) hS hl (ht ns hl)
    rw [h2] at hP'; cases hP'
    exact LamX.TabS.nil (hT (c, P) (List.mem_singleton_self _))
end M

set_option Elab.async false
set_option linter.all false
set_option maxRecDepth 100000
set_option maxHeartbeats 1000000
/-! Part T: sorted({k for ..}) of ints; str(n); d.get(k, x). -/
namespace M
open PySem L2 PySem.Spec PyProof.Rows PpSet
section
variable {X : Cx}
theorem setI_run {pins : List (Addr × Obj)} {σ : St} {H : Hp} {s : Shared} {E : Value → Shared → Prop} {Dd : Addr} {k : Int} {tk : Tok} {S : Int → Bool} {n : Nat} {Q : Value → Shared → Prop} (I : Inv X pins σ H s) (hD : H Dd = some (SetO X.w Dd S n)) (room : n + 1 < scanBound)
    (h : ∀ s', Inv X pins σ (upd H Dd (SetO X.w Dd (fun j => S j || decide (j = k)) (if S k = true then n else n + 1))) s' → Q .none s') : wpAny (model X.prog X.w) X.A (call (.builtin "set.add") [.ref Dd, .int k tk]) Q E s := by
  refine setR_add (setO_get I hD) room fun g sb new => ?_
  have there : ∃ u, g.get? Dd = some u := by
    obtain ⟨o, _, _, _, e, _⟩ := id new
    exact ⟨o, e⟩
  exact h _ (I.write (e := Dd) (t' := s.toks + 1) (by rw [hD]; trivial) (.inl rfl) (fun b u hb hu => (sb.2 b hb).trans hu) there (setO_new new))
/-- {k for ..}, the members ints: Dd the new set -/
def tScI (w : World) (wi : TI) (g : TG) (tt : TT) (tv : TE) (vs : List Nat) : TE := fun σ H Q => wi σ H fun J H1 => ∀ Dd, H1 Dd = none → ∃ Wv : Nat → Nat → Hp → Prop, (∃ m, Wv 0 m (upd H1 Dd (SetO w Dd (fun _ => false) 0))) ∧ ∀ i m H, (∀ S n, H Dd = some (SetO w Dd S n) → ∃ h, SetR w h Dd S n) → Wv i m H →
  (J.stop i H ∧ Q (.ref Dd) H) ∨ (J.go i H ∧ ∃ Nx : Hp → Prop, (∀ H', Nx H' → ∃ m', m' < m ∧ Wv (i + 1) m' H') ∧ ∀ x H', J.yld i H x H' → g x (wipe σ vs) H' fun σ2 H2 => wipe σ2 vs = wipe σ vs ∧ tt σ2 H2 fun b H3 =>
    if b = true then tv σ2 H3 fun z H5 => ∃ k S n, z = .int k ∧ H5 Dd = some (SetO w Dd S n) ∧ n + 1 < scanBound ∧ Nx (upd H5 Dd (SetO w Dd (fun j => S j || decide (j = k)) (if S k = true then n else n + 1))) else Nx H3)
variable {pins : List (Addr × Obj)} {s : Shared} {σ : St} {H : Hp} {Q : VK} {vx tg iter : Expr} {ifs : List Expr} {scope : Scope} {own : List (Str × Nat)} {pos pos' : Pos} {wi : TI} {g : TG} {tt : TT} {tv : TE} {use : Option (Value → Sem Unit)} {Qf : Value → Shared → Prop}
theorem sc_run (hc : X.calm = true) (hN : X.N.Nodup) (I : Inv X pins σ H s) (hi : PI X tg iter wi) (ok : BlkOk X.N X.env.scope scope own)
    (hg : ∀ (s : Shared) (H : Hp) (Ca : Addr) (cl : List (Str × Addr)) (fp : List Addr), PG (X.blk s H scope (compEnvC scope cl Ca X.env) fp) tg g) (ht : ∀ (s : Shared) (H : Hp) (Ca : Addr) (cl : List (Str × Addr)) (fp : List Addr), PTs (X.blk s H scope (compEnvC scope cl Ca X.env) fp) ifs tt)
    (hv : ∀ (s : Shared) (H : Hp) (Ca : Addr) (cl : List (Str × Addr)) (fp : List Addr), PE (X.blk s H scope (compEnvC scope cl Ca X.env) fp) vx tv) (hs : ∀ x, foldedSetIterable iter X.env x = pure x) (h : tScI X.w wi g tt tv (own.map (·.2)) σ H Q)
    (fin : ∀ Dd Ca s' m H', Inv X pins σ H' s' → Q (.ref Dd) H' → s'.heap.Ns Ca m → FpOk X pins H' Ca → compPost (model X.prog X.w) X.A X.xe use Qf (.ref Dd) Ca (.ok .next) s') :
    wpAny (model X.prog X.w) X.A (comprehension (.SetComp vx [⟨tg, iter, ifs, 0⟩] scope pos) scope X.env pos' (newSet (.type "set")) false (eval iter X.env) use) Qf X.xe s := by
  have caught : ∀ y ∈ scope.names, y.2 = .free → ∃ c, X.env.cells.lookup y.1 = some c := fun y hy e => (ok.free y hy e).elim (fun z => I.ok.has _ (.inl z)) fun z => I.ok.has _ (.inr z)
  have uniq : ∀ y ∈ scope.names, y.2 = .local → scope.names.lookup y.1 = some .local := fun y hy e => by rw [ok.uniq y hy, e]
  refine wpAny_comprehension_free (use := use) rfl hs (closure_ok caught) ok.kind uniq (thn (hi.run pins s σ H _ I h) fun _ _ a1 => thn a1 fun _ t1 a2 => ?_)
  obtain ⟨it, fp, tn, J, Ha, rfl, Ia, tu, tna, fpa, start⟩ := a2
  refine newSet_ok ?_
  obtain ⟨Dd, eD⟩ : ∃ Dd, t1.heap.objs.size = Dd := ⟨_, rfl⟩
  obtain ⟨Wv, ⟨m0, w0⟩, turn⟩ := start Dd (Ia.hok.fresh (Nat.le_of_eq eD))
  rw [eD]
  obtain ⟨t2, et2⟩ : ∃ t2 : Shared, { t1 with heap := t1.heap.push { cls := .type "set", dict := none, data := .set #[] 0 (.fresh 0 0 (!X.w.params.followText "set-order")) } } = t2 := ⟨_, rfl⟩
  rw [et2]
  refine newEnv_comp ?_
  have grow2 : ∀ b o, t1.heap.get? b = some o → t2.heap.get? b = some o := fun b o e => by rw [← et2]; exact Heap.get?_push_of_some _ e
  have size2 : t2.heap.objs.size = t1.heap.objs.size + 1 := by rw [← et2]; exact Heap.size_push ..
  obtain ⟨Hb, eHb⟩ : ∃ Hb, upd Ha Dd (SetO X.w Dd (fun _ => false) 0) = Hb := ⟨_, rfl⟩
  have Ib : Inv X pins σ Hb t2 := by
    rw [← eHb, ← et2, ← eD]
    refine Ia.laid (t' := t1.toks) (fun b o e => Heap.get?_push_of_some _ e) (Nat.le_refl _) ?_
    exact setO_new (setR_fresh X.w)
  have fpLt : ∀ b ∈ fp, b < t1.heap.objs.size := fun b hb => by
    obtain ⟨_, e, _⟩ := tu.obj _ _ tna b hb
    exact Heap.lt_size e
  have fpb : ∀ b ∈ fp, FpOk X pins Hb b ∧ b < t2.heap.objs.size := fun b hb => by
    have lt := fpLt b hb
    refine ⟨⟨?_, (fpa b hb).2⟩, by rw [size2]; exact Nat.lt_succ_of_lt lt⟩
    rw [← eHb, upd_ne (by rw [← eD]; exact Nat.ne_of_lt lt)]
    exact (fpa b hb).1
  have tnb : tn 0 t2.heap := tu.keep _ _ _ tna fun b _ o e => grow2 b o e
  have Ic := block_start Ib ok hN fpb
  obtain ⟨Ca, eC⟩ : ∃ Ca, t2.heap.objs.size = Ca := ⟨_, rfl⟩
  obtain ⟨cl, ecl⟩ : ∃ cl, cellsFrom (t2.heap.objs.size + 1) scope.names (cloFrom X.env.cells scope.names []) = cl := ⟨_, rfl⟩
  have Rg := hg t2 Hb Ca cl fp
  have Rt := ht t2 Hb Ca cl fp
  have Rv := hv t2 Hb Ca cl fp
  rw [ecl, eC] at Ic
  show codeAny _ _ (.compStart (.SetComp vx [⟨tg, iter, ifs, 0⟩] scope pos) 0 (.ref it) (.ref Dd) (compEnvC scope (cellsFrom (t2.heap.objs.size + 1) scope.names (cloFrom X.env.cells scope.names [])) t2.heap.objs.size X.env))
    (compPost (model X.prog X.w) X.A X.xe use Qf (.ref Dd) t2.heap.objs.size) { t2 with heap := pushCells (t2.heap.push { cls := .type "dict", data := .dict #[] }) scope.names }
  rw [ecl, eC]
  obtain ⟨t3, et3⟩ : ∃ t3 : Shared, { t2 with heap := pushCells (t2.heap.push { cls := .type "dict", data := .dict #[] }) scope.names } = t3 := ⟨_, rfl⟩
  rw [et3] at Ic ⊢
  have tnc : tn 0 t3.heap := tu.keep _ _ _ tnb fun b _ o e => by
    rw [← et3]
    exact pushCells_keeps _ _ _ _ (Heap.get?_push_of_some _ e)
  obtain ⟨ce, ece⟩ : ∃ ce, compEnvC scope cl Ca X.env = ce := ⟨_, rfl⟩
  have ceL : ce.locals = Ca := by rw [← ece]; rfl
  rw [ece] at Rg Rt Rv Ic ⊢
  let Y : Cx := X.blk t2 Hb scope ce fp
  have fpY : ∀ {σ' : St} {H' : Hp} {s' : Shared}, Inv Y [] σ' H' s' → (∀ b ∈ fp, H' b = none) → ∀ b ∈ fp, FpOk Y [] H' b := fun {_ _ _} I' no b hb =>
    ⟨no b hb, (I'.ok.exf b hb).1, I'.ok.exfs b hb, .inl hb, fun x c e => (I'.ok.exf b hb).2 x c e, fun p hp => by cases hp⟩
  have noB : ∀ b ∈ fp, Hb b = none := fun b hb => (fpb b hb).1.1
  have LOOP : codeAny (model X.prog X.w) X.A (.compLoop (.SetComp vx [⟨tg, iter, ifs, 0⟩] scope pos) 0 (.ref it) (.ref Dd) ce) (compPost (model X.prog X.w) X.A X.xe use Qf (.ref Dd) Ca) t3 := by
    refine compLoopS_any (fun n s' => ∃ i H', Inv Y [] (wipe σ (own.map (·.2))) H' s' ∧ tn i s'.heap ∧ (∀ b ∈ fp, H' b = none) ∧ Wv i n H') ?_ m0 ⟨0, Hb, Ic, tnc, noB, by rw [← eHb]; exact w0⟩
    rintro n u0 ⟨i, H0, I0, n0, no0, wv0⟩
    rcases turn i n H0 (fun S n e => ⟨_, setO_get (X := Y) I0 e⟩) wv0 with ⟨hstop, hQ⟩ | ⟨hgo, Nx, back, step⟩
    · refine thnF (tu.done Y rfl rfl rfl hc i [] u0 _ H0 (fun _ _ => False) I0 (fpY I0 no0) n0 hstop) fun r u1 z1 => ?_
      obtain ⟨rfl, I1⟩ := z1
      have Iout : Inv X pins σ H0 u1 := Ib.call' (ch := fp) I1.os I1.base I1.hok I1.bare fun b hb => by
        obtain ⟨_, q1, q2, q3, q4, q5⟩ := (fpb b hb).1
        exact ⟨q3, q1, q4, q5⟩
      have noC : H0 Ca = none := by rw [← ceL]; exact I1.free
      obtain ⟨mm, hns, _⟩ := I1.loc
      have hns : u1.heap.Ns Ca mm := by rw [← ceL]; exact hns
      exact fin Dd Ca u1 mm H0 Iout hQ hns (Ib.fpOk (Nat.le_of_eq eC) noC)
    · refine thnF (tu.item Y rfl rfl rfl hc i [] u0 _ H0 (fun _ _ => False) I0 (fpY I0 no0) n0 hgo) fun r u1 z1 => ?_
      obtain ⟨xu, rfl, z1⟩ := z1
      refine thnF z1 fun _ u2 ⟨x, H2, I2, rx, yx, n2, no2⟩ => ?_
      have J2 := I2.pinned (fpY I2 no2) (tu.obj _ _ n2)
      refine thnF (Rg.run _ u2 _ H2 x xu _ J2 rx (step x H2 yx)) fun _ u3 ⟨σ3, H3, I3, hw3, q3⟩ => ?_
      have close : ∀ {s' : Shared} {H' : Hp}, Inv Y ([] ++ pinsAt fp u2.heap) σ3 H' s' → Nx H' → ∃ m, m < n ∧ ∃ i H', Inv Y [] (wipe σ (own.map (·.2))) H' s' ∧ tn i s'.heap ∧ (∀ b ∈ fp, H' b = none) ∧ Wv i m H' := fun {s' H'} I' nx => by
        obtain ⟨m', lt', wv'⟩ := back H' nx
        have pinned : ∀ b ∈ fp, ∀ o, u2.heap.get? b = some o → s'.heap.get? b = some o ∧ H' b = none := fun b hb o e => by
          have zz := I'.pin (b, o) (List.mem_append_right _ (List.mem_append_right _ (mem_pinsAt hb e)))
          exact ⟨zz.1, zz.2.1⟩
        have ln : (wipe σ (own.map (·.2))).length = σ3.length := by rw [← hw3, wipe_length]
        refine ⟨m', lt', i + 1, H', (I'.unpinned (pins := [])).weak ln fun j v e => ?_, tu.keep _ _ _ n2 fun b hb o e => (pinned b hb o e).1, fun b hb => ?_, wv'⟩
        · rw [← hw3] at e; exact (wipe_some e).1
        · obtain ⟨o, e, _⟩ := tu.obj _ _ n2 b hb
          exact (pinned b hb o e).2
      refine thnF (Rt.run _ u3 σ3 H3 _ I3 q3) fun bb u4 ⟨H4, I4, q4⟩ => ?_
      cases bb with
      | false => exact close I4 q4
      | true =>
        refine thnF (Rv.run _ u4 σ3 H4 _ I4 q4) fun zv u6 ⟨yv, H6, I6, rv, kk, S0, n0, ek, hD6, hz6, nx⟩ => ?_
        subst ek
        obtain ⟨tk, rfl⟩ : ∃ tk, zv = Value.int kk tk := rv
        exact setI_run (X := Y) I6 hD6 hz6 fun u7 I7 => close I7 nx
  exact codeAny_compStart_set LOOP (tu.self X.A 0 _ _ _ tnc LOOP)
theorem pe_scI (hc : X.calm = true) (hN : X.N.Nodup) (hi : PI X tg iter wi) (ok : BlkOk X.N X.env.scope scope own)
    (hg : ∀ (s : Shared) (H : Hp) (Ca : Addr) (cl : List (Str × Addr)) (fp : List Addr), PG (X.blk s H scope (compEnvC scope cl Ca X.env) fp) tg g) (ht : ∀ (s : Shared) (H : Hp) (Ca : Addr) (cl : List (Str × Addr)) (fp : List Addr), PTs (X.blk s H scope (compEnvC scope cl Ca X.env) fp) ifs tt)
    (he : ∀ (s : Shared) (H : Hp) (Ca : Addr) (cl : List (Str × Addr)) (fp : List Addr), PE (X.blk s H scope (compEnvC scope cl Ca X.env) fp) vx tv) (hs : ∀ x, foldedSetIterable iter X.env x = pure x) :
    PE X (.SetComp vx [⟨tg, iter, ifs, 0⟩] scope pos) (tScI X.w wi g tt tv (own.map (·.2))) := by
  constructor
  intro pins s σ H Q I q0
  rw [eval_SetComp]
  refine sc_run hc hN I hi ok hg ht he hs q0 fun Dd Ca s2 m H2 J z hn fp => ⟨m, hn, fun h3 sb => ?_⟩
  obtain ⟨f0, f1, f2, f3, f4, f5⟩ := fp
  exact ⟨.ref Dd, H2, J.turned (t' := s2.toks) (fun c o hcc e => (sb.2 c hcc).trans e) f0 f1 f3 f4 f5, rfl, z⟩
end
theorem nt_setO {w : World} {a : Addr} {S : Int → Bool} {n : Nat} (sat : ∃ h, SetR w h a S n) : NT (SetO w a S n) := ⟨fun _ e => (by cases e), fun _ e => (by cases e), fun c q e => by
  obtain ⟨h, R⟩ := sat
  unfold LamX.CodeO SetO at e
  have e := HO.ext.inj e
  have hR := id R
  obtain ⟨o, es, ep, t, ho, _, hd, _⟩ := hR
  have z : ∀ h', SetR w h' a S n → ∃ (oc : Obj) (vs : Array Value), h'.get? c = some oc ∧ oc.data = .fields vs := fun h' r => by
    obtain ⟨oc, vs, _, z1, z2, _⟩ := (congrFun e h').mp r
    exact ⟨oc, vs, z1, z2⟩
  by_cases ca : c = a
  · subst ca
    obtain ⟨oc, vs, z1, z2⟩ := z h R
    rw [ho] at z1; cases z1
    rw [hd] at z2; cases z2
  · have R' : SetR w ⟨h.objs.setIfInBounds c { cls := .type "list", data := .seq #[] }, h.life⟩ a S n := R.at fun u hu => by
      unfold Heap.get? at hu ⊢
      rw [Array.getElem?_setIfInBounds_ne ca]; exact hu
    obtain ⟨oc, vs, z1, z2⟩ := z _ R'
    by_cases lt : c < h.objs.size
    · unfold Heap.get? at z1
      rw [Array.getElem?_setIfInBounds_self_of_lt lt] at z1
      cases z1
      cases z2
    · unfold Heap.get? at z1
      rw [Array.getElem?_eq_none (by rw [Array.size_setIfInBounds]; exact Nat.le_of_not_lt lt)] at z1
      cases z1⟩
def scM (T : D → Mo Unit) (C : Mo Bool) (Ev : Mo D) (vs : List Nat) : List D → List Int → Mo (List Int)
  | [], acc => fun δ => some (.ok acc, δ)
  | d :: ds, acc => fun δ => match T d δ with
    | some (.ok (), δ1) => match C δ1 with
      | some (.ok true, δ2) => match Ev δ2 with
        | some (.ok (.int k), δ3) => scM T C Ev vs ds (acc ++ [k]) (wipeE δ3 vs)
        | _ => none
      | some (.ok false, δ2) => scM T C Ev vs ds acc (wipeE δ2 vs)
      | _ => none
    | _ => none
def eSc0 (T : D → Mo Unit) (C : Mo Bool) (Ev : Mo D) (vs : List Nat) (ds : List D) : Mo D := fun δ => if ds.length < 64 then (match scM T C Ev vs ds [] (wipeE δ vs) with
  | some (.ok ns, δ') => some (.ok (.lst ((sortSet ns).map D.int)), δ')
  | _ => none) else none
def eSortSc (I : Mo (List D)) (T : D → Mo Unit) (C : Mo Bool) (Ev : Mo D) (vs : List Nat) : Mo D := I.bind fun ds => eSc0 T C Ev vs ds
section
variable {w : World} {K : PySem.W.Frag} {W : WK} {I : Mo (List D)} {sl vs : List Nat} {T : D → Mo Unit} {C : Mo Bool} {Ev : Mo D} {σ : St} {H : Hp} {Q : VK}
theorem tScI_at {B : Bs} {G1 H1 : Hp} {δ1 δ' : Env} {J : It} {ds : List D} {ns : List Int} (hsl : ∀ j ∈ sl, j ∈ vs) (a1 : At K B G1 δ1 σ H1) (yl : Yl K B J G1 ds) (hlen : ds.length < 64) (e2 : scM T C Ev vs ds [] (wipeE δ1 vs) = some (.ok ns, δ'))
    (post : ∀ G' H' D1 c, At K B G' δ' σ H' → Ext G1 G' → H' D1 = some (SetO w D1 (fun j => decide (j ∈ ns)) c) → c < 64 → Q (.ref D1) H') : tScI w (wiJ J) (tG K sl T) (tT K W0 C) (tE K W0 Ev) vs σ H1 Q := by
  intro D1 hD
  have b0 := a1.fresh0 hD
  have ot := a1.out1 b0 (a1.vw.none hD)
  refine ⟨fun i m H2 => m + i = ds.length ∧ ∃ G2 δ2 acc c, At K B G2 δ2 (wipe σ vs) H2 ∧ Ext G1 G2 ∧ H2 D1 = some (SetO w D1 (fun j => decide (j ∈ acc)) c) ∧ c ≤ i ∧ G2 D1 = none ∧ (∀ j, ¬ OwnAt δ2 (wipe σ vs) j D1) ∧ (∀ j ∈ vs, ∀ s, δ2[j]? = some s → s = .no) ∧ scM T C Ev vs (ds.drop i) acc δ2 = some (.ok ns, δ'),
    ⟨ds.length, by omega, G1, wipeE δ1 vs, [], 0, (a1.alloc hD).wipe vs, Ext.refl _, by rw [upd_same]; congr 2, Nat.zero_le _, a1.vw.none hD, (a1.wipe vs).noOwn hD, wipeE_no, e2⟩, ?_⟩
  rintro i m H2 hsat ⟨hm, G2, δ2, acc, c, a2, x2, hx, hxl, g2, no2, hno, e3⟩
  by_cases hi : ds.length ≤ i
  · refine .inl ⟨(yl B G2 H2 δ2 _ (BLe.refl B) a2 x2 i).2 hi, ?_⟩
    rw [List.drop_eq_nil_of_le hi] at e3
    cases e3
    have a3 := a2.unwipe hno
    exact post G2 H2 D1 c a3 x2 hx (by omega)
  · have hlt : i < ds.length := by omega
    have nts := nt_setO (hsat _ _ hx)
    have a2' := a2.add nts hx g2 no2
    obtain ⟨y1, _⟩ := yl (B.add D1 _) G2 H2 δ2 _ (BLe.add b0) a2' x2 i
    obtain ⟨gg1, gg2⟩ := y1 ds[i] (List.getElem?_eq_getElem hlt)
    rw [List.drop_eq_getElem_cons hlt] at e3
    refine .inr ⟨gg1, fun H' => ∃ m', m' < m ∧ (m' + (i + 1) = ds.length ∧ ∃ G2 δ2 acc c, At K B G2 δ2 (wipe σ vs) H' ∧ Ext G1 G2 ∧ H' D1 = some (SetO w D1 (fun j => decide (j ∈ acc)) c) ∧ c ≤ i + 1 ∧ G2 D1 = none ∧ (∀ j, ¬ OwnAt δ2 (wipe σ vs) j D1) ∧ (∀ j ∈ vs, ∀ s, δ2[j]? = some s → s = .no) ∧ scM T C Ev vs (ds.drop (i + 1)) acc δ2 = some (.ok ns, δ')), fun H' z => z, fun x H' hy => ?_⟩
    obtain ⟨rfl, G3, a3, x3, r3⟩ := gg2 x H' hy
    unfold scM at e3
    cases q : T ds[i] δ2 with
    | none => simp only [q] at e3; cases e3
    | some z =>
      obtain ⟨u, δ3⟩ := z
      cases u with
      | error u => simp only [q] at e3; cases e3
      | ok u =>
        simp only [q] at e3
        refine ⟨B.add D1 _, G3, δ2, ds[i], δ3, a3, r3, q, fun σ4 a4 oa => ?_⟩
        have hw : wipe σ4 vs = wipe σ vs := wipe_eq (oa.1.trans (wipe_length _ _)) fun j hj => oa.2 j fun c => hj (hsl j c)
        refine ⟨hw, ?_⟩
        have fin : ∀ {G5 H5 δ5 acc' c'}, At K (B.add D1 _) G5 δ5 σ4 H5 → Ext G3 G5 → c' ≤ i + 1 → scM T C Ev vs (ds.drop (i + 1)) acc' (wipeE δ5 vs) = some (.ok ns, δ') → ∃ m', m' < m ∧ (m' + (i + 1) = ds.length ∧ ∃ G2 δ2 acc c, At K B G2 δ2 (wipe σ vs) (upd H5 D1 (SetO w D1 (fun j => decide (j ∈ acc')) c')) ∧ Ext G1 G2 ∧ (upd H5 D1 (SetO w D1 (fun j => decide (j ∈ acc')) c')) D1 = some (SetO w D1 (fun j => decide (j ∈ acc)) c) ∧ c ≤ i + 1 ∧ G2 D1 = none ∧ (∀ j, ¬ OwnAt δ2 (wipe σ vs) j D1) ∧ (∀ j ∈ vs, ∀ s, δ2[j]? = some s → s = .no) ∧ scM T C Ev vs (ds.drop (i + 1)) acc δ2 = some (.ok ns, δ')) := fun {G5 H5 δ5 acc' c'} a5 x5 l5 e5 => by
          obtain ⟨h1, h2, h3, h4⟩ := (a5.wipe' hw).drop ot nts
          exact ⟨m - 1, by omega, by omega, G5, wipeE δ5 vs, acc', c', h4 _, (x2.trans x3).trans x5, upd_same, l5, h2, h3, wipeE_no, e5⟩
        cases qc : C δ3 with
        | none => simp only [qc] at e3; cases e3
        | some z =>
          obtain ⟨u, δ4⟩ := z
          cases u with
          | error u => simp only [qc] at e3; cases e3
          | ok b =>
            refine ⟨_, G3, δ3, .ok b, δ4, a4, qc, fun G4 H4 a5 x5 => ?_⟩
            cases b with
            | false =>
              simp only [qc] at e3
              rw [if_neg Bool.false_ne_true]
              have f := fin (c' := c) a5 x5 (by omega) e3
              have hk := (a5.drop ot nts).1
              have : upd H4 D1 (SetO w D1 (fun j => decide (j ∈ acc)) c) = H4 := by
                funext b; by_cases c : b = D1
                · subst c; rw [upd_same, hk]
                · rw [upd_ne c]
              rw [this] at f; exact f
            | true =>
              simp only [qc] at e3
              rw [if_pos rfl]
              cases qe : Ev δ4 with
              | none => simp only [qe] at e3; cases e3
              | some z =>
                obtain ⟨u, δ5⟩ := z
                cases u with
                | error u => simp only [qe] at e3; cases e3
                | ok kd =>
                  refine ⟨_, G4, δ4, .ok kd, δ5, a5, qe, fun G6 H6 a6 x6 y ry => ?_⟩
                  cases kd with
                  | int k =>
                    simp only [qe] at e3
                    cases ry
                    refine ⟨k, _, c, rfl, (a6.drop ot nts).1, by unfold scanBound; omega, ?_⟩
                    have es : (fun j : Int => (decide (j ∈ acc) || decide (j = k))) = fun j => decide (j ∈ acc ++ [k]) := by
                      funext j
                      rw [← Bool.decide_or]
                      congr 1
                      rw [List.mem_append, List.mem_singleton]
                    rw [es]
                    exact fin a6 (x5.trans x6) (by split <;> omega) e3
                  | _ => simp only [qe] at e3; cases e3
end
section
variable {X : Cx} {W : WK} {vx tg iter : Expr} {ifs : List Expr} {scope : Scope} {own : List (Str × Nat)} {pos p pos2 : Pos} {I : Mo (List D)} {sl : List Nat} {T : D → Mo Unit} {C : Mo Bool} {Ev : Mo D} {x : Str}
/-- sorted({k for ..}) -/
theorem do_sortSc (hg0 : Gl X x) (hm : X.mg x = none) (hv : bootBuiltins x = some (.builtin "sorted")) (hc : X.calm = true) (hN : X.N.Nodup) (hi : DI X W tg iter I) (ok : BlkOk X.N X.env.scope scope own) (hsl : ∀ j ∈ sl, j ∈ own.map (·.2))
    (hg : ∀ (s : Shared) (H : Hp) (Ca : Addr) (cl : List (Str × Addr)) (fp : List Addr), DG (X.blk s H scope (compEnvC scope cl Ca X.env) fp) tg sl T) (ht : ∀ (s : Shared) (H : Hp) (Ca : Addr) (cl : List (Str × Addr)) (fp : List Addr), DTs (X.blk s H scope (compEnvC scope cl Ca X.env) fp) W0 ifs C)
    (he : ∀ (s : Shared) (H : Hp) (Ca : Addr) (cl : List (Str × Addr)) (fp : List Addr), DE (X.blk s H scope (compEnvC scope cl Ca X.env) fp) W0 vx Ev) (hs : ∀ x, foldedSetIterable iter X.env x = pure x := by intro _; rfl)
    (hn : x ≠ "__name__" := by decide) (hdb : (x == ("__debug__" : Str)) = false := by decide)
    (hst : starEach [.SetComp vx [⟨tg, iter, ifs, 0⟩] scope pos2] X.env = (false, eval (.SetComp vx [⟨tg, iter, ifs, 0⟩] scope pos2) X.env) :: starEach [] X.env := by rfl)
    (hpl : (backTo pos (starEach [] X.env)).any (·.1) = false := by rfl) :
    DO X W (.Call (.Name x p) [.SetComp vx [⟨tg, iter, ifs, 0⟩] scope pos2] [] pos) (eSortSc I T C Ev (own.map (·.2))) :=
  PE.weak (pe_callB (cr_sortedSet hc) hg0 hm hv (pa_cons (pe_scI (g := tG X.K sl T) (tt := tT X.K W0 C) (tv := tE X.K W0 Ev) hc hN hi ok hg ht he hs) pa_nil hst) hn hdb hst hpl) fun σ H Q ⟨B, G, δ, r, δ', at', e1, post⟩ => by
  refine tI_bind at' e1 post fun J H1 G1 δ1 ds a1 x1 yl e2 post => ?_
  unfold eSc0 at e2
  split at e2
  · rename_i hlen
    split at e2
    · rename_i ns δ2 q
      cases e2
      refine tScI_at (w := X.w) (Q := fun v H' => tNil σ H' fun xs H2 => rSortedSet X.w (v :: xs) H2 Q) hsl a1 yl hlen q fun G2 H2 D1 c a2 x2 hD hc64 => ?_
      refine ⟨D1, _, c, rfl, hD, hc64, fun ys p1 hs1 hs2 hs3 hp1 => ?_⟩
      have ey : ys = sortSet ns := sortSet_uniq hs1 fun k => by rw [hs2]; exact decide_eq_true_iff
      obtain ⟨b1, b2⟩ := a2.own1 (p := p1) (o := .lst (ys.map V.int)) hp1 (.lst upd_same (by rw [List.length_map, hs3]; exact small_line (by omega)) (rl_ints ys))
      rw [← ey] at post
      exact post G2 _ b1 x2 p1 b2
    · cases e2
  · cases e2
end
/-! ### str(n) -/
def fStr : List D → Option D
  | [.int i] => if i.natAbs.log2 < 1920 then some (.str (toString i)) else none
  | _ => none
section
variable {X : Cx} {W : WK} {x : Str} {e : Expr} {es : List Expr} {A : Mo (List Ag)} {p pos : Pos}
theorem snd_str : SndF X.K fStr (fun xs H Q => ∃ i, xs = [V.int i] ∧ i.natAbs.log2 < 1920 ∧ Q (.str (toString i)) H) := fun B G H δ σ xs as d Q at' rx h k => by
  unfold fStr at h
  split at h
  · rename_i i
    split at h
    · rename_i hi
      cases h
      obtain ⟨v, rfl, rv⟩ := rl1 rx
      cases rv
      exact ⟨i, rfl, hi, k _ G H at' (Ext.refl _) (.str _)⟩
    · cases h
  · cases h
theorem de_str1 (hg : Gl X x) (hm : X.mg x = none) (hv : bootBuiltins x = some (.type "str")) (ha : DA X W (e :: es) A) (hn : x ≠ "__name__" := by decide) (hdb : (x == ("__debug__" : Str)) = false := by decide)
    (he : starEach (e :: es) X.env = (false, eval e X.env) :: starEach es X.env := by rfl) (hpl : (backTo pos (starEach es X.env)).any (·.1) = false := by rfl) : DE X W (.Call (.Name x p) (e :: es) [] pos) (eF fStr A) :=
  de_tCB snd_str (pe_callTy call_str_int hg hm hv ha hn hdb he hpl)
end
/-! ### d.get(k, x) -/
def eGet2 (Ea Eb Ec : Mo D) : Mo D := Ea.bind fun d => fun δ => if isDct d = true then (Eb.bind fun k => Ec.bind fun x => Mo.lift ((dGet d k).map fun o => o.getD x)) δ else none
section
variable {X : Cx} {W : WK} {o e f : Expr} {apos cpos : Pos} {Ea Eb Ec : Mo D}
theorem isd_of {K : PySem.W.Frag} {B : Bs} {G H : Hp} {δ : Env} {σ : St} {v : V} {d : D} (a : At K B G δ σ H) (r : R K G v d) (h : isDct d = true) : ∃ p, v = .ref p ∧ IsD H p := by
  cases r with
  | dK g l k r => exact ⟨_, rfl, .inl ⟨_, a.vw.rd g⟩⟩
  | dT g l k r => exact ⟨_, rfl, .inr ⟨_, a.vw.rd g⟩⟩
  | _ => cases h
theorem de_get2 (hu : X.A.units + 1 < cLine) (ha : DE X W o Ea) (hb : DE X W e Eb) (hc : DE X W f Ec)
    (base : attributeBase o "get" X.env (eval o X.env) = eval o X.env := by rfl)
    (few : ((backTo cpos (starEach [e, f] X.env)).all (fun x => !x.1) && (backToKw cpos (keywordEach [] X.env)).all (fun x => x.1.isSome)
    && decide (([e, f] : List Expr).length + ([] : List Keyword).length + (if ([] : List Keyword).isEmpty then 0 else 1) < 30)) = true := by rfl)
    (line : (apos.endLine == cpos.line) = true := by rfl) (trees : backTo cpos (starEach [e, f] X.env) = [(false, eval e X.env), (false, eval f X.env)] := by rfl) :
    DE X W (.Call (.Attribute o "get" apos) [e, f] [] cpos) (eGet2 Ea Eb Ec) :=
  PE.weak (pe_dget2 hu ha hb hc ⟨base, few, line, trees⟩) fun σ H Q ⟨B, G, δ, r, δ', at', e1, post⟩ => by
  refine tE_bind at' e1 post fun v H1 G1 δ1 d a1 x1 r1 e2 post => ?_
  split at e2
  · rename_i hd
    obtain ⟨p, rfl, hp⟩ := isd_of a1 r1 hd
    refine ⟨p, rfl, hp, ?_⟩
    refine tE_bind a1 e2 post fun y H2 G2 δ2 k a2 x2 r2 e3 post => ?_
    refine tE_bind a2 e3 post fun z H3 G3 δ3 x a3 x3 r3 e4 post => ?_
    obtain ⟨q, hq, hr⟩ := lift_some e4
    cases hr
    cases ho : dGet d k with
    | none => rw [ho] at hq; cases hq
    | some oo =>
      rw [ho] at hq
      cases hq
      obtain ⟨p2, o', e5, _, e6, e7⟩ := sh_get a3.vw ((r1.mono (x2.trans x3)).sh a3.vw) (r2.mono x3) ho
      cases e5
      refine ⟨o', e6, ?_⟩
      rcases e7 with ⟨v', d', rfl, rfl, rv⟩ | ⟨rfl, rfl⟩
      · exact post G3 H3 a3 (Ext.refl _) _ rv
      · exact post G3 H3 a3 (Ext.refl _) _ r3
  · cases e2
end
end M

set_option Elab.async false
set_option linter.all false
set_option maxRecDepth 100000
set_option maxHeartbeats 0
namespace M
open PySem L2 PySem.Spec PyProof.Rows
def top (i : Nat) : Stmt := PySem.Challenge.pw_laidviews_k16_whole_surely_seen.main.body.getD i (.Pass ⟨0, 0, 0, 0⟩)
structure Bi (mg : Str → Option Value) : Prop where
  abs : mg "abs" = none
  dict : mg "dict" = none
  int : mg "int" = none
  len : mg "len" = none
  list : mg "list" = none
  range : mg "range" = none
  sorted : mg "sorted" = none
  str : mg "str" = none
  sum : mg "sum" = none
  tuple : mg "tuple" = none
section
variable {P : Program} {w : World} {K : PySem.W.Frag} {mg : Str → Option Value} {base : Heap} {f : Addr} {fd : FuncData}
abbrev s__law_pool : Stmt := top 13
noncomputable def b__law_pool : Mo Out :=
 (sRetO (eLst (aCons (eC (.int 0)) (aCons (eF fList' (aCons (eV 0) aNil)) (aCons (eUn dNeg (eC (.int 1))) aNil)))))
noncomputable def m__law_pool : Mo D := fnO 1 1 b__law_pool
theorem sc__law_pool : FnScope ["_law_script"] ["_law_script"] (defScope s__law_pool) := ⟨rfl, rfl, rfl, by decide +kernel, rfl, by decide +kernel, by decide +kernel⟩
theorem nd__law_pool : List.Nodup (α := Str) ["_law_script"] := by decide +kernel
theorem ok__law_pool (F : Fun K "_law_pool" "_law_pool" s__law_pool f fd) (T : Bi mg)  : FnOk P w K mg base CX0 1 f fd ["_law_script"] (spM Wn K 1 true m__law_pool) :=
 fn_okO F sc__law_pool rfl fun cdv A outer s H E hr =>
 (dss_one (ds_retO (do_lst (da_cons de_int (da_cons (DO.de (do_list (by rfl) (by rfl) T.list bt_list (da_cons (de_v (pv 0)) da_nil (by rfl)) (by decide) (by decide) (by rfl) (by rfl))) (da_cons (de_neg de_int) da_nil (by rfl)) (by rfl)) (by rfl)))))
abbrev s__law_wide : Stmt := top 11
noncomputable def b__law_wide : Mo Out :=
 (sSeq (sAsg (gN 2) (eC (.int 0)))
 (sSeq (sIf (eB (eBin dLt (eV 1) (eF fLen (aCons (eV 0) aNil))))
 (sAsg (gN 2) (eF fAbs (aCons (eIxV 0 (eV 1)) aNil)))
 sNx)
 (sSeq (sIf (eB (eBin dGe (eV 2) (eC (.int 1000000000000000000))))
 (sRet (eV 2))
 sNx)
 (sSeq (sAsg (gN 3) (eBin dMod (eF fInt (aCons (eBin dAdd (eBin dMul (eBin dAdd (eV 2) (eC (.int 1))) (eC (.int 6364136223846793005))) (eBin dMul (eBin dAdd (eV 1) (eC (.int 1))) (eC (.int 1442695040888963407)))) aNil)) (eC (.int 2305843009213693951))))
 (sRet (eBin dMod (eF fInt (aCons (eBin dAdd (eBin dMul (eV 3) (eC (.int 3202034522624059733))) (eBin dDiv (eV 3) (eC (.int 1000003)))) aNil)) (eC (.int 2305843009213693951))))))))
noncomputable def m__law_wide : Mo D := fnM 4 2 b__law_wide
theorem sc__law_wide : FnScope ["_law_script", "_law_k", "_law_cell", "_law_mixed"] ["_law_script", "_law_k"] (defScope s__law_wide) := ⟨rfl, rfl, rfl, by decide +kernel, rfl, by decide +kernel, by decide +kernel⟩
theorem nd__law_wide : List.Nodup (α := Str) ["_law_script", "_law_k", "_law_cell", "_law_mixed"] := by decide +kernel
theorem ok__law_wide (F : Fun K "_law_wide" "_law_wide" s__law_wide f fd) (T : Bi mg)  : FnOk P w K mg base CX0 1 f fd ["_law_script", "_law_k"] (spM Wn K 2 false m__law_wide) :=
 fn_ok F sc__law_wide rfl fun cdv A outer s H E hr =>
 (dss_cons (ds_set nd__law_wide rfl (by first | exact Or.inl rfl | exact Or.inr rfl) de_int (by rfl) (by first | exact Or.inl rfl | exact Or.inr rfl | assumption))
 (dss_cons (ds_if (dt_lt (de_v (pv 1)) (de_len (by rfl) T.len bt_len (da_cons (de_v (pv 0)) da_nil (by rfl)) (by decide) (by decide) (by rfl) (by rfl)))
 (dss_one (ds_set nd__law_wide rfl (by first | exact Or.inl rfl | exact Or.inr rfl) (de_abs (by rfl) T.abs bt_abs (da_cons (de_ixV hr.u1 (pv 0) (de_v (pv 1)) (by intro _ _; rfl) (by intro _ _; rfl)) da_nil (by rfl)) (by decide) (by decide) (by rfl) (by rfl)) (by rfl) (by first | exact Or.inl rfl | exact Or.inr rfl | assumption)))
 dss_nil)
 (dss_cons (ds_if (dt_ge (de_v (pv 2)) de_int)
 (dss_one (ds_ret (de_v (pv 2))))
 dss_nil)
 (dss_cons (ds_set nd__law_wide rfl (by first | exact Or.inl rfl | exact Or.inr rfl) (de_mod (de_int1 (by rfl) T.int bt_int (da_cons (de_add (de_mul (de_add (de_v (pv 2)) de_int) de_int) (de_mul (de_add (de_v (pv 1)) de_int) de_int)) da_nil (by rfl)) (by decide) (by decide) (by rfl) (by rfl)) de_int) (by rfl) (by first | exact Or.inl rfl | exact Or.inr rfl | assumption))
 (dss_one (ds_ret (de_mod (de_int1 (by rfl) T.int bt_int (da_cons (de_add (de_mul (de_v (pv 3)) de_int) (de_div (de_v (pv 3)) de_int)) da_nil (by rfl)) (by decide) (by decide) (by rfl) (by rfl)) de_int)))))))
abbrev s__law_take : Stmt := top 12
noncomputable def b__law_take : Mo Out :=
 (sSeq (sIf (eB (eBin dLt (eIxV 0 (eC (.int 0))) (eC (.int 1000))))
 (sSeq (sSet 0 (eC (.int 2)) (eBin dAdd (eIxV 0 (eC (.int 2))) (eC (.int 1))))
 (sSet 0 (eC (.int 0)) (eCall m__law_wide (aCons (eIxV 0 (eC (.int 1))) (aCons (eIxV 0 (eC (.int 2))) aNil)))))
 sNx)
 (sSeq (sAsg (gN 2) (eBin dMod (eF fInt (aCons (eIxV 0 (eC (.int 0))) aNil)) (eV 1)))
 (sSeq (sSet 0 (eC (.int 0)) (eBin dDiv (eIxV 0 (eC (.int 0))) (eV 1)))
 (sRet (eV 2)))))
noncomputable def m__law_take : Mo D := fnM 3 2 b__law_take
theorem sc__law_take : FnScope ["_law_pool_here", "_law_most", "_law_taken"] ["_law_pool_here", "_law_most"] (defScope s__law_take) := ⟨rfl, rfl, rfl, by decide +kernel, rfl, by decide +kernel, by decide +kernel⟩
theorem nd__law_take : List.Nodup (α := Str) ["_law_pool_here", "_law_most", "_law_taken"] := by decide +kernel
theorem ok__law_take (F : Fun K "_law_take" "_law_take" s__law_take f fd) (T : Bi mg) (C__law_wide : CalM P w K mg base 1 "_law_wide" 2 false m__law_wide) : FnOk P w K mg base CX0 2 f fd ["_law_pool_here", "_law_most"] (spM Wn K 2 false m__law_take) :=
 fn_ok F sc__law_take rfl fun cdv A outer s H E hr =>
 (dss_cons (ds_if (dt_lt (de_ixV hr.u1 (pv 0) de_int (by intro _ _; rfl) (by intro _ _; rfl)) de_int)
 (dss_cons (ds_sub hr.u1 (pv 0) de_int (de_add (de_ixV hr.u1 (pv 0) de_int (by intro _ _; rfl) (by intro _ _; rfl)) de_int) (by rfl) (by rfl))
 (dss_one (ds_sub hr.u1 (pv 0) de_int (de_callC C__law_wide (hr.mono (by decide)) (by rfl) (alen_cons (alen_cons alen_nil)) (da_cons (de_ixV hr.u1 (pv 0) de_int (by intro _ _; rfl) (by intro _ _; rfl)) (da_cons (de_ixV hr.u1 (pv 0) de_int (by intro _ _; rfl) (by intro _ _; rfl)) da_nil (by rfl)) (by rfl)) (by decide) (by rfl) (by rfl)) (by rfl) (by rfl))))
 dss_nil)
 (dss_cons (ds_set nd__law_take rfl (by first | exact Or.inl rfl | exact Or.inr rfl) (de_mod (de_int1 (by rfl) T.int bt_int (da_cons (de_ixV hr.u1 (pv 0) de_int (by intro _ _; rfl) (by intro _ _; rfl)) da_nil (by rfl)) (by decide) (by decide) (by rfl) (by rfl)) (de_v (pv 1))) (by rfl) (by first | exact Or.inl rfl | exact Or.inr rfl | assumption))
 (dss_cons (ds_sub hr.u1 (pv 0) de_int (de_div (de_ixV hr.u1 (pv 0) de_int (by intro _ _; rfl) (by intro _ _; rfl)) (de_v (pv 1))) (by rfl) (by rfl))
 (dss_one (ds_ret (de_v (pv 2)))))))
abbrev s__law_ground : Stmt := top 14
noncomputable def b__law_ground : Mo Out :=
 (sSeq (sAsgO 3 (eD0 (.dT [])))
 (sSeq (sFor (iRg rg1 (aCons (eBin dAdd (eC (.int 1)) (eCall m__law_take (aVr 0 (aCons (eV 1) aNil)))) aNil)) (gN 4)
 (sSeq (sAsgO 5 (eLst aNil))
 (sSeq (sFor (iRg rg1 (aCons (eBin dAdd (eC (.int 1)) (eCall m__law_take (aVr 0 (aCons (eV 2) aNil)))) aNil)) (gN 6)
 (sApp 5 (eTup (aCons (eBin dAdd (eC (.str "v")) (eF fStr (aCons (eV 6) aNil))) (aCons (eIx (eLst (aCons (eC (.int 0)) (aCons (eC (.int 1)) (aCons (eC (.int 2)) (aCons (eC (.int 5)) (aCons (eUn dNeg (eC (.int 3))) aNil)))))) (eCall m__law_take (aVr 0 (aCons (eC (.int 5)) aNil)))) aNil)))))
 (sSet 3 (eTup (aCons (eBin dMod (eV 4) (eC (.int 2))) (aCons (eBin dDiv (eV 4) (eC (.int 2))) aNil))) (eF fTuple (aCons (eV 5) aNil))))))
 (sRet (eV 3))))
noncomputable def m__law_ground : Mo D := fnM 7 3 b__law_ground
theorem sc__law_ground : FnScope ["_law_pool_here", "_law_cells", "_law_most", "_law_ground_here", "_law_k", "_law_told", "_law_j"] ["_law_pool_here", "_law_cells", "_law_most"] (defScope s__law_ground) := ⟨rfl, rfl, rfl, by decide +kernel, rfl, by decide +kernel, by decide +kernel⟩
theorem nd__law_ground : List.Nodup (α := Str) ["_law_pool_here", "_law_cells", "_law_most", "_law_ground_here", "_law_k", "_law_told", "_law_j"] := by decide +kernel
theorem ok__law_ground (F : Fun K "_law_ground" "_law_ground" s__law_ground f fd) (T : Bi mg) (C__law_take : CalM P w K mg base 2 "_law_take" 2 false m__law_take) : FnOk P w K mg base CX0 3 f fd ["_law_pool_here", "_law_cells", "_law_most"] (spM Wn K 3 false m__law_ground) :=
 fn_ok F sc__law_ground rfl fun cdv A outer s H E hr =>
 (dss_cons (ds_setO nd__law_ground rfl (by first | exact Or.inl rfl | exact Or.inr rfl) do_new0T (by rfl) (by first | exact Or.inl rfl | exact Or.inr rfl | assumption))
 (dss_cons (ds_for PassesOwn.never rfl calm_N (di_rg1 (by rfl) T.range (da_cons (de_add de_int (de_callC C__law_take (hr.mono (by decide)) (by rfl) (alen_vr (alen_cons alen_nil)) (da_vr (pv 0) (da_cons (de_v (pv 1)) da_nil (by rfl)) (by rfl)) (by decide) (by rfl) (by rfl))) da_nil (by rfl)) (by rfl)) (dg_name nd__law_ground rfl (by first | exact Or.inl rfl | exact Or.inr rfl) (by first | exact Or.inl rfl | exact Or.inr rfl | assumption))
 (dss_cons (ds_setO nd__law_ground rfl (by first | exact Or.inl rfl | exact Or.inr rfl) (do_lst da_nil) (by rfl) (by first | exact Or.inl rfl | exact Or.inr rfl | assumption))
 (dss_cons (ds_for PassesOwn.never rfl calm_N (di_rg1 (by rfl) T.range (da_cons (de_add de_int (de_callC C__law_take (hr.mono (by decide)) (by rfl) (alen_vr (alen_cons alen_nil)) (da_vr (pv 0) (da_cons (de_v (pv 2)) da_nil (by rfl)) (by rfl)) (by decide) (by rfl) (by rfl))) da_nil (by rfl)) (by rfl)) (dg_name nd__law_ground rfl (by first | exact Or.inl rfl | exact Or.inr rfl) (by first | exact Or.inl rfl | exact Or.inr rfl | assumption))
 (dss_one (ds_app (pv 5) (de_tup (da_cons (de_add de_str (de_str1 (by rfl) T.str bt_str (da_cons (de_v (pv 6)) da_nil (by rfl)) (by decide) (by decide) (by rfl) (by rfl))) (da_cons (de_ix hr.u1 (DO.de (do_lst (da_cons de_int (da_cons de_int (da_cons de_int (da_cons de_int (da_cons (de_neg de_int) da_nil (by rfl)) (by rfl)) (by rfl)) (by rfl)) (by rfl)))) (de_callC C__law_take (hr.mono (by decide)) (by rfl) (alen_vr (alen_cons alen_nil)) (da_vr (pv 0) (da_cons de_int da_nil (by rfl)) (by rfl)) (by decide) (by rfl) (by rfl)) (by intro _ _; rfl) (by intro _ _; rfl)) da_nil (by rfl)) (by rfl))) (by rfl))) (by intro _; rfl))
 (dss_one (ds_sub hr.u1 (pv 3) (de_tup (da_cons (de_mod (de_v (pv 4)) de_int) (da_cons (de_div (de_v (pv 4)) de_int) da_nil (by rfl)) (by rfl))) (de_tuple (by rfl) T.tuple bt_tuple (da_cons (de_v (pv 5)) da_nil (by rfl)) (by decide) (by decide) (by rfl) (by rfl)) (by rfl) (by rfl))))) (by intro _; rfl))
 (dss_one (ds_ret (de_v (pv 3))))))
abbrev s_cost : Stmt := top 3
noncomputable def b_cost : Mo Out :=
 (sRet (eF fLen (aCons (eLc (iOf (eIxV 0 (eV 1))) (gT 2 (gCons (gN 3) (gCons (gN 4) gNil))) (eB (eBin dNe (eV 4) (eV 2))) (eV 4) [3, 4]) aNil)))
noncomputable def m_cost : Mo D := fnM 5 3 b_cost
theorem sc_cost : FnScope ["ground", "cell", "value", "name", "told"] ["ground", "cell", "value"] (defScope s_cost) := ⟨rfl, rfl, rfl, by decide +kernel, rfl, by decide +kernel, by decide +kernel⟩
theorem nd_cost : List.Nodup (α := Str) ["ground", "cell", "value", "name", "told"] := by decide +kernel
theorem ok_cost (F : Fun K "cost" "cost" s_cost f fd) (T : Bi mg)  : FnOk P w K mg base CX0 1 f fd ["ground", "cell", "value"] (spM Wn K 3 false m_cost) :=
 fn_ok F sc_cost rfl fun cdv A outer s H E hr =>
 (dss_one (ds_ret (de_len (by rfl) T.len bt_len (da_cons (DO.de (do_lc (own := [("name", 3), ("told", 4)]) (by rfl) nd_cost (di_of (de_ixV hr.u1 (pv 0) (de_v (pv 1)) (by intro _ _; rfl) (by intro _ _; rfl))) (blkOk_by (N := ["ground", "cell", "value", "name", "told"]) (sc := (defScope s_cost)) (own := [("name", 3), ("told", 4)]) (by decide +kernel)) (by decide) (fun _ _ _ _ _ => (dg_tup rfl (dgs_cons (dg_name nd_cost rfl (by first | exact Or.inl rfl | exact Or.inr rfl) (by first | exact Or.inl rfl | exact Or.inr rfl | assumption)) (dgs_cons (dg_name nd_cost rfl (by first | exact Or.inl rfl | exact Or.inr rfl) (by first | exact Or.inl rfl | exact Or.inr rfl | assumption)) dgs_nil (by rfl)) (by rfl)) (by rfl) (by rfl))) (fun _ _ _ _ _ => (dts_one (dt_ne hr.units (de_v (pv 4)) (de_v (pv 2))))) (fun _ _ _ _ _ => (de_v (pv 4))) (by intro _; rfl))) da_nil (by rfl)) (by decide) (by decide) (by rfl) (by rfl))))
abbrev s_values_at : Stmt := top 1
noncomputable def b_values_at : Mo Out :=
 (sRet (eSortSc (iOf (eGet2 (eV 0) (eV 1) (eTup aNil))) (gT 2 (gCons (gN 2) (gCons (gN 3) gNil))) tYesM (eV 3) [2, 3]))
noncomputable def m_values_at : Mo D := fnM 4 2 b_values_at
theorem sc_values_at : FnScope ["ground", "cell", "name", "value"] ["ground", "cell"] (defScope s_values_at) := ⟨rfl, rfl, rfl, by decide +kernel, rfl, by decide +kernel, by decide +kernel⟩
theorem nd_values_at : List.Nodup (α := Str) ["ground", "cell", "name", "value"] := by decide +kernel
theorem ok_values_at (F : Fun K "values_at" "values_at" s_values_at f fd) (T : Bi mg)  : FnOk P w K mg base CX0 1 f fd ["ground", "cell"] (spM Wn K 2 false m_values_at) :=
 fn_ok F sc_values_at rfl fun cdv A outer s H E hr =>
 (dss_one (ds_ret (DO.de (do_sortSc (own := [("name", 2), ("value", 3)]) (by rfl) T.sorted bt_sorted (by rfl) nd_values_at (di_of (de_get2 hr.u1 (de_v (pv 0)) (de_v (pv 1)) (de_tup da_nil) (by rfl) (by rfl) (by rfl) (by rfl))) (blkOk_by (N := ["ground", "cell", "name", "value"]) (sc := (defScope s_values_at)) (own := [("name", 2), ("value", 3)]) (by decide +kernel)) (by decide) (fun _ _ _ _ _ => (dg_tup rfl (dgs_cons (dg_name nd_values_at rfl (by first | exact Or.inl rfl | exact Or.inr rfl) (by first | exact Or.inl rfl | exact Or.inr rfl | assumption)) (dgs_cons (dg_name nd_values_at rfl (by first | exact Or.inl rfl | exact Or.inr rfl) (by first | exact Or.inl rfl | exact Or.inr rfl | assumption)) dgs_nil (by rfl)) (by rfl)) (by rfl) (by rfl))) (fun _ _ _ _ _ => dts_nil) (fun _ _ _ _ _ => (de_v (pv 3))) (by intro _; rfl) (by decide) (by decide) (by rfl) (by rfl)))))
abbrev s_best : Stmt := top 4
noncomputable def b_best : Mo Out :=
 (sSeq (sAsg (gN 2) (eC .non))
 (sSeq (sFor (iOf (eCall m_values_at (aCons (eV 0) (aCons (eV 1) aNil)))) (gN 3)
 (sIf (tOrM (eB (eBin (dIs false) (eV 2) (eC .non))) (eB (eBin dLt (eCall m_cost (aCons (eV 0) (aCons (eV 1) (aCons (eV 3) aNil)))) (eCall m_cost (aCons (eV 0) (aCons (eV 1) (aCons (eV 2) aNil)))))))
 (sAsg (gN 2) (eV 3))
 sNx))
 (sRet (eV 2))))
noncomputable def m_best : Mo D := fnM 4 2 b_best
theorem sc_best : FnScope ["ground", "cell", "found", "value"] ["ground", "cell"] (defScope s_best) := ⟨rfl, rfl, rfl, by decide +kernel, rfl, by decide +kernel, by decide +kernel⟩
theorem nd_best : List.Nodup (α := Str) ["ground", "cell", "found", "value"] := by decide +kernel
theorem ok_best (F : Fun K "best" "best" s_best f fd) (T : Bi mg) (C_values_at : CalM P w K mg base 1 "values_at" 2 false m_values_at) (C_cost : CalM P w K mg base 1 "cost" 3 false m_cost) : FnOk P w K mg base CX0 2 f fd ["ground", "cell"] (spM Wn K 2 false m_best) :=
 fn_ok F sc_best rfl fun cdv A outer s H E hr =>
 (dss_cons (ds_set nd_best rfl (by first | exact Or.inl rfl | exact Or.inr rfl) de_non (by rfl) (by first | exact Or.inl rfl | exact Or.inr rfl | assumption))
 (dss_cons (ds_for PassesOwn.never rfl calm_N (di_of (de_callC C_values_at (hr.mono (by decide)) (by rfl) (alen_cons (alen_cons alen_nil)) (da_cons (de_v (pv 0)) (da_cons (de_v (pv 1)) da_nil (by rfl)) (by rfl)) (by decide) (by rfl) (by rfl))) (dg_name nd_best rfl (by first | exact Or.inl rfl | exact Or.inr rfl) (by first | exact Or.inl rfl | exact Or.inr rfl | assumption))
 (dss_one (ds_if (dw_t (dw_or (dt_isN (de_v (pv 2)) de_non) (dw_or1 (dt_lt (de_callC C_cost (hr.mono (by decide)) (by rfl) (alen_cons (alen_cons (alen_cons alen_nil))) (da_cons (de_v (pv 0)) (da_cons (de_v (pv 1)) (da_cons (de_v (pv 3)) da_nil (by rfl)) (by rfl)) (by rfl)) (by decide) (by rfl) (by rfl)) (de_callC C_cost (hr.mono (by decide)) (by rfl) (alen_cons (alen_cons (alen_cons alen_nil))) (da_cons (de_v (pv 0)) (da_cons (de_v (pv 1)) (da_cons (de_v (pv 2)) da_nil (by rfl)) (by rfl)) (by rfl)) (by decide) (by rfl) (by rfl))))))
 (dss_one (ds_set nd_best rfl (by first | exact Or.inl rfl | exact Or.inr rfl) (de_v (pv 3)) (by rfl) (by first | exact Or.inl rfl | exact Or.inr rfl | assumption)))
 dss_nil)) (by intro _; rfl))
 (dss_one (ds_ret (de_v (pv 2))))))
abbrev s_least_cost : Stmt := top 7
noncomputable def b_least_cost : Mo Out :=
 (sRet (eF fSum (aCons (eLc (iKy 0) (gN 1) tYesM (eCall m_cost (aCons (eV 0) (aCons (eV 1) (aCons (eCall m_best (aCons (eV 0) (aCons (eV 1) aNil))) aNil)))) [1]) aNil)))
noncomputable def m_least_cost : Mo D := fnM 2 1 b_least_cost
theorem sc_least_cost : FnScope ["ground", "cell"] ["ground"] (defScope s_least_cost) := ⟨rfl, rfl, rfl, by decide +kernel, rfl, by decide +kernel, by decide +kernel⟩
theorem nd_least_cost : List.Nodup (α := Str) ["ground", "cell"] := by decide +kernel
theorem ok_least_cost (F : Fun K "least_cost" "least_cost" s_least_cost f fd) (T : Bi mg) (C_best : CalM P w K mg base 2 "best" 2 false m_best) (C_cost : CalM P w K mg base 1 "cost" 3 false m_cost) : FnOk P w K mg base CX0 3 f fd ["ground"] (spM Wn K 1 false m_least_cost) :=
 fn_ok F sc_least_cost rfl fun cdv A outer s H E hr =>
 (dss_one (ds_ret (de_sum (by rfl) (by rfl) T.sum bt_sum (da_cons (DO.de (do_lcK (own := [("cell", 1)]) (by rfl) nd_least_cost (pv 0) (blkOk_by (N := ["ground", "cell"]) (sc := (defScope s_least_cost)) (own := [("cell", 1)]) (by decide +kernel)) (by decide) (fun _ _ _ _ _ => (dg_name nd_least_cost rfl (by first | exact Or.inl rfl | exact Or.inr rfl) (by first | exact Or.inl rfl | exact Or.inr rfl | assumption))) (fun _ _ _ _ _ => dts_nil) (fun _ _ _ _ _ => (de_callC C_cost (hr.mono (by decide)) (by rfl) (alen_cons (alen_cons (alen_cons alen_nil))) (da_cons (de_v (pv 0)) (da_cons (de_v (pv 1)) (da_cons (de_callC C_best (hr.mono (by decide)) (by rfl) (alen_cons (alen_cons alen_nil)) (da_cons (de_v (pv 0)) (da_cons (de_v (pv 1)) da_nil (by rfl)) (by rfl)) (by decide) (by rfl) (by rfl)) da_nil (by rfl)) (by rfl)) (by rfl)) (by decide) (by rfl) (by rfl))) (by intro _; rfl))) da_nil (by rfl)) (by decide) (by decide) (by rfl) (by rfl))))
abbrev s_least_untold : Stmt := top 5
noncomputable def b_least_untold : Mo Out :=
 (sSeq (sAsg (gN 1) (eC (.int 0)))
 (sSeq (sWhile (eB (eBin (dIn false) (eV 1) (eV 0)))
 (sAsg (gN 1) (eBin dAdd (eV 1) (eC (.int 1)))))
 (sRet (eV 1))))
noncomputable def m_least_untold : Mo D := fnM 2 1 b_least_untold
theorem sc_least_untold : FnScope ["told", "value"] ["told"] (defScope s_least_untold) := ⟨rfl, rfl, rfl, by decide +kernel, rfl, by decide +kernel, by decide +kernel⟩
theorem nd_least_untold : List.Nodup (α := Str) ["told", "value"] := by decide +kernel
theorem ok_least_untold (F : Fun K "least_untold" "least_untold" s_least_untold f fd) (T : Bi mg)  : FnOk P w K mg base CX0 1 f fd ["told"] (spM Wn K 1 false m_least_untold) :=
 fn_ok F sc_least_untold rfl fun cdv A outer s H E hr =>
 (dss_cons (ds_set nd_least_untold rfl (by first | exact Or.inl rfl | exact Or.inr rfl) de_int (by rfl) (by first | exact Or.inl rfl | exact Or.inr rfl | assumption))
 (dss_cons (ds_while PassesOwn.never (dt_in hr.u65 (de_v (pv 1)) (de_v (pv 0)) (by rfl))
 (dss_one (ds_set nd_least_untold rfl (by first | exact Or.inl rfl | exact Or.inr rfl) (de_add (de_v (pv 1)) de_int) (by rfl) (by first | exact Or.inl rfl | exact Or.inr rfl | assumption))))
 (dss_one (ds_ret (de_v (pv 1))))))
abbrev s_other : Stmt := top 6
noncomputable def b_other : Mo Out :=
 (sSeq (sAsg (gN 2) (eCall m_values_at (aCons (eV 0) (aCons (eV 1) aNil))))
 (sSeq (sAsg (gN 3) (eCall m_best (aCons (eV 0) (aCons (eV 1) aNil))))
 (sSeq (sAsg (gN 4) (eBin dAdd (eLc (iOf (eV 2)) (gN 6) (eB (eBin dNe (eV 6) (eV 3))) (eV 6) [6]) (eLst (aCons (eCall m_least_untold (aCons (eV 2) aNil)) aNil))))
 (sSeq (sAsg (gN 5) (eC .non))
 (sSeq (sFor (iOf (eF fSortI (aCons (eV 4) aNil))) (gN 6)
 (sIf (tOrM (eB (eBin (dIs false) (eV 5) (eC .non))) (eB (eBin dLt (eCall m_cost (aCons (eV 0) (aCons (eV 1) (aCons (eV 6) aNil)))) (eCall m_cost (aCons (eV 0) (aCons (eV 1) (aCons (eV 5) aNil)))))))
 (sAsg (gN 5) (eV 6))
 sNx))
 (sRet (eV 5)))))))
noncomputable def m_other : Mo D := fnM 7 2 b_other
theorem sc_other : FnScope ["ground", "cell", "told", "first", "rest", "found", "value"] ["ground", "cell"] (defScope s_other) := ⟨rfl, rfl, rfl, by decide +kernel, rfl, by decide +kernel, by decide +kernel⟩
theorem nd_other : List.Nodup (α := Str) ["ground", "cell", "told", "first", "rest", "found", "value"] := by decide +kernel
theorem ok_other (F : Fun K "other" "other" s_other f fd) (T : Bi mg) (C_values_at : CalM P w K mg base 1 "values_at" 2 false m_values_at) (C_best : CalM P w K mg base 2 "best" 2 false m_best) (C_least_untold : CalM P w K mg base 1 "least_untold" 1 false m_least_untold) (C_cost : CalM P w K mg base 1 "cost" 3 false m_cost) : FnOk P w K mg base CX0 3 f fd ["ground", "cell"] (spM Wn K 2 false m_other) :=
 fn_ok F sc_other rfl fun cdv A outer s H E hr =>
 (dss_cons (ds_set nd_other rfl (by first | exact Or.inl rfl | exact Or.inr rfl) (de_callC C_values_at (hr.mono (by decide)) (by rfl) (alen_cons (alen_cons alen_nil)) (da_cons (de_v (pv 0)) (da_cons (de_v (pv 1)) da_nil (by rfl)) (by rfl)) (by decide) (by rfl) (by rfl)) (by rfl) (by first | exact Or.inl rfl | exact Or.inr rfl | assumption))
 (dss_cons (ds_set nd_other rfl (by first | exact Or.inl rfl | exact Or.inr rfl) (de_callC C_best (hr.mono (by decide)) (by rfl) (alen_cons (alen_cons alen_nil)) (da_cons (de_v (pv 0)) (da_cons (de_v (pv 1)) da_nil (by rfl)) (by rfl)) (by decide) (by rfl) (by rfl)) (by rfl) (by first | exact Or.inl rfl | exact Or.inr rfl | assumption))
 (dss_cons (ds_set nd_other rfl (by first | exact Or.inl rfl | exact Or.inr rfl) (de_add (DO.de (do_lc (own := [("value", 6)]) (by rfl) nd_other (di_of (de_v (pv 2))) (blkOk_by (N := ["ground", "cell", "told", "first", "rest", "found", "value"]) (sc := (defScope s_other)) (own := [("value", 6)]) (by decide +kernel)) (by decide) (fun _ _ _ _ _ => (dg_name nd_other rfl (by first | exact Or.inl rfl | exact Or.inr rfl) (by first | exact Or.inl rfl | exact Or.inr rfl | assumption))) (fun _ _ _ _ _ => (dts_one (dt_ne hr.units (de_v (pv 6)) (de_v (pv 3))))) (fun _ _ _ _ _ => (de_v (pv 6))) (by intro _; rfl))) (DO.de (do_lst (da_cons (de_callC C_least_untold (hr.mono (by decide)) (by rfl) (alen_cons alen_nil) (da_cons (de_v (pv 2)) da_nil (by rfl)) (by decide) (by rfl) (by rfl)) da_nil (by rfl))))) (by rfl) (by first | exact Or.inl rfl | exact Or.inr rfl | assumption))
 (dss_cons (ds_set nd_other rfl (by first | exact Or.inl rfl | exact Or.inr rfl) de_non (by rfl) (by first | exact Or.inl rfl | exact Or.inr rfl | assumption))
 (dss_cons (ds_for PassesOwn.never rfl calm_N (di_of (DO.de (do_sortI (by rfl) (by rfl) T.sorted bt_sorted (da_cons (de_v (pv 4)) da_nil (by rfl)) (by decide) (by decide) (by rfl) (by rfl)))) (dg_name nd_other rfl (by first | exact Or.inl rfl | exact Or.inr rfl) (by first | exact Or.inl rfl | exact Or.inr rfl | assumption))
 (dss_one (ds_if (dw_t (dw_or (dt_isN (de_v (pv 5)) de_non) (dw_or1 (dt_lt (de_callC C_cost (hr.mono (by decide)) (by rfl) (alen_cons (alen_cons (alen_cons alen_nil))) (da_cons (de_v (pv 0)) (da_cons (de_v (pv 1)) (da_cons (de_v (pv 6)) da_nil (by rfl)) (by rfl)) (by rfl)) (by decide) (by rfl) (by rfl)) (de_callC C_cost (hr.mono (by decide)) (by rfl) (alen_cons (alen_cons (alen_cons alen_nil))) (da_cons (de_v (pv 0)) (da_cons (de_v (pv 1)) (da_cons (de_v (pv 5)) da_nil (by rfl)) (by rfl)) (by rfl)) (by decide) (by rfl) (by rfl))))))
 (dss_one (ds_set nd_other rfl (by first | exact Or.inl rfl | exact Or.inr rfl) (de_v (pv 6)) (by rfl) (by first | exact Or.inl rfl | exact Or.inr rfl | assumption)))
 dss_nil)) (by intro _; rfl))
 (dss_one (ds_ret (de_v (pv 5)))))))))
abbrev s_is_sure : Stmt := top 8
noncomputable def b_is_sure : Mo Out :=
 (sSeq (sAsg (gN 4) (eBin dSub (eV 3) (eCall m_cost (aCons (eV 0) (aCons (eV 2) (aCons (eCall m_best (aCons (eV 0) (aCons (eV 2) aNil))) aNil))))))
 (sRet (eAnd (eBin dLe (eV 3) (eV 1)) (eBin dGt (eBin dAdd (eV 4) (eCall m_cost (aCons (eV 0) (aCons (eV 2) (aCons (eCall m_other (aCons (eV 0) (aCons (eV 2) aNil))) aNil))))) (eV 1)))))
noncomputable def m_is_sure : Mo D := fnM 5 4 b_is_sure
theorem sc_is_sure : FnScope ["ground", "faults", "cell", "least", "rest"] ["ground", "faults", "cell", "least"] (defScope s_is_sure) := ⟨rfl, rfl, rfl, by decide +kernel, rfl, by decide +kernel, by decide +kernel⟩
theorem nd_is_sure : List.Nodup (α := Str) ["ground", "faults", "cell", "least", "rest"] := by decide +kernel
theorem ok_is_sure (F : Fun K "is_sure" "is_sure" s_is_sure f fd) (T : Bi mg) (C_best : CalM P w K mg base 2 "best" 2 false m_best) (C_cost : CalM P w K mg base 1 "cost" 3 false m_cost) (C_other : CalM P w K mg base 3 "other" 2 false m_other) : FnOk P w K mg base CX0 4 f fd ["ground", "faults", "cell", "least"] (spM Wn K 4 false m_is_sure) :=
 fn_ok F sc_is_sure rfl fun cdv A outer s H E hr =>
 (dss_cons (ds_set nd_is_sure rfl (by first | exact Or.inl rfl | exact Or.inr rfl) (de_sub (de_v (pv 3)) (de_callC C_cost (hr.mono (by decide)) (by rfl) (alen_cons (alen_cons (alen_cons alen_nil))) (da_cons (de_v (pv 0)) (da_cons (de_v (pv 2)) (da_cons (de_callC C_best (hr.mono (by decide)) (by rfl) (alen_cons (alen_cons alen_nil)) (da_cons (de_v (pv 0)) (da_cons (de_v (pv 2)) da_nil (by rfl)) (by rfl)) (by decide) (by rfl) (by rfl)) da_nil (by rfl)) (by rfl)) (by rfl)) (by decide) (by rfl) (by rfl))) (by rfl) (by first | exact Or.inl rfl | exact Or.inr rfl | assumption))
 (dss_one (ds_ret (de_and (de_le (de_v (pv 3)) (de_v (pv 1))) (de_one (de_gt (de_add (de_v (pv 4)) (de_callC C_cost (hr.mono (by decide)) (by rfl) (alen_cons (alen_cons (alen_cons alen_nil))) (da_cons (de_v (pv 0)) (da_cons (de_v (pv 2)) (da_cons (de_callC C_other (hr.mono (by decide)) (by rfl) (alen_cons (alen_cons alen_nil)) (da_cons (de_v (pv 0)) (da_cons (de_v (pv 2)) da_nil (by rfl)) (by rfl)) (by decide) (by rfl) (by rfl)) da_nil (by rfl)) (by rfl)) (by rfl)) (by decide) (by rfl) (by rfl))) (de_v (pv 1))))))))
abbrev s_sure : Stmt := top 9
noncomputable def b_sure : Mo Out :=
 (sSeq (sAsg (gN 2) (eCall m_least_cost (aCons (eV 0) aNil)))
 (sSeq (sIf (eB (eBin dGt (eV 2) (eV 1)))
 (sRet (eC .non))
 sNx)
 (sRet (eDcT (iKy 0) (gN 3) (eTru (eCall m_is_sure (aCons (eV 0) (aCons (eV 1) (aCons (eV 3) (aCons (eV 2) aNil)))))) (eV 3) (eCall m_best (aCons (eV 0) (aCons (eV 3) aNil))) [3]))))
noncomputable def m_sure : Mo D := fnM 4 2 b_sure
theorem sc_sure : FnScope ["ground", "faults", "least", "cell"] ["ground", "faults"] (defScope s_sure) := ⟨rfl, rfl, rfl, by decide +kernel, rfl, by decide +kernel, by decide +kernel⟩
theorem nd_sure : List.Nodup (α := Str) ["ground", "faults", "least", "cell"] := by decide +kernel
theorem ok_sure (F : Fun K "sure" "sure" s_sure f fd) (T : Bi mg) (C_least_cost : CalM P w K mg base 3 "least_cost" 1 false m_least_cost) (C_is_sure : CalM P w K mg base 4 "is_sure" 4 false m_is_sure) (C_best : CalM P w K mg base 2 "best" 2 false m_best) : FnOk P w K mg base CX0 5 f fd ["ground", "faults"] (spM Wn K 2 false m_sure) :=
 fn_ok F sc_sure rfl fun cdv A outer s H E hr =>
 (dss_cons (ds_set nd_sure rfl (by first | exact Or.inl rfl | exact Or.inr rfl) (de_callC C_least_cost (hr.mono (by decide)) (by rfl) (alen_cons alen_nil) (da_cons (de_v (pv 0)) da_nil (by rfl)) (by decide) (by rfl) (by rfl)) (by rfl) (by first | exact Or.inl rfl | exact Or.inr rfl | assumption))
 (dss_cons (ds_if (dt_gt (de_v (pv 2)) (de_v (pv 1)))
 (dss_one (ds_ret de_non))
 dss_nil)
 (dss_one (ds_ret (DO.de (do_dcTK (own := [("cell", 3)]) hr.u0 (by rfl) nd_sure (pv 0) (blkOk_by (N := ["ground", "faults", "least", "cell"]) (sc := (defScope s_sure)) (own := [("cell", 3)]) (by decide +kernel)) (by decide) (fun _ _ _ _ _ => (dg_name nd_sure rfl (by first | exact Or.inl rfl | exact Or.inr rfl) (by first | exact Or.inl rfl | exact Or.inr rfl | assumption))) (fun _ _ _ _ _ => (dts_one (dt_tru (de_callC C_is_sure (hr.mono (by decide)) (by rfl) (alen_cons (alen_cons (alen_cons (alen_cons alen_nil)))) (da_cons (de_v (pv 0)) (da_cons (de_v (pv 1)) (da_cons (de_v (pv 3)) (da_cons (de_v (pv 2)) da_nil (by rfl)) (by rfl)) (by rfl)) (by rfl)) (by decide) (by rfl) (by rfl)) (by intro _; rfl)))) (fun _ _ _ _ _ => (de_v (pv 3))) (fun _ _ _ _ _ => (de_callC C_best (hr.mono (by decide)) (by rfl) (alen_cons (alen_cons alen_nil)) (da_cons (de_v (pv 0)) (da_cons (de_v (pv 3)) da_nil (by rfl)) (by rfl)) (by decide) (by rfl) (by rfl))) (by intro _; rfl)))))))
abbrev s__law_candidates : Stmt := top 16
noncomputable def b__law_candidates : Mo Out :=
 (sSeq (sAsgO 2 (eLst aNil))
 (sSeq (sFor (iOf (eIxV 0 (eV 1))) (gN 3)
 (sIf (eB (eInV true (eIxV 3 (eC (.int 1))) 2))
 (sApp 2 (eIxV 3 (eC (.int 1))))
 sNx))
 (sSeq (sFor (iRg rg1 (aCons (eC (.int 20)) aNil)) (gN 4)
 (sIf (eB (eInV true (eV 4) 2))
 (sRet (eBin dAdd (eV 2) (eLst (aCons (eV 4) aNil))))
 sNx))
 (sRet (eV 2)))))
noncomputable def m__law_candidates : Mo D := fnM 5 2 b__law_candidates
theorem sc__law_candidates : FnScope ["_law_ground_here", "_law_cell", "_law_told", "_law_row", "_law_value"] ["_law_ground_here", "_law_cell"] (defScope s__law_candidates) := ⟨rfl, rfl, rfl, by decide +kernel, rfl, by decide +kernel, by decide +kernel⟩
theorem nd__law_candidates : List.Nodup (α := Str) ["_law_ground_here", "_law_cell", "_law_told", "_law_row", "_law_value"] := by decide +kernel
theorem ok__law_candidates (F : Fun K "_law_candidates" "_law_candidates" s__law_candidates f fd) (T : Bi mg)  : FnOk P w K mg base CX0 1 f fd ["_law_ground_here", "_law_cell"] (spM Wn K 2 false m__law_candidates) :=
 fn_ok F sc__law_candidates rfl fun cdv A outer s H E hr =>
 (dss_cons (ds_setO nd__law_candidates rfl (by first | exact Or.inl rfl | exact Or.inr rfl) (do_lst da_nil) (by rfl) (by first | exact Or.inl rfl | exact Or.inr rfl | assumption))
 (dss_cons (ds_for PassesOwn.never rfl calm_N (di_of (de_ixV hr.u1 (pv 0) (de_v (pv 1)) (by intro _ _; rfl) (by intro _ _; rfl))) (dg_name nd__law_candidates rfl (by first | exact Or.inl rfl | exact Or.inr rfl) (by first | exact Or.inl rfl | exact Or.inr rfl | assumption))
 (dss_one (ds_if (dt_notinV hr.u65 (de_ixV hr.u1 (pv 3) de_int (by intro _ _; rfl) (by intro _ _; rfl)) (pv 2) (by rfl))
 (dss_one (ds_app (pv 2) (de_ixV hr.u1 (pv 3) de_int (by intro _ _; rfl) (by intro _ _; rfl)) (by rfl)))
 dss_nil)) (by intro _; rfl))
 (dss_cons (ds_for PassesOwn.never rfl calm_N (di_rg1 (by rfl) T.range (da_cons de_int da_nil (by rfl)) (by rfl)) (dg_name nd__law_candidates rfl (by first | exact Or.inl rfl | exact Or.inr rfl) (by first | exact Or.inl rfl | exact Or.inr rfl | assumption))
 (dss_one (ds_if (dt_notinV hr.u65 (de_v (pv 4)) (pv 2) (by rfl))
 (dss_one (ds_ret (de_add (de_v (pv 2)) (DO.de (do_lst (da_cons (de_v (pv 4)) da_nil (by rfl)))))))
 dss_nil)) (by intro _; rfl))
 (dss_one (ds_ret (de_v (pv 2)))))))
abbrev s__law_cost : Stmt := top 15
noncomputable def b__law_cost : Mo Out :=
 (sRet (eF fLen (aCons (eLc (iOf (eIxV 0 (eV 1))) (gN 3) (eB (eBin dNe (eIxV 3 (eC (.int 1))) (eV 2))) (eV 3) [3]) aNil)))
noncomputable def m__law_cost : Mo D := fnM 4 3 b__law_cost
theorem sc__law_cost : FnScope ["_law_ground_here", "_law_cell", "_law_value", "_law_row"] ["_law_ground_here", "_law_cell", "_law_value"] (defScope s__law_cost) := ⟨rfl, rfl, rfl, by decide +kernel, rfl, by decide +kernel, by decide +kernel⟩
theorem nd__law_cost : List.Nodup (α := Str) ["_law_ground_here", "_law_cell", "_law_value", "_law_row"] := by decide +kernel
theorem ok__law_cost (F : Fun K "_law_cost" "_law_cost" s__law_cost f fd) (T : Bi mg)  : FnOk P w K mg base CX0 1 f fd ["_law_ground_here", "_law_cell", "_law_value"] (spM Wn K 3 false m__law_cost) :=
 fn_ok F sc__law_cost rfl fun cdv A outer s H E hr =>
 (dss_one (ds_ret (de_len (by rfl) T.len bt_len (da_cons (DO.de (do_lc (own := [("_law_row", 3)]) (by rfl) nd__law_cost (di_of (de_ixV hr.u1 (pv 0) (de_v (pv 1)) (by intro _ _; rfl) (by intro _ _; rfl))) (blkOk_by (N := ["_law_ground_here", "_law_cell", "_law_value", "_law_row"]) (sc := (defScope s__law_cost)) (own := [("_law_row", 3)]) (by decide +kernel)) (by decide) (fun _ _ _ _ _ => (dg_name nd__law_cost rfl (by first | exact Or.inl rfl | exact Or.inr rfl) (by first | exact Or.inl rfl | exact Or.inr rfl | assumption))) (fun _ _ _ _ _ => (dts_one (dt_ne hr.units (de_ixV hr.u1 (pv 3) de_int (by intro _ _; rfl) (by intro _ _; rfl)) (de_v (pv 2))))) (fun _ _ _ _ _ => (de_v (pv 3))) (by intro _; rfl))) da_nil (by rfl)) (by decide) (by decide) (by rfl) (by rfl))))
abbrev s__law_all : Stmt := top 17
noncomputable def b__law_all : Mo Out :=
 (sSeq (sAsg (gN 2) (eLst (aCons (eLst (aCons (eC (.int 0)) (aCons (eD0 (.dT [])) aNil))) aNil)))
 (sSeq (sFor (iOf (eF fList' (aCons (eV 0) aNil))) (gN 3)
 (sSeq (sAsgO 4 (eLst aNil))
 (sSeq (sFor (iOf (eV 2)) (gN 5)
 (sFor (iOf (eCall m__law_candidates (aCons (eV 0) (aCons (eV 3) aNil)))) (gN 6)
 (sSeq (sAsg (gN 7) (eBin dAdd (eIxV 5 (eC (.int 0))) (eCall m__law_cost (aCons (eV 0) (aCons (eV 3) (aCons (eV 6) aNil))))))
 (sIf (eB (eBin dLe (eV 7) (eV 1)))
 (sSeq (sAsgO 8 (eF fDict (aCons (eIxV 5 (eC (.int 1))) aNil)))
 (sSeq (sSet 8 (eV 3) (eV 6))
 (sApp 4 (eLst (aCons (eV 7) (aCons (eV 8) aNil))))))
 sNx))))
 (sAsg (gN 2) (eV 4)))))
 (sRet (eLc (iOf (eV 2)) (gN 5) tYesM (eIxV 5 (eC (.int 1))) [5]))))
noncomputable def m__law_all : Mo D := fnM 9 2 b__law_all
theorem sc__law_all : FnScope ["_law_ground_here", "_law_faults", "_law_found", "_law_cell", "_law_more", "_law_pair", "_law_value", "_law_paid", "_law_values"] ["_law_ground_here", "_law_faults"] (defScope s__law_all) := ⟨rfl, rfl, rfl, by decide +kernel, rfl, by decide +kernel, by decide +kernel⟩
theorem nd__law_all : List.Nodup (α := Str) ["_law_ground_here", "_law_faults", "_law_found", "_law_cell", "_law_more", "_law_pair", "_law_value", "_law_paid", "_law_values"] := by decide +kernel
theorem ok__law_all (F : Fun K "_law_all" "_law_all" s__law_all f fd) (T : Bi mg) (C__law_candidates : CalM P w K mg base 1 "_law_candidates" 2 false m__law_candidates) (C__law_cost : CalM P w K mg base 1 "_law_cost" 3 false m__law_cost) : FnOk P w K mg base CX0 2 f fd ["_law_ground_here", "_law_faults"] (spM Wn K 2 false m__law_all) :=
 fn_ok F sc__law_all rfl fun cdv A outer s H E hr =>
 (dss_cons (ds_set nd__law_all rfl (by first | exact Or.inl rfl | exact Or.inr rfl) (DO.de (do_lst (da_cons (DO.de (do_lst (da_cons de_int (da_cons (DO.de do_new0T) da_nil (by rfl)) (by rfl)))) da_nil (by rfl)))) (by rfl) (by first | exact Or.inl rfl | exact Or.inr rfl | assumption))
 (dss_cons (ds_for PassesOwn.never rfl calm_N (di_of (DO.de (do_list (by rfl) (by rfl) T.list bt_list (da_cons (de_v (pv 0)) da_nil (by rfl)) (by decide) (by decide) (by rfl) (by rfl)))) (dg_name nd__law_all rfl (by first | exact Or.inl rfl | exact Or.inr rfl) (by first | exact Or.inl rfl | exact Or.inr rfl | assumption))
 (dss_cons (ds_setO nd__law_all rfl (by first | exact Or.inl rfl | exact Or.inr rfl) (do_lst da_nil) (by rfl) (by first | exact Or.inl rfl | exact Or.inr rfl | assumption))
 (dss_cons (ds_for PassesOwn.never rfl calm_N (di_of (de_v (pv 2))) (dg_name nd__law_all rfl (by first | exact Or.inl rfl | exact Or.inr rfl) (by first | exact Or.inl rfl | exact Or.inr rfl | assumption))
 (dss_one (ds_for PassesOwn.never rfl calm_N (di_of (de_callC C__law_candidates (hr.mono (by decide)) (by rfl) (alen_cons (alen_cons alen_nil)) (da_cons (de_v (pv 0)) (da_cons (de_v (pv 3)) da_nil (by rfl)) (by rfl)) (by decide) (by rfl) (by rfl))) (dg_name nd__law_all rfl (by first | exact Or.inl rfl | exact Or.inr rfl) (by first | exact Or.inl rfl | exact Or.inr rfl | assumption))
 (dss_cons (ds_set nd__law_all rfl (by first | exact Or.inl rfl | exact Or.inr rfl) (de_add (de_ixV hr.u1 (pv 5) de_int (by intro _ _; rfl) (by intro _ _; rfl)) (de_callC C__law_cost (hr.mono (by decide)) (by rfl) (alen_cons (alen_cons (alen_cons alen_nil))) (da_cons (de_v (pv 0)) (da_cons (de_v (pv 3)) (da_cons (de_v (pv 6)) da_nil (by rfl)) (by rfl)) (by rfl)) (by decide) (by rfl) (by rfl))) (by rfl) (by first | exact Or.inl rfl | exact Or.inr rfl | assumption))
 (dss_one (ds_if (dt_le (de_v (pv 7)) (de_v (pv 1)))
 (dss_cons (ds_setO nd__law_all rfl (by first | exact Or.inl rfl | exact Or.inr rfl) (do_dict hr.u4 (by rfl) T.dict bt_dict (da_cons (de_ixV hr.u1 (pv 5) de_int (by intro _ _; rfl) (by intro _ _; rfl)) da_nil (by rfl)) (by decide) (by decide) (by rfl) (by rfl)) (by rfl) (by first | exact Or.inl rfl | exact Or.inr rfl | assumption))
 (dss_cons (ds_sub hr.u1 (pv 8) (de_v (pv 3)) (de_v (pv 6)) (by rfl) (by rfl))
 (dss_one (ds_app (pv 4) (DO.de (do_lst (da_cons (de_v (pv 7)) (da_cons (de_v (pv 8)) da_nil (by rfl)) (by rfl)))) (by rfl)))))
 dss_nil))) (by intro _; rfl))) (by intro _; rfl))
 (dss_one (ds_set nd__law_all rfl (by first | exact Or.inl rfl | exact Or.inr rfl) (de_v (pv 4)) (by rfl) (by first | exact Or.inl rfl | exact Or.inr rfl | assumption))))) (by intro _; rfl))
 (dss_one (ds_ret (DO.de (do_lc (own := [("_law_pair", 5)]) (by rfl) nd__law_all (di_of (de_v (pv 2))) (blkOk_by (N := ["_law_ground_here", "_law_faults", "_law_found", "_law_cell", "_law_more", "_law_pair", "_law_value", "_law_paid", "_law_values"]) (sc := (defScope s__law_all)) (own := [("_law_pair", 5)]) (by decide +kernel)) (by decide) (fun _ _ _ _ _ => (dg_name nd__law_all rfl (by first | exact Or.inl rfl | exact Or.inr rfl) (by first | exact Or.inl rfl | exact Or.inr rfl | assumption))) (fun _ _ _ _ _ => dts_nil) (fun _ _ _ _ _ => (de_ixV hr.u1 (pv 5) de_int (by intro _ _; rfl) (by intro _ _; rfl))) (by intro _; rfl)))))))
abbrev s_law : Stmt := top 18
noncomputable def b_law : Mo Out :=
 (sSeq (sAsgO 1 (eCall m__law_pool (aCons (eV 0) aNil)))
 (sSeq (sAsg (gN 2) (eCall m__law_ground (aVr 1 (aCons (eC (.int 4)) (aCons (eC (.int 4)) aNil)))))
 (sSeq (sFor (iOf (eLst (aCons (eCall m__law_take (aVr 1 (aCons (eC (.int 6)) aNil))) (aCons (eCall m__law_take (aVr 1 (aCons (eC (.int 3)) aNil))) aNil)))) (gN 3)
 (sSeq (sAsg (gN 4) (eF fDict (aCons (eV 2) aNil)))
 (sSeq (sAsg (gN 5) (eCall m_sure (aCons (eV 4) (aCons (eV 3) aNil))))
 (sSeq (sAsg (gN 6) (eCall m__law_all (aCons (eV 2) (aCons (eV 3) aNil))))
 (sSeq (sIf (tNotM (eTru (eV 6)))
 (sSeq (sIf (eB (eBin (dIs true) (eV 5) (eC .non)))
 (sRet (eC (.bl false)))
 sNx)
 sCont)
 sNx)
 (sSeq (sAsgO 7 (eD0 (.dT [])))
 (sSeq (sFor (iOf (eF fList' (aCons (eV 2) aNil))) (gN 8)
 (sSeq (sAsg (gN 9) (eLc (iOf (eV 6)) (gN 10) tYesM (eIxV 10 (eV 8)) [10]))
 (sIf (eB (eBin dEqX (eF fLen (aCons (eLc (iOf (eV 9)) (gN 11) (eB (eBin dNeX (eV 11) (eIxV 9 (eC (.int 0))))) (eV 11) [11]) aNil)) (eC (.int 0))))
 (sSet 7 (eV 8) (eIxV 9 (eC (.int 0))))
 sNx)))
 (sIf (tOrM (eB (eBin dNeX (eV 5) (eV 7))) (tOrM (eB (eBin dNeX (eF fList' (aCons (eV 5) aNil)) (eF fList' (aCons (eV 7) aNil)))) (eB (eBin dNeX (eV 4) (eV 2)))))
 (sRet (eC (.bl false)))
 sNx))))))))
 (sRet (eC (.bl true))))))
noncomputable def m_law : Mo D := fnM 12 1 b_law
theorem sc_law : FnScope ["_law_script", "_law_pool_here", "_law_ground_here", "_law_faults", "_law_given", "_law_told", "_law_found", "_law_due", "_law_cell", "_law_values", "_law_values_of", "_law_value"] ["_law_script"] (defScope s_law) := ⟨rfl, rfl, rfl, by decide +kernel, rfl, by decide +kernel, by decide +kernel⟩
theorem nd_law : List.Nodup (α := Str) ["_law_script", "_law_pool_here", "_law_ground_here", "_law_faults", "_law_given", "_law_told", "_law_found", "_law_due", "_law_cell", "_law_values", "_law_values_of", "_law_value"] := by decide +kernel
theorem ok_law (F : Fun K "law" "law" s_law f fd) (T : Bi mg) (C__law_pool : CalM P w K mg base 1 "_law_pool" 1 true m__law_pool) (C__law_ground : CalM P w K mg base 3 "_law_ground" 3 false m__law_ground) (C__law_take : CalM P w K mg base 2 "_law_take" 2 false m__law_take) (C_sure : CalM P w K mg base 5 "sure" 2 false m_sure) (C__law_all : CalM P w K mg base 2 "_law_all" 2 false m__law_all) : FnOk P w K mg base CX0 6 f fd ["_law_script"] (spM Wn K 1 false m_law) :=
 fn_ok F sc_law rfl fun cdv A outer s H E hr =>
 (dss_cons (ds_setO nd_law rfl (by first | exact Or.inl rfl | exact Or.inr rfl) (do_callC C__law_pool (hr.mono (by decide)) (by rfl) (alen_cons alen_nil) (da_cons (de_v (pv 0)) da_nil (by rfl)) (by decide) (by rfl) (by rfl)) (by rfl) (by first | exact Or.inl rfl | exact Or.inr rfl | assumption))
 (dss_cons (ds_set nd_law rfl (by first | exact Or.inl rfl | exact Or.inr rfl) (de_callC C__law_ground (hr.mono (by decide)) (by rfl) (alen_vr (alen_cons (alen_cons alen_nil))) (da_vr (pv 1) (da_cons de_int (da_cons de_int da_nil (by rfl)) (by rfl)) (by rfl)) (by decide) (by rfl) (by rfl)) (by rfl) (by first | exact Or.inl rfl | exact Or.inr rfl | assumption))
 (dss_cons (ds_for PassesOwn.never rfl calm_N (di_of (DO.de (do_lst (da_cons (de_callC C__law_take (hr.mono (by decide)) (by rfl) (alen_vr (alen_cons alen_nil)) (da_vr (pv 1) (da_cons de_int da_nil (by rfl)) (by rfl)) (by decide) (by rfl) (by rfl)) (da_cons (de_callC C__law_take (hr.mono (by decide)) (by rfl) (alen_vr (alen_cons alen_nil)) (da_vr (pv 1) (da_cons de_int da_nil (by rfl)) (by rfl)) (by decide) (by rfl) (by rfl)) da_nil (by rfl)) (by rfl))))) (dg_name nd_law rfl (by first | exact Or.inl rfl | exact Or.inr rfl) (by first | exact Or.inl rfl | exact Or.inr rfl | assumption))
 (dss_cons (ds_set nd_law rfl (by first | exact Or.inl rfl | exact Or.inr rfl) (DO.de (do_dict hr.u4 (by rfl) T.dict bt_dict (da_cons (de_v (pv 2)) da_nil (by rfl)) (by decide) (by decide) (by rfl) (by rfl))) (by rfl) (by first | exact Or.inl rfl | exact Or.inr rfl | assumption))
 (dss_cons (ds_set nd_law rfl (by first | exact Or.inl rfl | exact Or.inr rfl) (de_callC C_sure (hr.mono (by decide)) (by rfl) (alen_cons (alen_cons alen_nil)) (da_cons (de_v (pv 4)) (da_cons (de_v (pv 3)) da_nil (by rfl)) (by rfl)) (by decide) (by rfl) (by rfl)) (by rfl) (by first | exact Or.inl rfl | exact Or.inr rfl | assumption))
 (dss_cons (ds_set nd_law rfl (by first | exact Or.inl rfl | exact Or.inr rfl) (de_callC C__law_all (hr.mono (by decide)) (by rfl) (alen_cons (alen_cons alen_nil)) (da_cons (de_v (pv 2)) (da_cons (de_v (pv 3)) da_nil (by rfl)) (by rfl)) (by decide) (by rfl) (by rfl)) (by rfl) (by first | exact Or.inl rfl | exact Or.inr rfl | assumption))
 (dss_cons (ds_if (dt_not (dt_tru (de_v (pv 6)) (by intro _; rfl)))
 (dss_cons (ds_if (dt_notN (de_v (pv 5)) de_non)
 (dss_one (ds_ret de_bl))
 dss_nil)
 (dss_one ds_cont))
 dss_nil)
 (dss_cons (ds_setO nd_law rfl (by first | exact Or.inl rfl | exact Or.inr rfl) do_new0T (by rfl) (by first | exact Or.inl rfl | exact Or.inr rfl | assumption))
 (dss_cons (ds_for PassesOwn.never rfl calm_N (di_of (DO.de (do_list (by rfl) (by rfl) T.list bt_list (da_cons (de_v (pv 2)) da_nil (by rfl)) (by decide) (by decide) (by rfl) (by rfl)))) (dg_name nd_law rfl (by first | exact Or.inl rfl | exact Or.inr rfl) (by first | exact Or.inl rfl | exact Or.inr rfl | assumption))
 (dss_cons (ds_set nd_law rfl (by first | exact Or.inl rfl | exact Or.inr rfl) (DO.de (do_lc (own := [("_law_values_of", 10)]) (by rfl) nd_law (di_of (de_v (pv 6))) (blkOk_by (N := ["_law_script", "_law_pool_here", "_law_ground_here", "_law_faults", "_law_given", "_law_told", "_law_found", "_law_due", "_law_cell", "_law_values", "_law_values_of", "_law_value"]) (sc := (defScope s_law)) (own := [("_law_values_of", 10)]) (by decide +kernel)) (by decide) (fun _ _ _ _ _ => (dg_name nd_law rfl (by first | exact Or.inl rfl | exact Or.inr rfl) (by first | exact Or.inl rfl | exact Or.inr rfl | assumption))) (fun _ _ _ _ _ => dts_nil) (fun _ _ _ _ _ => (de_ixV hr.u1 (pv 10) (de_v (pv 8)) (by intro _ _; rfl) (by intro _ _; rfl))) (by intro _; rfl))) (by rfl) (by first | exact Or.inl rfl | exact Or.inr rfl | assumption))
 (dss_one (ds_if (dt_eqX hr.u65 (de_len (by rfl) T.len bt_len (da_cons (DO.de (do_lc (own := [("_law_value", 11)]) (by rfl) nd_law (di_of (de_v (pv 9))) (blkOk_by (N := ["_law_script", "_law_pool_here", "_law_ground_here", "_law_faults", "_law_given", "_law_told", "_law_found", "_law_due", "_law_cell", "_law_values", "_law_values_of", "_law_value"]) (sc := (defScope s_law)) (own := [("_law_value", 11)]) (by decide +kernel)) (by decide) (fun _ _ _ _ _ => (dg_name nd_law rfl (by first | exact Or.inl rfl | exact Or.inr rfl) (by first | exact Or.inl rfl | exact Or.inr rfl | assumption))) (fun _ _ _ _ _ => (dts_one (dt_neX hr.u65 (de_v (pv 11)) (de_ixV hr.u1 (pv 9) de_int (by intro _ _; rfl) (by intro _ _; rfl))))) (fun _ _ _ _ _ => (de_v (pv 11))) (by intro _; rfl))) da_nil (by rfl)) (by decide) (by decide) (by rfl) (by rfl)) de_int)
 (dss_one (ds_sub hr.u1 (pv 7) (de_v (pv 8)) (de_ixV hr.u1 (pv 9) de_int (by intro _ _; rfl) (by intro _ _; rfl)) (by rfl) (by rfl)))
 dss_nil))) (by intro _; rfl))
 (dss_one (ds_if (dw_t (dw_or (dt_neX hr.u65 (de_v (pv 5)) (de_v (pv 7))) (dw_or (dt_neX hr.u65 (DO.de (do_list (by rfl) (by rfl) T.list bt_list (da_cons (de_v (pv 5)) da_nil (by rfl)) (by decide) (by decide) (by rfl) (by rfl))) (DO.de (do_list (by rfl) (by rfl) T.list bt_list (da_cons (de_v (pv 7)) da_nil (by rfl)) (by decide) (by decide) (by rfl) (by rfl)))) (dw_or1 (dt_neX hr.u65 (de_v (pv 4)) (de_v (pv 2)))))))
 (dss_one (ds_ret de_bl))
 dss_nil)))))))) (by intro _; rfl))
 (dss_one (ds_ret de_bl)))))
end
theorem all_mk {l : PySem.W.OpenLaw} {w : World} {K : PySem.W.Frag} {h : Heap} {mg : Str → Option Value} {fa : Addr} (X : K.In h) (G : h.Ns mainGlobals mg) (hfa : mg "law" = some (.ref fa))
 {f0 f1 f2 f3 f4 f5 f6 f7 f8 f9 f10 f11 f12 f13 f14 f15 : Addr} {od0 an0 od1 an1 od2 an2 od3 an3 od4 an4 od5 an5 od6 an6 od7 an7 od8 an8 od9 an9 od10 an10 od11 an11 od12 an12 od13 an13 od14 an14 od15 an15 : Option Addr} {sl0 sl1 sl2 sl3 sl4 sl5 sl6 sl7 sl8 sl9 sl10 sl11 sl12 sl13 sl14 sl15 : Array (Option Value)} {oc0 kV0 dc0 pm0 cd0 ct0 oc1 kV1 dc1 pm1 cd1 ct1 oc2 kV2 dc2 pm2 cd2 ct2 oc3 kV3 dc3 pm3 cd3 ct3 oc4 kV4 dc4 pm4 cd4 ct4 oc5 kV5 dc5 pm5 cd5 ct5 oc6 kV6 dc6 pm6 cd6 ct6 oc7 kV7 dc7 pm7 cd7 ct7 oc8 kV8 dc8 pm8 cd8 ct8 oc9 kV9 dc9 pm9 cd9 ct9 oc10 kV10 dc10 pm10 cd10 ct10 oc11 kV11 dc11 pm11 cd11 ct11 oc12 kV12 dc12 pm12 cd12 ct12 oc13 kV13 dc13 pm13 cd13 ct13 oc14 kV14 dc14 pm14 cd14 ct14 oc15 kV15 dc15 pm15 cd15 ct15 : Value}
 (a0 : PySem.W.nsIn K mainGlobals "_law_pool" = some (some (.ref f0))) (l0 : K.lookup f0 = some ⟨oc0, od0, .func (PySem.W.fnOf "_law_pool" "_law_pool" (defArgs s__law_pool) (defBody s__law_pool) (defScope s__law_pool) .none kV0 dc0 pm0 an0 cd0 ct0), sl0⟩) (c0 : PySem.W.codeIn K cd0 "_law_pool" = true) (k0 : PySem.W.keepIn K (.ref f0) = true)
 (a1 : PySem.W.nsIn K mainGlobals "_law_wide" = some (some (.ref f1))) (l1 : K.lookup f1 = some ⟨oc1, od1, .func (PySem.W.fnOf "_law_wide" "_law_wide" (defArgs s__law_wide) (defBody s__law_wide) (defScope s__law_wide) .none kV1 dc1 pm1 an1 cd1 ct1), sl1⟩) (c1 : PySem.W.codeIn K cd1 "_law_wide" = true) (k1 : PySem.W.keepIn K (.ref f1) = true)
 (a2 : PySem.W.nsIn K mainGlobals "_law_take" = some (some (.ref f2))) (l2 : K.lookup f2 = some ⟨oc2, od2, .func (PySem.W.fnOf "_law_take" "_law_take" (defArgs s__law_take) (defBody s__law_take) (defScope s__law_take) .none kV2 dc2 pm2 an2 cd2 ct2), sl2⟩) (c2 : PySem.W.codeIn K cd2 "_law_take" = true) (k2 : PySem.W.keepIn K (.ref f2) = true)
 (a3 : PySem.W.nsIn K mainGlobals "_law_ground" = some (some (.ref f3))) (l3 : K.lookup f3 = some ⟨oc3, od3, .func (PySem.W.fnOf "_law_ground" "_law_ground" (defArgs s__law_ground) (defBody s__law_ground) (defScope s__law_ground) .none kV3 dc3 pm3 an3 cd3 ct3), sl3⟩) (c3 : PySem.W.codeIn K cd3 "_law_ground" = true) (k3 : PySem.W.keepIn K (.ref f3) = true)
 (a4 : PySem.W.nsIn K mainGlobals "cost" = some (some (.ref f4))) (l4 : K.lookup f4 = some ⟨oc4, od4, .func (PySem.W.fnOf "cost" "cost" (defArgs s_cost) (defBody s_cost) (defScope s_cost) .none kV4 dc4 pm4 an4 cd4 ct4), sl4⟩) (c4 : PySem.W.codeIn K cd4 "cost" = true) (k4 : PySem.W.keepIn K (.ref f4) = true)
 (a5 : PySem.W.nsIn K mainGlobals "values_at" = some (some (.ref f5))) (l5 : K.lookup f5 = some ⟨oc5, od5, .func (PySem.W.fnOf "values_at" "values_at" (defArgs s_values_at) (defBody s_values_at) (defScope s_values_at) .none kV5 dc5 pm5 an5 cd5 ct5), sl5⟩) (c5 : PySem.W.codeIn K cd5 "values_at" = true) (k5 : PySem.W.keepIn K (.ref f5) = true)
 (a6 : PySem.W.nsIn K mainGlobals "best" = some (some (.ref f6))) (l6 : K.lookup f6 = some ⟨oc6, od6, .func (PySem.W.fnOf "best" "best" (defArgs s_best) (defBody s_best) (defScope s_best) .none kV6 dc6 pm6 an6 cd6 ct6), sl6⟩) (c6 : PySem.W.codeIn K cd6 "best" = true) (k6 : PySem.W.keepIn K (.ref f6) = true)
 (a7 : PySem.W.nsIn K mainGlobals "least_cost" = some (some (.ref f7))) (l7 : K.lookup f7 = some ⟨oc7, od7, .func (PySem.W.fnOf "least_cost" "least_cost" (defArgs s_least_cost) (defBody s_least_cost) (defScope s_least_cost) .none kV7 dc7 pm7 an7 cd7 ct7), sl7⟩) (c7 : PySem.W.codeIn K cd7 "least_cost" = true) (k7 : PySem.W.keepIn K (.ref f7) = true)
 (a8 : PySem.W.nsIn K mainGlobals "least_untold" = some (some (.ref f8))) (l8 : K.lookup f8 = some ⟨oc8, od8, .func (PySem.W.fnOf "least_untold" "least_untold" (defArgs s_least_untold) (defBody s_least_untold) (defScope s_least_untold) .none kV8 dc8 pm8 an8 cd8 ct8), sl8⟩) (c8 : PySem.W.codeIn K cd8 "least_untold" = true) (k8 : PySem.W.keepIn K (.ref f8) = true)
 (a9 : PySem.W.nsIn K mainGlobals "other" = some (some (.ref f9))) (l9 : K.lookup f9 = some ⟨oc9, od9, .func (PySem.W.fnOf "other" "other" (defArgs s_other) (defBody s_other) (defScope s_other) .none kV9 dc9 pm9 an9 cd9 ct9), sl9⟩) (c9 : PySem.W.codeIn K cd9 "other" = true) (k9 : PySem.W.keepIn K (.ref f9) = true)
 (a10 : PySem.W.nsIn K mainGlobals "is_sure" = some (some (.ref f10))) (l10 : K.lookup f10 = some ⟨oc10, od10, .func (PySem.W.fnOf "is_sure" "is_sure" (defArgs s_is_sure) (defBody s_is_sure) (defScope s_is_sure) .none kV10 dc10 pm10 an10 cd10 ct10), sl10⟩) (c10 : PySem.W.codeIn K cd10 "is_sure" = true) (k10 : PySem.W.keepIn K (.ref f10) = true)
 (a11 : PySem.W.nsIn K mainGlobals "sure" = some (some (.ref f11))) (l11 : K.lookup f11 = some ⟨oc11, od11, .func (PySem.W.fnOf "sure" "sure" (defArgs s_sure) (defBody s_sure) (defScope s_sure) .none kV11 dc11 pm11 an11 cd11 ct11), sl11⟩) (c11 : PySem.W.codeIn K cd11 "sure" = true) (k11 : PySem.W.keepIn K (.ref f11) = true)
 (a12 : PySem.W.nsIn K mainGlobals "_law_candidates" = some (some (.ref f12))) (l12 : K.lookup f12 = some ⟨oc12, od12, .func (PySem.W.fnOf "_law_candidates" "_law_candidates" (defArgs s__law_candidates) (defBody s__law_candidates) (defScope s__law_candidates) .none kV12 dc12 pm12 an12 cd12 ct12), sl12⟩) (c12 : PySem.W.codeIn K cd12 "_law_candidates" = true) (k12 : PySem.W.keepIn K (.ref f12) = true)
 (a13 : PySem.W.nsIn K mainGlobals "_law_cost" = some (some (.ref f13))) (l13 : K.lookup f13 = some ⟨oc13, od13, .func (PySem.W.fnOf "_law_cost" "_law_cost" (defArgs s__law_cost) (defBody s__law_cost) (defScope s__law_cost) .none kV13 dc13 pm13 an13 cd13 ct13), sl13⟩) (c13 : PySem.W.codeIn K cd13 "_law_cost" = true) (k13 : PySem.W.keepIn K (.ref f13) = true)
 (a14 : PySem.W.nsIn K mainGlobals "_law_all" = some (some (.ref f14))) (l14 : K.lookup f14 = some ⟨oc14, od14, .func (PySem.W.fnOf "_law_all" "_law_all" (defArgs s__law_all) (defBody s__law_all) (defScope s__law_all) .none kV14 dc14 pm14 an14 cd14 ct14), sl14⟩) (c14 : PySem.W.codeIn K cd14 "_law_all" = true) (k14 : PySem.W.keepIn K (.ref f14) = true)
 (a15 : PySem.W.nsIn K mainGlobals "law" = some (some (.ref f15))) (l15 : K.lookup f15 = some ⟨oc15, od15, .func (PySem.W.fnOf "law" "law" (defArgs s_law) (defBody s_law) (defScope s_law) .none kV15 dc15 pm15 an15 cd15 ct15), sl15⟩) (c15 : PySem.W.codeIn K cd15 "law" = true) (k15 : PySem.W.keepIn K (.ref f15) = true)
 (z_abs : PySem.W.nsIn K mainGlobals "abs" = some none) (z_dict : PySem.W.nsIn K mainGlobals "dict" = some none) (z_int : PySem.W.nsIn K mainGlobals "int" = some none) (z_len : PySem.W.nsIn K mainGlobals "len" = some none) (z_list : PySem.W.nsIn K mainGlobals "list" = some none) (z_range : PySem.W.nsIn K mainGlobals "range" = some none) (z_sorted : PySem.W.nsIn K mainGlobals "sorted" = some none) (z_str : PySem.W.nsIn K mainGlobals "str" = some none) (z_sum : PySem.W.nsIn K mainGlobals "sum" = some none) (z_tuple : PySem.W.nsIn K mainGlobals "tuple" = some none) :
 ∃ fd : FuncData, (∀ (s : Shared) (v : Value), BindsTo s fd ⟨[v], []⟩ [("_law_script", v)]) ∧ ∀ base : Heap, K.In base → base.Ns mainGlobals mg → FnOk l.prog w K mg base CX0 6 fa fd ["_law_script"] (spM Wn K 1 false m_law) := by
  have e := hfa.symm.trans (PySem.W.mg_of X G a15)
  cases e
  have T : Bi mg := ⟨PySem.W.mg_none_of X G z_abs, PySem.W.mg_none_of X G z_dict, PySem.W.mg_none_of X G z_int, PySem.W.mg_none_of X G z_len, PySem.W.mg_none_of X G z_list, PySem.W.mg_none_of X G z_range, PySem.W.mg_none_of X G z_sorted, PySem.W.mg_none_of X G z_str, PySem.W.mg_none_of X G z_sum, PySem.W.mg_none_of X G z_tuple⟩
  have F0 := fun_mk (st := s__law_pool) l0 c0 k0
  have b0 := F0.binds (ps := ["_law_script"]) fun _ _ _ _ _ _ us hl => match us, hl with | [_], _ => rfl
  have F1 := fun_mk (st := s__law_wide) l1 c1 k1
  have b1 := F1.binds (ps := ["_law_script", "_law_k"]) fun _ _ _ _ _ _ us hl => match us, hl with | [_, _], _ => rfl
  have F2 := fun_mk (st := s__law_take) l2 c2 k2
  have b2 := F2.binds (ps := ["_law_pool_here", "_law_most"]) fun _ _ _ _ _ _ us hl => match us, hl with | [_, _], _ => rfl
  have F3 := fun_mk (st := s__law_ground) l3 c3 k3
  have b3 := F3.binds (ps := ["_law_pool_here", "_law_cells", "_law_most"]) fun _ _ _ _ _ _ us hl => match us, hl with | [_, _, _], _ => rfl
  have F4 := fun_mk (st := s_cost) l4 c4 k4
  have b4 := F4.binds (ps := ["ground", "cell", "value"]) fun _ _ _ _ _ _ us hl => match us, hl with | [_, _, _], _ => rfl
  have F5 := fun_mk (st := s_values_at) l5 c5 k5
  have b5 := F5.binds (ps := ["ground", "cell"]) fun _ _ _ _ _ _ us hl => match us, hl with | [_, _], _ => rfl
  have F6 := fun_mk (st := s_best) l6 c6 k6
  have b6 := F6.binds (ps := ["ground", "cell"]) fun _ _ _ _ _ _ us hl => match us, hl with | [_, _], _ => rfl
  have F7 := fun_mk (st := s_least_cost) l7 c7 k7
  have b7 := F7.binds (ps := ["ground"]) fun _ _ _ _ _ _ us hl => match us, hl with | [_], _ => rfl
  have F8 := fun_mk (st := s_least_untold) l8 c8 k8
  have b8 := F8.binds (ps := ["told"]) fun _ _ _ _ _ _ us hl => match us, hl with | [_], _ => rfl
  have F9 := fun_mk (st := s_other) l9 c9 k9
  have b9 := F9.binds (ps := ["ground", "cell"]) fun _ _ _ _ _ _ us hl => match us, hl with | [_, _], _ => rfl
  have F10 := fun_mk (st := s_is_sure) l10 c10 k10
  have b10 := F10.binds (ps := ["ground", "faults", "cell", "least"]) fun _ _ _ _ _ _ us hl => match us, hl with | [_, _, _, _], _ => rfl
  have F11 := fun_mk (st := s_sure) l11 c11 k11
  have b11 := F11.binds (ps := ["ground", "faults"]) fun _ _ _ _ _ _ us hl => match us, hl with | [_, _], _ => rfl
  have F12 := fun_mk (st := s__law_candidates) l12 c12 k12
  have b12 := F12.binds (ps := ["_law_ground_here", "_law_cell"]) fun _ _ _ _ _ _ us hl => match us, hl with | [_, _], _ => rfl
  have F13 := fun_mk (st := s__law_cost) l13 c13 k13
  have b13 := F13.binds (ps := ["_law_ground_here", "_law_cell", "_law_value"]) fun _ _ _ _ _ _ us hl => match us, hl with | [_, _, _], _ => rfl
  have F14 := fun_mk (st := s__law_all) l14 c14 k14
  have b14 := F14.binds (ps := ["_law_ground_here", "_law_faults"]) fun _ _ _ _ _ _ us hl => match us, hl with | [_, _], _ => rfl
  have F15 := fun_mk (st := s_law) l15 c15 k15
  refine ⟨PySem.W.fnOf "law" "law" (defArgs s_law) (defBody s_law) (defScope s_law) .none kV15 dc15 pm15 an15 cd15 ct15, fun s v => .of_eq rfl, fun base _ _ => ?_⟩
  have C__law_pool : CalM l.prog w K mg base 1 "_law_pool" 1 true m__law_pool := ⟨_, _, _, ok__law_pool F0 T , PySem.W.mg_of X G a0, k0, b0⟩
  have C__law_wide : CalM l.prog w K mg base 1 "_law_wide" 2 false m__law_wide := ⟨_, _, _, ok__law_wide F1 T , PySem.W.mg_of X G a1, k1, b1⟩
  have C__law_take : CalM l.prog w K mg base 2 "_law_take" 2 false m__law_take := ⟨_, _, _, ok__law_take F2 T C__law_wide, PySem.W.mg_of X G a2, k2, b2⟩
  have C__law_ground : CalM l.prog w K mg base 3 "_law_ground" 3 false m__law_ground := ⟨_, _, _, ok__law_ground F3 T C__law_take, PySem.W.mg_of X G a3, k3, b3⟩
  have C_cost : CalM l.prog w K mg base 1 "cost" 3 false m_cost := ⟨_, _, _, ok_cost F4 T , PySem.W.mg_of X G a4, k4, b4⟩
  have C_values_at : CalM l.prog w K mg base 1 "values_at" 2 false m_values_at := ⟨_, _, _, ok_values_at F5 T , PySem.W.mg_of X G a5, k5, b5⟩
  have C_best : CalM l.prog w K mg base 2 "best" 2 false m_best := ⟨_, _, _, ok_best F6 T C_values_at C_cost, PySem.W.mg_of X G a6, k6, b6⟩
  have C_least_cost : CalM l.prog w K mg base 3 "least_cost" 1 false m_least_cost := ⟨_, _, _, ok_least_cost F7 T C_best C_cost, PySem.W.mg_of X G a7, k7, b7⟩
  have C_least_untold : CalM l.prog w K mg base 1 "least_untold" 1 false m_least_untold := ⟨_, _, _, ok_least_untold F8 T , PySem.W.mg_of X G a8, k8, b8⟩
  have C_other : CalM l.prog w K mg base 3 "other" 2 false m_other := ⟨_, _, _, ok_other F9 T C_values_at C_best C_least_untold C_cost, PySem.W.mg_of X G a9, k9, b9⟩
  have C_is_sure : CalM l.prog w K mg base 4 "is_sure" 4 false m_is_sure := ⟨_, _, _, ok_is_sure F10 T C_best C_cost C_other, PySem.W.mg_of X G a10, k10, b10⟩
  have C_sure : CalM l.prog w K mg base 5 "sure" 2 false m_sure := ⟨_, _, _, ok_sure F11 T C_least_cost C_is_sure C_best, PySem.W.mg_of X G a11, k11, b11⟩
  have C__law_candidates : CalM l.prog w K mg base 1 "_law_candidates" 2 false m__law_candidates := ⟨_, _, _, ok__law_candidates F12 T , PySem.W.mg_of X G a12, k12, b12⟩
  have C__law_cost : CalM l.prog w K mg base 1 "_law_cost" 3 false m__law_cost := ⟨_, _, _, ok__law_cost F13 T , PySem.W.mg_of X G a13, k13, b13⟩
  have C__law_all : CalM l.prog w K mg base 2 "_law_all" 2 false m__law_all := ⟨_, _, _, ok__law_all F14 T C__law_candidates C__law_cost, PySem.W.mg_of X G a14, k14, b14⟩
  exact ok_law F15 T C__law_pool C__law_ground C__law_take C_sure C__law_all
end M

set_option Elab.async false
set_option linter.all false
set_option maxRecDepth 100000
/-! The plain side: how a mirror is worked out. -/
namespace M
open PySem L2
theorem dEq_int (a b : Int) : dEq (.int a) (.int b) = some (.bl (decide (a = b))) := by
  have h : ∀ i : Int, shp (.int i) = true := fun i => by unfold shp toPy; rfl
  unfold dEq
  rw [if_pos ⟨h a, h b⟩]
  unfold toPy PyData.eqv
  by_cases c : a = b
  · subst c; simp
  · simp [c]
theorem dNe_int (a b : Int) : dNe (.int a) (.int b) = some (.bl (!decide (a = b))) := by
  have h : ∀ i : Int, shp (.int i) = true := fun i => by unfold shp toPy; rfl
  unfold dNe
  rw [if_pos ⟨h a, h b⟩]
  unfold toPy PyData.eqv
  by_cases c : a = b
  · subst c; simp
  · simp [c]
theorem forM_inv {T : D → Mo Unit} {S : Mo Out} (Inv : Nat → Env → Prop) : ∀ (ds : List D) (k : Nat) (δ : Env), Inv k δ →
    (∀ i d δ, ds[i]? = some d → Inv (k + i) δ → ∃ δ1 δ2, T d δ = some (.ok (), δ1) ∧ (S δ1 = some (.ok .nx, δ2) ∨ S δ1 = some (.ok .ct, δ2)) ∧ Inv (k + i + 1) δ2) →
    ∃ δ', forM T S ds δ = some (.ok .nx, δ') ∧ Inv (k + ds.length) δ'
  | [], k, δ, h, _ => ⟨δ, rfl, h⟩
  | d :: ds, k, δ, h, st => by
    obtain ⟨δ1, δ2, h1, h2, h3⟩ := st 0 d δ rfl h
    obtain ⟨δ', h4, h5⟩ := forM_inv Inv ds (k + 1) δ2 (by simpa using h3) fun i d δ hd hi => by
      have := st (i + 1) d δ (by simpa using hd) (by rw [show k + (i + 1) = k + 1 + i by omega]; exact hi)
      rw [show k + (i + 1) = k + 1 + i by omega] at this
      exact this
    refine ⟨δ', ?_, by rw [List.length_cons, show k + (ds.length + 1) = k + 1 + ds.length by omega]; exact h5⟩
    unfold forM
    rw [bind_ok h1]
    rcases h2 with h2 | h2
    · simp only [h2]; exact h4
    · simp only [h2]; exact h4
theorem sFor_inv {I : Mo (List D)} {T : D → Mo Unit} {S : Mo Out} {ds : List D} {δ δ0 : Env} (Inv : Nat → Env → Prop) (hi : I δ = some (.ok ds, δ0)) (h0 : Inv 0 δ0)
    (st : ∀ i d δ, ds[i]? = some d → Inv i δ → ∃ δ1 δ2, T d δ = some (.ok (), δ1) ∧ (S δ1 = some (.ok .nx, δ2) ∨ S δ1 = some (.ok .ct, δ2)) ∧ Inv (i + 1) δ2) :
    ∃ δ', sFor I T S δ = some (.ok .nx, δ') ∧ Inv ds.length δ' := by
  obtain ⟨δ', h1, h2⟩ := forM_inv Inv ds 0 δ0 h0 fun i d δ hd h => by rw [Nat.zero_add] at h ⊢; exact st i d δ hd h
  rw [Nat.zero_add] at h2
  exact ⟨δ', by unfold sFor; rw [bind_ok hi]; exact h1, h2⟩
theorem sWhile_inv {c : Mo Bool} {S : Mo Out} (Inv End : Env → Prop) (μ : Env → Nat) (st : ∀ δ, Inv δ → ∃ b δ1, c δ = some (.ok b, δ1) ∧ (b = false → End δ1) ∧ (b = true → ∃ δ2, S δ1 = some (.ok .nx, δ2) ∧ Inv δ2 ∧ μ δ2 < μ δ)) {δ : Env} (h : Inv δ) :
    ∃ δ', sWhile c S δ = some (.ok .nx, δ') ∧ End δ' := by
  have key : ∀ (n : Nat) (δ : Env), μ δ < n → Inv δ → ∃ δ', whileF c S n δ = some (.ok .nx, δ') ∧ End δ' := by
    intro n
    induction n with
    | zero => intro δ h; omega
    | succ n ih =>
      intro δ hn hi
      obtain ⟨b, δ1, h1, h2, h3⟩ := st δ hi
      cases b with
      | false =>
        refine ⟨δ1, ?_, h2 rfl⟩
        unfold whileF
        rw [bind_ok h1, if_neg Bool.false_ne_true]; rfl
      | true =>
        obtain ⟨δ2, h4, h5, h6⟩ := h3 rfl
        obtain ⟨δ', h7, h8⟩ := ih δ2 (by omega) h5
        refine ⟨δ', ?_, h8⟩
        unfold whileF
        rw [bind_ok h1, if_pos rfl]
        simp only [h4]; exact h7
  obtain ⟨δ', h1, h2⟩ := key (μ δ + 1) δ (by omega) h
  exact ⟨δ', sWhile_of h1, h2⟩
theorem sSeq_ok {a b : Mo Out} {δ δ1 : Env} (h : a δ = some (.ok .nx, δ1)) : sSeq a b δ = b δ1 := by unfold sSeq; rw [h]
/-- a list comprehension whose turns leave everything as it was -/
theorem lcM_pure {T : D → Mo Unit} {C : Mo Bool} {E : Mo D} {vs : List Nat} {δ : Env} {p : D → Bool} {f : D → D} : ∀ (ds acc : List D),
    (∀ d ∈ ds, ∃ δ1 δ2, T d δ = some (.ok (), δ1) ∧ C δ1 = some (.ok (p d), δ2) ∧ (p d = false → wipeE δ2 vs = δ) ∧ (p d = true → ∃ δ3, E δ2 = some (.ok (f d), δ3) ∧ wipeE δ3 vs = δ)) →
    lcM T C E vs ds acc δ = some (.ok (.lst (acc ++ (ds.filter p).map f)), δ)
  | [], acc, _ => by unfold lcM; simp
  | d :: ds, acc, h => by
    obtain ⟨δ1, δ2, h1, h2, h3, h4⟩ := h d List.mem_cons_self
    unfold lcM
    simp only [h1, h2]
    cases hp : p d with
    | false =>
      simp only [hp]
      rw [h3 hp, lcM_pure ds acc fun d' m => h d' (List.mem_cons_of_mem _ m), List.filter_cons_of_neg (by rw [hp]; simp)]
    | true =>
      obtain ⟨δ3, h5, h6⟩ := h4 hp
      simp only [hp, h5]
      rw [h6, lcM_pure ds (acc ++ [f d]) fun d' m => h d' (List.mem_cons_of_mem _ m), List.filter_cons_of_pos hp, List.map_cons, List.append_assoc]; rfl
theorem eLc_pure {I : Mo (List D)} {T : D → Mo Unit} {C : Mo Bool} {E : Mo D} {vs : List Nat} {δ δ0 : Env} {ds : List D} {p : D → Bool} {f : D → D} (hi : I δ = some (.ok ds, δ0)) (hl : ds.length ≤ 1000)
    (h : ∀ d ∈ ds, ∃ δ1 δ2, T d (wipeE δ0 vs) = some (.ok (), δ1) ∧ C δ1 = some (.ok (p d), δ2) ∧ (p d = false → wipeE δ2 vs = wipeE δ0 vs) ∧ (p d = true → ∃ δ3, E δ2 = some (.ok (f d), δ3) ∧ wipeE δ3 vs = wipeE δ0 vs)) :
    eLc I T C E vs δ = some (.ok (.lst ((ds.filter p).map f)), wipeE δ0 vs) := by
  unfold eLc
  rw [bind_ok hi, if_pos (small_line hl), lcM_pure ds [] h]; rfl
end M

set_option Elab.async false
set_option linter.all false
set_option maxRecDepth 100000
/-! The plain side: the combinators, applied. -/
namespace M
open PySem L2
abbrev Re (α : Type) := Option (Except Exn α × Env)
def bk {α β : Type} (k : α → Mo β) : Re α → Re β
  | none => none
  | some (.error x, δ) => some (.error x, δ)
  | some (.ok a, δ) => k a δ
def sk (k : Mo Out) : Re Out → Re Out
  | some (.ok .nx, δ) => k δ
  | r => r
def fk (n : Nat) : Re Out → Re D
  | some (.ok (.rt d), δ') => some (.ok d, ios n δ')
  | some (.ok (.rtO d), δ') => some (.ok d, ios n δ')
  | some (.ok .nx, δ') => some (.ok .non, ios n δ')
  | some (.error x, δ') => some (.error x, ios n δ')
  | _ => none
def lk {α : Type} (o : Option α) (δ : Env) : Re α := match o with
  | none => none
  | some a => some (.ok a, δ)
def vk (i : Nat) (δ : Env) : Option Sl → Re D
  | some (.imm d) => some (.ok d, δ)
  | some (.own d) => some (.ok d, δ.set i (.imm d))
  | some (.bor d) => if flatD d then some (.ok d, δ) else none
  | _ => none
def gk (i : Nat) (δ : Env) : Option Sl → Re D
  | some (.own d) => some (.ok d, δ.set i .no)
  | _ => none
section
variable {α β : Type} {a b : Mo D} {A B : Mo D} {δ : Env} {d : D} {i : Nat} {p q : Prop} [Decidable p]
theorem x_bind {m : Mo α} {k : α → Mo β} : Mo.bind m k δ = bk k (m δ) := by
  unfold Mo.bind bk
  cases m δ with
  | none => rfl
  | some z => obtain ⟨x, δ'⟩ := z; cases x <;> rfl
theorem bk_ok {k : α → Mo β} {a : α} : bk k (some (.ok a, δ)) = k a δ := rfl
theorem bk_ite {k : α → Mo β} {x y : Re α} : bk k (if p then x else y) = if p then bk k x else bk k y := by split <;> rfl
theorem x_ret {a : α} : Mo.ret a δ = some (.ok a, δ) := rfl
theorem x_lift {o : Option α} : Mo.lift o δ = lk o δ := by unfold Mo.lift lk; cases o <;> rfl
theorem lk_some {a : α} : lk (some a) δ = some (.ok a, δ) := rfl
theorem lk_ite {x y : Option α} : lk (if p then x else y) δ = if p then lk x δ else lk y δ := by split <;> rfl
theorem app_ite {x y : Mo α} : (if p then x else y) δ = if p then x δ else y δ := by split <;> rfl
theorem x_eC : eC d δ = some (.ok d, δ) := rfl
theorem x_eV : eV i δ = vk i δ δ[i]? := by unfold eV vk; split <;> simp_all
theorem vk_imm : vk i δ (some (.imm d)) = some (.ok d, δ) := rfl
theorem vk_own : vk i δ (some (.own d)) = some (.ok d, δ.set i (.imm d)) := rfl
theorem vk_bor : vk i δ (some (.bor d)) = if flatD d then some (.ok d, δ) else none := rfl
theorem x_give : eGive i δ = gk i δ δ[i]? := by unfold eGive gk; split <;> simp_all
theorem gk_own : gk i δ (some (.own d)) = some (.ok d, δ.set i .no) := rfl
theorem x_bin {f : D → D → Option D} : eBin f A B δ = bk (fun x => B.bind fun y => Mo.lift (f x y)) (A δ) := x_bind
theorem x_un {f : D → Option D} : eUn f A δ = bk (fun x => Mo.lift (f x)) (A δ) := x_bind
theorem x_ix : eIx A B δ = bk (fun x => B.bind fun y => Mo.lift (dIx x y)) (A δ) := x_bind
theorem x_tru : eTru A δ = bk (fun d => Mo.lift (dTru d)) (A δ) := x_bind
theorem x_eB : eB A δ = bk (fun d => Mo.lift (dBl d)) (A δ) := x_bind
theorem dBl_bl {b : Bool} : dBl (.bl b) = some b := rfl
theorem dTru_bl {b : Bool} : dTru (.bl b) = some b := rfl
theorem dTru_int {j : Int} : dTru (.int j) = some (j != 0) := rfl
theorem dTru_lst {l : List D} : dTru (.lst l) = some (!l.isEmpty) := rfl
theorem x_and {S T : Mo Bool} : tAndM S T δ = bk (fun a => if a = true then T else Mo.ret false) (S δ) := x_bind
theorem x_or {S T : Mo Bool} : tOrM S T δ = bk (fun a => if a = true then Mo.ret true else T) (S δ) := x_bind
theorem x_not {S : Mo Bool} : tNotM S δ = bk (fun a => Mo.ret (!a)) (S δ) := x_bind
theorem x_eAnd : eAnd A B δ = bk (fun x => (Mo.lift (dBl x)).bind fun b => if b = true then B else Mo.ret (.bl false)) (A δ) := x_bind
theorem x_eOr : eOr A B δ = bk (fun x => (Mo.lift (dBl x)).bind fun b => if b = true then Mo.ret (.bl true) else B) (A δ) := x_bind
theorem x_eNot : eNot A δ = bk (fun x => (Mo.lift (dBl x)).bind fun b => Mo.ret (.bl (!b))) (A δ) := x_bind
theorem x_eIf {T : Mo Bool} : eIf T A B δ = bk (fun b => if b = true then A else B) (T δ) := x_bind
theorem x_chain {f g : D → D → Option D} {C : Mo D} : eChain f g A B C δ = bk (fun x => B.bind fun y => (Mo.lift ((f x y).bind dBl)).bind fun k => if k = true then C.bind fun z => Mo.lift (g y z) else Mo.ret (.bl false)) (A δ) := x_bind
theorem x_aNil : aNil δ = some (.ok [], δ) := rfl
theorem x_aCons {E : Mo D} {R : Mo (List Ag)} : aCons E R δ = bk (fun d => R.bind fun as => Mo.ret (.im d :: as)) (E δ) := x_bind
def rk (i : Nat) (R : Mo (List Ag)) (δ : Env) : Option Sl → Re (List Ag)
  | some (.own _) => (R.bind fun as => Mo.ret (.vr i :: as)) δ
  | some (.io _) => (R.bind fun as => Mo.ret (.vr i :: as)) δ
  | _ => none
theorem x_aVr {R : Mo (List Ag)} : aVr i R δ = rk i R δ δ[i]? := by unfold aVr rk; split <;> simp_all
theorem rk_own {R : Mo (List Ag)} : rk i R δ (some (.own d)) = (R.bind fun as => Mo.ret (.vr i :: as)) δ := rfl
theorem rk_io {R : Mo (List Ag)} : rk i R δ (some (.io d)) = (R.bind fun as => Mo.ret (.vr i :: as)) δ := rfl
def tk (i : Nat) (R : Mo (List Ag)) (δ : Env) : Option Sl → Re (List Ag)
  | some .no => none
  | some _ => (R.bind fun as => Mo.ret (.vb i :: as)) δ
  | none => none
theorem x_aVb {R : Mo (List Ag)} : aVb i R δ = tk i R δ δ[i]? := by
  unfold aVb tk
  cases h : δ[i]? with
  | none => rfl
  | some s => cases s <;> rfl
theorem tk_own {R : Mo (List Ag)} : tk i R δ (some (.own d)) = (R.bind fun as => Mo.ret (.vb i :: as)) δ := rfl
theorem tk_io {R : Mo (List Ag)} : tk i R δ (some (.io d)) = (R.bind fun as => Mo.ret (.vb i :: as)) δ := rfl
theorem tk_imm {R : Mo (List Ag)} : tk i R δ (some (.imm d)) = (R.bind fun as => Mo.ret (.vb i :: as)) δ := rfl
theorem tk_bor {R : Mo (List Ag)} : tk i R δ (some (.bor d)) = (R.bind fun as => Mo.ret (.vb i :: as)) δ := rfl
theorem x_eTup {R : Mo (List Ag)} : eTup R δ = bk (fun as => Mo.lift ((imms as).bind fun ds => if ds.length ≤ 1000 then some (.tup ds) else none)) (R δ) := x_bind
theorem x_eLst {R : Mo (List Ag)} : eLst R δ = bk (fun as => Mo.lift ((imms as).bind fun ds => if ds.length ≤ 1000 then some (.lst ds) else none)) (R δ) := x_bind
theorem imms_nil : imms [] = some [] := rfl
theorem imms_im {as : List Ag} : imms (.im d :: as) = (imms as).map (d :: ·) := rfl
theorem x_eF {f : List D → Option D} {R : Mo (List Ag)} : eF f R δ = bk (fun as => Mo.lift ((imms as).bind f)) (R δ) := x_bind
theorem x_call {m : Mo D} {R : Mo (List Ag)} : eCall m R δ = bk (fun as => callM m as) (R δ) := x_bind
/-- x[e], the slot's kind apart -/
def ik (d : D) (B : Mo D) (bor : Bool) (δ : Env) : Re D := bk (fun y => fun δ' => match dIx d y with
  | some z => if bor = true then (if flatD z = true then some (.ok z, δ') else none) else some (.ok z, δ')
  | none => none) (B δ)
theorem ixV_of {s : Sl} (hs : δ[i]? = some s) (hd : slD s = some d) (hB : ∀ y δ', B δ = some (y, δ') → δ'[i]? = some s) : eIxV i B δ = ik d B (isBor s) δ := by
  have h1 : slotDct δ i = some (isDct d) := by unfold slotDct; rw [hs]; simp [hd]
  unfold eIxV ik
  rw [h1]
  simp only []
  rw [x_bind]
  cases q : B δ with
  | none => rfl
  | some z =>
    obtain ⟨y, δ'⟩ := z
    cases y with
    | error _ => rfl
    | ok y =>
      have h2 := hB _ _ q
      show ixSl i (isDct d) y δ' = _
      unfold ixSl
      rw [h2]
      cases s with
      | no => cases hd
      | imm d' => cases hd; simp only [if_true, x_lift, bk, isBor] <;> cases dIx d y <;> rfl
      | own d' => cases hd; simp only [if_true, x_lift, bk, isBor] <;> cases dIx d y <;> rfl
      | io d' => cases hd; simp only [if_true, x_lift, bk, isBor] <;> cases dIx d y <;> rfl
      | bor d' => cases hd; simp only [if_true, bk, isBor] <;> cases dIx d y <;> rfl
def jk (i : Nat) (B : Mo D) (δ : Env) : Option Sl → Re D
  | some s => match slD s with
    | some d => ik d B (isBor s) δ
    | none => none
  | none => none
theorem ixV_V {j : Nat} (hne : i ≠ j) : eIxV i (eV j) δ = jk i (eV j) δ δ[i]? := by
  cases h : δ[i]? with
  | none => unfold eIxV slotDct jk; rw [h]
  | some s =>
    cases h2 : slD s with
    | none => unfold eIxV slotDct jk; rw [h]; simp [h2]
    | some d =>
      rw [ixV_of h h2 fun y δ' q => ?_]
      · unfold jk; simp [h2]
      · rw [x_eV] at q
        unfold vk at q
        split at q
        · cases q; exact h
        · cases q; rw [List.getElem?_set_ne hne.symm]; exact h
        · split at q
          · cases q; exact h
          · cases q
        · cases q
theorem ixV_C {c : D} : eIxV i (eC c) δ = jk i (eC c) δ δ[i]? := by
  cases h : δ[i]? with
  | none => unfold eIxV slotDct jk; rw [h]
  | some s =>
    cases h2 : slD s with
    | none => unfold eIxV slotDct jk; rw [h]; simp [h2]
    | some d =>
      rw [ixV_of h h2 fun y δ' q => by cases q; exact h]
      unfold jk; simp [h2]
theorem jk_imm : jk i B δ (some (.imm d)) = bk (fun y => Mo.lift (dIx d y)) (B δ) := by
  show ik d B false δ = _
  unfold ik
  congr 1; funext y δ'; rw [x_lift]; unfold lk; cases dIx d y <;> rfl
theorem jk_own : jk i B δ (some (.own d)) = bk (fun y => Mo.lift (dIx d y)) (B δ) := jk_imm (i := i)
theorem jk_io : jk i B δ (some (.io d)) = bk (fun y => Mo.lift (dIx d y)) (B δ) := jk_imm (i := i)
def flk (o : Option D) : Option D := match o with
  | some z => if flatD z = true then some z else none
  | none => none
theorem jk_bor : jk i B δ (some (.bor d)) = bk (fun y => Mo.lift (flk (dIx d y))) (B δ) := by
  show ik d B true δ = _
  unfold ik
  congr 1; funext y δ'; rw [x_lift]; unfold lk flk
  cases h : dIx d y with
  | none => rfl
  | some z =>
    simp only [if_true]
    by_cases c : flatD z = true <;> simp [c]
theorem flk_int {j : Int} : flk (some (.int j)) = some (.int j) := rfl
def nk (δ : Env) : Option Sl → Re D
  | some s => (slD s).bind dLen |>.map fun d => (.ok d, δ)
  | none => none
theorem x_lenV : eLenV i δ = nk δ δ[i]? := by unfold eLenV nk; split <;> simp_all
theorem nk_imm : nk δ (some (.imm d)) = (dLen d).map fun d => (.ok d, δ) := rfl
theorem nk_own : nk δ (some (.own d)) = (dLen d).map fun d => (.ok d, δ) := rfl
theorem nk_io : nk δ (some (.io d)) = (dLen d).map fun d => (.ok d, δ) := rfl
theorem nk_bor : nk δ (some (.bor d)) = (dLen d).map fun d => (.ok d, δ) := rfl
def hk (neg : Bool) (x : D) (δ : Env) : Option Sl → Re D
  | some s => ((slD s).bind fun c => dIn neg x c).map fun d => (.ok d, δ)
  | none => none
theorem x_inV {neg : Bool} : eInV neg A i δ = bk (fun x δ => hk neg x δ δ[i]?) (A δ) := by
  unfold eInV; rw [x_bind]; congr 1
theorem hk_imm {neg : Bool} {x : D} : hk neg x δ (some (.imm d)) = (dIn neg x d).map fun d => (.ok d, δ) := rfl
theorem hk_own {neg : Bool} {x : D} : hk neg x δ (some (.own d)) = (dIn neg x d).map fun d => (.ok d, δ) := rfl
theorem hk_io {neg : Bool} {x : D} : hk neg x δ (some (.io d)) = (dIn neg x d).map fun d => (.ok d, δ) := rfl
theorem hk_bor {neg : Bool} {x : D} : hk neg x δ (some (.bor d)) = (dIn neg x d).map fun d => (.ok d, δ) := rfl
/-! statements -/
theorem x_sNx : sNx δ = some (.ok .nx, δ) := rfl
theorem x_pass : sPass δ = some (.ok .nx, δ) := rfl
theorem x_cont : sCont δ = some (.ok .ct, δ) := rfl
theorem x_brk : sBreak δ = some (.ok .bk, δ) := rfl
theorem x_seq {s t : Mo Out} : sSeq s t δ = sk t (s δ) := by
  unfold sSeq sk
  split <;> simp_all
theorem sk_nx {t : Mo Out} : sk t (some (.ok .nx, δ)) = t δ := rfl
theorem sk_rt {t : Mo Out} : sk t (some (.ok (.rt d), δ)) = some (.ok (.rt d), δ) := rfl
theorem sk_rtO {t : Mo Out} : sk t (some (.ok (.rtO d), δ)) = some (.ok (.rtO d), δ) := rfl
theorem sk_ct {t : Mo Out} : sk t (some (.ok .ct, δ)) = some (.ok .ct, δ) := rfl
theorem sk_bk {t : Mo Out} : sk t (some (.ok .bk, δ)) = some (.ok .bk, δ) := rfl
theorem sk_ite {t : Mo Out} {x y : Re Out} : sk t (if p then x else y) = if p then sk t x else sk t y := by split <;> rfl
theorem x_drop : sDrop A δ = bk (fun _ => Mo.ret .nx) (A δ) := x_bind
theorem x_sRet : sRet A δ = bk (fun d => Mo.ret (.rt d)) (A δ) := x_bind
theorem x_sRetO : sRetO A δ = bk (fun d => Mo.ret (.rtO d)) (A δ) := x_bind
theorem x_sIf {T : Mo Bool} {s t : Mo Out} : sIf T s t δ = bk (fun k => if k = true then s else t) (T δ) := x_bind
theorem x_asg {T : D → Mo Unit} : sAsg T A δ = bk (fun d => (T d).bind fun _ => Mo.ret .nx) (A δ) := x_bind
theorem x_asgO : sAsgO i A δ = bk (fun d => (gO i d).bind fun _ => Mo.ret .nx) (A δ) := x_bind
theorem x_gN : gN i d δ = if i < δ.length then some (.ok (), δ.set i (.imm d)) else none := rfl
theorem x_gO : gO i d δ = if i < δ.length then some (.ok (), δ.set i (.own d)) else none := rfl
theorem x_gNil : gNil [] δ = some (.ok (), δ) := rfl
theorem x_gCons {T : D → Mo Unit} {Ts : List D → Mo Unit} {ds : List D} : gCons T Ts (d :: ds) δ = bk (fun _ => Ts ds) (T d δ) := x_bind
theorem x_gTt {n : Nat} {Ts : List D → Mo Unit} {ds : List D} : gT n Ts (.tup ds) δ = if ds.length = n then Ts ds δ else none := by
  show (if ds.length = n then Ts ds else fun _ => none) δ = _
  split <;> rfl
theorem x_gTl {n : Nat} {Ts : List D → Mo Unit} {ds : List D} : gT n Ts (.lst ds) δ = if ds.length = n then Ts ds δ else none := by
  show (if ds.length = n then Ts ds else fun _ => none) δ = _
  split <;> rfl
theorem x_sApp : sApp i A δ = if isLst δ i = true then bk (fun x => (chM i (dAppend x)).bind fun _ => Mo.ret .nx) (A δ) else none := by
  unfold sApp; split <;> first | rfl | exact x_bind
theorem x_sSet : sSet i A B δ = bk (fun v => fun δ => if isSet δ i = true then (A.bind fun k => (chM i (dSet k v)).bind fun _ => Mo.ret .nx) δ else none) (B δ) := x_bind
def ck (i : Nat) (f : D → Option D) (δ : Env) : Option Sl → Re Unit
  | some (.own d) => (f d).map fun d' => (.ok (), δ.set i (.own d'))
  | some (.io d) => (f d).map fun d' => (.ok (), δ.set i (.io d'))
  | _ => none
theorem x_chM {f : D → Option D} : chM i f δ = ck i f δ δ[i]? := by unfold chM ck; split <;> simp_all
theorem ck_own {f : D → Option D} : ck i f δ (some (.own d)) = (f d).map fun d' => (.ok (), δ.set i (.own d')) := rfl
theorem ck_io {f : D → Option D} : ck i f δ (some (.io d)) = (f d).map fun d' => (.ok (), δ.set i (.io d')) := rfl
theorem x_iOf : iOf A δ = bk (fun d => Mo.lift (itD d)) (A δ) := x_bind
theorem x_iRg {f : List D → Option (List D)} {R : Mo (List Ag)} : iRg f R δ = bk (fun as => Mo.lift ((imms as).bind f)) (R δ) := x_bind
theorem x_fn {N n : Nat} {body : Mo Out} : fnM N n body δ = fk n (body (δ ++ List.replicate (N - n) .no)) := by
  unfold fnM fk; split <;> simp_all
theorem fk_rt {n : Nat} : fk n (some (.ok (.rt d), δ)) = some (.ok d, ios n δ) := rfl
theorem fk_nx {n : Nat} : fk n (some (.ok .nx, δ)) = some (.ok .non, ios n δ) := rfl
theorem fk_ite {n : Nat} {x y : Re Out} : fk n (if p then x else y) = if p then fk n x else fk n y := by split <;> rfl
theorem ios_z : ios 0 δ = [] := by cases δ <;> rfl
theorem ios_s {n : Nat} {s : Sl} : ios (n + 1) (s :: δ) = keepIo s :: ios n δ := rfl
theorem keep_io : keepIo (.io d) = .io d := rfl
theorem keep_imm : keepIo (.imm d) = .no := rfl
theorem keep_own : keepIo (.own d) = .no := rfl
theorem keep_bor : keepIo (.bor d) = .no := rfl
theorem keep_no : keepIo .no = .no := rfl
theorem dSub_i {x y : Int} : dSub (.int x) (.int y) = some (.int (x - y)) := rfl
theorem dAdd_i {x y : Int} : dAdd (.int x) (.int y) = some (.int (x + y)) := rfl
theorem dLt_i {x y : Int} : dLt (.int x) (.int y) = some (.bl (decide (x < y))) := rfl
theorem dLe_i {x y : Int} : dLe (.int x) (.int y) = some (.bl (decide (x ≤ y))) := rfl
theorem dGt_i {x y : Int} : dGt (.int x) (.int y) = some (.bl (decide (y < x))) := rfl
theorem dGe_i {x y : Int} : dGe (.int x) (.int y) = some (.bl (decide (y ≤ x))) := rfl
theorem dMod_i {x y : Int} (h : 0 < y) : dMod (.int x) (.int y) = some (.int (x % y)) := by
  show (if cMod x y = true then some (D.int (x % y)) else none) = _
  rw [if_pos (by unfold cMod; exact decide_eq_true h)]
theorem dDiv_i {x y : Int} (h : 0 < y) (h2 : y < 1073741824) : dDiv (.int x) (.int y) = some (.int (x / y)) := by
  show (if cDiv x y = true then some (D.int (x / y)) else none) = _
  rw [if_pos (by unfold cDiv; simp [h, h2])]
theorem dMul_r {x y : Int} (h : -18446744073709551616 < y) (h2 : y < 18446744073709551616) : dMul (.int x) (.int y) = some (.int (x * y)) := by
  show (if cMul x y = true then some (D.int (x * y)) else none) = _
  rw [if_pos (by unfold cMul; simp [h, h2])]
theorem ix_lst {l : List D} {j : Int} : dIx (.lst l) (.int j) = atI l j := rfl
theorem ix_scr {l : List D} {j : Int} : dIx (.scr l) (.int j) = atI l j := rfl
theorem ix_tup {l : List D} {j : Int} : dIx (.tup l) (.int j) = atI l j := rfl
theorem atI_0 {α : Type} {x : α} {l : List α} : atI (x :: l) 0 = some x := atI_nat (n := 0) rfl
theorem atI_1 {α : Type} {x y : α} {l : List α} : atI (x :: y :: l) 1 = some y := atI_nat (n := 1) rfl
theorem atI_2 {α : Type} {x y z : α} {l : List α} : atI (x :: y :: z :: l) 2 = some z := atI_nat (n := 2) rfl
theorem atI_3 {α : Type} {x y z u : α} {l : List α} : atI (x :: y :: z :: u :: l) 3 = some u := atI_nat (n := 3) rfl
end
end M

set_option Elab.async false
set_option linter.all false
set_option maxRecDepth 100000
set_option maxHeartbeats 1000000
/-! The plain side: what every law uses. -/
namespace M
open PySem L2
def iD (l : List Int) : D := .lst (l.map D.int)
def dkM (as : List Ag) (δ : Env) : Re D → Re D
  | none => none
  | some (r, δc') => match backs as δc' δ with
    | none => none
    | some δ' => some (r, δ')
theorem x_call2 {m : Mo D} {a b : D} {δ : Env} : callM m [.im a, .im b] δ = dkM [.im a, .im b] δ (m [.imm a, .imm b]) := by
  unfold callM dkM argSls argSl
  simp only [argSls, argSl, vrs, vbs, List.nodup_nil, true_and]
  rw [if_pos (fun i h => by simp at h)]
  cases m [.imm a, .imm b] <;> rfl
theorem x_call3 {m : Mo D} {a b c : D} {δ : Env} : callM m [.im a, .im b, .im c] δ = dkM [.im a, .im b, .im c] δ (m [.imm a, .imm b, .imm c]) := by
  unfold callM dkM argSls argSl
  simp only [argSls, argSl, vrs, vbs, List.nodup_nil, true_and]
  rw [if_pos (fun i h => by simp at h)]
  cases m [.imm a, .imm b, .imm c] <;> rfl
theorem dk2 {a b d : D} {s t : Sl} {δ : Env} : dkM [.im a, .im b] δ (some (.ok d, [s, t])) = some (.ok d, δ) := rfl
theorem dk3 {a b c d : D} {s t u : Sl} {δ : Env} : dkM [.im a, .im b, .im c] δ (some (.ok d, [s, t, u])) = some (.ok d, δ) := rfl
def iLk : Option Sl → Bool
  | some (.own (.lst _)) => true
  | some (.io (.lst _)) => true
  | _ => false
def iSk : Option Sl → Bool
  | some (.own _) => true
  | some (.io _) => true
  | _ => false
theorem x_isLst {δ : Env} {i : Nat} : isLst δ i = iLk δ[i]? := rfl
theorem x_isSet {δ : Env} {i : Nat} : isSet δ i = iSk δ[i]? := rfl
theorem iLk_l {l : List D} : iLk (some (.own (.lst l))) = true := rfl
theorem iLk_lo {l : List D} : iLk (some (.io (.lst l))) = true := rfl
theorem iSk_own {d : D} : iSk (some (.own d)) = true := rfl
theorem iSk_io {d : D} : iSk (some (.io d)) = true := rfl
theorem at_map {α : Type} {f : α → D} {l : List α} {i : Nat} {x : α} (h : l[i]? = some x) : atI (l.map f) (i : Int) = some (f x) := atI_nat (by rw [List.getElem?_map, h]; rfl)
theorem putA_new {κ α : Type} [DecidableEq κ] : ∀ {l : List (κ × α)} {k : κ} {v : α}, (∀ p ∈ l, p.1 ≠ k) → putA l k v = l ++ [(k, v)] := fun {l k v} h => by
  unfold putA
  rw [if_neg]
  simp only [List.any_eq_true, decide_eq_true_eq, not_exists, not_and]
  exact fun p hp => h p hp
theorem dApp_l {x : D} {l : List D} (hl : l.length ≤ 1000) : dAppend x (.lst l) = some (.lst (l ++ [x])) := by
  show (if l.length < sizeLine then _ else none) = _
  rw [if_pos (small1000 hl)]
theorem minL_ex : ∀ {l : List Int}, l ≠ [] → ∃ m, minL l = some m ∧ m ∈ l ∧ ∀ x ∈ l, m ≤ x
  | [], h => absurd rfl h
  | x :: l, _ => by
    refine ⟨_, rfl, ?_, fun y hy => ?_⟩
    · rcases (foldl_min l x).1 with h | h
      · rw [h]; exact List.mem_cons_self
      · exact List.mem_cons_of_mem _ h
    · obtain ⟨_, h2, h3⟩ := foldl_min l x
      rcases List.mem_cons.mp hy with rfl | hy
      · exact h2
      · exact h3 y hy
theorem intsD_map : ∀ l : List Int, intsD (l.map D.int) = some l
  | [] => rfl
  | x :: l => by rw [List.map_cons]; unfold intsD; rw [intsD_map l]; rfl
theorem fMin_i {l : List Int} {m : Int} (h : minL l = some m) : fMin [iD l] = some (.int m) := by
  unfold fMin lstInts iD
  simp only [intsD_map, Option.bind_some, h, Option.map_some]
theorem ixN_nat {n i : Nat} (h : i < n) : ixN n (i : Int) = some i := by
  unfold ixN
  rw [if_pos (Int.natCast_nonneg i), if_pos (by omega)]
  simp
theorem dSet_i {i : Nat} {x : Int} {fs : List Int} (h : i < fs.length) : dSet (.int (i : Int)) (.int x) (iD fs) = some (iD (fs.set i x)) := by
  show ((ixN (fs.map D.int).length (i : Int)).map fun j => D.lst ((fs.map D.int).set j (.int x))) = _
  rw [ixN_nat (by rw [List.length_map]; exact h)]
  unfold iD; rw [List.map_set]; rfl
theorem call_of {m : Mo D} {as : List Ag} {δ δc δc' δ' : Env} {r : D} (h1 : argSls δ as = some δc) (h2 : (vrs as).Nodup ∧ ∀ i ∈ vbs as, i ∉ vrs as) (h3 : m δc = some (.ok r, δc')) (h4 : backs as δc' δ = some δ') : callM m as δ = some (.ok r, δ') := by
  unfold callM
  rw [h1]
  simp only []
  rw [if_pos h2, h3]
  simp only [h4]
theorem fInt_i {x : Int} : fInt [.int x] = some (.int x) := rfl
theorem fAbs_i {x : Int} : fAbs [.int x] = some (.int (if x < 0 then -x else x)) := rfl
theorem fLen_scr {l : List D} : fLen [.scr l] = some (.int (l.length : Nat)) := rfl
theorem fLen_lst {l : List D} : fLen [.lst l] = some (.int (l.length : Nat)) := rfl
theorem ssq {a b : Mo Out} {δ δ1 : Env} {r : Re Out} (h : a δ = some (.ok .nx, δ1)) (h2 : b δ1 = r) : sSeq a b δ = r := by rw [sSeq_ok h]; exact h2
theorem sIf_t {T : Mo Bool} {a b : Mo Out} {δ δ1 : Env} (h : T δ = some (.ok true, δ1)) : sIf T a b δ = a δ1 := by rw [x_sIf, h]; rfl
theorem sIf_f {T : Mo Bool} {a b : Mo Out} {δ δ1 : Env} (h : T δ = some (.ok false, δ1)) : sIf T a b δ = b δ1 := by rw [x_sIf, h]; rfl
theorem call_v1 {m : Mo D} {a d d' r : D} {s : Sl} {δ : Env} (hm : m [.io d, .imm a] = some (.ok r, [.io d', s])) : callM m [.vr 0, .im a] (.io d :: δ) = some (.ok r, .io d' :: δ) :=
  call_of (by simp only [argSls, argSl, List.getElem?_cons_zero]) ⟨by simp [vrs], by simp [vbs]⟩ hm (by simp only [backs, List.getElem?_cons_zero, List.set_cons_zero])
theorem lay_all : ∀ {l : List D}, (∀ d ∈ l, (toPy d).canLay0 = true) → PyData.canLayAll0 (toPys l) = true
  | [], _ => rfl
  | d :: l, h => by
    unfold toPys PyData.canLayAll0
    rw [h d List.mem_cons_self, lay_all fun e m => h e (List.mem_cons_of_mem _ m)]; rfl
theorem dep_all {k : Nat} : ∀ {l : List D}, (∀ d ∈ l, (toPy d).depth ≤ k) → PyData.depthAll (toPys l) ≤ k
  | [], _ => Nat.zero_le _
  | d :: l, h => by
    unfold toPys PyData.depthAll
    have h1 := h d List.mem_cons_self
    have h2 := dep_all fun e m => h e (List.mem_cons_of_mem _ m)
    omega
theorem shp_of {l : List D} (h1 : ∀ d ∈ l, (toPy d).canLay0 = true) (h2 : ∀ d ∈ l, (toPy d).depth ≤ 60) : shp (.lst l) = true := by
  unfold shp SeqAt.shaped toPy
  have := dep_all h2
  rw [Bool.and_eq_true]
  refine ⟨lay_all h1, decide_eq_true ?_⟩
  show PyData.depth (.list (toPys l)) ≤ 64
  unfold PyData.depth
  omega
theorem eqv_all : ∀ {l : List D}, (∀ d ∈ l, PyData.eqv (toPy d) (toPy d) = true) → PyData.eqvAll (toPys l) (toPys l) = true
  | [], _ => by unfold toPys PyData.eqvAll; rfl
  | d :: l, h => by
    unfold toPys PyData.eqvAll
    rw [h d List.mem_cons_self, eqv_all fun e m => h e (List.mem_cons_of_mem _ m)]; rfl
structure Fine (d : D) : Prop where
  lay : (toPy d).canLay0 = true
  dep : (toPy d).depth ≤ 20
  rfl : PyData.eqv (toPy d) (toPy d) = true
theorem fine_int (i : Int) : Fine (.int i) := ⟨rfl, by unfold toPy PyData.depth; omega, by unfold toPy PyData.eqv; simp⟩
theorem fine_shp {d : D} (h : Fine d) : shp d = true := by
  unfold shp SeqAt.shaped
  rw [Bool.and_eq_true]
  exact ⟨h.lay, decide_eq_true (by have := h.dep; omega)⟩
theorem fine_lst {k : Nat} {l : List D} (hk : k < 20) (h : ∀ d ∈ l, Fine d ∧ (toPy d).depth ≤ k) : Fine (.lst l) ∧ (toPy (.lst l)).depth ≤ k + 1 := by
  have h1 : (toPy (.lst l)).depth ≤ k + 1 := by
    have := dep_all fun d m => (h d m).2
    unfold toPy PyData.depth; omega
  exact ⟨⟨lay_all fun d m => (h d m).1.lay, by omega, by unfold toPy PyData.eqv; exact eqv_all fun d m => (h d m).1.rfl⟩, h1⟩
theorem fine_tup {k : Nat} {l : List D} (hk : k < 20) (h : ∀ d ∈ l, Fine d ∧ (toPy d).depth ≤ k) : Fine (.tup l) ∧ (toPy (.tup l)).depth ≤ k + 1 := by
  have h1 : (toPy (.tup l)).depth ≤ k + 1 := by
    have := dep_all fun d m => (h d m).2
    unfold toPy PyData.depth; omega
  exact ⟨⟨lay_all fun d m => (h d m).1.lay, by omega, by unfold toPy PyData.eqv; exact eqv_all fun d m => (h d m).1.rfl⟩, h1⟩
theorem fine_int' (i : Int) : Fine (.int i) ∧ (toPy (.int i)).depth ≤ 0 := ⟨fine_int i, by unfold toPy PyData.depth; omega⟩
theorem fine_iD (l : List Int) : Fine (iD l) := (fine_lst (k := 0) (by omega) fun d m => by
  obtain ⟨i, _, rfl⟩ := List.mem_map.mp m; exact fine_int' i).1
theorem dNe_rfl {d : D} (h : Fine d) : dNe d d = some (.bl false) := by
  unfold dNe; rw [if_pos ⟨fine_shp h, fine_shp h⟩, h.rfl]; rfl
theorem dEq_rfl {d : D} (h : Fine d) : dEq d d = some (.bl true) := by
  unfold dEq; rw [if_pos ⟨fine_shp h, fine_shp h⟩, h.rfl]
theorem dNe_bl {a b : Bool} : dNe (.bl a) (.bl b) = some (.bl (a != b)) := by
  have h : ∀ b : Bool, shp (.bl b) = true := fun b => by cases b <;> rfl
  unfold dNe; rw [if_pos ⟨h a, h b⟩]
  cases a <;> cases b <;> rfl
theorem fSum_i {l : List Int} : fSum [iD l] = some (.int l.sum) := by
  unfold fSum lstInts iD
  simp only [intsD_map, Option.map_some]
theorem take_snoc {α : Type} {l : List α} {k : Nat} {x : α} (h : l[k]? = some x) : l.take (k + 1) = l.take k ++ [x] := by rw [List.take_add_one, h]; rfl
theorem rgD_get {n k : Nat} {d : D} (h : (rgD 0 n)[k]? = some d) : k < n ∧ d = .int (k : Int) := by
  unfold rgD at h
  rw [List.getElem?_map] at h
  by_cases c : k < n
  · rw [List.getElem?_range c] at h; cases h; exact ⟨c, by simp⟩
  · rw [List.getElem?_eq_none (by rw [List.length_range]; omega)] at h; cases h
theorem rgD_len {lo : Int} {n : Nat} : (rgD lo n).length = n := by unfold rgD; rw [List.length_map, List.length_range]
theorem fLen_iD {l : List Int} : fLen [iD l] = some (.int ((l.length : Nat) : Int)) := by
  show some (D.int (((l.map D.int).length : Nat) : Int)) = _
  rw [List.length_map]
theorem rg1_n {n : Nat} (h : n ≤ 1000) : rg1 [.int (n : Int)] = some (rgD 0 n) := by
  show (if (n : Int) ≤ 16777216 ∧ -16777216 ≤ (n : Int) then some (rgD 0 ((n : Int)).toNat) else none) = _
  rw [if_pos ⟨by omega, by omega⟩, Int.toNat_natCast]
theorem rg1_i {z : Int} (h0 : 0 ≤ z) (h : z ≤ 1000) : rg1 [.int z] = some (rgD 0 z.toNat) := by
  show (if z ≤ 16777216 ∧ -16777216 ≤ z then some (rgD 0 z.toNat) else none) = _
  rw [if_pos ⟨by omega, by omega⟩]
theorem x_call1 {m : Mo D} {a : D} {δ : Env} : callM m [.im a] δ = dkM [.im a] δ (m [.imm a]) := by
  unfold callM dkM argSls argSl
  simp only [argSls, argSl, vrs, vbs, List.nodup_nil, true_and]
  rw [if_pos (fun i h => by simp at h)]
  cases m [.imm a] <;> rfl
theorem x_call4 {m : Mo D} {a b c d : D} {δ : Env} : callM m [.im a, .im b, .im c, .im d] δ = dkM [.im a, .im b, .im c, .im d] δ (m [.imm a, .imm b, .imm c, .imm d]) := by
  unfold callM dkM argSls argSl
  simp only [argSls, argSl, vrs, vbs, List.nodup_nil, true_and]
  rw [if_pos (fun i h => by simp at h)]
  cases m [.imm a, .imm b, .imm c, .imm d] <;> rfl
theorem dk1 {a d : D} {s : Sl} {δ : Env} : dkM [.im a] δ (some (.ok d, [s])) = some (.ok d, δ) := rfl
theorem dk4 {a b c e d : D} {s t u v : Sl} {δ : Env} : dkM [.im a, .im b, .im c, .im e] δ (some (.ok d, [s, t, u, v])) = some (.ok d, δ) := rfl
theorem has_iD {v : Int} : ∀ {l : List Int}, hasPy (.int v) (l.map D.int) = decide (v ∈ l)
  | [] => rfl
  | x :: l => by
    have ih := has_iD (v := v) (l := l)
    unfold hasPy at ih ⊢
    rw [List.map_cons, toPys, List.any_cons, ih]
    show (PyData.eqv (toPy (.int x)) (toPy (.int v)) || _) = _
    unfold toPy PyData.eqv
    by_cases c : x = v
    · subst c; simp
    · simp [c, Ne.symm c]
theorem dIn_iD {neg : Bool} {v : Int} {l : List Int} : dIn neg (.int v) (iD l) = some (.bl (if neg then !decide (v ∈ l) else decide (v ∈ l))) := by
  show (if shp (.int v) = true ∧ shp (.lst (l.map D.int)) = true then some (D.bl (if neg then !hasPy (.int v) (l.map D.int) else hasPy (.int v) (l.map D.int))) else none) = _
  rw [if_pos ⟨fine_shp (fine_int v), fine_shp (fine_iD l)⟩, has_iD]
theorem lst_app {l m : List D} (h : l.length ≤ 1000) (h2 : m.length ≤ 1000) : dAdd (.lst l) (.lst m) = some (.lst (l ++ m)) := by
  show (if l.length + m.length ≤ sizeLine then _ else none) = _
  rw [if_pos (by have := small1000 (show 1000 ≤ 1000 by omega); rw [sizeLine_eq]; omega)]
theorem dNeX_i (a b : Int) : dNeX (.int a) (.int b) = some (.bl (!decide (a = b))) := dNe_int a b
theorem dEqX_i (a b : Int) : dEqX (.int a) (.int b) = some (.bl (decide (a = b))) := dEq_int a b
/-! comprehensions whose turns leave everything as it was -/
section
variable {α : Type} {I : Mo (List D)} {T : D → Mo Unit} {C : Mo Bool} {E Ek Ev : Mo D} {vs : List Nat} {δ δ0 : Env} {l : List α} {g : α → D} {p : α → Bool} {f : α → D} {fi : α → Int} {kk : α → List Key}
def TurnOk (T : D → Mo Unit) (C : Mo Bool) (E : Mo D) (vs : List Nat) (δ : Env) (x : D) (p : Bool) (y : D) : Prop :=
  ∃ δ1 δ2, T x δ = some (.ok (), δ1) ∧ C δ1 = some (.ok p, δ2) ∧ (p = false → wipeE δ2 vs = δ) ∧ (p = true → ∃ δ3, E δ2 = some (.ok y, δ3) ∧ wipeE δ3 vs = δ)
theorem lcM_a : ∀ (l : List α) (acc : List D), (∀ a ∈ l, TurnOk T C E vs δ (g a) (p a) (f a)) → lcM T C E vs (l.map g) acc δ = some (.ok (.lst (acc ++ (l.filter p).map f)), δ)
  | [], acc, _ => by unfold lcM; simp
  | a :: l, acc, h => by
    obtain ⟨δ1, δ2, h1, h2, h3, h4⟩ := h a List.mem_cons_self
    rw [List.map_cons]
    unfold lcM
    simp only [h1, h2]
    cases hp : p a with
    | false =>
      simp only [hp]
      rw [h3 hp, lcM_a l acc fun d' m => h d' (List.mem_cons_of_mem _ m), List.filter_cons_of_neg (by rw [hp]; simp)]
    | true =>
      obtain ⟨δ3, h5, h6⟩ := h4 hp
      simp only [hp, h5]
      rw [h6, lcM_a l (acc ++ [f a]) fun d' m => h d' (List.mem_cons_of_mem _ m), List.filter_cons_of_pos hp, List.map_cons, List.append_assoc]; rfl
theorem eLc_map (hi : I δ = some (.ok (l.map g), δ0)) (hl : l.length ≤ 1000) (h : ∀ a ∈ l, TurnOk T C E vs (wipeE δ0 vs) (g a) (p a) (f a)) : eLc I T C E vs δ = some (.ok (.lst ((l.filter p).map f)), wipeE δ0 vs) := by
  unfold eLc
  rw [bind_ok hi, if_pos (by rw [List.length_map]; exact small_line hl), lcM_a l [] h]; rfl
theorem scM_a : ∀ (l : List α) (acc : List Int), (∀ a ∈ l, TurnOk T C E vs δ (g a) (p a) (.int (fi a))) → scM T C E vs (l.map g) acc δ = some (.ok (acc ++ (l.filter p).map fi), δ)
  | [], acc, _ => by unfold scM; simp
  | a :: l, acc, h => by
    obtain ⟨δ1, δ2, h1, h2, h3, h4⟩ := h a List.mem_cons_self
    rw [List.map_cons]
    unfold scM
    simp only [h1, h2]
    cases hp : p a with
    | false =>
      simp only [hp]
      rw [h3 hp, scM_a l acc fun d' m => h d' (List.mem_cons_of_mem _ m), List.filter_cons_of_neg (by rw [hp]; simp)]
    | true =>
      obtain ⟨δ3, h5, h6⟩ := h4 hp
      simp only [hp, h5]
      rw [h6, scM_a l (acc ++ [fi a]) fun d' m => h d' (List.mem_cons_of_mem _ m), List.filter_cons_of_pos hp, List.map_cons, List.append_assoc]; rfl
theorem eSc_map (hi : I δ = some (.ok (l.map g), δ0)) (hl : l.length < 64) (h : ∀ a ∈ l, TurnOk T C E vs (wipeE δ0 vs) (g a) (p a) (.int (fi a))) : eSortSc I T C E vs δ = some (.ok (iD (sortSet ((l.filter p).map fi))), wipeE δ0 vs) := by
  unfold eSortSc
  rw [bind_ok hi]
  unfold eSc0
  rw [if_pos (by rw [List.length_map]; exact hl), scM_a l [] h]; rfl
/-- the keys tuples, told in another way: all apart -/
def TurnKV (T : D → Mo Unit) (C : Mo Bool) (Ek Ev : Mo D) (vs : List Nat) (δ : Env) (x : D) (p : Bool) (k : List Key) (y : D) : Prop :=
  ∃ δ1 δ2, T x δ = some (.ok (), δ1) ∧ C δ1 = some (.ok p, δ2) ∧ (p = false → wipeE δ2 vs = δ) ∧ (p = true → ∃ kd δ3 δ4, Ek δ2 = some (.ok kd, δ3) ∧ keyT kd = some k ∧ Ev δ3 = some (.ok y, δ4) ∧ wipeE δ4 vs = δ)
theorem dcTM_a : ∀ (l : List α) (acc : List (List Key × D)), (∀ a ∈ l, TurnKV T C Ek Ev vs δ (g a) (p a) (kk a) (f a)) → (l.map kk).Nodup → (∀ a ∈ l, ∀ q ∈ acc, q.1 ≠ kk a) →
    dcTM T C Ek Ev vs (l.map g) acc δ = some (.ok (.dT (acc ++ (l.filter p).map fun a => (kk a, f a))), δ)
  | [], acc, _, _, _ => by unfold dcTM; simp
  | a :: l, acc, h, nd, ap => by
    obtain ⟨δ1, δ2, h1, h2, h3, h4⟩ := h a List.mem_cons_self
    rw [List.map_cons] at nd
    obtain ⟨n1, n2⟩ := List.nodup_cons.mp nd
    rw [List.map_cons]
    unfold dcTM
    simp only [h1, h2]
    cases hp : p a with
    | false =>
      simp only [hp]
      rw [h3 hp, dcTM_a l acc (fun d' m => h d' (List.mem_cons_of_mem _ m)) n2 (fun d' m => ap d' (List.mem_cons_of_mem _ m)), List.filter_cons_of_neg (by rw [hp]; simp)]
    | true =>
      obtain ⟨kd, δ3, δ4, h5, h6, h7, h8⟩ := h4 hp
      simp only [hp, h5, h7, h6]
      have hput : putA acc (kk a) (f a) = acc ++ [(kk a, f a)] := putA_new fun q hq => ap a List.mem_cons_self q hq
      rw [h8, hput, dcTM_a l (acc ++ [(kk a, f a)]) (fun d' m => h d' (List.mem_cons_of_mem _ m)) n2 (fun d' m q hq => by
        rcases List.mem_append.mp hq with hq | hq
        · exact ap d' (List.mem_cons_of_mem _ m) q hq
        · rw [List.mem_singleton.mp hq]
          intro c
          exact n1 (List.mem_map.mpr ⟨d', m, c.symm⟩)), List.filter_cons_of_pos hp, List.map_cons, List.append_assoc]; rfl
theorem eDcT_map (hi : I δ = some (.ok (l.map g), δ0)) (hl : l.length ≤ 1000) (nd : (l.map kk).Nodup) (h : ∀ a ∈ l, TurnKV T C Ek Ev vs (wipeE δ0 vs) (g a) (p a) (kk a) (f a)) : eDcT I T C Ek Ev vs δ = some (.ok (.dT ((l.filter p).map fun a => (kk a, f a))), wipeE δ0 vs) := by
  unfold eDcT
  rw [bind_ok hi, if_pos (by rw [List.length_map]; exact small1000 hl), dcTM_a l [] h nd (fun _ _ q hq => by simp at hq)]; rfl
end
/-! a loop that is told turn by turn -/
def lastY (y0 : Sl) (ds : List D) : Nat → Sl
  | 0 => y0
  | k + 1 => match ds[k]? with
    | some d => .imm d
    | none => y0
theorem lastY_s {y0 : Sl} {ds : List D} {k : Nat} {d : D} (h : ds[k]? = some d) : lastY y0 ds (k + 1) = .imm d := by
  show (match ds[k]? with
    | some d => Sl.imm d
    | none => y0) = _
  rw [h]
theorem sFor_det {I : Mo (List D)} {T : D → Mo Unit} {S : Mo Out} {δ δ0 : Env} {ds : List D} {F : Nat → Env} (hi : I δ = some (.ok ds, δ0)) (h0 : δ0 = F 0)
    (st : ∀ i d, ds[i]? = some d → ∃ δ1, T d (F i) = some (.ok (), δ1) ∧ (S δ1 = some (.ok .nx, F (i + 1)) ∨ S δ1 = some (.ok .ct, F (i + 1)))) : sFor I T S δ = some (.ok .nx, F ds.length) := by
  obtain ⟨δ', h1, h2⟩ := sFor_inv (fun k δ => δ = F k) hi h0 fun i d δ hd hδ => by
    subst hδ
    obtain ⟨δ1, a, b⟩ := st i d hd
    exact ⟨δ1, F (i + 1), a, b, rfl⟩
  rw [h1, h2]
theorem get_mapI {l : List Int} {i : Nat} {d : D} (h : (l.map D.int)[i]? = some d) : ∃ v, l[i]? = some v ∧ d = .int v := by
  rw [List.getElem?_map] at h
  cases q : l[i]? with
  | none => rw [q] at h; cases h
  | some v => rw [q] at h; cases h; exact ⟨v, rfl, rfl⟩
theorem foldl_take {α β : Type} {f : β → α → β} {b : β} {l : List α} {i : Nat} {x : α} (h : l[i]? = some x) : (l.take (i + 1)).foldl f b = f ((l.take i).foldl f b) x := by
  rw [take_snoc h, List.foldl_append]; rfl
def oI : Option Int → D
  | none => .non
  | some i => .int i
/-! a loop that returns at its turn m -/
theorem forM_ret {T : D → Mo Unit} {S : Mo Out} {F : Nat → Env} {z : D} {dm : D} {δ2 : Env} : ∀ (ds : List D) (k m : Nat), ds[m]? = some dm →
    (∀ i d, i < m → ds[i]? = some d → ∃ δ1, T d (F (k + i)) = some (.ok (), δ1) ∧ (S δ1 = some (.ok .nx, F (k + i + 1)) ∨ S δ1 = some (.ok .ct, F (k + i + 1)))) →
    (∃ δ1, T dm (F (k + m)) = some (.ok (), δ1) ∧ S δ1 = some (.ok (.rt z), δ2)) → forM T S ds (F k) = some (.ok (.rt z), δ2)
  | [], k, m, h, _, _ => by simp at h
  | d :: ds, k, 0, h, _, hr => by
    simp at h; subst h
    obtain ⟨δ1, a, b⟩ := hr
    unfold forM
    rw [bind_ok (by simpa using a)]
    simp only [b]
  | d :: ds, k, m + 1, h, st, hr => by
    obtain ⟨δ1, a, b⟩ := st 0 d (by omega) rfl
    have ih := forM_ret (F := F) ds (k + 1) m (by simpa using h) (fun i d' hi hd => by
      have := st (i + 1) d' (by omega) (by simpa using hd)
      rw [show k + (i + 1) = k + 1 + i by omega] at this
      exact this) (by rw [show k + 1 + m = k + (m + 1) by omega]; exact hr)
    unfold forM
    rw [bind_ok (by simpa using a)]
    rcases b with b | b
    · rw [show k + 0 + 1 = k + 1 by omega] at b
      simp only [b]; exact ih
    · rw [show k + 0 + 1 = k + 1 by omega] at b
      simp only [b]; exact ih
theorem sFor_ret {I : Mo (List D)} {T : D → Mo Unit} {S : Mo Out} {δ δ0 δ2 : Env} {ds : List D} {F : Nat → Env} {m : Nat} {dm z : D} (hi : I δ = some (.ok ds, δ0)) (h0 : δ0 = F 0) (hm : ds[m]? = some dm)
    (st : ∀ i d, i < m → ds[i]? = some d → ∃ δ1, T d (F i) = some (.ok (), δ1) ∧ (S δ1 = some (.ok .nx, F (i + 1)) ∨ S δ1 = some (.ok .ct, F (i + 1))))
    (rt : ∃ δ1, T dm (F m) = some (.ok (), δ1) ∧ S δ1 = some (.ok (.rt z), δ2)) : sFor I T S δ = some (.ok (.rt z), δ2) := by
  unfold sFor
  rw [bind_ok hi, h0]
  refine forM_ret ds 0 m hm (fun i d hi hd => ?_) (by rw [Nat.zero_add]; exact rt)
  rw [Nat.zero_add]; exact st i d hi hd
theorem getmap {α : Type} {g : α → D} {l : List α} {i : Nat} {d : D} (h : (l.map g)[i]? = some d) : ∃ v, l[i]? = some v ∧ d = g v := by
  rw [List.getElem?_map] at h
  cases q : l[i]? with
  | none => rw [q] at h; cases h
  | some v => rw [q] at h; cases h; exact ⟨v, rfl, rfl⟩
end M

set_option Elab.async false
set_option linter.all false
set_option maxRecDepth 100000
/-! Costs of cells, told in plain lists. -/
namespace M
def cst (t : List Int) (v : Int) : Int := ((t.filter fun x => !decide (x = v)).length : Nat)
theorem cst_nn {t : List Int} {v : Int} : 0 ≤ cst t v := Int.natCast_nonneg _
theorem cst_le {t : List Int} {v : Int} : cst t v ≤ (t.length : Nat) := by
  unfold cst
  have := List.length_filter_le (fun x => !decide (x = v)) t
  omega
theorem cst_un {t : List Int} {v : Int} (h : v ∉ t) : cst t v = (t.length : Nat) := by
  unfold cst
  rw [List.filter_eq_self.mpr]
  intro x hx
  have : x ≠ v := fun c => h (c ▸ hx)
  simpa using this
def bestF (t : List Int) (f : Option Int) (v : Int) : Option Int := match f with
  | none => some v
  | some u => if cst t v < cst t u then some v else some u
theorem bestF_go {t : List Int} : ∀ (vs : List Int) (u : Int), ∃ b, vs.foldl (bestF t) (some u) = some b ∧ (b = u ∨ b ∈ vs) ∧ cst t b ≤ cst t u ∧ ∀ v ∈ vs, cst t b ≤ cst t v
  | [], u => ⟨u, rfl, .inl rfl, Int.le_refl _, fun v h => by simp at h⟩
  | v :: vs, u => by
    by_cases c : cst t v < cst t u
    · obtain ⟨b, h1, h2, h3, h4⟩ := bestF_go (t := t) vs v
      refine ⟨b, ?_, ?_, by omega, fun w hw => ?_⟩
      · rw [List.foldl_cons]; show vs.foldl (bestF t) (if cst t v < cst t u then some v else some u) = _
        rw [if_pos c]; exact h1
      · rcases h2 with rfl | h2
        · exact .inr List.mem_cons_self
        · exact .inr (List.mem_cons_of_mem _ h2)
      · rcases List.mem_cons.mp hw with rfl | hw
        · exact h3
        · exact h4 w hw
    · obtain ⟨b, h1, h2, h3, h4⟩ := bestF_go (t := t) vs u
      refine ⟨b, ?_, ?_, h3, fun w hw => ?_⟩
      · rw [List.foldl_cons]; show vs.foldl (bestF t) (if cst t v < cst t u then some v else some u) = _
        rw [if_neg c]; exact h1
      · rcases h2 with rfl | h2
        · exact .inl rfl
        · exact .inr (List.mem_cons_of_mem _ h2)
      · rcases List.mem_cons.mp hw with rfl | hw
        · omega
        · exact h4 w hw
def bestL (t vs : List Int) : Option Int := vs.foldl (bestF t) none
theorem bestL_spec {t vs : List Int} (h : vs ≠ []) : ∃ b, bestL t vs = some b ∧ b ∈ vs ∧ ∀ v ∈ vs, cst t b ≤ cst t v := by
  cases vs with
  | nil => exact absurd rfl h
  | cons v vs =>
    obtain ⟨b, h1, h2, h3, h4⟩ := bestF_go (t := t) vs v
    refine ⟨b, h1, ?_, fun w hw => ?_⟩
    · rcases h2 with rfl | h2
      · exact List.mem_cons_self
      · exact List.mem_cons_of_mem _ h2
    · rcases List.mem_cons.mp hw with rfl | hw
      · exact h3
      · exact h4 w hw
/-- the least integer from 0 on that is not there, where 3 is not -/
def mex (t : List Int) : Int := if 0 ∈ t then (if 1 ∈ t then (if 2 ∈ t then 3 else 2) else 1) else 0
theorem mex_un {t : List Int} (h : (3 : Int) ∉ t) : mex t ∉ t := by
  unfold mex
  split
  · split
    · split
      · exact h
      · assumption
    · assumption
  · assumption
theorem mex_congr {s t : List Int} (h : ∀ k, k ∈ s ↔ k ∈ t) : mex s = mex t := by
  unfold mex
  simp only [h]
theorem mex_rg {t : List Int} : 0 ≤ mex t ∧ mex t ≤ 3 := by
  unfold mex
  split
  · split
    · split <;> omega
    · omega
  · omega
theorem mex_below {t : List Int} {k : Int} (h0 : 0 ≤ k) (h : k < mex t) : k ∈ t := by
  unfold mex at h
  split at h
  · split at h
    · split at h
      · have : k = 0 ∨ k = 1 ∨ k = 2 := by omega
        rcases this with rfl | rfl | rfl <;> assumption
      · have : k = 0 ∨ k = 1 := by omega
        rcases this with rfl | rfl <;> assumption
    · have : k = 0 := by omega
      subst this; assumption
  · omega
theorem sortSet_mem {t : List Int} {k : Int} : k ∈ sortSet t ↔ k ∈ t := by
  unfold sortSet
  rw [(sortI_perm _).mem_iff, once_mem]
theorem sortI_mem {t : List Int} {k : Int} : k ∈ sortI t ↔ k ∈ t := (sortI_perm _).mem_iff
theorem ne_nil_of {α : Type} {l : List α} {x : α} (h : x ∈ l) : l ≠ [] := fun c => by rw [c] at h; simp at h
def bst (t : List Int) : Int := (bestL t (sortSet t)).getD 0
def rst (t : List Int) : List Int := (sortSet t).filter (fun v => !decide (v = bst t)) ++ [mex (sortSet t)]
def oth (t : List Int) : Int := (bestL t (sortI (rst t))).getD 0
theorem bst_spec {t : List Int} (h : t ≠ []) : bestL t (sortSet t) = some (bst t) ∧ bst t ∈ t ∧ ∀ v ∈ t, cst t (bst t) ≤ cst t v := by
  have h2 : sortSet t ≠ [] := by
    obtain ⟨x, hx⟩ := List.exists_mem_of_ne_nil _ h
    exact ne_nil_of (sortSet_mem.mpr hx)
  obtain ⟨b, e, m, l⟩ := bestL_spec (t := t) h2
  have hb : bst t = b := by unfold bst; rw [e]; rfl
  rw [hb]
  exact ⟨e, sortSet_mem.mp m, fun v hv => l v (sortSet_mem.mpr hv)⟩
theorem oth_spec (t : List Int) : bestL t (sortI (rst t)) = some (oth t) ∧ oth t ∈ rst t ∧ ∀ v ∈ rst t, cst t (oth t) ≤ cst t v := by
  have h2 : sortI (rst t) ≠ [] := by
    refine ne_nil_of (x := mex (sortSet t)) (sortI_mem.mpr ?_)
    unfold rst; exact List.mem_append_right _ (List.mem_singleton_self _)
  obtain ⟨b, e, m, l⟩ := bestL_spec (t := t) h2
  have hb : oth t = b := by unfold oth; rw [e]; rfl
  rw [hb]
  exact ⟨e, sortI_mem.mp m, fun v hv => l v (sortI_mem.mpr hv)⟩
def ddF : List Int → List Int → List Int
  | acc, [] => acc
  | acc, v :: l => if v ∈ acc then ddF acc l else ddF (acc ++ [v]) l
theorem dd_mem {k : Int} : ∀ {l acc : List Int}, k ∈ ddF acc l ↔ k ∈ acc ∨ k ∈ l
  | [], acc => by simp [ddF]
  | v :: l, acc => by
    unfold ddF
    split
    · rename_i h
      rw [dd_mem, List.mem_cons]
      refine ⟨fun z => z.elim .inl fun z => .inr (.inr z), fun z => ?_⟩
      rcases z with z | rfl | z
      · exact .inl z
      · exact .inl h
      · exact .inr z
    · rw [dd_mem, List.mem_cons, List.mem_append, List.mem_singleton, or_assoc]
def cands (t : List Int) : List Int := ddF [] t ++ [mex t]
structure TOk (t : List Int) : Prop where
  ne : t ≠ []
  no3 : (3 : Int) ∉ t
theorem cand_mem {t : List Int} {v : Int} : v ∈ cands t ↔ v ∈ t ∨ v = mex t := by
  unfold cands
  rw [List.mem_append, List.mem_singleton, dd_mem]
  simp
theorem mex_ss {t : List Int} : mex (sortSet t) = mex t := mex_congr fun k => sortSet_mem
theorem rst_mem {t : List Int} {v : Int} (o : TOk t) : v ∈ rst t ↔ v ∈ cands t ∧ v ≠ bst t := by
  unfold rst
  rw [List.mem_append, List.mem_filter, List.mem_singleton, sortSet_mem, mex_ss, cand_mem]
  have hb := (bst_spec o.ne).2.1
  have hm := mex_un o.no3
  have e : mex t ≠ bst t := fun c => hm (c ▸ hb)
  constructor
  · rintro (⟨h1, h2⟩ | rfl)
    · exact ⟨.inl h1, by simpa using h2⟩
    · exact ⟨.inr rfl, e⟩
  · rintro ⟨h1 | h1, h2⟩
    · exact .inl ⟨h1, by simpa using h2⟩
    · exact .inr h1
theorem bst_cand {t : List Int} (o : TOk t) : bst t ∈ cands t := cand_mem.mpr (.inl (bst_spec o.ne).2.1)
theorem bst_min {t : List Int} (o : TOk t) {v : Int} (h : v ∈ cands t) : cst t (bst t) ≤ cst t v := by
  rcases cand_mem.mp h with h | h
  · exact (bst_spec o.ne).2.2 v h
  · rw [h, cst_un (mex_un o.no3)]; exact cst_le
theorem oth_cand {t : List Int} (o : TOk t) : oth t ∈ cands t ∧ oth t ≠ bst t := (rst_mem o).mp (oth_spec t).2.1
theorem oth_min {t : List Int} (o : TOk t) {v : Int} (h : v ∈ cands t) (h2 : v ≠ bst t) : cst t (oth t) ≤ cst t v := (oth_spec t).2.2 v ((rst_mem o).mpr ⟨h, h2⟩)
/-! ### explanations -/
section
variable {C : Type} [DecidableEq C] (tl : C → List Int)
def tot (cs : List C) (f : C → Int) : Int := (cs.map fun c => cst (tl c) (f c)).sum
def stepF (F : Int) (ps : List (Int × List (C × Int))) (c : C) : List (Int × List (C × Int)) := ps.flatMap fun p => (cands (tl c)).filterMap fun v => if p.1 + cst (tl c) v ≤ F then some (p.1 + cst (tl c) v, p.2 ++ [(c, v)]) else none
def allF (F : Int) (cs : List C) : List (Int × List (C × Int)) := cs.foldl (stepF tl F) [(0, [])]
variable {tl}
theorem tot_cons {c : C} {cs : List C} {f : C → Int} : tot tl (c :: cs) f = cst (tl c) (f c) + tot tl cs f := by unfold tot; rw [List.map_cons, List.sum_cons]
theorem tot_nn : ∀ {cs : List C} {f : C → Int}, 0 ≤ tot tl cs f
  | [], f => Int.le_refl _
  | c :: cs, f => by
    rw [tot_cons]
    have := cst_nn (t := tl c) (v := f c)
    have := tot_nn (cs := cs) (f := f)
    omega
theorem tot_congr {cs : List C} {f g : C → Int} (h : ∀ c ∈ cs, f c = g c) : tot tl cs f = tot tl cs g := by
  unfold tot
  rw [List.map_congr_left fun c hc => by rw [h c hc]]
theorem tot_le {cs : List C} {f g : C → Int} (h : ∀ c ∈ cs, cst (tl c) (g c) ≤ cst (tl c) (f c)) : tot tl cs g ≤ tot tl cs f := by
  induction cs with
  | nil => exact Int.le_refl _
  | cons c cs ih =>
    rw [tot_cons, tot_cons]
    have := h c List.mem_cons_self
    have := ih fun x hx => h x (List.mem_cons_of_mem _ hx)
    omega
theorem tot_ge {cs : List C} {f g : C → Int} (h : ∀ c ∈ cs, cst (tl c) (g c) ≤ cst (tl c) (f c)) {c : C} (hc : c ∈ cs) : tot tl cs g - cst (tl c) (g c) + cst (tl c) (f c) ≤ tot tl cs f := by
  induction cs with
  | nil => simp at hc
  | cons x cs ih =>
    rw [tot_cons, tot_cons]
    have h1 := h x List.mem_cons_self
    have h2 : ∀ c ∈ cs, cst (tl c) (g c) ≤ cst (tl c) (f c) := fun y hy => h y (List.mem_cons_of_mem _ hy)
    rcases List.mem_cons.mp hc with rfl | hc
    · have := tot_le h2
      omega
    · have := ih h2 hc
      omega
def fu (f : C → Int) (c : C) (v : Int) : C → Int := fun x => if x = c then v else f x
theorem fu_s {f : C → Int} {c : C} {v : Int} : fu f c v c = v := if_pos rfl
theorem fu_n {f : C → Int} {c x : C} {v : Int} (h : x ≠ c) : fu f c v x = f x := if_neg h
theorem tot_upd {cs : List C} (nd : cs.Nodup) {g : C → Int} {c : C} {v : Int} (hc : c ∈ cs) : tot tl cs (fu g c v) = tot tl cs g - cst (tl c) (g c) + cst (tl c) v := by
  induction cs with
  | nil => simp at hc
  | cons x cs ih =>
    rw [tot_cons, tot_cons]
    obtain ⟨n1, n2⟩ := List.nodup_cons.mp nd
    by_cases e : x = c
    · subst e
      rw [fu_s, tot_congr (g := g) fun y hy => fu_n fun z => n1 (by rw [← z]; exact hy)]
      omega
    · rcases List.mem_cons.mp hc with z | hc
      · exact absurd z.symm e
      · rw [fu_n e, ih n2 hc]; omega
theorem step_mem {F : Int} {ps : List (Int × List (C × Int))} {c : C} {p : Int × List (C × Int)} : p ∈ stepF tl F ps c ↔ ∃ q ∈ ps, ∃ v ∈ cands (tl c), q.1 + cst (tl c) v ≤ F ∧ p = (q.1 + cst (tl c) v, q.2 ++ [(c, v)]) := by
  unfold stepF
  rw [List.mem_flatMap]
  constructor
  · rintro ⟨q, hq, h⟩
    obtain ⟨v, hv, e⟩ := List.mem_filterMap.mp h
    split at e
    · rename_i hl
      exact ⟨q, hq, v, hv, hl, (Option.some.inj e).symm⟩
    · cases e
  · rintro ⟨q, hq, v, hv, hl, rfl⟩
    exact ⟨q, hq, List.mem_filterMap.mpr ⟨v, hv, if_pos hl⟩⟩
theorem fold_mem {F : Int} {p : Int × List (C × Int)} : ∀ {cs : List C} {ps : List (Int × List (C × Int))}, cs.Nodup → (∀ q ∈ ps, q.1 ≤ F) →
    (p ∈ cs.foldl (stepF tl F) ps ↔ ∃ q ∈ ps, ∃ f : C → Int, p.2 = q.2 ++ cs.map (fun c => (c, f c)) ∧ p.1 = q.1 + tot tl cs f ∧ (∀ c ∈ cs, f c ∈ cands (tl c)) ∧ p.1 ≤ F)
  | [], ps, _, hF => by
    constructor
    · intro h
      exact ⟨p, h, fun _ => 0, by simp, by show p.1 = p.1 + 0; omega, fun c hc => by simp at hc, hF p h⟩
    · rintro ⟨q, hq, f, h1, h2, _⟩
      have e : p = q := by
        have h2 : p.1 = q.1 + 0 := h2
        have h1 : p.2 = q.2 := by simpa using h1
        exact Prod.ext (by omega) h1
      rw [e]; exact hq
  | c :: cs, ps, nd, hF => by
    obtain ⟨n1, n2⟩ := List.nodup_cons.mp nd
    rw [List.foldl_cons, fold_mem n2 fun q hq => by
      obtain ⟨q', _, v, _, hl, rfl⟩ := step_mem.mp hq
      exact hl]
    constructor
    · rintro ⟨q, hq, f, h1, h2, h3, h4⟩
      obtain ⟨q', hq', v, hv, hl, rfl⟩ := step_mem.mp hq
      have hne : ∀ x ∈ cs, fu f c v x = f x := fun x hx => fu_n fun z => n1 (by rw [← z]; exact hx)
      refine ⟨q', hq', fu f c v, ?_, ?_, fun x hx => ?_, h4⟩
      · rw [h1, List.map_cons, fu_s, List.map_congr_left (f := fun x => (x, fu f c v x)) (g := fun x => (x, f x)) fun x hx => by rw [hne x hx]]
        show (q'.2 ++ [(c, v)]) ++ _ = _
        rw [List.append_assoc, List.singleton_append]
      · rw [h2, tot_cons, fu_s, tot_congr (g := f) hne]; show q'.1 + cst (tl c) v + _ = _; omega
      · rcases List.mem_cons.mp hx with rfl | hx
        · rw [fu_s]; exact hv
        · rw [hne x hx]; exact h3 x hx
    · rintro ⟨q, hq, f, h1, h2, h3, h4⟩
      have nn := tot_nn (tl := tl) (cs := cs) (f := f)
      rw [tot_cons] at h2
      refine ⟨(q.1 + cst (tl c) (f c), q.2 ++ [(c, f c)]), step_mem.mpr ⟨q, hq, f c, h3 c List.mem_cons_self, by omega, rfl⟩, f, ?_, by show p.1 = q.1 + cst (tl c) (f c) + tot tl cs f; omega, fun x hx => h3 x (List.mem_cons_of_mem _ hx), h4⟩
      rw [h1, List.map_cons, List.append_assoc, List.singleton_append]
theorem allF_mem {F : Int} (h0 : 0 ≤ F) {cs : List C} (nd : cs.Nodup) {p : Int × List (C × Int)} : p ∈ allF tl F cs ↔ ∃ f : C → Int, p.2 = cs.map (fun c => (c, f c)) ∧ p.1 = tot tl cs f ∧ (∀ c ∈ cs, f c ∈ cands (tl c)) ∧ p.1 ≤ F := by
  unfold allF
  rw [fold_mem nd fun q hq => by rw [List.mem_singleton.mp hq]; exact h0]
  constructor
  · rintro ⟨q, hq, f, h1, h2, h3, h4⟩
    rw [List.mem_singleton.mp hq] at h1 h2
    exact ⟨f, by simpa using h1, by have h2 : p.1 = 0 + tot tl cs f := h2; omega, h3, h4⟩
  · rintro ⟨f, h1, h2, h3, h4⟩
    exact ⟨_, List.mem_singleton_self _, f, by simpa using h1, by show p.1 = 0 + tot tl cs f; omega, h3, h4⟩
theorem bst_ge {cs : List C} (ok : ∀ c ∈ cs, TOk (tl c)) {f : C → Int} (hf : ∀ c ∈ cs, f c ∈ cands (tl c)) : ∀ c ∈ cs, cst (tl c) (bst (tl c)) ≤ cst (tl c) (f c) := fun c hc => bst_min (ok c hc) (hf c hc)
/-- no explanation: the least cost is beyond -/
theorem all_nil {F : Int} (h0 : 0 ≤ F) {cs : List C} (nd : cs.Nodup) (ok : ∀ c ∈ cs, TOk (tl c)) : allF tl F cs = [] ↔ F < tot tl cs (fun c => bst (tl c)) := by
  constructor
  · intro h
    refine Classical.byContradiction fun c => ?_
    have : (tot tl cs (fun c => bst (tl c)), cs.map fun c => (c, bst (tl c))) ∈ allF tl F cs := (allF_mem h0 nd).mpr ⟨fun c => bst (tl c), rfl, rfl, fun c hc => bst_cand (ok c hc), by show tot tl cs _ ≤ F; omega⟩
    rw [h] at this; simp at this
  · intro h
    cases q : allF tl F cs with
    | nil => rfl
    | cons p ps =>
      have hp : p ∈ allF tl F cs := by rw [q]; exact List.mem_cons_self
      obtain ⟨f, h1, h2, h3, h4⟩ := (allF_mem h0 nd).mp hp
      have := tot_le (tl := tl) (bst_ge ok h3)
      omega
/-- the cell's value is the same in all -/
theorem all_same {F : Int} (h0 : 0 ≤ F) {cs : List C} (nd : cs.Nodup) (ok : ∀ c ∈ cs, TOk (tl c)) (hL : tot tl cs (fun c => bst (tl c)) ≤ F) {c : C} (hc : c ∈ cs) :
    (F < tot tl cs (fun c => bst (tl c)) - cst (tl c) (bst (tl c)) + cst (tl c) (oth (tl c)) → ∀ f : C → Int, (∀ c ∈ cs, f c ∈ cands (tl c)) → tot tl cs f ≤ F → f c = bst (tl c)) ∧
    (tot tl cs (fun c => bst (tl c)) - cst (tl c) (bst (tl c)) + cst (tl c) (oth (tl c)) ≤ F → ∃ f : C → Int, (∀ c ∈ cs, f c ∈ cands (tl c)) ∧ tot tl cs f ≤ F ∧ f c ≠ bst (tl c)) := by
  refine ⟨fun h f h3 h4 => ?_, fun h => ?_⟩
  · refine Classical.byContradiction fun e => ?_
    have a1 := tot_ge (tl := tl) (bst_ge ok h3) hc
    have a2 := oth_min (ok c hc) (h3 c hc) e
    omega
  · refine ⟨fu (fun x => bst (tl x)) c (oth (tl c)), fun x hx => ?_, ?_, ?_⟩
    · by_cases e : x = c
      · subst e; rw [fu_s]; exact (oth_cand (ok x hx)).1
      · rw [fu_n e]; exact bst_cand (ok x hx)
    · rw [tot_upd (g := fun c => bst (tl c)) nd hc]; exact h
    · rw [fu_s]; exact (oth_cand (ok c hc)).2
end
end M

set_option Elab.async false
set_option linter.all false
set_option maxRecDepth 100000
set_option maxHeartbeats 1000000
namespace M
open PySem L2
/-! ### what is drawn -/
def plD (ns : List Int) (x p : Int) : D := .lst [.int x, .lst (ns.map D.int), .int p]
def IsPl (ns : List Int) (d : D) : Prop := ∃ x p : Int, -1 ≤ p ∧ d = plD ns x p
theorem dSet3_0 {a b c v : D} : dSet (.int 0) v (.lst [a, b, c]) = some (.lst [v, b, c]) := rfl
theorem dSet3_2 {a b c v : D} : dSet (.int 2) v (.lst [a, b, c]) = some (.lst [a, b, v]) := rfl
theorem wide_tail {KL KA KB KM KC KQ : Int} (k2 : ∀ x : Int, dMul (.int x) (.int KA) = some (.int (x * KA))) (k3 : ∀ x : Int, dMul (.int x) (.int KB) = some (.int (x * KB))) (k4 : ∀ x : Int, dMul (.int x) (.int KC) = some (.int (x * KC))) (m1 : ∀ x : Int, dMod (.int x) (.int KM) = some (.int (x % KM))) (q1 : ∀ x : Int, dDiv (.int x) (.int KQ) = some (.int (x / KQ))) {a b : Sl} {p c : Int} : ∃ t : Int,
    fk 2 (sSeq (sIf (eB (eBin dGe (eV 2) (eC (.int KL))))
 (sRet (eV 2))
 sNx)
 (sSeq (sAsg (gN 3) (eBin dMod (eF fInt (aCons (eBin dAdd (eBin dMul (eBin dAdd (eV 2) (eC (.int 1))) (eC (.int KA))) (eBin dMul (eBin dAdd (eV 1) (eC (.int 1))) (eC (.int KB)))) aNil)) (eC (.int KM))))
 (sRet (eBin dMod (eF fInt (aCons (eBin dAdd (eBin dMul (eV 3) (eC (.int KC))) (eBin dDiv (eV 3) (eC (.int KQ)))) aNil)) (eC (.int KM))))) [.imm (.lst (List.map D.int b')), .imm (.int p), .imm (.int c), .no]) = some (.ok (.int t), [.no, .no]) := by
  have hc : (eB (eBin dGe (eV 2) (eC (.int KL)))) [.imm (.lst (List.map D.int b')), .imm (.int p), .imm (.int c), .no] = some (.ok (decide (KL ≤ c)), [.imm (.lst (List.map D.int b')), .imm (.int p), .imm (.int c), .no]) := by
    simp only [x_bind, bk_ok, bk_ite, x_ret, x_lift, lk_some, lk_ite, app_ite, x_eC, x_eV, vk_imm, vk_own, vk_bor, x_give, gk_own, x_bin, x_un, x_ix, x_tru, x_eB, dBl_bl, dTru_bl, dTru_int, dTru_lst, x_and, x_or, x_not, x_eAnd, x_eOr, x_eNot, x_eIf, x_chain, x_aNil, x_aCons, x_aVr, rk_own, rk_io, x_aVb, tk_own, tk_io, tk_imm, tk_bor, x_eTup, x_eLst, imms_nil, imms_im, x_eF, x_call, ixV_C, jk_imm, jk_own, jk_io, jk_bor, flk_int, x_lenV, nk_imm, nk_own, nk_io, nk_bor, x_inV, hk_imm, hk_own, hk_io, hk_bor, x_sNx, x_pass, x_cont, x_brk, x_seq, sk_nx, sk_rt, sk_rtO, sk_ct, sk_bk, sk_ite, x_drop, x_sRet, x_sRetO, x_sIf, x_asg, x_asgO, x_gN, x_gO, x_gNil, x_gCons, x_gTt, x_gTl, x_sApp, x_sSet, x_chM, ck_own, ck_io, x_iOf, x_iRg, x_fn, fk_rt, fk_nx, fk_ite, ios_z, ios_s, keep_io, keep_imm, keep_own, keep_bor, keep_no, dSub_i, dAdd_i, dLt_i, dLe_i, dGt_i, dGe_i, dEq_int, dNe_int, ix_lst, ix_scr, ix_tup, atI_0, atI_1, atI_2, atI_3, List.getElem?_cons_zero, List.getElem?_cons_succ, List.set_cons_zero, List.set_cons_succ, List.length_cons, List.length_nil, List.cons_append, List.nil_append, List.replicate_succ, List.replicate_zero, Option.map_some, Option.bind_some, Nat.reduceAdd, Nat.reduceSub, Nat.reduceLT, Nat.reduceLeDiff, if_true, if_false, Bool.false_eq_true, decide_eq_true_eq, reduceIte, ne_eq, not_false_eq_true, Nat.lt_add_left_iff_pos, Nat.zero_lt_succ, x_call2, x_call3, dk2, dk3, ixV_V, Nat.reduceEqDiff, not_false_eq_true, x_isLst, x_isSet, List.map_cons, List.map_nil, Option.map_none, Option.bind_none]
  by_cases h : KL ≤ c
  · rw [decide_eq_true h] at hc
    refine ⟨c, ?_⟩
    rw [x_seq, sIf_t hc]
    simp only [x_bind, bk_ok, bk_ite, x_ret, x_lift, lk_some, lk_ite, app_ite, x_eC, x_eV, vk_imm, vk_own, vk_bor, x_give, gk_own, x_bin, x_un, x_ix, x_tru, x_eB, dBl_bl, dTru_bl, dTru_int, dTru_lst, x_and, x_or, x_not, x_eAnd, x_eOr, x_eNot, x_eIf, x_chain, x_aNil, x_aCons, x_aVr, rk_own, rk_io, x_aVb, tk_own, tk_io, tk_imm, tk_bor, x_eTup, x_eLst, imms_nil, imms_im, x_eF, x_call, ixV_C, jk_imm, jk_own, jk_io, jk_bor, flk_int, x_lenV, nk_imm, nk_own, nk_io, nk_bor, x_inV, hk_imm, hk_own, hk_io, hk_bor, x_sNx, x_pass, x_cont, x_brk, x_seq, sk_nx, sk_rt, sk_rtO, sk_ct, sk_bk, sk_ite, x_drop, x_sRet, x_sRetO, x_sIf, x_asg, x_asgO, x_gN, x_gO, x_gNil, x_gCons, x_gTt, x_gTl, x_sApp, x_sSet, x_chM, ck_own, ck_io, x_iOf, x_iRg, x_fn, fk_rt, fk_nx, fk_ite, ios_z, ios_s, keep_io, keep_imm, keep_own, keep_bor, keep_no, dSub_i, dAdd_i, dLt_i, dLe_i, dGt_i, dGe_i, dEq_int, dNe_int, ix_lst, ix_scr, ix_tup, atI_0, atI_1, atI_2, atI_3, List.getElem?_cons_zero, List.getElem?_cons_succ, List.set_cons_zero, List.set_cons_succ, List.length_cons, List.length_nil, List.cons_append, List.nil_append, List.replicate_succ, List.replicate_zero, Option.map_some, Option.bind_some, Nat.reduceAdd, Nat.reduceSub, Nat.reduceLT, Nat.reduceLeDiff, if_true, if_false, Bool.false_eq_true, decide_eq_true_eq, reduceIte, ne_eq, not_false_eq_true, Nat.lt_add_left_iff_pos, Nat.zero_lt_succ, x_call2, x_call3, dk2, dk3, ixV_V, Nat.reduceEqDiff, not_false_eq_true, x_isLst, x_isSet, List.map_cons, List.map_nil, Option.map_none, Option.bind_none]
  · rw [decide_eq_false h] at hc
    refine ⟨(((c + 1) * KA + (p + 1) * KB) % KM * KC + ((c + 1) * KA + (p + 1) * KB) % KM / KQ) % KM, ?_⟩
    rw [x_seq, sIf_f hc, x_sNx, sk_nx]
    simp only [x_bind, bk_ok, bk_ite, x_ret, x_lift, lk_some, lk_ite, app_ite, x_eC, x_eV, vk_imm, vk_own, vk_bor, x_give, gk_own, x_bin, x_un, x_ix, x_tru, x_eB, dBl_bl, dTru_bl, dTru_int, dTru_lst, x_and, x_or, x_not, x_eAnd, x_eOr, x_eNot, x_eIf, x_chain, x_aNil, x_aCons, x_aVr, rk_own, rk_io, x_aVb, tk_own, tk_io, tk_imm, tk_bor, x_eTup, x_eLst, imms_nil, imms_im, x_eF, x_call, ixV_C, jk_imm, jk_own, jk_io, jk_bor, flk_int, x_lenV, nk_imm, nk_own, nk_io, nk_bor, x_inV, hk_imm, hk_own, hk_io, hk_bor, x_sNx, x_pass, x_cont, x_brk, x_seq, sk_nx, sk_rt, sk_rtO, sk_ct, sk_bk, sk_ite, x_drop, x_sRet, x_sRetO, x_sIf, x_asg, x_asgO, x_gN, x_gO, x_gNil, x_gCons, x_gTt, x_gTl, x_sApp, x_sSet, x_chM, ck_own, ck_io, x_iOf, x_iRg, x_fn, fk_rt, fk_nx, fk_ite, ios_z, ios_s, keep_io, keep_imm, keep_own, keep_bor, keep_no, dSub_i, dAdd_i, dLt_i, dLe_i, dGt_i, dGe_i, dEq_int, dNe_int, ix_lst, ix_scr, ix_tup, atI_0, atI_1, atI_2, atI_3, List.getElem?_cons_zero, List.getElem?_cons_succ, List.set_cons_zero, List.set_cons_succ, List.length_cons, List.length_nil, List.cons_append, List.nil_append, List.replicate_succ, List.replicate_zero, Option.map_some, Option.bind_some, Nat.reduceAdd, Nat.reduceSub, Nat.reduceLT, Nat.reduceLeDiff, if_true, if_false, Bool.false_eq_true, decide_eq_true_eq, reduceIte, ne_eq, not_false_eq_true, Nat.lt_add_left_iff_pos, Nat.zero_lt_succ, x_call2, x_call3, dk2, dk3, ixV_V, Nat.reduceEqDiff, not_false_eq_true, x_isLst, x_isSet, List.map_cons, List.map_nil, Option.map_none, Option.bind_none, k2, k3, k4, m1, q1, fInt_i]
theorem ev_wide {ns : List Int} {p : Int} (h0 : 0 ≤ p) : ∃ t : Int, m__law_wide [.imm (.lst (ns.map D.int)), .imm (.int p)] = some (.ok (.int t), [.no, .no]) := by
  have h1 : ∃ c : Int, (sIf (eB (eBin dLt (eV 1) (eF fLen (aCons (eV 0) aNil))))
 (sAsg (gN 2) (eF fAbs (aCons (eIxV 0 (eV 1)) aNil)))
 sNx) [.imm (.lst (ns.map D.int)), .imm (.int p), .imm (.int 0), .no] = some (.ok .nx, [.imm (.lst (ns.map D.int)), .imm (.int p), .imm (.int c), .no]) := by
    by_cases c : p < ((ns.map D.int).length : Nat)
    · have hp : p.toNat < ns.length := by rw [List.length_map] at c; omega
      have a1 : atI (ns.map D.int) p = some (.int ns[p.toNat]) := by
        have := at_map (f := D.int) (List.getElem?_eq_getElem hp)
        rw [Int.toNat_of_nonneg h0] at this; exact this
      refine ⟨if ns[p.toNat] < 0 then -ns[p.toNat] else ns[p.toNat], ?_⟩
      rw [sIf_t (δ1 := [.imm (.lst (ns.map D.int)), .imm (.int p), .imm (.int 0), .no])]
      · simp only [x_bind, bk_ok, bk_ite, x_ret, x_lift, lk_some, lk_ite, app_ite, x_eC, x_eV, vk_imm, vk_own, vk_bor, x_give, gk_own, x_bin, x_un, x_ix, x_tru, x_eB, dBl_bl, dTru_bl, dTru_int, dTru_lst, x_and, x_or, x_not, x_eAnd, x_eOr, x_eNot, x_eIf, x_chain, x_aNil, x_aCons, x_aVr, rk_own, rk_io, x_aVb, tk_own, tk_io, tk_imm, tk_bor, x_eTup, x_eLst, imms_nil, imms_im, x_eF, x_call, ixV_C, jk_imm, jk_own, jk_io, jk_bor, flk_int, x_lenV, nk_imm, nk_own, nk_io, nk_bor, x_inV, hk_imm, hk_own, hk_io, hk_bor, x_sNx, x_pass, x_cont, x_brk, x_seq, sk_nx, sk_rt, sk_rtO, sk_ct, sk_bk, sk_ite, x_drop, x_sRet, x_sRetO, x_sIf, x_asg, x_asgO, x_gN, x_gO, x_gNil, x_gCons, x_gTt, x_gTl, x_sApp, x_sSet, x_chM, ck_own, ck_io, x_iOf, x_iRg, x_fn, fk_rt, fk_nx, fk_ite, ios_z, ios_s, keep_io, keep_imm, keep_own, keep_bor, keep_no, dSub_i, dAdd_i, dLt_i, dLe_i, dGt_i, dGe_i, dEq_int, dNe_int, ix_lst, ix_scr, ix_tup, atI_0, atI_1, atI_2, atI_3, List.getElem?_cons_zero, List.getElem?_cons_succ, List.set_cons_zero, List.set_cons_succ, List.length_cons, List.length_nil, List.cons_append, List.nil_append, List.replicate_succ, List.replicate_zero, Option.map_some, Option.bind_some, Nat.reduceAdd, Nat.reduceSub, Nat.reduceLT, Nat.reduceLeDiff, if_true, if_false, Bool.false_eq_true, decide_eq_true_eq, reduceIte, ne_eq, not_false_eq_true, Nat.lt_add_left_iff_pos, Nat.zero_lt_succ, x_call2, x_call3, dk2, dk3, ixV_V, Nat.reduceEqDiff, not_false_eq_true, x_isLst, x_isSet, List.map_cons, List.map_nil, Option.map_none, Option.bind_none, a1, fAbs_i]
      · simp only [x_bind, bk_ok, bk_ite, x_ret, x_lift, lk_some, lk_ite, app_ite, x_eC, x_eV, vk_imm, vk_own, vk_bor, x_give, gk_own, x_bin, x_un, x_ix, x_tru, x_eB, dBl_bl, dTru_bl, dTru_int, dTru_lst, x_and, x_or, x_not, x_eAnd, x_eOr, x_eNot, x_eIf, x_chain, x_aNil, x_aCons, x_aVr, rk_own, rk_io, x_aVb, tk_own, tk_io, tk_imm, tk_bor, x_eTup, x_eLst, imms_nil, imms_im, x_eF, x_call, ixV_C, jk_imm, jk_own, jk_io, jk_bor, flk_int, x_lenV, nk_imm, nk_own, nk_io, nk_bor, x_inV, hk_imm, hk_own, hk_io, hk_bor, x_sNx, x_pass, x_cont, x_brk, x_seq, sk_nx, sk_rt, sk_rtO, sk_ct, sk_bk, sk_ite, x_drop, x_sRet, x_sRetO, x_sIf, x_asg, x_asgO, x_gN, x_gO, x_gNil, x_gCons, x_gTt, x_gTl, x_sApp, x_sSet, x_chM, ck_own, ck_io, x_iOf, x_iRg, x_fn, fk_rt, fk_nx, fk_ite, ios_z, ios_s, keep_io, keep_imm, keep_own, keep_bor, keep_no, dSub_i, dAdd_i, dLt_i, dLe_i, dGt_i, dGe_i, dEq_int, dNe_int, ix_lst, ix_scr, ix_tup, atI_0, atI_1, atI_2, atI_3, List.getElem?_cons_zero, List.getElem?_cons_succ, List.set_cons_zero, List.set_cons_succ, List.length_cons, List.length_nil, List.cons_append, List.nil_append, List.replicate_succ, List.replicate_zero, Option.map_some, Option.bind_some, Nat.reduceAdd, Nat.reduceSub, Nat.reduceLT, Nat.reduceLeDiff, if_true, if_false, Bool.false_eq_true, decide_eq_true_eq, reduceIte, ne_eq, not_false_eq_true, Nat.lt_add_left_iff_pos, Nat.zero_lt_succ, x_call2, x_call3, dk2, dk3, ixV_V, Nat.reduceEqDiff, not_false_eq_true, x_isLst, x_isSet, List.map_cons, List.map_nil, Option.map_none, Option.bind_none, fLen_lst, c, decide_true]
    · refine ⟨0, ?_⟩
      rw [sIf_f (δ1 := [.imm (.lst (ns.map D.int)), .imm (.int p), .imm (.int 0), .no])]
      · rfl
      · simp only [x_bind, bk_ok, bk_ite, x_ret, x_lift, lk_some, lk_ite, app_ite, x_eC, x_eV, vk_imm, vk_own, vk_bor, x_give, gk_own, x_bin, x_un, x_ix, x_tru, x_eB, dBl_bl, dTru_bl, dTru_int, dTru_lst, x_and, x_or, x_not, x_eAnd, x_eOr, x_eNot, x_eIf, x_chain, x_aNil, x_aCons, x_aVr, rk_own, rk_io, x_aVb, tk_own, tk_io, tk_imm, tk_bor, x_eTup, x_eLst, imms_nil, imms_im, x_eF, x_call, ixV_C, jk_imm, jk_own, jk_io, jk_bor, flk_int, x_lenV, nk_imm, nk_own, nk_io, nk_bor, x_inV, hk_imm, hk_own, hk_io, hk_bor, x_sNx, x_pass, x_cont, x_brk, x_seq, sk_nx, sk_rt, sk_rtO, sk_ct, sk_bk, sk_ite, x_drop, x_sRet, x_sRetO, x_sIf, x_asg, x_asgO, x_gN, x_gO, x_gNil, x_gCons, x_gTt, x_gTl, x_sApp, x_sSet, x_chM, ck_own, ck_io, x_iOf, x_iRg, x_fn, fk_rt, fk_nx, fk_ite, ios_z, ios_s, keep_io, keep_imm, keep_own, keep_bor, keep_no, dSub_i, dAdd_i, dLt_i, dLe_i, dGt_i, dGe_i, dEq_int, dNe_int, ix_lst, ix_scr, ix_tup, atI_0, atI_1, atI_2, atI_3, List.getElem?_cons_zero, List.getElem?_cons_succ, List.set_cons_zero, List.set_cons_succ, List.length_cons, List.length_nil, List.cons_append, List.nil_append, List.replicate_succ, List.replicate_zero, Option.map_some, Option.bind_some, Nat.reduceAdd, Nat.reduceSub, Nat.reduceLT, Nat.reduceLeDiff, if_true, if_false, Bool.false_eq_true, decide_eq_true_eq, reduceIte, ne_eq, not_false_eq_true, Nat.lt_add_left_iff_pos, Nat.zero_lt_succ, x_call2, x_call3, dk2, dk3, ixV_V, Nat.reduceEqDiff, not_false_eq_true, x_isLst, x_isSet, List.map_cons, List.map_nil, Option.map_none, Option.bind_none, fLen_lst, c, decide_false]
  obtain ⟨c, h1⟩ := h1
  obtain ⟨t, h2⟩ := wide_tail (b' := ns) (KL := 1000000000000000000) (KA := 6364136223846793005) (KB := 1442695040888963407) (KM := 2305843009213693951) (KC := 3202034522624059733) (KQ := 1000003) (fun x => dMul_r (by decide) (by decide)) (fun x => dMul_r (by decide) (by decide)) (fun x => dMul_r (by decide) (by decide)) (fun x => dMod_i (by decide)) (fun x => dDiv_i (by decide) (by decide)) (a := .no) (b := .no) (p := p) (c := c)
  refine ⟨t, ?_⟩
  unfold m__law_wide b__law_wide
  rw [x_fn]
  have e0 : ([.imm (.lst (ns.map D.int)), .imm (.int p)] ++ List.replicate (4 - 2) Sl.no : Env) = [.imm (.lst (ns.map D.int)), .imm (.int p), .no, .no] := rfl
  rw [e0]
  refine Eq.trans (congrArg (fk 2) (ssq (δ1 := [.imm (.lst (ns.map D.int)), .imm (.int p), .imm (.int 0), .no]) ?_ (ssq h1 rfl))) h2
  simp only [x_bind, bk_ok, bk_ite, x_ret, x_lift, lk_some, lk_ite, app_ite, x_eC, x_eV, vk_imm, vk_own, vk_bor, x_give, gk_own, x_bin, x_un, x_ix, x_tru, x_eB, dBl_bl, dTru_bl, dTru_int, dTru_lst, x_and, x_or, x_not, x_eAnd, x_eOr, x_eNot, x_eIf, x_chain, x_aNil, x_aCons, x_aVr, rk_own, rk_io, x_aVb, tk_own, tk_io, tk_imm, tk_bor, x_eTup, x_eLst, imms_nil, imms_im, x_eF, x_call, ixV_C, jk_imm, jk_own, jk_io, jk_bor, flk_int, x_lenV, nk_imm, nk_own, nk_io, nk_bor, x_inV, hk_imm, hk_own, hk_io, hk_bor, x_sNx, x_pass, x_cont, x_brk, x_seq, sk_nx, sk_rt, sk_rtO, sk_ct, sk_bk, sk_ite, x_drop, x_sRet, x_sRetO, x_sIf, x_asg, x_asgO, x_gN, x_gO, x_gNil, x_gCons, x_gTt, x_gTl, x_sApp, x_sSet, x_chM, ck_own, ck_io, x_iOf, x_iRg, x_fn, fk_rt, fk_nx, fk_ite, ios_z, ios_s, keep_io, keep_imm, keep_own, keep_bor, keep_no, dSub_i, dAdd_i, dLt_i, dLe_i, dGt_i, dGe_i, dEq_int, dNe_int, ix_lst, ix_scr, ix_tup, atI_0, atI_1, atI_2, atI_3, List.getElem?_cons_zero, List.getElem?_cons_succ, List.set_cons_zero, List.set_cons_succ, List.length_cons, List.length_nil, List.cons_append, List.nil_append, List.replicate_succ, List.replicate_zero, Option.map_some, Option.bind_some, Nat.reduceAdd, Nat.reduceSub, Nat.reduceLT, Nat.reduceLeDiff, if_true, if_false, Bool.false_eq_true, decide_eq_true_eq, reduceIte, ne_eq, not_false_eq_true, Nat.lt_add_left_iff_pos, Nat.zero_lt_succ, x_call2, x_call3, dk2, dk3, ixV_V, Nat.reduceEqDiff, not_false_eq_true, x_isLst, x_isSet, List.map_cons, List.map_nil, Option.map_none, Option.bind_none]
theorem call_w {ns : List Int} {p : Int} (h0 : 0 ≤ p) : ∃ t : Int, ∀ δ, callM m__law_wide [.im (.lst (ns.map D.int)), .im (.int p)] δ = some (.ok (.int t), δ) := by
  obtain ⟨t, h⟩ := ev_wide (ns := ns) h0
  exact ⟨t, fun δ => by rw [x_call2, h, dk2]⟩
theorem take_tail {ns : List Int} {x p m : Int} (h : 0 < m) (h2 : m ≤ 1000) :
    fk 2 ((sSeq (sAsg (gN 2) (eBin dMod (eF fInt (aCons (eIxV 0 (eC (.int 0))) aNil)) (eV 1)))
 (sSeq (sSet 0 (eC (.int 0)) (eBin dDiv (eIxV 0 (eC (.int 0))) (eV 1)))
 (sRet (eV 2)))) [.io (plD ns x p), .imm (.int m), .no]) = some (.ok (.int (x % m)), [.io (plD ns (x / m) p), .no]) := by
  unfold plD
  simp only [x_bind, bk_ok, bk_ite, x_ret, x_lift, lk_some, lk_ite, app_ite, x_eC, x_eV, vk_imm, vk_own, vk_bor, x_give, gk_own, x_bin, x_un, x_ix, x_tru, x_eB, dBl_bl, dTru_bl, dTru_int, dTru_lst, x_and, x_or, x_not, x_eAnd, x_eOr, x_eNot, x_eIf, x_chain, x_aNil, x_aCons, x_aVr, rk_own, rk_io, x_aVb, tk_own, tk_io, tk_imm, tk_bor, x_eTup, x_eLst, imms_nil, imms_im, x_eF, x_call, ixV_C, jk_imm, jk_own, jk_io, jk_bor, flk_int, x_lenV, nk_imm, nk_own, nk_io, nk_bor, x_inV, hk_imm, hk_own, hk_io, hk_bor, x_sNx, x_pass, x_cont, x_brk, x_seq, sk_nx, sk_rt, sk_rtO, sk_ct, sk_bk, sk_ite, x_drop, x_sRet, x_sRetO, x_sIf, x_asg, x_asgO, x_gN, x_gO, x_gNil, x_gCons, x_gTt, x_gTl, x_sApp, x_sSet, x_chM, ck_own, ck_io, x_iOf, x_iRg, x_fn, fk_rt, fk_nx, fk_ite, ios_z, ios_s, keep_io, keep_imm, keep_own, keep_bor, keep_no, dSub_i, dAdd_i, dLt_i, dLe_i, dGt_i, dGe_i, dEq_int, dNe_int, ix_lst, ix_scr, ix_tup, atI_0, atI_1, atI_2, atI_3, List.getElem?_cons_zero, List.getElem?_cons_succ, List.set_cons_zero, List.set_cons_succ, List.length_cons, List.length_nil, List.cons_append, List.nil_append, List.replicate_succ, List.replicate_zero, Option.map_some, Option.bind_some, Nat.reduceAdd, Nat.reduceSub, Nat.reduceLT, Nat.reduceLeDiff, if_true, if_false, Bool.false_eq_true, decide_eq_true_eq, reduceIte, ne_eq, not_false_eq_true, Nat.lt_add_left_iff_pos, Nat.zero_lt_succ, x_call2, x_call3, dk2, dk3, ixV_V, Nat.reduceEqDiff, not_false_eq_true, x_isLst, x_isSet, List.map_cons, List.map_nil, Option.map_none, Option.bind_none, fInt_i, dMod_i h, dDiv_i h (show m < 1073741824 by omega), dSet3_0, iSk_io]
theorem ev_take {ns : List Int} {x p m : Int} (hp : -1 ≤ p) (h : 0 < m) (h2 : m ≤ 1000) : ∃ (t x' p' : Int), m__law_take [.io (plD ns x p), .imm (.int m)] = some (.ok (.int t), [.io (plD ns x' p'), .no]) ∧ -1 ≤ p' ∧ 0 ≤ t ∧ t < m := by
  have h1 : ∃ x' p' : Int, -1 ≤ p' ∧ (sIf (eB (eBin dLt (eIxV 0 (eC (.int 0))) (eC (.int 1000))))
 (sSeq (sSet 0 (eC (.int 2)) (eBin dAdd (eIxV 0 (eC (.int 2))) (eC (.int 1))))
 (sSet 0 (eC (.int 0)) (eCall m__law_wide (aCons (eIxV 0 (eC (.int 1))) (aCons (eIxV 0 (eC (.int 2))) aNil)))))
 sNx) [.io (plD ns x p), .imm (.int m), .no] = some (.ok .nx, [.io (plD ns x' p'), .imm (.int m), .no]) := by
    have hc : (eB (eBin dLt (eIxV 0 (eC (.int 0))) (eC (.int 1000)))) [.io (plD ns x p), .imm (.int m), .no] = some (.ok (decide (x < 1000)), [.io (plD ns x p), .imm (.int m), .no]) := by
      unfold plD
      simp only [x_bind, bk_ok, bk_ite, x_ret, x_lift, lk_some, lk_ite, app_ite, x_eC, x_eV, vk_imm, vk_own, vk_bor, x_give, gk_own, x_bin, x_un, x_ix, x_tru, x_eB, dBl_bl, dTru_bl, dTru_int, dTru_lst, x_and, x_or, x_not, x_eAnd, x_eOr, x_eNot, x_eIf, x_chain, x_aNil, x_aCons, x_aVr, rk_own, rk_io, x_aVb, tk_own, tk_io, tk_imm, tk_bor, x_eTup, x_eLst, imms_nil, imms_im, x_eF, x_call, ixV_C, jk_imm, jk_own, jk_io, jk_bor, flk_int, x_lenV, nk_imm, nk_own, nk_io, nk_bor, x_inV, hk_imm, hk_own, hk_io, hk_bor, x_sNx, x_pass, x_cont, x_brk, x_seq, sk_nx, sk_rt, sk_rtO, sk_ct, sk_bk, sk_ite, x_drop, x_sRet, x_sRetO, x_sIf, x_asg, x_asgO, x_gN, x_gO, x_gNil, x_gCons, x_gTt, x_gTl, x_sApp, x_sSet, x_chM, ck_own, ck_io, x_iOf, x_iRg, x_fn, fk_rt, fk_nx, fk_ite, ios_z, ios_s, keep_io, keep_imm, keep_own, keep_bor, keep_no, dSub_i, dAdd_i, dLt_i, dLe_i, dGt_i, dGe_i, dEq_int, dNe_int, ix_lst, ix_scr, ix_tup, atI_0, atI_1, atI_2, atI_3, List.getElem?_cons_zero, List.getElem?_cons_succ, List.set_cons_zero, List.set_cons_succ, List.length_cons, List.length_nil, List.cons_append, List.nil_append, List.replicate_succ, List.replicate_zero, Option.map_some, Option.bind_some, Nat.reduceAdd, Nat.reduceSub, Nat.reduceLT, Nat.reduceLeDiff, if_true, if_false, Bool.false_eq_true, decide_eq_true_eq, reduceIte, ne_eq, not_false_eq_true, Nat.lt_add_left_iff_pos, Nat.zero_lt_succ, x_call2, x_call3, dk2, dk3, ixV_V, Nat.reduceEqDiff, not_false_eq_true, x_isLst, x_isSet, List.map_cons, List.map_nil, Option.map_none, Option.bind_none]
    by_cases c : x < 1000
    · rw [decide_eq_true c] at hc
      obtain ⟨t, ht⟩ := call_w (ns := ns) (p := p + 1) (by omega)
      refine ⟨t, p + 1, by omega, ?_⟩
      rw [sIf_t hc]
      refine ssq (δ1 := [.io (plD ns x (p + 1)), .imm (.int m), .no]) ?_ ?_
      · unfold plD
        simp only [x_bind, bk_ok, bk_ite, x_ret, x_lift, lk_some, lk_ite, app_ite, x_eC, x_eV, vk_imm, vk_own, vk_bor, x_give, gk_own, x_bin, x_un, x_ix, x_tru, x_eB, dBl_bl, dTru_bl, dTru_int, dTru_lst, x_and, x_or, x_not, x_eAnd, x_eOr, x_eNot, x_eIf, x_chain, x_aNil, x_aCons, x_aVr, rk_own, rk_io, x_aVb, tk_own, tk_io, tk_imm, tk_bor, x_eTup, x_eLst, imms_nil, imms_im, x_eF, x_call, ixV_C, jk_imm, jk_own, jk_io, jk_bor, flk_int, x_lenV, nk_imm, nk_own, nk_io, nk_bor, x_inV, hk_imm, hk_own, hk_io, hk_bor, x_sNx, x_pass, x_cont, x_brk, x_seq, sk_nx, sk_rt, sk_rtO, sk_ct, sk_bk, sk_ite, x_drop, x_sRet, x_sRetO, x_sIf, x_asg, x_asgO, x_gN, x_gO, x_gNil, x_gCons, x_gTt, x_gTl, x_sApp, x_sSet, x_chM, ck_own, ck_io, x_iOf, x_iRg, x_fn, fk_rt, fk_nx, fk_ite, ios_z, ios_s, keep_io, keep_imm, keep_own, keep_bor, keep_no, dSub_i, dAdd_i, dLt_i, dLe_i, dGt_i, dGe_i, dEq_int, dNe_int, ix_lst, ix_scr, ix_tup, atI_0, atI_1, atI_2, atI_3, List.getElem?_cons_zero, List.getElem?_cons_succ, List.set_cons_zero, List.set_cons_succ, List.length_cons, List.length_nil, List.cons_append, List.nil_append, List.replicate_succ, List.replicate_zero, Option.map_some, Option.bind_some, Nat.reduceAdd, Nat.reduceSub, Nat.reduceLT, Nat.reduceLeDiff, if_true, if_false, Bool.false_eq_true, decide_eq_true_eq, reduceIte, ne_eq, not_false_eq_true, Nat.lt_add_left_iff_pos, Nat.zero_lt_succ, x_call2, x_call3, dk2, dk3, ixV_V, Nat.reduceEqDiff, not_false_eq_true, x_isLst, x_isSet, List.map_cons, List.map_nil, Option.map_none, Option.bind_none, dSet3_2, iSk_io]
      · unfold plD
        simp only [x_bind, bk_ok, bk_ite, x_ret, x_lift, lk_some, lk_ite, app_ite, x_eC, x_eV, vk_imm, vk_own, vk_bor, x_give, gk_own, x_bin, x_un, x_ix, x_tru, x_eB, dBl_bl, dTru_bl, dTru_int, dTru_lst, x_and, x_or, x_not, x_eAnd, x_eOr, x_eNot, x_eIf, x_chain, x_aNil, x_aCons, x_aVr, rk_own, rk_io, x_aVb, tk_own, tk_io, tk_imm, tk_bor, x_eTup, x_eLst, imms_nil, imms_im, x_eF, x_call, ixV_C, jk_imm, jk_own, jk_io, jk_bor, flk_int, x_lenV, nk_imm, nk_own, nk_io, nk_bor, x_inV, hk_imm, hk_own, hk_io, hk_bor, x_sNx, x_pass, x_cont, x_brk, x_seq, sk_nx, sk_rt, sk_rtO, sk_ct, sk_bk, sk_ite, x_drop, x_sRet, x_sRetO, x_sIf, x_asg, x_asgO, x_gN, x_gO, x_gNil, x_gCons, x_gTt, x_gTl, x_sApp, x_sSet, x_chM, ck_own, ck_io, x_iOf, x_iRg, x_fn, fk_rt, fk_nx, fk_ite, ios_z, ios_s, keep_io, keep_imm, keep_own, keep_bor, keep_no, dSub_i, dAdd_i, dLt_i, dLe_i, dGt_i, dGe_i, dEq_int, dNe_int, ix_lst, ix_scr, ix_tup, atI_0, atI_1, atI_2, atI_3, List.getElem?_cons_zero, List.getElem?_cons_succ, List.set_cons_zero, List.set_cons_succ, List.length_cons, List.length_nil, List.cons_append, List.nil_append, List.replicate_succ, List.replicate_zero, Option.map_some, Option.bind_some, Nat.reduceAdd, Nat.reduceSub, Nat.reduceLT, Nat.reduceLeDiff, if_true, if_false, Bool.false_eq_true, decide_eq_true_eq, reduceIte, ne_eq, not_false_eq_true, Nat.lt_add_left_iff_pos, Nat.zero_lt_succ, x_call2, x_call3, dk2, dk3, ixV_V, Nat.reduceEqDiff, not_false_eq_true, x_isLst, x_isSet, List.map_cons, List.map_nil, Option.map_none, Option.bind_none, dSet3_0, iSk_io, ht]
    · rw [decide_eq_false c] at hc
      exact ⟨x, p, hp, by rw [sIf_f hc]; rfl⟩
  obtain ⟨x', p', hp', h1⟩ := h1
  refine ⟨x' % m, x' / m, p', ?_, hp', Int.emod_nonneg _ (by omega), Int.emod_lt_of_pos _ h⟩
  unfold m__law_take b__law_take
  rw [x_fn]
  have e0 : ([.io (plD ns x p), .imm (.int m)] ++ List.replicate (3 - 2) Sl.no : Env) = [.io (plD ns x p), .imm (.int m), .no] := rfl
  rw [e0]
  exact (congrArg (fk 2) (ssq h1 rfl)).trans (take_tail h h2)
theorem ev_tk {ns : List Int} {d : D} {m : Int} (hd : IsPl ns d) (h : 0 < m) (h2 : m ≤ 1000) : ∃ t d', (∀ δ, callM m__law_take [.vr 0, .im (.int m)] (.io d :: δ) = some (.ok (.int t), .io d' :: δ)) ∧ IsPl ns d' ∧ 0 ≤ t ∧ t < m := by
  obtain ⟨x, p, hp, rfl⟩ := hd
  obtain ⟨t, x', p', h1, h3, h4, h5⟩ := ev_take (ns := ns) (x := x) hp h h2
  exact ⟨t, _, fun δ => call_v1 h1, ⟨x', p', h3, rfl⟩, h4, h5⟩
end M

set_option Elab.async false
set_option linter.all false
set_option maxRecDepth 100000
set_option maxHeartbeats 1000000
namespace M
open PySem L2
/-! ### grounds -/
abbrev Cell := (Int × Int) × List (Str × Int)
def kT (k : Int × Int) : D := .tup [.int k.1, .int k.2]
def kK (k : Int × Int) : List Key := [.inl k.1, .inl k.2]
def rowD (r : Str × Int) : D := .tup [.str r.1, .int r.2]
def rowsD (c : Cell) : D := .tup (c.2.map rowD)
def grD (cs : List Cell) : D := .dT (cs.map fun c => (kK c.1, rowsD c))
def tl (c : Cell) : List Int := c.2.map (·.2)
structure GOk (cs : List Cell) : Prop where
  keys : (cs.map (·.1)).Nodup
  len : cs.length ≤ 20
  rows : ∀ c ∈ cs, c.2.length ≤ 20
  tok : ∀ c ∈ cs, TOk (tl c)
theorem kK_inj {a b : Int × Int} (h : kK a = kK b) : a = b := by
  unfold kK at h
  obtain ⟨x, y⟩ := a
  obtain ⟨z, w⟩ := b
  simp only [List.cons.injEq, Sum.inl.injEq, and_true] at h
  exact Prod.ext h.1 h.2
theorem keysK_kT {k : Int × Int} : keysK [.int k.1, .int k.2] = some (kK k) := rfl
theorem look_key {α : Type} {f : α → Int × Int} {g : α → D} : ∀ {l : List α} {a : α}, (l.map f).Nodup → a ∈ l → lookA (l.map fun c => (kK (f c), g c)) (kK (f a)) = some (g a)
  | [], a, _, h => by simp at h
  | b :: l, a, nd, h => by
    rw [List.map_cons] at nd
    obtain ⟨n1, n2⟩ := List.nodup_cons.mp nd
    unfold lookA
    rw [List.map_cons, List.find?_cons]
    by_cases e : kK (f b) = kK (f a)
    · have e2 := kK_inj e
      have : b = a := by
        rcases List.mem_cons.mp h with h | h
        · exact h.symm
        · exact absurd (List.mem_map.mpr ⟨a, h, e2.symm⟩) n1
      subst this
      simp
    · rw [decide_eq_false e]
      rcases List.mem_cons.mp h with rfl | h
      · exact absurd rfl e
      · exact look_key n2 h
theorem look_gr {cs : List Cell} (o : GOk cs) {c : Cell} (h : c ∈ cs) : dGet (grD cs) (kT c.1) = some (some (rowsD c)) := by
  show some (lookA (cs.map fun c => (kK c.1, rowsD c)) (kK c.1)) = _
  rw [look_key (f := fun c : Cell => c.1) (g := rowsD) o.keys h]
theorem ix_gr {cs : List Cell} (o : GOk cs) {c : Cell} (h : c ∈ cs) : dIx (grD cs) (kT c.1) = some (rowsD c) := by
  show (dGet (grD cs) (kT c.1)).bind id = _
  rw [look_gr o h]; rfl
theorem it_rows {c : Cell} : itD (rowsD c) = some (c.2.map rowD) := rfl
theorem filter_tt {α : Type} {l : List α} : l.filter (fun _ => true) = l := List.filter_eq_self.mpr fun _ _ => rfl
theorem isD_gr {cs : List Cell} : isDct (grD cs) = true := rfl
theorem x_get2 {A B C : Mo D} {δ : Env} : eGet2 A B C δ = bk (fun d => fun δ => if isDct d = true then (B.bind fun k => C.bind fun x => Mo.lift ((dGet d k).map fun o => o.getD x)) δ else none) (A δ) := x_bind
theorem filter_tl {c : Cell} {v : Int} : ((c.2.filter fun r => !decide (r.2 = v)).length : Int) = cst (tl c) v := by
  unfold cst tl
  rw [List.filter_map, List.length_map]; rfl
theorem ev_cost {cs : List Cell} (o : GOk cs) {c : Cell} (h : c ∈ cs) {v : Int} : m_cost [.imm (grD cs), .imm (kT c.1), .imm (.int v)] = some (.ok (.int (cst (tl c) v)), [.no, .no, .no]) := by
  unfold m_cost b_cost
  rw [x_fn]
  have e0 : ([.imm (grD cs), .imm (kT c.1), .imm (.int v)] ++ List.replicate (5 - 3) Sl.no : Env) = [.imm (grD cs), .imm (kT c.1), .imm (.int v), .no, .no] := rfl
  rw [e0, x_sRet, x_eF, x_aCons]
  rw [eLc_map (l := c.2) (g := rowD) (p := fun r => !decide (r.2 = v)) (f := fun r => .int r.2) (δ0 := [.imm (grD cs), .imm (kT c.1), .imm (.int v), .no, .no])]
  · simp only [x_bind, bk_ok, bk_ite, x_ret, x_lift, lk_some, lk_ite, app_ite, x_eC, x_eV, vk_imm, vk_own, vk_bor, x_give, gk_own, x_bin, x_un, x_ix, x_tru, x_eB, dBl_bl, dTru_bl, dTru_int, dTru_lst, x_and, x_or, x_not, x_eAnd, x_eOr, x_eNot, x_eIf, x_chain, x_aNil, x_aCons, x_aVr, rk_own, rk_io, x_aVb, tk_own, tk_io, tk_imm, tk_bor, x_eTup, x_eLst, imms_nil, imms_im, x_eF, x_call, ixV_C, jk_imm, jk_own, jk_io, jk_bor, flk_int, x_lenV, nk_imm, nk_own, nk_io, nk_bor, x_inV, hk_imm, hk_own, hk_io, hk_bor, x_sNx, x_pass, x_cont, x_brk, x_seq, sk_nx, sk_rt, sk_rtO, sk_ct, sk_bk, sk_ite, x_drop, x_sRet, x_sRetO, x_sIf, x_asg, x_asgO, x_gN, x_gO, x_gNil, x_gCons, x_gTt, x_gTl, x_sApp, x_sSet, x_chM, ck_own, ck_io, x_iOf, x_iRg, x_fn, fk_rt, fk_nx, fk_ite, ios_z, ios_s, keep_io, keep_imm, keep_own, keep_bor, keep_no, dSub_i, dAdd_i, dLt_i, dLe_i, dGt_i, dGe_i, dEq_int, dNe_int, ix_lst, ix_scr, ix_tup, atI_0, atI_1, atI_2, atI_3, List.getElem?_cons_zero, List.getElem?_cons_succ, List.set_cons_zero, List.set_cons_succ, List.length_cons, List.length_nil, List.cons_append, List.nil_append, List.replicate_succ, List.replicate_zero, Option.map_some, Option.bind_some, Nat.reduceAdd, Nat.reduceSub, Nat.reduceLT, Nat.reduceLeDiff, if_true, if_false, Bool.false_eq_true, decide_eq_true_eq, reduceIte, ne_eq, not_false_eq_true, Nat.lt_add_left_iff_pos, Nat.zero_lt_succ, x_call1, x_call2, x_call3, x_call4, dk1, dk2, dk3, dk4, ixV_V, Nat.reduceEqDiff, not_false_eq_true, x_isLst, x_isSet, List.map_cons, List.map_nil, Option.map_none, Option.bind_none, wipeE, fLen_lst, List.length_map, filter_tl]
  · simp only [x_bind, bk_ok, bk_ite, x_ret, x_lift, lk_some, lk_ite, app_ite, x_eC, x_eV, vk_imm, vk_own, vk_bor, x_give, gk_own, x_bin, x_un, x_ix, x_tru, x_eB, dBl_bl, dTru_bl, dTru_int, dTru_lst, x_and, x_or, x_not, x_eAnd, x_eOr, x_eNot, x_eIf, x_chain, x_aNil, x_aCons, x_aVr, rk_own, rk_io, x_aVb, tk_own, tk_io, tk_imm, tk_bor, x_eTup, x_eLst, imms_nil, imms_im, x_eF, x_call, ixV_C, jk_imm, jk_own, jk_io, jk_bor, flk_int, x_lenV, nk_imm, nk_own, nk_io, nk_bor, x_inV, hk_imm, hk_own, hk_io, hk_bor, x_sNx, x_pass, x_cont, x_brk, x_seq, sk_nx, sk_rt, sk_rtO, sk_ct, sk_bk, sk_ite, x_drop, x_sRet, x_sRetO, x_sIf, x_asg, x_asgO, x_gN, x_gO, x_gNil, x_gCons, x_gTt, x_gTl, x_sApp, x_sSet, x_chM, ck_own, ck_io, x_iOf, x_iRg, x_fn, fk_rt, fk_nx, fk_ite, ios_z, ios_s, keep_io, keep_imm, keep_own, keep_bor, keep_no, dSub_i, dAdd_i, dLt_i, dLe_i, dGt_i, dGe_i, dEq_int, dNe_int, ix_lst, ix_scr, ix_tup, atI_0, atI_1, atI_2, atI_3, List.getElem?_cons_zero, List.getElem?_cons_succ, List.set_cons_zero, List.set_cons_succ, List.length_cons, List.length_nil, List.cons_append, List.nil_append, List.replicate_succ, List.replicate_zero, Option.map_some, Option.bind_some, Nat.reduceAdd, Nat.reduceSub, Nat.reduceLT, Nat.reduceLeDiff, if_true, if_false, Bool.false_eq_true, decide_eq_true_eq, reduceIte, ne_eq, not_false_eq_true, Nat.lt_add_left_iff_pos, Nat.zero_lt_succ, x_call1, x_call2, x_call3, x_call4, dk1, dk2, dk3, dk4, ixV_V, Nat.reduceEqDiff, not_false_eq_true, x_isLst, x_isSet, List.map_cons, List.map_nil, Option.map_none, Option.bind_none, ix_gr o h, it_rows]
  · have := o.rows c h; omega
  · intro r hr
    refine ⟨[.imm (grD cs), .imm (kT c.1), .imm (.int v), .imm (.str r.1), .imm (.int r.2)], [.imm (grD cs), .imm (kT c.1), .imm (.int v), .imm (.str r.1), .imm (.int r.2)], ?_, ?_, fun _ => rfl, fun _ => ⟨_, rfl, rfl⟩⟩
    · unfold rowD
      simp only [x_bind, bk_ok, bk_ite, x_ret, x_lift, lk_some, lk_ite, app_ite, x_eC, x_eV, vk_imm, vk_own, vk_bor, x_give, gk_own, x_bin, x_un, x_ix, x_tru, x_eB, dBl_bl, dTru_bl, dTru_int, dTru_lst, x_and, x_or, x_not, x_eAnd, x_eOr, x_eNot, x_eIf, x_chain, x_aNil, x_aCons, x_aVr, rk_own, rk_io, x_aVb, tk_own, tk_io, tk_imm, tk_bor, x_eTup, x_eLst, imms_nil, imms_im, x_eF, x_call, ixV_C, jk_imm, jk_own, jk_io, jk_bor, flk_int, x_lenV, nk_imm, nk_own, nk_io, nk_bor, x_inV, hk_imm, hk_own, hk_io, hk_bor, x_sNx, x_pass, x_cont, x_brk, x_seq, sk_nx, sk_rt, sk_rtO, sk_ct, sk_bk, sk_ite, x_drop, x_sRet, x_sRetO, x_sIf, x_asg, x_asgO, x_gN, x_gO, x_gNil, x_gCons, x_gTt, x_gTl, x_sApp, x_sSet, x_chM, ck_own, ck_io, x_iOf, x_iRg, x_fn, fk_rt, fk_nx, fk_ite, ios_z, ios_s, keep_io, keep_imm, keep_own, keep_bor, keep_no, dSub_i, dAdd_i, dLt_i, dLe_i, dGt_i, dGe_i, dEq_int, dNe_int, ix_lst, ix_scr, ix_tup, atI_0, atI_1, atI_2, atI_3, List.getElem?_cons_zero, List.getElem?_cons_succ, List.set_cons_zero, List.set_cons_succ, List.length_cons, List.length_nil, List.cons_append, List.nil_append, List.replicate_succ, List.replicate_zero, Option.map_some, Option.bind_some, Nat.reduceAdd, Nat.reduceSub, Nat.reduceLT, Nat.reduceLeDiff, if_true, if_false, Bool.false_eq_true, decide_eq_true_eq, reduceIte, ne_eq, not_false_eq_true, Nat.lt_add_left_iff_pos, Nat.zero_lt_succ, x_call1, x_call2, x_call3, x_call4, dk1, dk2, dk3, dk4, ixV_V, Nat.reduceEqDiff, not_false_eq_true, x_isLst, x_isSet, List.map_cons, List.map_nil, Option.map_none, Option.bind_none, wipeE]
    · simp only [x_bind, bk_ok, bk_ite, x_ret, x_lift, lk_some, lk_ite, app_ite, x_eC, x_eV, vk_imm, vk_own, vk_bor, x_give, gk_own, x_bin, x_un, x_ix, x_tru, x_eB, dBl_bl, dTru_bl, dTru_int, dTru_lst, x_and, x_or, x_not, x_eAnd, x_eOr, x_eNot, x_eIf, x_chain, x_aNil, x_aCons, x_aVr, rk_own, rk_io, x_aVb, tk_own, tk_io, tk_imm, tk_bor, x_eTup, x_eLst, imms_nil, imms_im, x_eF, x_call, ixV_C, jk_imm, jk_own, jk_io, jk_bor, flk_int, x_lenV, nk_imm, nk_own, nk_io, nk_bor, x_inV, hk_imm, hk_own, hk_io, hk_bor, x_sNx, x_pass, x_cont, x_brk, x_seq, sk_nx, sk_rt, sk_rtO, sk_ct, sk_bk, sk_ite, x_drop, x_sRet, x_sRetO, x_sIf, x_asg, x_asgO, x_gN, x_gO, x_gNil, x_gCons, x_gTt, x_gTl, x_sApp, x_sSet, x_chM, ck_own, ck_io, x_iOf, x_iRg, x_fn, fk_rt, fk_nx, fk_ite, ios_z, ios_s, keep_io, keep_imm, keep_own, keep_bor, keep_no, dSub_i, dAdd_i, dLt_i, dLe_i, dGt_i, dGe_i, dEq_int, dNe_int, ix_lst, ix_scr, ix_tup, atI_0, atI_1, atI_2, atI_3, List.getElem?_cons_zero, List.getElem?_cons_succ, List.set_cons_zero, List.set_cons_succ, List.length_cons, List.length_nil, List.cons_append, List.nil_append, List.replicate_succ, List.replicate_zero, Option.map_some, Option.bind_some, Nat.reduceAdd, Nat.reduceSub, Nat.reduceLT, Nat.reduceLeDiff, if_true, if_false, Bool.false_eq_true, decide_eq_true_eq, reduceIte, ne_eq, not_false_eq_true, Nat.lt_add_left_iff_pos, Nat.zero_lt_succ, x_call1, x_call2, x_call3, x_call4, dk1, dk2, dk3, dk4, ixV_V, Nat.reduceEqDiff, not_false_eq_true, x_isLst, x_isSet, List.map_cons, List.map_nil, Option.map_none, Option.bind_none]
theorem ev_values {cs : List Cell} (o : GOk cs) {c : Cell} (h : c ∈ cs) : m_values_at [.imm (grD cs), .imm (kT c.1)] = some (.ok (iD (sortSet (tl c))), [.no, .no]) := by
  unfold m_values_at b_values_at
  rw [x_fn]
  have e0 : ([.imm (grD cs), .imm (kT c.1)] ++ List.replicate (4 - 2) Sl.no : Env) = [.imm (grD cs), .imm (kT c.1), .no, .no] := rfl
  rw [e0, x_sRet]
  rw [eSc_map (l := c.2) (g := rowD) (p := fun _ => true) (fi := fun r => r.2) (δ0 := [.imm (grD cs), .imm (kT c.1), .no, .no])]
  · rw [filter_tt]
    simp only [x_bind, bk_ok, bk_ite, x_ret, x_lift, lk_some, lk_ite, app_ite, x_eC, x_eV, vk_imm, vk_own, vk_bor, x_give, gk_own, x_bin, x_un, x_ix, x_tru, x_eB, dBl_bl, dTru_bl, dTru_int, dTru_lst, x_and, x_or, x_not, x_eAnd, x_eOr, x_eNot, x_eIf, x_chain, x_aNil, x_aCons, x_aVr, rk_own, rk_io, x_aVb, tk_own, tk_io, tk_imm, tk_bor, x_eTup, x_eLst, imms_nil, imms_im, x_eF, x_call, ixV_C, jk_imm, jk_own, jk_io, jk_bor, flk_int, x_lenV, nk_imm, nk_own, nk_io, nk_bor, x_inV, hk_imm, hk_own, hk_io, hk_bor, x_sNx, x_pass, x_cont, x_brk, x_seq, sk_nx, sk_rt, sk_rtO, sk_ct, sk_bk, sk_ite, x_drop, x_sRet, x_sRetO, x_sIf, x_asg, x_asgO, x_gN, x_gO, x_gNil, x_gCons, x_gTt, x_gTl, x_sApp, x_sSet, x_chM, ck_own, ck_io, x_iOf, x_iRg, x_fn, fk_rt, fk_nx, fk_ite, ios_z, ios_s, keep_io, keep_imm, keep_own, keep_bor, keep_no, dSub_i, dAdd_i, dLt_i, dLe_i, dGt_i, dGe_i, dEq_int, dNe_int, ix_lst, ix_scr, ix_tup, atI_0, atI_1, atI_2, atI_3, List.getElem?_cons_zero, List.getElem?_cons_succ, List.set_cons_zero, List.set_cons_succ, List.length_cons, List.length_nil, List.cons_append, List.nil_append, List.replicate_succ, List.replicate_zero, Option.map_some, Option.bind_some, Nat.reduceAdd, Nat.reduceSub, Nat.reduceLT, Nat.reduceLeDiff, if_true, if_false, Bool.false_eq_true, decide_eq_true_eq, reduceIte, ne_eq, not_false_eq_true, Nat.lt_add_left_iff_pos, Nat.zero_lt_succ, x_call1, x_call2, x_call3, x_call4, dk1, dk2, dk3, dk4, ixV_V, Nat.reduceEqDiff, not_false_eq_true, x_isLst, x_isSet, List.map_cons, List.map_nil, Option.map_none, Option.bind_none, wipeE]
    rfl
  · simp only [x_bind, bk_ok, bk_ite, x_ret, x_lift, lk_some, lk_ite, app_ite, x_eC, x_eV, vk_imm, vk_own, vk_bor, x_give, gk_own, x_bin, x_un, x_ix, x_tru, x_eB, dBl_bl, dTru_bl, dTru_int, dTru_lst, x_and, x_or, x_not, x_eAnd, x_eOr, x_eNot, x_eIf, x_chain, x_aNil, x_aCons, x_aVr, rk_own, rk_io, x_aVb, tk_own, tk_io, tk_imm, tk_bor, x_eTup, x_eLst, imms_nil, imms_im, x_eF, x_call, ixV_C, jk_imm, jk_own, jk_io, jk_bor, flk_int, x_lenV, nk_imm, nk_own, nk_io, nk_bor, x_inV, hk_imm, hk_own, hk_io, hk_bor, x_sNx, x_pass, x_cont, x_brk, x_seq, sk_nx, sk_rt, sk_rtO, sk_ct, sk_bk, sk_ite, x_drop, x_sRet, x_sRetO, x_sIf, x_asg, x_asgO, x_gN, x_gO, x_gNil, x_gCons, x_gTt, x_gTl, x_sApp, x_sSet, x_chM, ck_own, ck_io, x_iOf, x_iRg, x_fn, fk_rt, fk_nx, fk_ite, ios_z, ios_s, keep_io, keep_imm, keep_own, keep_bor, keep_no, dSub_i, dAdd_i, dLt_i, dLe_i, dGt_i, dGe_i, dEq_int, dNe_int, ix_lst, ix_scr, ix_tup, atI_0, atI_1, atI_2, atI_3, List.getElem?_cons_zero, List.getElem?_cons_succ, List.set_cons_zero, List.set_cons_succ, List.length_cons, List.length_nil, List.cons_append, List.nil_append, List.replicate_succ, List.replicate_zero, Option.map_some, Option.bind_some, Nat.reduceAdd, Nat.reduceSub, Nat.reduceLT, Nat.reduceLeDiff, if_true, if_false, Bool.false_eq_true, decide_eq_true_eq, reduceIte, ne_eq, not_false_eq_true, Nat.lt_add_left_iff_pos, Nat.zero_lt_succ, x_call1, x_call2, x_call3, x_call4, dk1, dk2, dk3, dk4, ixV_V, Nat.reduceEqDiff, not_false_eq_true, x_isLst, x_isSet, List.map_cons, List.map_nil, Option.map_none, Option.bind_none, x_get2, isD_gr, look_gr o h, it_rows, Option.getD_some]
  · have := o.rows c h; omega
  · intro r hr
    refine ⟨[.imm (grD cs), .imm (kT c.1), .imm (.str r.1), .imm (.int r.2)], [.imm (grD cs), .imm (kT c.1), .imm (.str r.1), .imm (.int r.2)], ?_, rfl, fun _ => rfl, fun _ => ⟨_, rfl, rfl⟩⟩
    unfold rowD
    simp only [x_bind, bk_ok, bk_ite, x_ret, x_lift, lk_some, lk_ite, app_ite, x_eC, x_eV, vk_imm, vk_own, vk_bor, x_give, gk_own, x_bin, x_un, x_ix, x_tru, x_eB, dBl_bl, dTru_bl, dTru_int, dTru_lst, x_and, x_or, x_not, x_eAnd, x_eOr, x_eNot, x_eIf, x_chain, x_aNil, x_aCons, x_aVr, rk_own, rk_io, x_aVb, tk_own, tk_io, tk_imm, tk_bor, x_eTup, x_eLst, imms_nil, imms_im, x_eF, x_call, ixV_C, jk_imm, jk_own, jk_io, jk_bor, flk_int, x_lenV, nk_imm, nk_own, nk_io, nk_bor, x_inV, hk_imm, hk_own, hk_io, hk_bor, x_sNx, x_pass, x_cont, x_brk, x_seq, sk_nx, sk_rt, sk_rtO, sk_ct, sk_bk, sk_ite, x_drop, x_sRet, x_sRetO, x_sIf, x_asg, x_asgO, x_gN, x_gO, x_gNil, x_gCons, x_gTt, x_gTl, x_sApp, x_sSet, x_chM, ck_own, ck_io, x_iOf, x_iRg, x_fn, fk_rt, fk_nx, fk_ite, ios_z, ios_s, keep_io, keep_imm, keep_own, keep_bor, keep_no, dSub_i, dAdd_i, dLt_i, dLe_i, dGt_i, dGe_i, dEq_int, dNe_int, ix_lst, ix_scr, ix_tup, atI_0, atI_1, atI_2, atI_3, List.getElem?_cons_zero, List.getElem?_cons_succ, List.set_cons_zero, List.set_cons_succ, List.length_cons, List.length_nil, List.cons_append, List.nil_append, List.replicate_succ, List.replicate_zero, Option.map_some, Option.bind_some, Nat.reduceAdd, Nat.reduceSub, Nat.reduceLT, Nat.reduceLeDiff, if_true, if_false, Bool.false_eq_true, decide_eq_true_eq, reduceIte, ne_eq, not_false_eq_true, Nat.lt_add_left_iff_pos, Nat.zero_lt_succ, x_call1, x_call2, x_call3, x_call4, dk1, dk2, dk3, dk4, ixV_V, Nat.reduceEqDiff, not_false_eq_true, x_isLst, x_isSet, List.map_cons, List.map_nil, Option.map_none, Option.bind_none, wipeE]
theorem dIs_oI {f : Option Int} : dIs false (oI f) .non = some (.bl f.isNone) := by cases f <;> rfl
theorem ev_best {cs : List Cell} (o : GOk cs) {c : Cell} (h : c ∈ cs) : m_best [.imm (grD cs), .imm (kT c.1)] = some (.ok (.int (bst (tl c))), [.no, .no]) := by
  unfold m_best b_best
  rw [x_fn]
  have e0 : ([.imm (grD cs), .imm (kT c.1)] ++ List.replicate (4 - 2) Sl.no : Env) = [.imm (grD cs), .imm (kT c.1), .no, .no] := rfl
  rw [e0, ssq (δ1 := [.imm (grD cs), .imm (kT c.1), .imm .non, .no]) (by simp only [x_bind, bk_ok, bk_ite, x_ret, x_lift, lk_some, lk_ite, app_ite, x_eC, x_eV, vk_imm, vk_own, vk_bor, x_give, gk_own, x_bin, x_un, x_ix, x_tru, x_eB, dBl_bl, dTru_bl, dTru_int, dTru_lst, x_and, x_or, x_not, x_eAnd, x_eOr, x_eNot, x_eIf, x_chain, x_aNil, x_aCons, x_aVr, rk_own, rk_io, x_aVb, tk_own, tk_io, tk_imm, tk_bor, x_eTup, x_eLst, imms_nil, imms_im, x_eF, x_call, ixV_C, jk_imm, jk_own, jk_io, jk_bor, flk_int, x_lenV, nk_imm, nk_own, nk_io, nk_bor, x_inV, hk_imm, hk_own, hk_io, hk_bor, x_sNx, x_pass, x_cont, x_brk, x_seq, sk_nx, sk_rt, sk_rtO, sk_ct, sk_bk, sk_ite, x_drop, x_sRet, x_sRetO, x_sIf, x_asg, x_asgO, x_gN, x_gO, x_gNil, x_gCons, x_gTt, x_gTl, x_sApp, x_sSet, x_chM, ck_own, ck_io, x_iOf, x_iRg, x_fn, fk_rt, fk_nx, fk_ite, ios_z, ios_s, keep_io, keep_imm, keep_own, keep_bor, keep_no, dSub_i, dAdd_i, dLt_i, dLe_i, dGt_i, dGe_i, dEq_int, dNe_int, ix_lst, ix_scr, ix_tup, atI_0, atI_1, atI_2, atI_3, List.getElem?_cons_zero, List.getElem?_cons_succ, List.set_cons_zero, List.set_cons_succ, List.length_cons, List.length_nil, List.cons_append, List.nil_append, List.replicate_succ, List.replicate_zero, Option.map_some, Option.bind_some, Nat.reduceAdd, Nat.reduceSub, Nat.reduceLT, Nat.reduceLeDiff, if_true, if_false, Bool.false_eq_true, decide_eq_true_eq, reduceIte, ne_eq, not_false_eq_true, Nat.lt_add_left_iff_pos, Nat.zero_lt_succ, x_call1, x_call2, x_call3, x_call4, dk1, dk2, dk3, dk4, ixV_V, Nat.reduceEqDiff, not_false_eq_true, x_isLst, x_isSet, List.map_cons, List.map_nil, Option.map_none, Option.bind_none]) rfl, x_seq]
  rw [sFor_det (ds := (sortSet (tl c)).map D.int) (δ0 := [.imm (grD cs), .imm (kT c.1), .imm .non, .no]) (F := fun k => [.imm (grD cs), .imm (kT c.1), .imm (oI (((sortSet (tl c)).take k).foldl (bestF (tl c)) none)), lastY .no ((sortSet (tl c)).map D.int) k])]
  · rw [List.length_map, List.take_length, show (sortSet (tl c)).foldl (bestF (tl c)) none = some (bst (tl c)) from (bst_spec (o.tok c h).ne).1]
    simp only [x_bind, bk_ok, bk_ite, x_ret, x_lift, lk_some, lk_ite, app_ite, x_eC, x_eV, vk_imm, vk_own, vk_bor, x_give, gk_own, x_bin, x_un, x_ix, x_tru, x_eB, dBl_bl, dTru_bl, dTru_int, dTru_lst, x_and, x_or, x_not, x_eAnd, x_eOr, x_eNot, x_eIf, x_chain, x_aNil, x_aCons, x_aVr, rk_own, rk_io, x_aVb, tk_own, tk_io, tk_imm, tk_bor, x_eTup, x_eLst, imms_nil, imms_im, x_eF, x_call, ixV_C, jk_imm, jk_own, jk_io, jk_bor, flk_int, x_lenV, nk_imm, nk_own, nk_io, nk_bor, x_inV, hk_imm, hk_own, hk_io, hk_bor, x_sNx, x_pass, x_cont, x_brk, x_seq, sk_nx, sk_rt, sk_rtO, sk_ct, sk_bk, sk_ite, x_drop, x_sRet, x_sRetO, x_sIf, x_asg, x_asgO, x_gN, x_gO, x_gNil, x_gCons, x_gTt, x_gTl, x_sApp, x_sSet, x_chM, ck_own, ck_io, x_iOf, x_iRg, x_fn, fk_rt, fk_nx, fk_ite, ios_z, ios_s, keep_io, keep_imm, keep_own, keep_bor, keep_no, dSub_i, dAdd_i, dLt_i, dLe_i, dGt_i, dGe_i, dEq_int, dNe_int, ix_lst, ix_scr, ix_tup, atI_0, atI_1, atI_2, atI_3, List.getElem?_cons_zero, List.getElem?_cons_succ, List.set_cons_zero, List.set_cons_succ, List.length_cons, List.length_nil, List.cons_append, List.nil_append, List.replicate_succ, List.replicate_zero, Option.map_some, Option.bind_some, Nat.reduceAdd, Nat.reduceSub, Nat.reduceLT, Nat.reduceLeDiff, if_true, if_false, Bool.false_eq_true, decide_eq_true_eq, reduceIte, ne_eq, not_false_eq_true, Nat.lt_add_left_iff_pos, Nat.zero_lt_succ, x_call1, x_call2, x_call3, x_call4, dk1, dk2, dk3, dk4, ixV_V, Nat.reduceEqDiff, not_false_eq_true, x_isLst, x_isSet, List.map_cons, List.map_nil, Option.map_none, Option.bind_none, oI]
  · simp only [x_bind, bk_ok, bk_ite, x_ret, x_lift, lk_some, lk_ite, app_ite, x_eC, x_eV, vk_imm, vk_own, vk_bor, x_give, gk_own, x_bin, x_un, x_ix, x_tru, x_eB, dBl_bl, dTru_bl, dTru_int, dTru_lst, x_and, x_or, x_not, x_eAnd, x_eOr, x_eNot, x_eIf, x_chain, x_aNil, x_aCons, x_aVr, rk_own, rk_io, x_aVb, tk_own, tk_io, tk_imm, tk_bor, x_eTup, x_eLst, imms_nil, imms_im, x_eF, x_call, ixV_C, jk_imm, jk_own, jk_io, jk_bor, flk_int, x_lenV, nk_imm, nk_own, nk_io, nk_bor, x_inV, hk_imm, hk_own, hk_io, hk_bor, x_sNx, x_pass, x_cont, x_brk, x_seq, sk_nx, sk_rt, sk_rtO, sk_ct, sk_bk, sk_ite, x_drop, x_sRet, x_sRetO, x_sIf, x_asg, x_asgO, x_gN, x_gO, x_gNil, x_gCons, x_gTt, x_gTl, x_sApp, x_sSet, x_chM, ck_own, ck_io, x_iOf, x_iRg, x_fn, fk_rt, fk_nx, fk_ite, ios_z, ios_s, keep_io, keep_imm, keep_own, keep_bor, keep_no, dSub_i, dAdd_i, dLt_i, dLe_i, dGt_i, dGe_i, dEq_int, dNe_int, ix_lst, ix_scr, ix_tup, atI_0, atI_1, atI_2, atI_3, List.getElem?_cons_zero, List.getElem?_cons_succ, List.set_cons_zero, List.set_cons_succ, List.length_cons, List.length_nil, List.cons_append, List.nil_append, List.replicate_succ, List.replicate_zero, Option.map_some, Option.bind_some, Nat.reduceAdd, Nat.reduceSub, Nat.reduceLT, Nat.reduceLeDiff, if_true, if_false, Bool.false_eq_true, decide_eq_true_eq, reduceIte, ne_eq, not_false_eq_true, Nat.lt_add_left_iff_pos, Nat.zero_lt_succ, x_call1, x_call2, x_call3, x_call4, dk1, dk2, dk3, dk4, ixV_V, Nat.reduceEqDiff, not_false_eq_true, x_isLst, x_isSet, List.map_cons, List.map_nil, Option.map_none, Option.bind_none, ev_values o h]
    rfl
  · rfl
  · intro i d hd
    rw [lastY_s hd]
    obtain ⟨v, hv, rfl⟩ := get_mapI hd
    rw [foldl_take hv]
    generalize ((sortSet (tl c)).take i).foldl (bestF (tl c)) none = f
    refine ⟨[.imm (grD cs), .imm (kT c.1), .imm (oI f), .imm (.int v)], by simp only [x_bind, bk_ok, bk_ite, x_ret, x_lift, lk_some, lk_ite, app_ite, x_eC, x_eV, vk_imm, vk_own, vk_bor, x_give, gk_own, x_bin, x_un, x_ix, x_tru, x_eB, dBl_bl, dTru_bl, dTru_int, dTru_lst, x_and, x_or, x_not, x_eAnd, x_eOr, x_eNot, x_eIf, x_chain, x_aNil, x_aCons, x_aVr, rk_own, rk_io, x_aVb, tk_own, tk_io, tk_imm, tk_bor, x_eTup, x_eLst, imms_nil, imms_im, x_eF, x_call, ixV_C, jk_imm, jk_own, jk_io, jk_bor, flk_int, x_lenV, nk_imm, nk_own, nk_io, nk_bor, x_inV, hk_imm, hk_own, hk_io, hk_bor, x_sNx, x_pass, x_cont, x_brk, x_seq, sk_nx, sk_rt, sk_rtO, sk_ct, sk_bk, sk_ite, x_drop, x_sRet, x_sRetO, x_sIf, x_asg, x_asgO, x_gN, x_gO, x_gNil, x_gCons, x_gTt, x_gTl, x_sApp, x_sSet, x_chM, ck_own, ck_io, x_iOf, x_iRg, x_fn, fk_rt, fk_nx, fk_ite, ios_z, ios_s, keep_io, keep_imm, keep_own, keep_bor, keep_no, dSub_i, dAdd_i, dLt_i, dLe_i, dGt_i, dGe_i, dEq_int, dNe_int, ix_lst, ix_scr, ix_tup, atI_0, atI_1, atI_2, atI_3, List.getElem?_cons_zero, List.getElem?_cons_succ, List.set_cons_zero, List.set_cons_succ, List.length_cons, List.length_nil, List.cons_append, List.nil_append, List.replicate_succ, List.replicate_zero, Option.map_some, Option.bind_some, Nat.reduceAdd, Nat.reduceSub, Nat.reduceLT, Nat.reduceLeDiff, if_true, if_false, Bool.false_eq_true, decide_eq_true_eq, reduceIte, ne_eq, not_false_eq_true, Nat.lt_add_left_iff_pos, Nat.zero_lt_succ, x_call1, x_call2, x_call3, x_call4, dk1, dk2, dk3, dk4, ixV_V, Nat.reduceEqDiff, not_false_eq_true, x_isLst, x_isSet, List.map_cons, List.map_nil, Option.map_none, Option.bind_none], .inl ?_⟩
    cases f with
    | none =>
      rw [sIf_t (δ1 := [.imm (grD cs), .imm (kT c.1), .imm (oI none), .imm (.int v)])]
      · simp only [x_bind, bk_ok, bk_ite, x_ret, x_lift, lk_some, lk_ite, app_ite, x_eC, x_eV, vk_imm, vk_own, vk_bor, x_give, gk_own, x_bin, x_un, x_ix, x_tru, x_eB, dBl_bl, dTru_bl, dTru_int, dTru_lst, x_and, x_or, x_not, x_eAnd, x_eOr, x_eNot, x_eIf, x_chain, x_aNil, x_aCons, x_aVr, rk_own, rk_io, x_aVb, tk_own, tk_io, tk_imm, tk_bor, x_eTup, x_eLst, imms_nil, imms_im, x_eF, x_call, ixV_C, jk_imm, jk_own, jk_io, jk_bor, flk_int, x_lenV, nk_imm, nk_own, nk_io, nk_bor, x_inV, hk_imm, hk_own, hk_io, hk_bor, x_sNx, x_pass, x_cont, x_brk, x_seq, sk_nx, sk_rt, sk_rtO, sk_ct, sk_bk, sk_ite, x_drop, x_sRet, x_sRetO, x_sIf, x_asg, x_asgO, x_gN, x_gO, x_gNil, x_gCons, x_gTt, x_gTl, x_sApp, x_sSet, x_chM, ck_own, ck_io, x_iOf, x_iRg, x_fn, fk_rt, fk_nx, fk_ite, ios_z, ios_s, keep_io, keep_imm, keep_own, keep_bor, keep_no, dSub_i, dAdd_i, dLt_i, dLe_i, dGt_i, dGe_i, dEq_int, dNe_int, ix_lst, ix_scr, ix_tup, atI_0, atI_1, atI_2, atI_3, List.getElem?_cons_zero, List.getElem?_cons_succ, List.set_cons_zero, List.set_cons_succ, List.length_cons, List.length_nil, List.cons_append, List.nil_append, List.replicate_succ, List.replicate_zero, Option.map_some, Option.bind_some, Nat.reduceAdd, Nat.reduceSub, Nat.reduceLT, Nat.reduceLeDiff, if_true, if_false, Bool.false_eq_true, decide_eq_true_eq, reduceIte, ne_eq, not_false_eq_true, Nat.lt_add_left_iff_pos, Nat.zero_lt_succ, x_call1, x_call2, x_call3, x_call4, dk1, dk2, dk3, dk4, ixV_V, Nat.reduceEqDiff, not_false_eq_true, x_isLst, x_isSet, List.map_cons, List.map_nil, Option.map_none, Option.bind_none, bestF, oI]
      · simp only [x_bind, bk_ok, bk_ite, x_ret, x_lift, lk_some, lk_ite, app_ite, x_eC, x_eV, vk_imm, vk_own, vk_bor, x_give, gk_own, x_bin, x_un, x_ix, x_tru, x_eB, dBl_bl, dTru_bl, dTru_int, dTru_lst, x_and, x_or, x_not, x_eAnd, x_eOr, x_eNot, x_eIf, x_chain, x_aNil, x_aCons, x_aVr, rk_own, rk_io, x_aVb, tk_own, tk_io, tk_imm, tk_bor, x_eTup, x_eLst, imms_nil, imms_im, x_eF, x_call, ixV_C, jk_imm, jk_own, jk_io, jk_bor, flk_int, x_lenV, nk_imm, nk_own, nk_io, nk_bor, x_inV, hk_imm, hk_own, hk_io, hk_bor, x_sNx, x_pass, x_cont, x_brk, x_seq, sk_nx, sk_rt, sk_rtO, sk_ct, sk_bk, sk_ite, x_drop, x_sRet, x_sRetO, x_sIf, x_asg, x_asgO, x_gN, x_gO, x_gNil, x_gCons, x_gTt, x_gTl, x_sApp, x_sSet, x_chM, ck_own, ck_io, x_iOf, x_iRg, x_fn, fk_rt, fk_nx, fk_ite, ios_z, ios_s, keep_io, keep_imm, keep_own, keep_bor, keep_no, dSub_i, dAdd_i, dLt_i, dLe_i, dGt_i, dGe_i, dEq_int, dNe_int, ix_lst, ix_scr, ix_tup, atI_0, atI_1, atI_2, atI_3, List.getElem?_cons_zero, List.getElem?_cons_succ, List.set_cons_zero, List.set_cons_succ, List.length_cons, List.length_nil, List.cons_append, List.nil_append, List.replicate_succ, List.replicate_zero, Option.map_some, Option.bind_some, Nat.reduceAdd, Nat.reduceSub, Nat.reduceLT, Nat.reduceLeDiff, if_true, if_false, Bool.false_eq_true, decide_eq_true_eq, reduceIte, ne_eq, not_false_eq_true, Nat.lt_add_left_iff_pos, Nat.zero_lt_succ, x_call1, x_call2, x_call3, x_call4, dk1, dk2, dk3, dk4, ixV_V, Nat.reduceEqDiff, not_false_eq_true, x_isLst, x_isSet, List.map_cons, List.map_nil, Option.map_none, Option.bind_none, dIs_oI, Option.isNone_none]
    | some u =>
      by_cases lt : cst (tl c) v < cst (tl c) u
      · rw [sIf_t (δ1 := [.imm (grD cs), .imm (kT c.1), .imm (oI (some u)), .imm (.int v)])]
        · simp only [x_bind, bk_ok, bk_ite, x_ret, x_lift, lk_some, lk_ite, app_ite, x_eC, x_eV, vk_imm, vk_own, vk_bor, x_give, gk_own, x_bin, x_un, x_ix, x_tru, x_eB, dBl_bl, dTru_bl, dTru_int, dTru_lst, x_and, x_or, x_not, x_eAnd, x_eOr, x_eNot, x_eIf, x_chain, x_aNil, x_aCons, x_aVr, rk_own, rk_io, x_aVb, tk_own, tk_io, tk_imm, tk_bor, x_eTup, x_eLst, imms_nil, imms_im, x_eF, x_call, ixV_C, jk_imm, jk_own, jk_io, jk_bor, flk_int, x_lenV, nk_imm, nk_own, nk_io, nk_bor, x_inV, hk_imm, hk_own, hk_io, hk_bor, x_sNx, x_pass, x_cont, x_brk, x_seq, sk_nx, sk_rt, sk_rtO, sk_ct, sk_bk, sk_ite, x_drop, x_sRet, x_sRetO, x_sIf, x_asg, x_asgO, x_gN, x_gO, x_gNil, x_gCons, x_gTt, x_gTl, x_sApp, x_sSet, x_chM, ck_own, ck_io, x_iOf, x_iRg, x_fn, fk_rt, fk_nx, fk_ite, ios_z, ios_s, keep_io, keep_imm, keep_own, keep_bor, keep_no, dSub_i, dAdd_i, dLt_i, dLe_i, dGt_i, dGe_i, dEq_int, dNe_int, ix_lst, ix_scr, ix_tup, atI_0, atI_1, atI_2, atI_3, List.getElem?_cons_zero, List.getElem?_cons_succ, List.set_cons_zero, List.set_cons_succ, List.length_cons, List.length_nil, List.cons_append, List.nil_append, List.replicate_succ, List.replicate_zero, Option.map_some, Option.bind_some, Nat.reduceAdd, Nat.reduceSub, Nat.reduceLT, Nat.reduceLeDiff, if_true, if_false, Bool.false_eq_true, decide_eq_true_eq, reduceIte, ne_eq, not_false_eq_true, Nat.lt_add_left_iff_pos, Nat.zero_lt_succ, x_call1, x_call2, x_call3, x_call4, dk1, dk2, dk3, dk4, ixV_V, Nat.reduceEqDiff, not_false_eq_true, x_isLst, x_isSet, List.map_cons, List.map_nil, Option.map_none, Option.bind_none, bestF, oI, lt]
        · simp only [x_bind, bk_ok, bk_ite, x_ret, x_lift, lk_some, lk_ite, app_ite, x_eC, x_eV, vk_imm, vk_own, vk_bor, x_give, gk_own, x_bin, x_un, x_ix, x_tru, x_eB, dBl_bl, dTru_bl, dTru_int, dTru_lst, x_and, x_or, x_not, x_eAnd, x_eOr, x_eNot, x_eIf, x_chain, x_aNil, x_aCons, x_aVr, rk_own, rk_io, x_aVb, tk_own, tk_io, tk_imm, tk_bor, x_eTup, x_eLst, imms_nil, imms_im, x_eF, x_call, ixV_C, jk_imm, jk_own, jk_io, jk_bor, flk_int, x_lenV, nk_imm, nk_own, nk_io, nk_bor, x_inV, hk_imm, hk_own, hk_io, hk_bor, x_sNx, x_pass, x_cont, x_brk, x_seq, sk_nx, sk_rt, sk_rtO, sk_ct, sk_bk, sk_ite, x_drop, x_sRet, x_sRetO, x_sIf, x_asg, x_asgO, x_gN, x_gO, x_gNil, x_gCons, x_gTt, x_gTl, x_sApp, x_sSet, x_chM, ck_own, ck_io, x_iOf, x_iRg, x_fn, fk_rt, fk_nx, fk_ite, ios_z, ios_s, keep_io, keep_imm, keep_own, keep_bor, keep_no, dSub_i, dAdd_i, dLt_i, dLe_i, dGt_i, dGe_i, dEq_int, dNe_int, ix_lst, ix_scr, ix_tup, atI_0, atI_1, atI_2, atI_3, List.getElem?_cons_zero, List.getElem?_cons_succ, List.set_cons_zero, List.set_cons_succ, List.length_cons, List.length_nil, List.cons_append, List.nil_append, List.replicate_succ, List.replicate_zero, Option.map_some, Option.bind_some, Nat.reduceAdd, Nat.reduceSub, Nat.reduceLT, Nat.reduceLeDiff, if_true, if_false, Bool.false_eq_true, decide_eq_true_eq, reduceIte, ne_eq, not_false_eq_true, Nat.lt_add_left_iff_pos, Nat.zero_lt_succ, x_call1, x_call2, x_call3, x_call4, dk1, dk2, dk3, dk4, ixV_V, Nat.reduceEqDiff, not_false_eq_true, x_isLst, x_isSet, List.map_cons, List.map_nil, Option.map_none, Option.bind_none, dIs_oI, Option.isNone_some]
          simp only [oI, x_bind, bk_ok, bk_ite, x_ret, x_lift, lk_some, lk_ite, app_ite, x_eC, x_eV, vk_imm, vk_own, vk_bor, x_give, gk_own, x_bin, x_un, x_ix, x_tru, x_eB, dBl_bl, dTru_bl, dTru_int, dTru_lst, x_and, x_or, x_not, x_eAnd, x_eOr, x_eNot, x_eIf, x_chain, x_aNil, x_aCons, x_aVr, rk_own, rk_io, x_aVb, tk_own, tk_io, tk_imm, tk_bor, x_eTup, x_eLst, imms_nil, imms_im, x_eF, x_call, ixV_C, jk_imm, jk_own, jk_io, jk_bor, flk_int, x_lenV, nk_imm, nk_own, nk_io, nk_bor, x_inV, hk_imm, hk_own, hk_io, hk_bor, x_sNx, x_pass, x_cont, x_brk, x_seq, sk_nx, sk_rt, sk_rtO, sk_ct, sk_bk, sk_ite, x_drop, x_sRet, x_sRetO, x_sIf, x_asg, x_asgO, x_gN, x_gO, x_gNil, x_gCons, x_gTt, x_gTl, x_sApp, x_sSet, x_chM, ck_own, ck_io, x_iOf, x_iRg, x_fn, fk_rt, fk_nx, fk_ite, ios_z, ios_s, keep_io, keep_imm, keep_own, keep_bor, keep_no, dSub_i, dAdd_i, dLt_i, dLe_i, dGt_i, dGe_i, dEq_int, dNe_int, ix_lst, ix_scr, ix_tup, atI_0, atI_1, atI_2, atI_3, List.getElem?_cons_zero, List.getElem?_cons_succ, List.set_cons_zero, List.set_cons_succ, List.length_cons, List.length_nil, List.cons_append, List.nil_append, List.replicate_succ, List.replicate_zero, Option.map_some, Option.bind_some, Nat.reduceAdd, Nat.reduceSub, Nat.reduceLT, Nat.reduceLeDiff, if_true, if_false, Bool.false_eq_true, decide_eq_true_eq, reduceIte, ne_eq, not_false_eq_true, Nat.lt_add_left_iff_pos, Nat.zero_lt_succ, x_call1, x_call2, x_call3, x_call4, dk1, dk2, dk3, dk4, ixV_V, Nat.reduceEqDiff, not_false_eq_true, x_isLst, x_isSet, List.map_cons, List.map_nil, Option.map_none, Option.bind_none, ev_cost o h, lt, decide_true]
      · rw [sIf_f (δ1 := [.imm (grD cs), .imm (kT c.1), .imm (oI (some u)), .imm (.int v)])]
        · simp only [x_bind, bk_ok, bk_ite, x_ret, x_lift, lk_some, lk_ite, app_ite, x_eC, x_eV, vk_imm, vk_own, vk_bor, x_give, gk_own, x_bin, x_un, x_ix, x_tru, x_eB, dBl_bl, dTru_bl, dTru_int, dTru_lst, x_and, x_or, x_not, x_eAnd, x_eOr, x_eNot, x_eIf, x_chain, x_aNil, x_aCons, x_aVr, rk_own, rk_io, x_aVb, tk_own, tk_io, tk_imm, tk_bor, x_eTup, x_eLst, imms_nil, imms_im, x_eF, x_call, ixV_C, jk_imm, jk_own, jk_io, jk_bor, flk_int, x_lenV, nk_imm, nk_own, nk_io, nk_bor, x_inV, hk_imm, hk_own, hk_io, hk_bor, x_sNx, x_pass, x_cont, x_brk, x_seq, sk_nx, sk_rt, sk_rtO, sk_ct, sk_bk, sk_ite, x_drop, x_sRet, x_sRetO, x_sIf, x_asg, x_asgO, x_gN, x_gO, x_gNil, x_gCons, x_gTt, x_gTl, x_sApp, x_sSet, x_chM, ck_own, ck_io, x_iOf, x_iRg, x_fn, fk_rt, fk_nx, fk_ite, ios_z, ios_s, keep_io, keep_imm, keep_own, keep_bor, keep_no, dSub_i, dAdd_i, dLt_i, dLe_i, dGt_i, dGe_i, dEq_int, dNe_int, ix_lst, ix_scr, ix_tup, atI_0, atI_1, atI_2, atI_3, List.getElem?_cons_zero, List.getElem?_cons_succ, List.set_cons_zero, List.set_cons_succ, List.length_cons, List.length_nil, List.cons_append, List.nil_append, List.replicate_succ, List.replicate_zero, Option.map_some, Option.bind_some, Nat.reduceAdd, Nat.reduceSub, Nat.reduceLT, Nat.reduceLeDiff, if_true, if_false, Bool.false_eq_true, decide_eq_true_eq, reduceIte, ne_eq, not_false_eq_true, Nat.lt_add_left_iff_pos, Nat.zero_lt_succ, x_call1, x_call2, x_call3, x_call4, dk1, dk2, dk3, dk4, ixV_V, Nat.reduceEqDiff, not_false_eq_true, x_isLst, x_isSet, List.map_cons, List.map_nil, Option.map_none, Option.bind_none, bestF, oI, lt]
        · simp only [x_bind, bk_ok, bk_ite, x_ret, x_lift, lk_some, lk_ite, app_ite, x_eC, x_eV, vk_imm, vk_own, vk_bor, x_give, gk_own, x_bin, x_un, x_ix, x_tru, x_eB, dBl_bl, dTru_bl, dTru_int, dTru_lst, x_and, x_or, x_not, x_eAnd, x_eOr, x_eNot, x_eIf, x_chain, x_aNil, x_aCons, x_aVr, rk_own, rk_io, x_aVb, tk_own, tk_io, tk_imm, tk_bor, x_eTup, x_eLst, imms_nil, imms_im, x_eF, x_call, ixV_C, jk_imm, jk_own, jk_io, jk_bor, flk_int, x_lenV, nk_imm, nk_own, nk_io, nk_bor, x_inV, hk_imm, hk_own, hk_io, hk_bor, x_sNx, x_pass, x_cont, x_brk, x_seq, sk_nx, sk_rt, sk_rtO, sk_ct, sk_bk, sk_ite, x_drop, x_sRet, x_sRetO, x_sIf, x_asg, x_asgO, x_gN, x_gO, x_gNil, x_gCons, x_gTt, x_gTl, x_sApp, x_sSet, x_chM, ck_own, ck_io, x_iOf, x_iRg, x_fn, fk_rt, fk_nx, fk_ite, ios_z, ios_s, keep_io, keep_imm, keep_own, keep_bor, keep_no, dSub_i, dAdd_i, dLt_i, dLe_i, dGt_i, dGe_i, dEq_int, dNe_int, ix_lst, ix_scr, ix_tup, atI_0, atI_1, atI_2, atI_3, List.getElem?_cons_zero, List.getElem?_cons_succ, List.set_cons_zero, List.set_cons_succ, List.length_cons, List.length_nil, List.cons_append, List.nil_append, List.replicate_succ, List.replicate_zero, Option.map_some, Option.bind_some, Nat.reduceAdd, Nat.reduceSub, Nat.reduceLT, Nat.reduceLeDiff, if_true, if_false, Bool.false_eq_true, decide_eq_true_eq, reduceIte, ne_eq, not_false_eq_true, Nat.lt_add_left_iff_pos, Nat.zero_lt_succ, x_call1, x_call2, x_call3, x_call4, dk1, dk2, dk3, dk4, ixV_V, Nat.reduceEqDiff, not_false_eq_true, x_isLst, x_isSet, List.map_cons, List.map_nil, Option.map_none, Option.bind_none, dIs_oI, Option.isNone_some]
          simp only [oI, x_bind, bk_ok, bk_ite, x_ret, x_lift, lk_some, lk_ite, app_ite, x_eC, x_eV, vk_imm, vk_own, vk_bor, x_give, gk_own, x_bin, x_un, x_ix, x_tru, x_eB, dBl_bl, dTru_bl, dTru_int, dTru_lst, x_and, x_or, x_not, x_eAnd, x_eOr, x_eNot, x_eIf, x_chain, x_aNil, x_aCons, x_aVr, rk_own, rk_io, x_aVb, tk_own, tk_io, tk_imm, tk_bor, x_eTup, x_eLst, imms_nil, imms_im, x_eF, x_call, ixV_C, jk_imm, jk_own, jk_io, jk_bor, flk_int, x_lenV, nk_imm, nk_own, nk_io, nk_bor, x_inV, hk_imm, hk_own, hk_io, hk_bor, x_sNx, x_pass, x_cont, x_brk, x_seq, sk_nx, sk_rt, sk_rtO, sk_ct, sk_bk, sk_ite, x_drop, x_sRet, x_sRetO, x_sIf, x_asg, x_asgO, x_gN, x_gO, x_gNil, x_gCons, x_gTt, x_gTl, x_sApp, x_sSet, x_chM, ck_own, ck_io, x_iOf, x_iRg, x_fn, fk_rt, fk_nx, fk_ite, ios_z, ios_s, keep_io, keep_imm, keep_own, keep_bor, keep_no, dSub_i, dAdd_i, dLt_i, dLe_i, dGt_i, dGe_i, dEq_int, dNe_int, ix_lst, ix_scr, ix_tup, atI_0, atI_1, atI_2, atI_3, List.getElem?_cons_zero, List.getElem?_cons_succ, List.set_cons_zero, List.set_cons_succ, List.length_cons, List.length_nil, List.cons_append, List.nil_append, List.replicate_succ, List.replicate_zero, Option.map_some, Option.bind_some, Nat.reduceAdd, Nat.reduceSub, Nat.reduceLT, Nat.reduceLeDiff, if_true, if_false, Bool.false_eq_true, decide_eq_true_eq, reduceIte, ne_eq, not_false_eq_true, Nat.lt_add_left_iff_pos, Nat.zero_lt_succ, x_call1, x_call2, x_call3, x_call4, dk1, dk2, dk3, dk4, ixV_V, Nat.reduceEqDiff, not_false_eq_true, x_isLst, x_isSet, List.map_cons, List.map_nil, Option.map_none, Option.bind_none, ev_cost o h, lt, decide_false]
end M

set_option Elab.async false
set_option linter.all false
set_option maxRecDepth 100000
set_option maxHeartbeats 1000000
namespace M
open PySem L2
theorem ev_untold {l : List Int} (h3 : (3 : Int) ∉ l) : m_least_untold [.imm (iD l)] = some (.ok (.int (mex l)), [.no]) := by
  have hm := mex_un h3
  have hr := mex_rg (t := l)
  obtain ⟨δ', h1, rfl⟩ := sWhile_inv (c := (eB (eBin (dIn false) (eV 1) (eV 0)))) (S := (sAsg (gN 1) (eBin dAdd (eV 1) (eC (.int 1))))) (δ := [.imm (iD l), .imm (.int 0)])
    (fun δ => ∃ v : Int, 0 ≤ v ∧ v ≤ mex l ∧ δ = [.imm (iD l), .imm (.int v)]) (fun δ => δ = [.imm (iD l), .imm (.int (mex l))]) (fun δ => match δ with | [_, .imm (.int v)] => (10 - v).toNat | _ => 0)
    (fun δ ⟨v, h0, hv, e⟩ => by
      subst e
      refine ⟨decide (v ∈ l), [.imm (iD l), .imm (.int v)], by simp only [x_bind, bk_ok, bk_ite, x_ret, x_lift, lk_some, lk_ite, app_ite, x_eC, x_eV, vk_imm, vk_own, vk_bor, x_give, gk_own, x_bin, x_un, x_ix, x_tru, x_eB, dBl_bl, dTru_bl, dTru_int, dTru_lst, x_and, x_or, x_not, x_eAnd, x_eOr, x_eNot, x_eIf, x_chain, x_aNil, x_aCons, x_aVr, rk_own, rk_io, x_aVb, tk_own, tk_io, tk_imm, tk_bor, x_eTup, x_eLst, imms_nil, imms_im, x_eF, x_call, ixV_C, jk_imm, jk_own, jk_io, jk_bor, flk_int, x_lenV, nk_imm, nk_own, nk_io, nk_bor, x_inV, hk_imm, hk_own, hk_io, hk_bor, x_sNx, x_pass, x_cont, x_brk, x_seq, sk_nx, sk_rt, sk_rtO, sk_ct, sk_bk, sk_ite, x_drop, x_sRet, x_sRetO, x_sIf, x_asg, x_asgO, x_gN, x_gO, x_gNil, x_gCons, x_gTt, x_gTl, x_sApp, x_sSet, x_chM, ck_own, ck_io, x_iOf, x_iRg, x_fn, fk_rt, fk_nx, fk_ite, ios_z, ios_s, keep_io, keep_imm, keep_own, keep_bor, keep_no, dSub_i, dAdd_i, dLt_i, dLe_i, dGt_i, dGe_i, dEq_int, dNe_int, ix_lst, ix_scr, ix_tup, atI_0, atI_1, atI_2, atI_3, List.getElem?_cons_zero, List.getElem?_cons_succ, List.set_cons_zero, List.set_cons_succ, List.length_cons, List.length_nil, List.cons_append, List.nil_append, List.replicate_succ, List.replicate_zero, Option.map_some, Option.bind_some, Nat.reduceAdd, Nat.reduceSub, Nat.reduceLT, Nat.reduceLeDiff, if_true, if_false, Bool.false_eq_true, decide_eq_true_eq, reduceIte, ne_eq, not_false_eq_true, Nat.lt_add_left_iff_pos, Nat.zero_lt_succ, x_call1, x_call2, x_call3, x_call4, dk1, dk2, dk3, dk4, ixV_V, Nat.reduceEqDiff, not_false_eq_true, x_isLst, x_isSet, List.map_cons, List.map_nil, Option.map_none, Option.bind_none, dIn_iD], fun c => ?_, fun c => ?_⟩
      · have c := of_decide_eq_false c
        have : v = mex l := by
          refine Classical.byContradiction fun z => c (mex_below h0 (by omega))
        rw [this]
      · have c := of_decide_eq_true c
        have : v ≠ mex l := fun z => hm (z ▸ c)
        refine ⟨[.imm (iD l), .imm (.int (v + 1))], by simp only [x_bind, bk_ok, bk_ite, x_ret, x_lift, lk_some, lk_ite, app_ite, x_eC, x_eV, vk_imm, vk_own, vk_bor, x_give, gk_own, x_bin, x_un, x_ix, x_tru, x_eB, dBl_bl, dTru_bl, dTru_int, dTru_lst, x_and, x_or, x_not, x_eAnd, x_eOr, x_eNot, x_eIf, x_chain, x_aNil, x_aCons, x_aVr, rk_own, rk_io, x_aVb, tk_own, tk_io, tk_imm, tk_bor, x_eTup, x_eLst, imms_nil, imms_im, x_eF, x_call, ixV_C, jk_imm, jk_own, jk_io, jk_bor, flk_int, x_lenV, nk_imm, nk_own, nk_io, nk_bor, x_inV, hk_imm, hk_own, hk_io, hk_bor, x_sNx, x_pass, x_cont, x_brk, x_seq, sk_nx, sk_rt, sk_rtO, sk_ct, sk_bk, sk_ite, x_drop, x_sRet, x_sRetO, x_sIf, x_asg, x_asgO, x_gN, x_gO, x_gNil, x_gCons, x_gTt, x_gTl, x_sApp, x_sSet, x_chM, ck_own, ck_io, x_iOf, x_iRg, x_fn, fk_rt, fk_nx, fk_ite, ios_z, ios_s, keep_io, keep_imm, keep_own, keep_bor, keep_no, dSub_i, dAdd_i, dLt_i, dLe_i, dGt_i, dGe_i, dEq_int, dNe_int, ix_lst, ix_scr, ix_tup, atI_0, atI_1, atI_2, atI_3, List.getElem?_cons_zero, List.getElem?_cons_succ, List.set_cons_zero, List.set_cons_succ, List.length_cons, List.length_nil, List.cons_append, List.nil_append, List.replicate_succ, List.replicate_zero, Option.map_some, Option.bind_some, Nat.reduceAdd, Nat.reduceSub, Nat.reduceLT, Nat.reduceLeDiff, if_true, if_false, Bool.false_eq_true, decide_eq_true_eq, reduceIte, ne_eq, not_false_eq_true, Nat.lt_add_left_iff_pos, Nat.zero_lt_succ, x_call1, x_call2, x_call3, x_call4, dk1, dk2, dk3, dk4, ixV_V, Nat.reduceEqDiff, not_false_eq_true, x_isLst, x_isSet, List.map_cons, List.map_nil, Option.map_none, Option.bind_none], ⟨v + 1, by omega, by omega, rfl⟩, ?_⟩
        show (10 - (v + 1)).toNat < (10 - v).toNat
        omega) ⟨0, Int.le_refl _, hr.1, rfl⟩
  unfold m_least_untold b_least_untold
  rw [x_fn]
  have e0 : ([.imm (iD l)] ++ List.replicate (2 - 1) Sl.no : Env) = [.imm (iD l), .no] := rfl
  rw [e0, ssq (δ1 := [.imm (iD l), .imm (.int 0)]) (by simp only [x_bind, bk_ok, bk_ite, x_ret, x_lift, lk_some, lk_ite, app_ite, x_eC, x_eV, vk_imm, vk_own, vk_bor, x_give, gk_own, x_bin, x_un, x_ix, x_tru, x_eB, dBl_bl, dTru_bl, dTru_int, dTru_lst, x_and, x_or, x_not, x_eAnd, x_eOr, x_eNot, x_eIf, x_chain, x_aNil, x_aCons, x_aVr, rk_own, rk_io, x_aVb, tk_own, tk_io, tk_imm, tk_bor, x_eTup, x_eLst, imms_nil, imms_im, x_eF, x_call, ixV_C, jk_imm, jk_own, jk_io, jk_bor, flk_int, x_lenV, nk_imm, nk_own, nk_io, nk_bor, x_inV, hk_imm, hk_own, hk_io, hk_bor, x_sNx, x_pass, x_cont, x_brk, x_seq, sk_nx, sk_rt, sk_rtO, sk_ct, sk_bk, sk_ite, x_drop, x_sRet, x_sRetO, x_sIf, x_asg, x_asgO, x_gN, x_gO, x_gNil, x_gCons, x_gTt, x_gTl, x_sApp, x_sSet, x_chM, ck_own, ck_io, x_iOf, x_iRg, x_fn, fk_rt, fk_nx, fk_ite, ios_z, ios_s, keep_io, keep_imm, keep_own, keep_bor, keep_no, dSub_i, dAdd_i, dLt_i, dLe_i, dGt_i, dGe_i, dEq_int, dNe_int, ix_lst, ix_scr, ix_tup, atI_0, atI_1, atI_2, atI_3, List.getElem?_cons_zero, List.getElem?_cons_succ, List.set_cons_zero, List.set_cons_succ, List.length_cons, List.length_nil, List.cons_append, List.nil_append, List.replicate_succ, List.replicate_zero, Option.map_some, Option.bind_some, Nat.reduceAdd, Nat.reduceSub, Nat.reduceLT, Nat.reduceLeDiff, if_true, if_false, Bool.false_eq_true, decide_eq_true_eq, reduceIte, ne_eq, not_false_eq_true, Nat.lt_add_left_iff_pos, Nat.zero_lt_succ, x_call1, x_call2, x_call3, x_call4, dk1, dk2, dk3, dk4, ixV_V, Nat.reduceEqDiff, not_false_eq_true, x_isLst, x_isSet, List.map_cons, List.map_nil, Option.map_none, Option.bind_none]) (ssq h1 rfl)]
  simp only [x_bind, bk_ok, bk_ite, x_ret, x_lift, lk_some, lk_ite, app_ite, x_eC, x_eV, vk_imm, vk_own, vk_bor, x_give, gk_own, x_bin, x_un, x_ix, x_tru, x_eB, dBl_bl, dTru_bl, dTru_int, dTru_lst, x_and, x_or, x_not, x_eAnd, x_eOr, x_eNot, x_eIf, x_chain, x_aNil, x_aCons, x_aVr, rk_own, rk_io, x_aVb, tk_own, tk_io, tk_imm, tk_bor, x_eTup, x_eLst, imms_nil, imms_im, x_eF, x_call, ixV_C, jk_imm, jk_own, jk_io, jk_bor, flk_int, x_lenV, nk_imm, nk_own, nk_io, nk_bor, x_inV, hk_imm, hk_own, hk_io, hk_bor, x_sNx, x_pass, x_cont, x_brk, x_seq, sk_nx, sk_rt, sk_rtO, sk_ct, sk_bk, sk_ite, x_drop, x_sRet, x_sRetO, x_sIf, x_asg, x_asgO, x_gN, x_gO, x_gNil, x_gCons, x_gTt, x_gTl, x_sApp, x_sSet, x_chM, ck_own, ck_io, x_iOf, x_iRg, x_fn, fk_rt, fk_nx, fk_ite, ios_z, ios_s, keep_io, keep_imm, keep_own, keep_bor, keep_no, dSub_i, dAdd_i, dLt_i, dLe_i, dGt_i, dGe_i, dEq_int, dNe_int, ix_lst, ix_scr, ix_tup, atI_0, atI_1, atI_2, atI_3, List.getElem?_cons_zero, List.getElem?_cons_succ, List.set_cons_zero, List.set_cons_succ, List.length_cons, List.length_nil, List.cons_append, List.nil_append, List.replicate_succ, List.replicate_zero, Option.map_some, Option.bind_some, Nat.reduceAdd, Nat.reduceSub, Nat.reduceLT, Nat.reduceLeDiff, if_true, if_false, Bool.false_eq_true, decide_eq_true_eq, reduceIte, ne_eq, not_false_eq_true, Nat.lt_add_left_iff_pos, Nat.zero_lt_succ, x_call1, x_call2, x_call3, x_call4, dk1, dk2, dk3, dk4, ixV_V, Nat.reduceEqDiff, not_false_eq_true, x_isLst, x_isSet, List.map_cons, List.map_nil, Option.map_none, Option.bind_none]
theorem fSortI_i {l : List Int} : fSortI [iD l] = some (iD (sortI l)) := by
  show (intsD (l.map D.int)).map _ = _
  rw [intsD_map]; rfl
theorem rst_len {cs : List Cell} (o : GOk cs) {c : Cell} (h : c ∈ cs) : (sortSet (tl c)).length ≤ 20 := by
  have h1 : (onceI (tl c)).length ≤ (tl c).length := by
    generalize tl c = t
    induction t with
    | nil => exact Nat.le_refl _
    | cons x t ih =>
      unfold onceI
      split
      · rw [List.length_cons]; omega
      · rw [List.length_cons, List.length_cons]; omega
  have h2 : (sortSet (tl c)).length = (onceI (tl c)).length := (sortI_perm _).length_eq
  have h3 := o.rows c h
  have h4 : (tl c).length = c.2.length := by unfold tl; rw [List.length_map]
  omega
theorem ev_other {cs : List Cell} (o : GOk cs) {c : Cell} (h : c ∈ cs) : m_other [.imm (grD cs), .imm (kT c.1)] = some (.ok (.int (oth (tl c))), [.no, .no]) := by
  have n3 : (3 : Int) ∉ sortSet (tl c) := fun z => (o.tok c h).no3 (sortSet_mem.mp z)
  have hl := rst_len o h
  unfold m_other b_other
  rw [x_fn]
  have e0 : ([.imm (grD cs), .imm (kT c.1)] ++ List.replicate (7 - 2) Sl.no : Env) = [.imm (grD cs), .imm (kT c.1), .no, .no, .no, .no, .no] := rfl
  have e1 : (eLc (iOf (eV 2)) (gN 6) (eB (eBin dNe (eV 6) (eV 3))) (eV 6) [6]) [.imm (grD cs), .imm (kT c.1), .imm (iD (sortSet (tl c))), .imm (.int (bst (tl c))), .no, .no, .no] = some (.ok (iD ((sortSet (tl c)).filter fun v => !decide (v = bst (tl c)))), [.imm (grD cs), .imm (kT c.1), .imm (iD (sortSet (tl c))), .imm (.int (bst (tl c))), .no, .no, .no]) := by
    rw [eLc_map (l := sortSet (tl c)) (g := D.int) (p := fun v => !decide (v = bst (tl c))) (f := D.int) (δ0 := [.imm (grD cs), .imm (kT c.1), .imm (iD (sortSet (tl c))), .imm (.int (bst (tl c))), .no, .no, .no])]
    · rfl
    · simp only [x_bind, bk_ok, bk_ite, x_ret, x_lift, lk_some, lk_ite, app_ite, x_eC, x_eV, vk_imm, vk_own, vk_bor, x_give, gk_own, x_bin, x_un, x_ix, x_tru, x_eB, dBl_bl, dTru_bl, dTru_int, dTru_lst, x_and, x_or, x_not, x_eAnd, x_eOr, x_eNot, x_eIf, x_chain, x_aNil, x_aCons, x_aVr, rk_own, rk_io, x_aVb, tk_own, tk_io, tk_imm, tk_bor, x_eTup, x_eLst, imms_nil, imms_im, x_eF, x_call, ixV_C, jk_imm, jk_own, jk_io, jk_bor, flk_int, x_lenV, nk_imm, nk_own, nk_io, nk_bor, x_inV, hk_imm, hk_own, hk_io, hk_bor, x_sNx, x_pass, x_cont, x_brk, x_seq, sk_nx, sk_rt, sk_rtO, sk_ct, sk_bk, sk_ite, x_drop, x_sRet, x_sRetO, x_sIf, x_asg, x_asgO, x_gN, x_gO, x_gNil, x_gCons, x_gTt, x_gTl, x_sApp, x_sSet, x_chM, ck_own, ck_io, x_iOf, x_iRg, x_fn, fk_rt, fk_nx, fk_ite, ios_z, ios_s, keep_io, keep_imm, keep_own, keep_bor, keep_no, dSub_i, dAdd_i, dLt_i, dLe_i, dGt_i, dGe_i, dEq_int, dNe_int, ix_lst, ix_scr, ix_tup, atI_0, atI_1, atI_2, atI_3, List.getElem?_cons_zero, List.getElem?_cons_succ, List.set_cons_zero, List.set_cons_succ, List.length_cons, List.length_nil, List.cons_append, List.nil_append, List.replicate_succ, List.replicate_zero, Option.map_some, Option.bind_some, Nat.reduceAdd, Nat.reduceSub, Nat.reduceLT, Nat.reduceLeDiff, if_true, if_false, Bool.false_eq_true, decide_eq_true_eq, reduceIte, ne_eq, not_false_eq_true, Nat.lt_add_left_iff_pos, Nat.zero_lt_succ, x_call1, x_call2, x_call3, x_call4, dk1, dk2, dk3, dk4, ixV_V, Nat.reduceEqDiff, not_false_eq_true, x_isLst, x_isSet, List.map_cons, List.map_nil, Option.map_none, Option.bind_none]
      rfl
    · omega
    · intro v hv
      refine ⟨[.imm (grD cs), .imm (kT c.1), .imm (iD (sortSet (tl c))), .imm (.int (bst (tl c))), .no, .no, .imm (.int v)], [.imm (grD cs), .imm (kT c.1), .imm (iD (sortSet (tl c))), .imm (.int (bst (tl c))), .no, .no, .imm (.int v)], ?_, ?_, fun _ => rfl, fun _ => ⟨_, rfl, rfl⟩⟩
      · simp only [x_bind, bk_ok, bk_ite, x_ret, x_lift, lk_some, lk_ite, app_ite, x_eC, x_eV, vk_imm, vk_own, vk_bor, x_give, gk_own, x_bin, x_un, x_ix, x_tru, x_eB, dBl_bl, dTru_bl, dTru_int, dTru_lst, x_and, x_or, x_not, x_eAnd, x_eOr, x_eNot, x_eIf, x_chain, x_aNil, x_aCons, x_aVr, rk_own, rk_io, x_aVb, tk_own, tk_io, tk_imm, tk_bor, x_eTup, x_eLst, imms_nil, imms_im, x_eF, x_call, ixV_C, jk_imm, jk_own, jk_io, jk_bor, flk_int, x_lenV, nk_imm, nk_own, nk_io, nk_bor, x_inV, hk_imm, hk_own, hk_io, hk_bor, x_sNx, x_pass, x_cont, x_brk, x_seq, sk_nx, sk_rt, sk_rtO, sk_ct, sk_bk, sk_ite, x_drop, x_sRet, x_sRetO, x_sIf, x_asg, x_asgO, x_gN, x_gO, x_gNil, x_gCons, x_gTt, x_gTl, x_sApp, x_sSet, x_chM, ck_own, ck_io, x_iOf, x_iRg, x_fn, fk_rt, fk_nx, fk_ite, ios_z, ios_s, keep_io, keep_imm, keep_own, keep_bor, keep_no, dSub_i, dAdd_i, dLt_i, dLe_i, dGt_i, dGe_i, dEq_int, dNe_int, ix_lst, ix_scr, ix_tup, atI_0, atI_1, atI_2, atI_3, List.getElem?_cons_zero, List.getElem?_cons_succ, List.set_cons_zero, List.set_cons_succ, List.length_cons, List.length_nil, List.cons_append, List.nil_append, List.replicate_succ, List.replicate_zero, Option.map_some, Option.bind_some, Nat.reduceAdd, Nat.reduceSub, Nat.reduceLT, Nat.reduceLeDiff, if_true, if_false, Bool.false_eq_true, decide_eq_true_eq, reduceIte, ne_eq, not_false_eq_true, Nat.lt_add_left_iff_pos, Nat.zero_lt_succ, x_call1, x_call2, x_call3, x_call4, dk1, dk2, dk3, dk4, ixV_V, Nat.reduceEqDiff, not_false_eq_true, x_isLst, x_isSet, List.map_cons, List.map_nil, Option.map_none, Option.bind_none, wipeE]
      · simp only [x_bind, bk_ok, bk_ite, x_ret, x_lift, lk_some, lk_ite, app_ite, x_eC, x_eV, vk_imm, vk_own, vk_bor, x_give, gk_own, x_bin, x_un, x_ix, x_tru, x_eB, dBl_bl, dTru_bl, dTru_int, dTru_lst, x_and, x_or, x_not, x_eAnd, x_eOr, x_eNot, x_eIf, x_chain, x_aNil, x_aCons, x_aVr, rk_own, rk_io, x_aVb, tk_own, tk_io, tk_imm, tk_bor, x_eTup, x_eLst, imms_nil, imms_im, x_eF, x_call, ixV_C, jk_imm, jk_own, jk_io, jk_bor, flk_int, x_lenV, nk_imm, nk_own, nk_io, nk_bor, x_inV, hk_imm, hk_own, hk_io, hk_bor, x_sNx, x_pass, x_cont, x_brk, x_seq, sk_nx, sk_rt, sk_rtO, sk_ct, sk_bk, sk_ite, x_drop, x_sRet, x_sRetO, x_sIf, x_asg, x_asgO, x_gN, x_gO, x_gNil, x_gCons, x_gTt, x_gTl, x_sApp, x_sSet, x_chM, ck_own, ck_io, x_iOf, x_iRg, x_fn, fk_rt, fk_nx, fk_ite, ios_z, ios_s, keep_io, keep_imm, keep_own, keep_bor, keep_no, dSub_i, dAdd_i, dLt_i, dLe_i, dGt_i, dGe_i, dEq_int, dNe_int, ix_lst, ix_scr, ix_tup, atI_0, atI_1, atI_2, atI_3, List.getElem?_cons_zero, List.getElem?_cons_succ, List.set_cons_zero, List.set_cons_succ, List.length_cons, List.length_nil, List.cons_append, List.nil_append, List.replicate_succ, List.replicate_zero, Option.map_some, Option.bind_some, Nat.reduceAdd, Nat.reduceSub, Nat.reduceLT, Nat.reduceLeDiff, if_true, if_false, Bool.false_eq_true, decide_eq_true_eq, reduceIte, ne_eq, not_false_eq_true, Nat.lt_add_left_iff_pos, Nat.zero_lt_succ, x_call1, x_call2, x_call3, x_call4, dk1, dk2, dk3, dk4, ixV_V, Nat.reduceEqDiff, not_false_eq_true, x_isLst, x_isSet, List.map_cons, List.map_nil, Option.map_none, Option.bind_none]
  rw [e0, ssq (δ1 := [.imm (grD cs), .imm (kT c.1), .imm (iD (sortSet (tl c))), .no, .no, .no, .no]) (by simp only [x_bind, bk_ok, bk_ite, x_ret, x_lift, lk_some, lk_ite, app_ite, x_eC, x_eV, vk_imm, vk_own, vk_bor, x_give, gk_own, x_bin, x_un, x_ix, x_tru, x_eB, dBl_bl, dTru_bl, dTru_int, dTru_lst, x_and, x_or, x_not, x_eAnd, x_eOr, x_eNot, x_eIf, x_chain, x_aNil, x_aCons, x_aVr, rk_own, rk_io, x_aVb, tk_own, tk_io, tk_imm, tk_bor, x_eTup, x_eLst, imms_nil, imms_im, x_eF, x_call, ixV_C, jk_imm, jk_own, jk_io, jk_bor, flk_int, x_lenV, nk_imm, nk_own, nk_io, nk_bor, x_inV, hk_imm, hk_own, hk_io, hk_bor, x_sNx, x_pass, x_cont, x_brk, x_seq, sk_nx, sk_rt, sk_rtO, sk_ct, sk_bk, sk_ite, x_drop, x_sRet, x_sRetO, x_sIf, x_asg, x_asgO, x_gN, x_gO, x_gNil, x_gCons, x_gTt, x_gTl, x_sApp, x_sSet, x_chM, ck_own, ck_io, x_iOf, x_iRg, x_fn, fk_rt, fk_nx, fk_ite, ios_z, ios_s, keep_io, keep_imm, keep_own, keep_bor, keep_no, dSub_i, dAdd_i, dLt_i, dLe_i, dGt_i, dGe_i, dEq_int, dNe_int, ix_lst, ix_scr, ix_tup, atI_0, atI_1, atI_2, atI_3, List.getElem?_cons_zero, List.getElem?_cons_succ, List.set_cons_zero, List.set_cons_succ, List.length_cons, List.length_nil, List.cons_append, List.nil_append, List.replicate_succ, List.replicate_zero, Option.map_some, Option.bind_some, Nat.reduceAdd, Nat.reduceSub, Nat.reduceLT, Nat.reduceLeDiff, if_true, if_false, Bool.false_eq_true, decide_eq_true_eq, reduceIte, ne_eq, not_false_eq_true, Nat.lt_add_left_iff_pos, Nat.zero_lt_succ, x_call1, x_call2, x_call3, x_call4, dk1, dk2, dk3, dk4, ixV_V, Nat.reduceEqDiff, not_false_eq_true, x_isLst, x_isSet, List.map_cons, List.map_nil, Option.map_none, Option.bind_none, ev_values o h]) rfl]
  rw [ssq (δ1 := [.imm (grD cs), .imm (kT c.1), .imm (iD (sortSet (tl c))), .imm (.int (bst (tl c))), .no, .no, .no]) (by simp only [x_bind, bk_ok, bk_ite, x_ret, x_lift, lk_some, lk_ite, app_ite, x_eC, x_eV, vk_imm, vk_own, vk_bor, x_give, gk_own, x_bin, x_un, x_ix, x_tru, x_eB, dBl_bl, dTru_bl, dTru_int, dTru_lst, x_and, x_or, x_not, x_eAnd, x_eOr, x_eNot, x_eIf, x_chain, x_aNil, x_aCons, x_aVr, rk_own, rk_io, x_aVb, tk_own, tk_io, tk_imm, tk_bor, x_eTup, x_eLst, imms_nil, imms_im, x_eF, x_call, ixV_C, jk_imm, jk_own, jk_io, jk_bor, flk_int, x_lenV, nk_imm, nk_own, nk_io, nk_bor, x_inV, hk_imm, hk_own, hk_io, hk_bor, x_sNx, x_pass, x_cont, x_brk, x_seq, sk_nx, sk_rt, sk_rtO, sk_ct, sk_bk, sk_ite, x_drop, x_sRet, x_sRetO, x_sIf, x_asg, x_asgO, x_gN, x_gO, x_gNil, x_gCons, x_gTt, x_gTl, x_sApp, x_sSet, x_chM, ck_own, ck_io, x_iOf, x_iRg, x_fn, fk_rt, fk_nx, fk_ite, ios_z, ios_s, keep_io, keep_imm, keep_own, keep_bor, keep_no, dSub_i, dAdd_i, dLt_i, dLe_i, dGt_i, dGe_i, dEq_int, dNe_int, ix_lst, ix_scr, ix_tup, atI_0, atI_1, atI_2, atI_3, List.getElem?_cons_zero, List.getElem?_cons_succ, List.set_cons_zero, List.set_cons_succ, List.length_cons, List.length_nil, List.cons_append, List.nil_append, List.replicate_succ, List.replicate_zero, Option.map_some, Option.bind_some, Nat.reduceAdd, Nat.reduceSub, Nat.reduceLT, Nat.reduceLeDiff, if_true, if_false, Bool.false_eq_true, decide_eq_true_eq, reduceIte, ne_eq, not_false_eq_true, Nat.lt_add_left_iff_pos, Nat.zero_lt_succ, x_call1, x_call2, x_call3, x_call4, dk1, dk2, dk3, dk4, ixV_V, Nat.reduceEqDiff, not_false_eq_true, x_isLst, x_isSet, List.map_cons, List.map_nil, Option.map_none, Option.bind_none, ev_best o h]) rfl]
  rw [ssq (δ1 := [.imm (grD cs), .imm (kT c.1), .imm (iD (sortSet (tl c))), .imm (.int (bst (tl c))), .imm (iD (rst (tl c))), .no, .no]) (by
    have e2 : dAdd (iD ((sortSet (tl c)).filter fun v => !decide (v = bst (tl c)))) (.lst [.int (mex (sortSet (tl c)))]) = some (iD (rst (tl c))) := by
      unfold iD rst
      rw [lst_app (by rw [List.length_map]; have := List.length_filter_le (fun v => !decide (v = bst (tl c))) (sortSet (tl c)); omega) (by simp), List.map_append]; rfl
    simp only [x_bind, bk_ok, bk_ite, x_ret, x_lift, lk_some, lk_ite, app_ite, x_eC, x_eV, vk_imm, vk_own, vk_bor, x_give, gk_own, x_bin, x_un, x_ix, x_tru, x_eB, dBl_bl, dTru_bl, dTru_int, dTru_lst, x_and, x_or, x_not, x_eAnd, x_eOr, x_eNot, x_eIf, x_chain, x_aNil, x_aCons, x_aVr, rk_own, rk_io, x_aVb, tk_own, tk_io, tk_imm, tk_bor, x_eTup, x_eLst, imms_nil, imms_im, x_eF, x_call, ixV_C, jk_imm, jk_own, jk_io, jk_bor, flk_int, x_lenV, nk_imm, nk_own, nk_io, nk_bor, x_inV, hk_imm, hk_own, hk_io, hk_bor, x_sNx, x_pass, x_cont, x_brk, x_seq, sk_nx, sk_rt, sk_rtO, sk_ct, sk_bk, sk_ite, x_drop, x_sRet, x_sRetO, x_sIf, x_asg, x_asgO, x_gN, x_gO, x_gNil, x_gCons, x_gTt, x_gTl, x_sApp, x_sSet, x_chM, ck_own, ck_io, x_iOf, x_iRg, x_fn, fk_rt, fk_nx, fk_ite, ios_z, ios_s, keep_io, keep_imm, keep_own, keep_bor, keep_no, dSub_i, dAdd_i, dLt_i, dLe_i, dGt_i, dGe_i, dEq_int, dNe_int, ix_lst, ix_scr, ix_tup, atI_0, atI_1, atI_2, atI_3, List.getElem?_cons_zero, List.getElem?_cons_succ, List.set_cons_zero, List.set_cons_succ, List.length_cons, List.length_nil, List.cons_append, List.nil_append, List.replicate_succ, List.replicate_zero, Option.map_some, Option.bind_some, Nat.reduceAdd, Nat.reduceSub, Nat.reduceLT, Nat.reduceLeDiff, if_true, if_false, Bool.false_eq_true, decide_eq_true_eq, reduceIte, ne_eq, not_false_eq_true, Nat.lt_add_left_iff_pos, Nat.zero_lt_succ, x_call1, x_call2, x_call3, x_call4, dk1, dk2, dk3, dk4, ixV_V, Nat.reduceEqDiff, not_false_eq_true, x_isLst, x_isSet, List.map_cons, List.map_nil, Option.map_none, Option.bind_none, e1, ev_untold n3, e2]) rfl]
  rw [ssq (δ1 := [.imm (grD cs), .imm (kT c.1), .imm (iD (sortSet (tl c))), .imm (.int (bst (tl c))), .imm (iD (rst (tl c))), .imm .non, .no]) (by simp only [x_bind, bk_ok, bk_ite, x_ret, x_lift, lk_some, lk_ite, app_ite, x_eC, x_eV, vk_imm, vk_own, vk_bor, x_give, gk_own, x_bin, x_un, x_ix, x_tru, x_eB, dBl_bl, dTru_bl, dTru_int, dTru_lst, x_and, x_or, x_not, x_eAnd, x_eOr, x_eNot, x_eIf, x_chain, x_aNil, x_aCons, x_aVr, rk_own, rk_io, x_aVb, tk_own, tk_io, tk_imm, tk_bor, x_eTup, x_eLst, imms_nil, imms_im, x_eF, x_call, ixV_C, jk_imm, jk_own, jk_io, jk_bor, flk_int, x_lenV, nk_imm, nk_own, nk_io, nk_bor, x_inV, hk_imm, hk_own, hk_io, hk_bor, x_sNx, x_pass, x_cont, x_brk, x_seq, sk_nx, sk_rt, sk_rtO, sk_ct, sk_bk, sk_ite, x_drop, x_sRet, x_sRetO, x_sIf, x_asg, x_asgO, x_gN, x_gO, x_gNil, x_gCons, x_gTt, x_gTl, x_sApp, x_sSet, x_chM, ck_own, ck_io, x_iOf, x_iRg, x_fn, fk_rt, fk_nx, fk_ite, ios_z, ios_s, keep_io, keep_imm, keep_own, keep_bor, keep_no, dSub_i, dAdd_i, dLt_i, dLe_i, dGt_i, dGe_i, dEq_int, dNe_int, ix_lst, ix_scr, ix_tup, atI_0, atI_1, atI_2, atI_3, List.getElem?_cons_zero, List.getElem?_cons_succ, List.set_cons_zero, List.set_cons_succ, List.length_cons, List.length_nil, List.cons_append, List.nil_append, List.replicate_succ, List.replicate_zero, Option.map_some, Option.bind_some, Nat.reduceAdd, Nat.reduceSub, Nat.reduceLT, Nat.reduceLeDiff, if_true, if_false, Bool.false_eq_true, decide_eq_true_eq, reduceIte, ne_eq, not_false_eq_true, Nat.lt_add_left_iff_pos, Nat.zero_lt_succ, x_call1, x_call2, x_call3, x_call4, dk1, dk2, dk3, dk4, ixV_V, Nat.reduceEqDiff, not_false_eq_true, x_isLst, x_isSet, List.map_cons, List.map_nil, Option.map_none, Option.bind_none]) rfl, x_seq]
  generalize hR : rst (tl c) = R
  have hO := (oth_spec (tl c)).1
  rw [hR] at hO
  rw [sFor_det (ds := (sortI R).map D.int) (δ0 := [.imm (grD cs), .imm (kT c.1), .imm (iD (sortSet (tl c))), .imm (.int (bst (tl c))), .imm (iD R), .imm .non, .no]) (F := fun k => [.imm (grD cs), .imm (kT c.1), .imm (iD (sortSet (tl c))), .imm (.int (bst (tl c))), .imm (iD R), .imm (oI (((sortI R).take k).foldl (bestF (tl c)) none)), lastY .no ((sortI R).map D.int) k])]
  · rw [List.length_map, List.take_length, show (sortI R).foldl (bestF (tl c)) none = some (oth (tl c)) from hO]
    simp only [x_bind, bk_ok, bk_ite, x_ret, x_lift, lk_some, lk_ite, app_ite, x_eC, x_eV, vk_imm, vk_own, vk_bor, x_give, gk_own, x_bin, x_un, x_ix, x_tru, x_eB, dBl_bl, dTru_bl, dTru_int, dTru_lst, x_and, x_or, x_not, x_eAnd, x_eOr, x_eNot, x_eIf, x_chain, x_aNil, x_aCons, x_aVr, rk_own, rk_io, x_aVb, tk_own, tk_io, tk_imm, tk_bor, x_eTup, x_eLst, imms_nil, imms_im, x_eF, x_call, ixV_C, jk_imm, jk_own, jk_io, jk_bor, flk_int, x_lenV, nk_imm, nk_own, nk_io, nk_bor, x_inV, hk_imm, hk_own, hk_io, hk_bor, x_sNx, x_pass, x_cont, x_brk, x_seq, sk_nx, sk_rt, sk_rtO, sk_ct, sk_bk, sk_ite, x_drop, x_sRet, x_sRetO, x_sIf, x_asg, x_asgO, x_gN, x_gO, x_gNil, x_gCons, x_gTt, x_gTl, x_sApp, x_sSet, x_chM, ck_own, ck_io, x_iOf, x_iRg, x_fn, fk_rt, fk_nx, fk_ite, ios_z, ios_s, keep_io, keep_imm, keep_own, keep_bor, keep_no, dSub_i, dAdd_i, dLt_i, dLe_i, dGt_i, dGe_i, dEq_int, dNe_int, ix_lst, ix_scr, ix_tup, atI_0, atI_1, atI_2, atI_3, List.getElem?_cons_zero, List.getElem?_cons_succ, List.set_cons_zero, List.set_cons_succ, List.length_cons, List.length_nil, List.cons_append, List.nil_append, List.replicate_succ, List.replicate_zero, Option.map_some, Option.bind_some, Nat.reduceAdd, Nat.reduceSub, Nat.reduceLT, Nat.reduceLeDiff, if_true, if_false, Bool.false_eq_true, decide_eq_true_eq, reduceIte, ne_eq, not_false_eq_true, Nat.lt_add_left_iff_pos, Nat.zero_lt_succ, x_call1, x_call2, x_call3, x_call4, dk1, dk2, dk3, dk4, ixV_V, Nat.reduceEqDiff, not_false_eq_true, x_isLst, x_isSet, List.map_cons, List.map_nil, Option.map_none, Option.bind_none, oI]
  · simp only [x_bind, bk_ok, bk_ite, x_ret, x_lift, lk_some, lk_ite, app_ite, x_eC, x_eV, vk_imm, vk_own, vk_bor, x_give, gk_own, x_bin, x_un, x_ix, x_tru, x_eB, dBl_bl, dTru_bl, dTru_int, dTru_lst, x_and, x_or, x_not, x_eAnd, x_eOr, x_eNot, x_eIf, x_chain, x_aNil, x_aCons, x_aVr, rk_own, rk_io, x_aVb, tk_own, tk_io, tk_imm, tk_bor, x_eTup, x_eLst, imms_nil, imms_im, x_eF, x_call, ixV_C, jk_imm, jk_own, jk_io, jk_bor, flk_int, x_lenV, nk_imm, nk_own, nk_io, nk_bor, x_inV, hk_imm, hk_own, hk_io, hk_bor, x_sNx, x_pass, x_cont, x_brk, x_seq, sk_nx, sk_rt, sk_rtO, sk_ct, sk_bk, sk_ite, x_drop, x_sRet, x_sRetO, x_sIf, x_asg, x_asgO, x_gN, x_gO, x_gNil, x_gCons, x_gTt, x_gTl, x_sApp, x_sSet, x_chM, ck_own, ck_io, x_iOf, x_iRg, x_fn, fk_rt, fk_nx, fk_ite, ios_z, ios_s, keep_io, keep_imm, keep_own, keep_bor, keep_no, dSub_i, dAdd_i, dLt_i, dLe_i, dGt_i, dGe_i, dEq_int, dNe_int, ix_lst, ix_scr, ix_tup, atI_0, atI_1, atI_2, atI_3, List.getElem?_cons_zero, List.getElem?_cons_succ, List.set_cons_zero, List.set_cons_succ, List.length_cons, List.length_nil, List.cons_append, List.nil_append, List.replicate_succ, List.replicate_zero, Option.map_some, Option.bind_some, Nat.reduceAdd, Nat.reduceSub, Nat.reduceLT, Nat.reduceLeDiff, if_true, if_false, Bool.false_eq_true, decide_eq_true_eq, reduceIte, ne_eq, not_false_eq_true, Nat.lt_add_left_iff_pos, Nat.zero_lt_succ, x_call1, x_call2, x_call3, x_call4, dk1, dk2, dk3, dk4, ixV_V, Nat.reduceEqDiff, not_false_eq_true, x_isLst, x_isSet, List.map_cons, List.map_nil, Option.map_none, Option.bind_none, fSortI_i]
    rfl
  · rfl
  · intro i d hd
    rw [lastY_s hd]
    obtain ⟨v, hv, rfl⟩ := get_mapI hd
    rw [foldl_take hv]
    generalize ((sortI R).take i).foldl (bestF (tl c)) none = f
    refine ⟨[.imm (grD cs), .imm (kT c.1), .imm (iD (sortSet (tl c))), .imm (.int (bst (tl c))), .imm (iD R), .imm (oI f), .imm (.int v)], by simp only [x_bind, bk_ok, bk_ite, x_ret, x_lift, lk_some, lk_ite, app_ite, x_eC, x_eV, vk_imm, vk_own, vk_bor, x_give, gk_own, x_bin, x_un, x_ix, x_tru, x_eB, dBl_bl, dTru_bl, dTru_int, dTru_lst, x_and, x_or, x_not, x_eAnd, x_eOr, x_eNot, x_eIf, x_chain, x_aNil, x_aCons, x_aVr, rk_own, rk_io, x_aVb, tk_own, tk_io, tk_imm, tk_bor, x_eTup, x_eLst, imms_nil, imms_im, x_eF, x_call, ixV_C, jk_imm, jk_own, jk_io, jk_bor, flk_int, x_lenV, nk_imm, nk_own, nk_io, nk_bor, x_inV, hk_imm, hk_own, hk_io, hk_bor, x_sNx, x_pass, x_cont, x_brk, x_seq, sk_nx, sk_rt, sk_rtO, sk_ct, sk_bk, sk_ite, x_drop, x_sRet, x_sRetO, x_sIf, x_asg, x_asgO, x_gN, x_gO, x_gNil, x_gCons, x_gTt, x_gTl, x_sApp, x_sSet, x_chM, ck_own, ck_io, x_iOf, x_iRg, x_fn, fk_rt, fk_nx, fk_ite, ios_z, ios_s, keep_io, keep_imm, keep_own, keep_bor, keep_no, dSub_i, dAdd_i, dLt_i, dLe_i, dGt_i, dGe_i, dEq_int, dNe_int, ix_lst, ix_scr, ix_tup, atI_0, atI_1, atI_2, atI_3, List.getElem?_cons_zero, List.getElem?_cons_succ, List.set_cons_zero, List.set_cons_succ, List.length_cons, List.length_nil, List.cons_append, List.nil_append, List.replicate_succ, List.replicate_zero, Option.map_some, Option.bind_some, Nat.reduceAdd, Nat.reduceSub, Nat.reduceLT, Nat.reduceLeDiff, if_true, if_false, Bool.false_eq_true, decide_eq_true_eq, reduceIte, ne_eq, not_false_eq_true, Nat.lt_add_left_iff_pos, Nat.zero_lt_succ, x_call1, x_call2, x_call3, x_call4, dk1, dk2, dk3, dk4, ixV_V, Nat.reduceEqDiff, not_false_eq_true, x_isLst, x_isSet, List.map_cons, List.map_nil, Option.map_none, Option.bind_none], .inl ?_⟩
    cases f with
    | none =>
      rw [sIf_t (δ1 := [.imm (grD cs), .imm (kT c.1), .imm (iD (sortSet (tl c))), .imm (.int (bst (tl c))), .imm (iD R), .imm (oI none), .imm (.int v)])]
      · simp only [x_bind, bk_ok, bk_ite, x_ret, x_lift, lk_some, lk_ite, app_ite, x_eC, x_eV, vk_imm, vk_own, vk_bor, x_give, gk_own, x_bin, x_un, x_ix, x_tru, x_eB, dBl_bl, dTru_bl, dTru_int, dTru_lst, x_and, x_or, x_not, x_eAnd, x_eOr, x_eNot, x_eIf, x_chain, x_aNil, x_aCons, x_aVr, rk_own, rk_io, x_aVb, tk_own, tk_io, tk_imm, tk_bor, x_eTup, x_eLst, imms_nil, imms_im, x_eF, x_call, ixV_C, jk_imm, jk_own, jk_io, jk_bor, flk_int, x_lenV, nk_imm, nk_own, nk_io, nk_bor, x_inV, hk_imm, hk_own, hk_io, hk_bor, x_sNx, x_pass, x_cont, x_brk, x_seq, sk_nx, sk_rt, sk_rtO, sk_ct, sk_bk, sk_ite, x_drop, x_sRet, x_sRetO, x_sIf, x_asg, x_asgO, x_gN, x_gO, x_gNil, x_gCons, x_gTt, x_gTl, x_sApp, x_sSet, x_chM, ck_own, ck_io, x_iOf, x_iRg, x_fn, fk_rt, fk_nx, fk_ite, ios_z, ios_s, keep_io, keep_imm, keep_own, keep_bor, keep_no, dSub_i, dAdd_i, dLt_i, dLe_i, dGt_i, dGe_i, dEq_int, dNe_int, ix_lst, ix_scr, ix_tup, atI_0, atI_1, atI_2, atI_3, List.getElem?_cons_zero, List.getElem?_cons_succ, List.set_cons_zero, List.set_cons_succ, List.length_cons, List.length_nil, List.cons_append, List.nil_append, List.replicate_succ, List.replicate_zero, Option.map_some, Option.bind_some, Nat.reduceAdd, Nat.reduceSub, Nat.reduceLT, Nat.reduceLeDiff, if_true, if_false, Bool.false_eq_true, decide_eq_true_eq, reduceIte, ne_eq, not_false_eq_true, Nat.lt_add_left_iff_pos, Nat.zero_lt_succ, x_call1, x_call2, x_call3, x_call4, dk1, dk2, dk3, dk4, ixV_V, Nat.reduceEqDiff, not_false_eq_true, x_isLst, x_isSet, List.map_cons, List.map_nil, Option.map_none, Option.bind_none, bestF, oI]
      · simp only [x_bind, bk_ok, bk_ite, x_ret, x_lift, lk_some, lk_ite, app_ite, x_eC, x_eV, vk_imm, vk_own, vk_bor, x_give, gk_own, x_bin, x_un, x_ix, x_tru, x_eB, dBl_bl, dTru_bl, dTru_int, dTru_lst, x_and, x_or, x_not, x_eAnd, x_eOr, x_eNot, x_eIf, x_chain, x_aNil, x_aCons, x_aVr, rk_own, rk_io, x_aVb, tk_own, tk_io, tk_imm, tk_bor, x_eTup, x_eLst, imms_nil, imms_im, x_eF, x_call, ixV_C, jk_imm, jk_own, jk_io, jk_bor, flk_int, x_lenV, nk_imm, nk_own, nk_io, nk_bor, x_inV, hk_imm, hk_own, hk_io, hk_bor, x_sNx, x_pass, x_cont, x_brk, x_seq, sk_nx, sk_rt, sk_rtO, sk_ct, sk_bk, sk_ite, x_drop, x_sRet, x_sRetO, x_sIf, x_asg, x_asgO, x_gN, x_gO, x_gNil, x_gCons, x_gTt, x_gTl, x_sApp, x_sSet, x_chM, ck_own, ck_io, x_iOf, x_iRg, x_fn, fk_rt, fk_nx, fk_ite, ios_z, ios_s, keep_io, keep_imm, keep_own, keep_bor, keep_no, dSub_i, dAdd_i, dLt_i, dLe_i, dGt_i, dGe_i, dEq_int, dNe_int, ix_lst, ix_scr, ix_tup, atI_0, atI_1, atI_2, atI_3, List.getElem?_cons_zero, List.getElem?_cons_succ, List.set_cons_zero, List.set_cons_succ, List.length_cons, List.length_nil, List.cons_append, List.nil_append, List.replicate_succ, List.replicate_zero, Option.map_some, Option.bind_some, Nat.reduceAdd, Nat.reduceSub, Nat.reduceLT, Nat.reduceLeDiff, if_true, if_false, Bool.false_eq_true, decide_eq_true_eq, reduceIte, ne_eq, not_false_eq_true, Nat.lt_add_left_iff_pos, Nat.zero_lt_succ, x_call1, x_call2, x_call3, x_call4, dk1, dk2, dk3, dk4, ixV_V, Nat.reduceEqDiff, not_false_eq_true, x_isLst, x_isSet, List.map_cons, List.map_nil, Option.map_none, Option.bind_none, dIs_oI, Option.isNone_none]
    | some u =>
      by_cases lt : cst (tl c) v < cst (tl c) u
      · rw [sIf_t (δ1 := [.imm (grD cs), .imm (kT c.1), .imm (iD (sortSet (tl c))), .imm (.int (bst (tl c))), .imm (iD R), .imm (oI (some u)), .imm (.int v)])]
        · simp only [x_bind, bk_ok, bk_ite, x_ret, x_lift, lk_some, lk_ite, app_ite, x_eC, x_eV, vk_imm, vk_own, vk_bor, x_give, gk_own, x_bin, x_un, x_ix, x_tru, x_eB, dBl_bl, dTru_bl, dTru_int, dTru_lst, x_and, x_or, x_not, x_eAnd, x_eOr, x_eNot, x_eIf, x_chain, x_aNil, x_aCons, x_aVr, rk_own, rk_io, x_aVb, tk_own, tk_io, tk_imm, tk_bor, x_eTup, x_eLst, imms_nil, imms_im, x_eF, x_call, ixV_C, jk_imm, jk_own, jk_io, jk_bor, flk_int, x_lenV, nk_imm, nk_own, nk_io, nk_bor, x_inV, hk_imm, hk_own, hk_io, hk_bor, x_sNx, x_pass, x_cont, x_brk, x_seq, sk_nx, sk_rt, sk_rtO, sk_ct, sk_bk, sk_ite, x_drop, x_sRet, x_sRetO, x_sIf, x_asg, x_asgO, x_gN, x_gO, x_gNil, x_gCons, x_gTt, x_gTl, x_sApp, x_sSet, x_chM, ck_own, ck_io, x_iOf, x_iRg, x_fn, fk_rt, fk_nx, fk_ite, ios_z, ios_s, keep_io, keep_imm, keep_own, keep_bor, keep_no, dSub_i, dAdd_i, dLt_i, dLe_i, dGt_i, dGe_i, dEq_int, dNe_int, ix_lst, ix_scr, ix_tup, atI_0, atI_1, atI_2, atI_3, List.getElem?_cons_zero, List.getElem?_cons_succ, List.set_cons_zero, List.set_cons_succ, List.length_cons, List.length_nil, List.cons_append, List.nil_append, List.replicate_succ, List.replicate_zero, Option.map_some, Option.bind_some, Nat.reduceAdd, Nat.reduceSub, Nat.reduceLT, Nat.reduceLeDiff, if_true, if_false, Bool.false_eq_true, decide_eq_true_eq, reduceIte, ne_eq, not_false_eq_true, Nat.lt_add_left_iff_pos, Nat.zero_lt_succ, x_call1, x_call2, x_call3, x_call4, dk1, dk2, dk3, dk4, ixV_V, Nat.reduceEqDiff, not_false_eq_true, x_isLst, x_isSet, List.map_cons, List.map_nil, Option.map_none, Option.bind_none, bestF, oI, lt]
        · simp only [x_bind, bk_ok, bk_ite, x_ret, x_lift, lk_some, lk_ite, app_ite, x_eC, x_eV, vk_imm, vk_own, vk_bor, x_give, gk_own, x_bin, x_un, x_ix, x_tru, x_eB, dBl_bl, dTru_bl, dTru_int, dTru_lst, x_and, x_or, x_not, x_eAnd, x_eOr, x_eNot, x_eIf, x_chain, x_aNil, x_aCons, x_aVr, rk_own, rk_io, x_aVb, tk_own, tk_io, tk_imm, tk_bor, x_eTup, x_eLst, imms_nil, imms_im, x_eF, x_call, ixV_C, jk_imm, jk_own, jk_io, jk_bor, flk_int, x_lenV, nk_imm, nk_own, nk_io, nk_bor, x_inV, hk_imm, hk_own, hk_io, hk_bor, x_sNx, x_pass, x_cont, x_brk, x_seq, sk_nx, sk_rt, sk_rtO, sk_ct, sk_bk, sk_ite, x_drop, x_sRet, x_sRetO, x_sIf, x_asg, x_asgO, x_gN, x_gO, x_gNil, x_gCons, x_gTt, x_gTl, x_sApp, x_sSet, x_chM, ck_own, ck_io, x_iOf, x_iRg, x_fn, fk_rt, fk_nx, fk_ite, ios_z, ios_s, keep_io, keep_imm, keep_own, keep_bor, keep_no, dSub_i, dAdd_i, dLt_i, dLe_i, dGt_i, dGe_i, dEq_int, dNe_int, ix_lst, ix_scr, ix_tup, atI_0, atI_1, atI_2, atI_3, List.getElem?_cons_zero, List.getElem?_cons_succ, List.set_cons_zero, List.set_cons_succ, List.length_cons, List.length_nil, List.cons_append, List.nil_append, List.replicate_succ, List.replicate_zero, Option.map_some, Option.bind_some, Nat.reduceAdd, Nat.reduceSub, Nat.reduceLT, Nat.reduceLeDiff, if_true, if_false, Bool.false_eq_true, decide_eq_true_eq, reduceIte, ne_eq, not_false_eq_true, Nat.lt_add_left_iff_pos, Nat.zero_lt_succ, x_call1, x_call2, x_call3, x_call4, dk1, dk2, dk3, dk4, ixV_V, Nat.reduceEqDiff, not_false_eq_true, x_isLst, x_isSet, List.map_cons, List.map_nil, Option.map_none, Option.bind_none, dIs_oI, Option.isNone_some]
          simp only [oI, x_bind, bk_ok, bk_ite, x_ret, x_lift, lk_some, lk_ite, app_ite, x_eC, x_eV, vk_imm, vk_own, vk_bor, x_give, gk_own, x_bin, x_un, x_ix, x_tru, x_eB, dBl_bl, dTru_bl, dTru_int, dTru_lst, x_and, x_or, x_not, x_eAnd, x_eOr, x_eNot, x_eIf, x_chain, x_aNil, x_aCons, x_aVr, rk_own, rk_io, x_aVb, tk_own, tk_io, tk_imm, tk_bor, x_eTup, x_eLst, imms_nil, imms_im, x_eF, x_call, ixV_C, jk_imm, jk_own, jk_io, jk_bor, flk_int, x_lenV, nk_imm, nk_own, nk_io, nk_bor, x_inV, hk_imm, hk_own, hk_io, hk_bor, x_sNx, x_pass, x_cont, x_brk, x_seq, sk_nx, sk_rt, sk_rtO, sk_ct, sk_bk, sk_ite, x_drop, x_sRet, x_sRetO, x_sIf, x_asg, x_asgO, x_gN, x_gO, x_gNil, x_gCons, x_gTt, x_gTl, x_sApp, x_sSet, x_chM, ck_own, ck_io, x_iOf, x_iRg, x_fn, fk_rt, fk_nx, fk_ite, ios_z, ios_s, keep_io, keep_imm, keep_own, keep_bor, keep_no, dSub_i, dAdd_i, dLt_i, dLe_i, dGt_i, dGe_i, dEq_int, dNe_int, ix_lst, ix_scr, ix_tup, atI_0, atI_1, atI_2, atI_3, List.getElem?_cons_zero, List.getElem?_cons_succ, List.set_cons_zero, List.set_cons_succ, List.length_cons, List.length_nil, List.cons_append, List.nil_append, List.replicate_succ, List.replicate_zero, Option.map_some, Option.bind_some, Nat.reduceAdd, Nat.reduceSub, Nat.reduceLT, Nat.reduceLeDiff, if_true, if_false, Bool.false_eq_true, decide_eq_true_eq, reduceIte, ne_eq, not_false_eq_true, Nat.lt_add_left_iff_pos, Nat.zero_lt_succ, x_call1, x_call2, x_call3, x_call4, dk1, dk2, dk3, dk4, ixV_V, Nat.reduceEqDiff, not_false_eq_true, x_isLst, x_isSet, List.map_cons, List.map_nil, Option.map_none, Option.bind_none, ev_cost o h, lt, decide_true]
      · rw [sIf_f (δ1 := [.imm (grD cs), .imm (kT c.1), .imm (iD (sortSet (tl c))), .imm (.int (bst (tl c))), .imm (iD R), .imm (oI (some u)), .imm (.int v)])]
        · simp only [x_bind, bk_ok, bk_ite, x_ret, x_lift, lk_some, lk_ite, app_ite, x_eC, x_eV, vk_imm, vk_own, vk_bor, x_give, gk_own, x_bin, x_un, x_ix, x_tru, x_eB, dBl_bl, dTru_bl, dTru_int, dTru_lst, x_and, x_or, x_not, x_eAnd, x_eOr, x_eNot, x_eIf, x_chain, x_aNil, x_aCons, x_aVr, rk_own, rk_io, x_aVb, tk_own, tk_io, tk_imm, tk_bor, x_eTup, x_eLst, imms_nil, imms_im, x_eF, x_call, ixV_C, jk_imm, jk_own, jk_io, jk_bor, flk_int, x_lenV, nk_imm, nk_own, nk_io, nk_bor, x_inV, hk_imm, hk_own, hk_io, hk_bor, x_sNx, x_pass, x_cont, x_brk, x_seq, sk_nx, sk_rt, sk_rtO, sk_ct, sk_bk, sk_ite, x_drop, x_sRet, x_sRetO, x_sIf, x_asg, x_asgO, x_gN, x_gO, x_gNil, x_gCons, x_gTt, x_gTl, x_sApp, x_sSet, x_chM, ck_own, ck_io, x_iOf, x_iRg, x_fn, fk_rt, fk_nx, fk_ite, ios_z, ios_s, keep_io, keep_imm, keep_own, keep_bor, keep_no, dSub_i, dAdd_i, dLt_i, dLe_i, dGt_i, dGe_i, dEq_int, dNe_int, ix_lst, ix_scr, ix_tup, atI_0, atI_1, atI_2, atI_3, List.getElem?_cons_zero, List.getElem?_cons_succ, List.set_cons_zero, List.set_cons_succ, List.length_cons, List.length_nil, List.cons_append, List.nil_append, List.replicate_succ, List.replicate_zero, Option.map_some, Option.bind_some, Nat.reduceAdd, Nat.reduceSub, Nat.reduceLT, Nat.reduceLeDiff, if_true, if_false, Bool.false_eq_true, decide_eq_true_eq, reduceIte, ne_eq, not_false_eq_true, Nat.lt_add_left_iff_pos, Nat.zero_lt_succ, x_call1, x_call2, x_call3, x_call4, dk1, dk2, dk3, dk4, ixV_V, Nat.reduceEqDiff, not_false_eq_true, x_isLst, x_isSet, List.map_cons, List.map_nil, Option.map_none, Option.bind_none, bestF, oI, lt]
        · simp only [x_bind, bk_ok, bk_ite, x_ret, x_lift, lk_some, lk_ite, app_ite, x_eC, x_eV, vk_imm, vk_own, vk_bor, x_give, gk_own, x_bin, x_un, x_ix, x_tru, x_eB, dBl_bl, dTru_bl, dTru_int, dTru_lst, x_and, x_or, x_not, x_eAnd, x_eOr, x_eNot, x_eIf, x_chain, x_aNil, x_aCons, x_aVr, rk_own, rk_io, x_aVb, tk_own, tk_io, tk_imm, tk_bor, x_eTup, x_eLst, imms_nil, imms_im, x_eF, x_call, ixV_C, jk_imm, jk_own, jk_io, jk_bor, flk_int, x_lenV, nk_imm, nk_own, nk_io, nk_bor, x_inV, hk_imm, hk_own, hk_io, hk_bor, x_sNx, x_pass, x_cont, x_brk, x_seq, sk_nx, sk_rt, sk_rtO, sk_ct, sk_bk, sk_ite, x_drop, x_sRet, x_sRetO, x_sIf, x_asg, x_asgO, x_gN, x_gO, x_gNil, x_gCons, x_gTt, x_gTl, x_sApp, x_sSet, x_chM, ck_own, ck_io, x_iOf, x_iRg, x_fn, fk_rt, fk_nx, fk_ite, ios_z, ios_s, keep_io, keep_imm, keep_own, keep_bor, keep_no, dSub_i, dAdd_i, dLt_i, dLe_i, dGt_i, dGe_i, dEq_int, dNe_int, ix_lst, ix_scr, ix_tup, atI_0, atI_1, atI_2, atI_3, List.getElem?_cons_zero, List.getElem?_cons_succ, List.set_cons_zero, List.set_cons_succ, List.length_cons, List.length_nil, List.cons_append, List.nil_append, List.replicate_succ, List.replicate_zero, Option.map_some, Option.bind_some, Nat.reduceAdd, Nat.reduceSub, Nat.reduceLT, Nat.reduceLeDiff, if_true, if_false, Bool.false_eq_true, decide_eq_true_eq, reduceIte, ne_eq, not_false_eq_true, Nat.lt_add_left_iff_pos, Nat.zero_lt_succ, x_call1, x_call2, x_call3, x_call4, dk1, dk2, dk3, dk4, ixV_V, Nat.reduceEqDiff, not_false_eq_true, x_isLst, x_isSet, List.map_cons, List.map_nil, Option.map_none, Option.bind_none, dIs_oI, Option.isNone_some]
          simp only [oI, x_bind, bk_ok, bk_ite, x_ret, x_lift, lk_some, lk_ite, app_ite, x_eC, x_eV, vk_imm, vk_own, vk_bor, x_give, gk_own, x_bin, x_un, x_ix, x_tru, x_eB, dBl_bl, dTru_bl, dTru_int, dTru_lst, x_and, x_or, x_not, x_eAnd, x_eOr, x_eNot, x_eIf, x_chain, x_aNil, x_aCons, x_aVr, rk_own, rk_io, x_aVb, tk_own, tk_io, tk_imm, tk_bor, x_eTup, x_eLst, imms_nil, imms_im, x_eF, x_call, ixV_C, jk_imm, jk_own, jk_io, jk_bor, flk_int, x_lenV, nk_imm, nk_own, nk_io, nk_bor, x_inV, hk_imm, hk_own, hk_io, hk_bor, x_sNx, x_pass, x_cont, x_brk, x_seq, sk_nx, sk_rt, sk_rtO, sk_ct, sk_bk, sk_ite, x_drop, x_sRet, x_sRetO, x_sIf, x_asg, x_asgO, x_gN, x_gO, x_gNil, x_gCons, x_gTt, x_gTl, x_sApp, x_sSet, x_chM, ck_own, ck_io, x_iOf, x_iRg, x_fn, fk_rt, fk_nx, fk_ite, ios_z, ios_s, keep_io, keep_imm, keep_own, keep_bor, keep_no, dSub_i, dAdd_i, dLt_i, dLe_i, dGt_i, dGe_i, dEq_int, dNe_int, ix_lst, ix_scr, ix_tup, atI_0, atI_1, atI_2, atI_3, List.getElem?_cons_zero, List.getElem?_cons_succ, List.set_cons_zero, List.set_cons_succ, List.length_cons, List.length_nil, List.cons_append, List.nil_append, List.replicate_succ, List.replicate_zero, Option.map_some, Option.bind_some, Nat.reduceAdd, Nat.reduceSub, Nat.reduceLT, Nat.reduceLeDiff, if_true, if_false, Bool.false_eq_true, decide_eq_true_eq, reduceIte, ne_eq, not_false_eq_true, Nat.lt_add_left_iff_pos, Nat.zero_lt_succ, x_call1, x_call2, x_call3, x_call4, dk1, dk2, dk3, dk4, ixV_V, Nat.reduceEqDiff, not_false_eq_true, x_isLst, x_isSet, List.map_cons, List.map_nil, Option.map_none, Option.bind_none, ev_cost o h, lt, decide_false]
/-! ### the sums -/
def bstC (c : Cell) : Int := bst (tl c)
def Lst (cs : List Cell) : Int := tot tl cs bstC
def kyk (δ : Env) (i : Nat) : Option Sl → Re (List D)
  | some (.imm d) => (keysD d).map fun ks => (.ok ks, δ)
  | some (.own d) => (keysD d).map fun ks => (.ok ks, δ.set i (.imm d))
  | _ => none
theorem x_iKy {i : Nat} {δ : Env} : iKy i δ = kyk δ i δ[i]? := by unfold iKy kyk; split <;> simp_all
theorem kyk_imm {d : D} {i : Nat} {δ : Env} : kyk δ i (some (.imm d)) = (keysD d).map fun ks => (.ok ks, δ) := rfl
theorem short_k {α : Type} {f : α → Int × Int} {g : α → D} {l : List α} : shortK ((l.map fun c => (kK (f c), g c)).map (·.1)) = true := by
  unfold shortK
  rw [List.all_eq_true]
  intro k hk
  rw [List.map_map] at hk
  obtain ⟨c, _, rfl⟩ := List.mem_map.mp hk
  exact decide_eq_true (show 2 ≤ 1000 by omega)
theorem keys_gr {cs : List Cell} : keysD (grD cs) = some (cs.map fun c => kT c.1) := by
  show (if shortK ((cs.map fun c => (kK c.1, rowsD c)).map (·.1)) = true then some ((cs.map fun c => (kK c.1, rowsD c)).map fun p => D.tup (p.1.map kD)) else none) = _
  rw [if_pos (short_k (f := fun c : Cell => c.1) (g := rowsD)), List.map_map]; rfl
theorem ev_least {cs : List Cell} (o : GOk cs) : m_least_cost [.imm (grD cs)] = some (.ok (.int (Lst cs)), [.no]) := by
  unfold m_least_cost b_least_cost
  rw [x_fn]
  have e0 : ([.imm (grD cs)] ++ List.replicate (2 - 1) Sl.no : Env) = [.imm (grD cs), .no] := rfl
  rw [e0, x_sRet, x_eF, x_aCons]
  rw [eLc_map (l := cs) (g := fun c => kT c.1) (p := fun _ => true) (f := fun c => .int (cst (tl c) (bst (tl c)))) (δ0 := [.imm (grD cs), .no])]
  · have e1 : (.lst (cs.map fun c => D.int (cst (tl c) (bst (tl c)))) : D) = iD (cs.map fun c => cst (tl c) (bst (tl c))) := by
      unfold iD; rw [List.map_map]; rfl
    rw [filter_tt]
    simp only [x_bind, bk_ok, bk_ite, x_ret, x_lift, lk_some, lk_ite, app_ite, x_eC, x_eV, vk_imm, vk_own, vk_bor, x_give, gk_own, x_bin, x_un, x_ix, x_tru, x_eB, dBl_bl, dTru_bl, dTru_int, dTru_lst, x_and, x_or, x_not, x_eAnd, x_eOr, x_eNot, x_eIf, x_chain, x_aNil, x_aCons, x_aVr, rk_own, rk_io, x_aVb, tk_own, tk_io, tk_imm, tk_bor, x_eTup, x_eLst, imms_nil, imms_im, x_eF, x_call, ixV_C, jk_imm, jk_own, jk_io, jk_bor, flk_int, x_lenV, nk_imm, nk_own, nk_io, nk_bor, x_inV, hk_imm, hk_own, hk_io, hk_bor, x_sNx, x_pass, x_cont, x_brk, x_seq, sk_nx, sk_rt, sk_rtO, sk_ct, sk_bk, sk_ite, x_drop, x_sRet, x_sRetO, x_sIf, x_asg, x_asgO, x_gN, x_gO, x_gNil, x_gCons, x_gTt, x_gTl, x_sApp, x_sSet, x_chM, ck_own, ck_io, x_iOf, x_iRg, x_fn, fk_rt, fk_nx, fk_ite, ios_z, ios_s, keep_io, keep_imm, keep_own, keep_bor, keep_no, dSub_i, dAdd_i, dLt_i, dLe_i, dGt_i, dGe_i, dEq_int, dNe_int, ix_lst, ix_scr, ix_tup, atI_0, atI_1, atI_2, atI_3, List.getElem?_cons_zero, List.getElem?_cons_succ, List.set_cons_zero, List.set_cons_succ, List.length_cons, List.length_nil, List.cons_append, List.nil_append, List.replicate_succ, List.replicate_zero, Option.map_some, Option.bind_some, Nat.reduceAdd, Nat.reduceSub, Nat.reduceLT, Nat.reduceLeDiff, if_true, if_false, Bool.false_eq_true, decide_eq_true_eq, reduceIte, ne_eq, not_false_eq_true, Nat.lt_add_left_iff_pos, Nat.zero_lt_succ, x_call1, x_call2, x_call3, x_call4, dk1, dk2, dk3, dk4, ixV_V, Nat.reduceEqDiff, not_false_eq_true, x_isLst, x_isSet, List.map_cons, List.map_nil, Option.map_none, Option.bind_none, wipeE, e1, fSum_i]
    rfl
  · simp only [x_iKy, x_bind, bk_ok, bk_ite, x_ret, x_lift, lk_some, lk_ite, app_ite, x_eC, x_eV, vk_imm, vk_own, vk_bor, x_give, gk_own, x_bin, x_un, x_ix, x_tru, x_eB, dBl_bl, dTru_bl, dTru_int, dTru_lst, x_and, x_or, x_not, x_eAnd, x_eOr, x_eNot, x_eIf, x_chain, x_aNil, x_aCons, x_aVr, rk_own, rk_io, x_aVb, tk_own, tk_io, tk_imm, tk_bor, x_eTup, x_eLst, imms_nil, imms_im, x_eF, x_call, ixV_C, jk_imm, jk_own, jk_io, jk_bor, flk_int, x_lenV, nk_imm, nk_own, nk_io, nk_bor, x_inV, hk_imm, hk_own, hk_io, hk_bor, x_sNx, x_pass, x_cont, x_brk, x_seq, sk_nx, sk_rt, sk_rtO, sk_ct, sk_bk, sk_ite, x_drop, x_sRet, x_sRetO, x_sIf, x_asg, x_asgO, x_gN, x_gO, x_gNil, x_gCons, x_gTt, x_gTl, x_sApp, x_sSet, x_chM, ck_own, ck_io, x_iOf, x_iRg, x_fn, fk_rt, fk_nx, fk_ite, ios_z, ios_s, keep_io, keep_imm, keep_own, keep_bor, keep_no, dSub_i, dAdd_i, dLt_i, dLe_i, dGt_i, dGe_i, dEq_int, dNe_int, ix_lst, ix_scr, ix_tup, atI_0, atI_1, atI_2, atI_3, List.getElem?_cons_zero, List.getElem?_cons_succ, List.set_cons_zero, List.set_cons_succ, List.length_cons, List.length_nil, List.cons_append, List.nil_append, List.replicate_succ, List.replicate_zero, Option.map_some, Option.bind_some, Nat.reduceAdd, Nat.reduceSub, Nat.reduceLT, Nat.reduceLeDiff, if_true, if_false, Bool.false_eq_true, decide_eq_true_eq, reduceIte, ne_eq, not_false_eq_true, Nat.lt_add_left_iff_pos, Nat.zero_lt_succ, x_call1, x_call2, x_call3, x_call4, dk1, dk2, dk3, dk4, ixV_V, Nat.reduceEqDiff, not_false_eq_true, x_isLst, x_isSet, List.map_cons, List.map_nil, Option.map_none, Option.bind_none, kyk_imm, keys_gr]
  · have := o.len; omega
  · intro c hc
    refine ⟨[.imm (grD cs), .imm (kT c.1)], [.imm (grD cs), .imm (kT c.1)], ?_, rfl, fun _ => rfl, fun _ => ⟨[.imm (grD cs), .imm (kT c.1)], ?_, rfl⟩⟩
    · simp only [x_bind, bk_ok, bk_ite, x_ret, x_lift, lk_some, lk_ite, app_ite, x_eC, x_eV, vk_imm, vk_own, vk_bor, x_give, gk_own, x_bin, x_un, x_ix, x_tru, x_eB, dBl_bl, dTru_bl, dTru_int, dTru_lst, x_and, x_or, x_not, x_eAnd, x_eOr, x_eNot, x_eIf, x_chain, x_aNil, x_aCons, x_aVr, rk_own, rk_io, x_aVb, tk_own, tk_io, tk_imm, tk_bor, x_eTup, x_eLst, imms_nil, imms_im, x_eF, x_call, ixV_C, jk_imm, jk_own, jk_io, jk_bor, flk_int, x_lenV, nk_imm, nk_own, nk_io, nk_bor, x_inV, hk_imm, hk_own, hk_io, hk_bor, x_sNx, x_pass, x_cont, x_brk, x_seq, sk_nx, sk_rt, sk_rtO, sk_ct, sk_bk, sk_ite, x_drop, x_sRet, x_sRetO, x_sIf, x_asg, x_asgO, x_gN, x_gO, x_gNil, x_gCons, x_gTt, x_gTl, x_sApp, x_sSet, x_chM, ck_own, ck_io, x_iOf, x_iRg, x_fn, fk_rt, fk_nx, fk_ite, ios_z, ios_s, keep_io, keep_imm, keep_own, keep_bor, keep_no, dSub_i, dAdd_i, dLt_i, dLe_i, dGt_i, dGe_i, dEq_int, dNe_int, ix_lst, ix_scr, ix_tup, atI_0, atI_1, atI_2, atI_3, List.getElem?_cons_zero, List.getElem?_cons_succ, List.set_cons_zero, List.set_cons_succ, List.length_cons, List.length_nil, List.cons_append, List.nil_append, List.replicate_succ, List.replicate_zero, Option.map_some, Option.bind_some, Nat.reduceAdd, Nat.reduceSub, Nat.reduceLT, Nat.reduceLeDiff, if_true, if_false, Bool.false_eq_true, decide_eq_true_eq, reduceIte, ne_eq, not_false_eq_true, Nat.lt_add_left_iff_pos, Nat.zero_lt_succ, x_call1, x_call2, x_call3, x_call4, dk1, dk2, dk3, dk4, ixV_V, Nat.reduceEqDiff, not_false_eq_true, x_isLst, x_isSet, List.map_cons, List.map_nil, Option.map_none, Option.bind_none, wipeE]
    · simp only [x_bind, bk_ok, bk_ite, x_ret, x_lift, lk_some, lk_ite, app_ite, x_eC, x_eV, vk_imm, vk_own, vk_bor, x_give, gk_own, x_bin, x_un, x_ix, x_tru, x_eB, dBl_bl, dTru_bl, dTru_int, dTru_lst, x_and, x_or, x_not, x_eAnd, x_eOr, x_eNot, x_eIf, x_chain, x_aNil, x_aCons, x_aVr, rk_own, rk_io, x_aVb, tk_own, tk_io, tk_imm, tk_bor, x_eTup, x_eLst, imms_nil, imms_im, x_eF, x_call, ixV_C, jk_imm, jk_own, jk_io, jk_bor, flk_int, x_lenV, nk_imm, nk_own, nk_io, nk_bor, x_inV, hk_imm, hk_own, hk_io, hk_bor, x_sNx, x_pass, x_cont, x_brk, x_seq, sk_nx, sk_rt, sk_rtO, sk_ct, sk_bk, sk_ite, x_drop, x_sRet, x_sRetO, x_sIf, x_asg, x_asgO, x_gN, x_gO, x_gNil, x_gCons, x_gTt, x_gTl, x_sApp, x_sSet, x_chM, ck_own, ck_io, x_iOf, x_iRg, x_fn, fk_rt, fk_nx, fk_ite, ios_z, ios_s, keep_io, keep_imm, keep_own, keep_bor, keep_no, dSub_i, dAdd_i, dLt_i, dLe_i, dGt_i, dGe_i, dEq_int, dNe_int, ix_lst, ix_scr, ix_tup, atI_0, atI_1, atI_2, atI_3, List.getElem?_cons_zero, List.getElem?_cons_succ, List.set_cons_zero, List.set_cons_succ, List.length_cons, List.length_nil, List.cons_append, List.nil_append, List.replicate_succ, List.replicate_zero, Option.map_some, Option.bind_some, Nat.reduceAdd, Nat.reduceSub, Nat.reduceLT, Nat.reduceLeDiff, if_true, if_false, Bool.false_eq_true, decide_eq_true_eq, reduceIte, ne_eq, not_false_eq_true, Nat.lt_add_left_iff_pos, Nat.zero_lt_succ, x_call1, x_call2, x_call3, x_call4, dk1, dk2, dk3, dk4, ixV_V, Nat.reduceEqDiff, not_false_eq_true, x_isLst, x_isSet, List.map_cons, List.map_nil, Option.map_none, Option.bind_none, ev_best o hc, ev_cost o hc]
def sureB (F : Int) (cs : List Cell) (c : Cell) : Bool := decide (Lst cs ≤ F) && decide (F < Lst cs - cst (tl c) (bst (tl c)) + cst (tl c) (oth (tl c)))
theorem ev_is_sure {cs : List Cell} (o : GOk cs) {c : Cell} (h : c ∈ cs) {F : Int} : m_is_sure [.imm (grD cs), .imm (.int F), .imm (kT c.1), .imm (.int (Lst cs))] = some (.ok (.bl (sureB F cs c)), [.no, .no, .no, .no]) := by
  unfold m_is_sure b_is_sure
  rw [x_fn]
  have e0 : ([.imm (grD cs), .imm (.int F), .imm (kT c.1), .imm (.int (Lst cs))] ++ List.replicate (5 - 4) Sl.no : Env) = [.imm (grD cs), .imm (.int F), .imm (kT c.1), .imm (.int (Lst cs)), .no] := rfl
  rw [e0, ssq (δ1 := [.imm (grD cs), .imm (.int F), .imm (kT c.1), .imm (.int (Lst cs)), .imm (.int (Lst cs - cst (tl c) (bst (tl c))))]) (by simp only [x_bind, bk_ok, bk_ite, x_ret, x_lift, lk_some, lk_ite, app_ite, x_eC, x_eV, vk_imm, vk_own, vk_bor, x_give, gk_own, x_bin, x_un, x_ix, x_tru, x_eB, dBl_bl, dTru_bl, dTru_int, dTru_lst, x_and, x_or, x_not, x_eAnd, x_eOr, x_eNot, x_eIf, x_chain, x_aNil, x_aCons, x_aVr, rk_own, rk_io, x_aVb, tk_own, tk_io, tk_imm, tk_bor, x_eTup, x_eLst, imms_nil, imms_im, x_eF, x_call, ixV_C, jk_imm, jk_own, jk_io, jk_bor, flk_int, x_lenV, nk_imm, nk_own, nk_io, nk_bor, x_inV, hk_imm, hk_own, hk_io, hk_bor, x_sNx, x_pass, x_cont, x_brk, x_seq, sk_nx, sk_rt, sk_rtO, sk_ct, sk_bk, sk_ite, x_drop, x_sRet, x_sRetO, x_sIf, x_asg, x_asgO, x_gN, x_gO, x_gNil, x_gCons, x_gTt, x_gTl, x_sApp, x_sSet, x_chM, ck_own, ck_io, x_iOf, x_iRg, x_fn, fk_rt, fk_nx, fk_ite, ios_z, ios_s, keep_io, keep_imm, keep_own, keep_bor, keep_no, dSub_i, dAdd_i, dLt_i, dLe_i, dGt_i, dGe_i, dEq_int, dNe_int, ix_lst, ix_scr, ix_tup, atI_0, atI_1, atI_2, atI_3, List.getElem?_cons_zero, List.getElem?_cons_succ, List.set_cons_zero, List.set_cons_succ, List.length_cons, List.length_nil, List.cons_append, List.nil_append, List.replicate_succ, List.replicate_zero, Option.map_some, Option.bind_some, Nat.reduceAdd, Nat.reduceSub, Nat.reduceLT, Nat.reduceLeDiff, if_true, if_false, Bool.false_eq_true, decide_eq_true_eq, reduceIte, ne_eq, not_false_eq_true, Nat.lt_add_left_iff_pos, Nat.zero_lt_succ, x_call1, x_call2, x_call3, x_call4, dk1, dk2, dk3, dk4, ixV_V, Nat.reduceEqDiff, not_false_eq_true, x_isLst, x_isSet, List.map_cons, List.map_nil, Option.map_none, Option.bind_none, ev_best o h, ev_cost o h]) rfl]
  unfold sureB
  by_cases c1 : Lst cs ≤ F
  · simp only [x_bind, bk_ok, bk_ite, x_ret, x_lift, lk_some, lk_ite, app_ite, x_eC, x_eV, vk_imm, vk_own, vk_bor, x_give, gk_own, x_bin, x_un, x_ix, x_tru, x_eB, dBl_bl, dTru_bl, dTru_int, dTru_lst, x_and, x_or, x_not, x_eAnd, x_eOr, x_eNot, x_eIf, x_chain, x_aNil, x_aCons, x_aVr, rk_own, rk_io, x_aVb, tk_own, tk_io, tk_imm, tk_bor, x_eTup, x_eLst, imms_nil, imms_im, x_eF, x_call, ixV_C, jk_imm, jk_own, jk_io, jk_bor, flk_int, x_lenV, nk_imm, nk_own, nk_io, nk_bor, x_inV, hk_imm, hk_own, hk_io, hk_bor, x_sNx, x_pass, x_cont, x_brk, x_seq, sk_nx, sk_rt, sk_rtO, sk_ct, sk_bk, sk_ite, x_drop, x_sRet, x_sRetO, x_sIf, x_asg, x_asgO, x_gN, x_gO, x_gNil, x_gCons, x_gTt, x_gTl, x_sApp, x_sSet, x_chM, ck_own, ck_io, x_iOf, x_iRg, x_fn, fk_rt, fk_nx, fk_ite, ios_z, ios_s, keep_io, keep_imm, keep_own, keep_bor, keep_no, dSub_i, dAdd_i, dLt_i, dLe_i, dGt_i, dGe_i, dEq_int, dNe_int, ix_lst, ix_scr, ix_tup, atI_0, atI_1, atI_2, atI_3, List.getElem?_cons_zero, List.getElem?_cons_succ, List.set_cons_zero, List.set_cons_succ, List.length_cons, List.length_nil, List.cons_append, List.nil_append, List.replicate_succ, List.replicate_zero, Option.map_some, Option.bind_some, Nat.reduceAdd, Nat.reduceSub, Nat.reduceLT, Nat.reduceLeDiff, if_true, if_false, Bool.false_eq_true, decide_eq_true_eq, reduceIte, ne_eq, not_false_eq_true, Nat.lt_add_left_iff_pos, Nat.zero_lt_succ, x_call1, x_call2, x_call3, x_call4, dk1, dk2, dk3, dk4, ixV_V, Nat.reduceEqDiff, not_false_eq_true, x_isLst, x_isSet, List.map_cons, List.map_nil, Option.map_none, Option.bind_none, c1, decide_true, ev_other o h, ev_cost o h, Bool.true_and]
  · simp only [x_bind, bk_ok, bk_ite, x_ret, x_lift, lk_some, lk_ite, app_ite, x_eC, x_eV, vk_imm, vk_own, vk_bor, x_give, gk_own, x_bin, x_un, x_ix, x_tru, x_eB, dBl_bl, dTru_bl, dTru_int, dTru_lst, x_and, x_or, x_not, x_eAnd, x_eOr, x_eNot, x_eIf, x_chain, x_aNil, x_aCons, x_aVr, rk_own, rk_io, x_aVb, tk_own, tk_io, tk_imm, tk_bor, x_eTup, x_eLst, imms_nil, imms_im, x_eF, x_call, ixV_C, jk_imm, jk_own, jk_io, jk_bor, flk_int, x_lenV, nk_imm, nk_own, nk_io, nk_bor, x_inV, hk_imm, hk_own, hk_io, hk_bor, x_sNx, x_pass, x_cont, x_brk, x_seq, sk_nx, sk_rt, sk_rtO, sk_ct, sk_bk, sk_ite, x_drop, x_sRet, x_sRetO, x_sIf, x_asg, x_asgO, x_gN, x_gO, x_gNil, x_gCons, x_gTt, x_gTl, x_sApp, x_sSet, x_chM, ck_own, ck_io, x_iOf, x_iRg, x_fn, fk_rt, fk_nx, fk_ite, ios_z, ios_s, keep_io, keep_imm, keep_own, keep_bor, keep_no, dSub_i, dAdd_i, dLt_i, dLe_i, dGt_i, dGe_i, dEq_int, dNe_int, ix_lst, ix_scr, ix_tup, atI_0, atI_1, atI_2, atI_3, List.getElem?_cons_zero, List.getElem?_cons_succ, List.set_cons_zero, List.set_cons_succ, List.length_cons, List.length_nil, List.cons_append, List.nil_append, List.replicate_succ, List.replicate_zero, Option.map_some, Option.bind_some, Nat.reduceAdd, Nat.reduceSub, Nat.reduceLT, Nat.reduceLeDiff, if_true, if_false, Bool.false_eq_true, decide_eq_true_eq, reduceIte, ne_eq, not_false_eq_true, Nat.lt_add_left_iff_pos, Nat.zero_lt_succ, x_call1, x_call2, x_call3, x_call4, dk1, dk2, dk3, dk4, ixV_V, Nat.reduceEqDiff, not_false_eq_true, x_isLst, x_isSet, List.map_cons, List.map_nil, Option.map_none, Option.bind_none, c1, decide_false, Bool.false_and]
def sureD (F : Int) (cs : List Cell) : D := .dT ((cs.filter (sureB F cs)).map fun c => (kK c.1, .int (bst (tl c))))
theorem kk_nodup {cs : List Cell} (o : GOk cs) : (cs.map fun c => kK c.1).Nodup := by
  have := o.keys
  rw [List.Nodup, List.pairwise_map] at this ⊢
  exact this.imp fun h c => h (kK_inj c)
theorem ev_sure {cs : List Cell} (o : GOk cs) {F : Int} : m_sure [.imm (grD cs), .imm (.int F)] = some (.ok (if F < Lst cs then .non else sureD F cs), [.no, .no]) := by
  unfold m_sure b_sure
  rw [x_fn]
  have e0 : ([.imm (grD cs), .imm (.int F)] ++ List.replicate (4 - 2) Sl.no : Env) = [.imm (grD cs), .imm (.int F), .no, .no] := rfl
  rw [e0, ssq (δ1 := [.imm (grD cs), .imm (.int F), .imm (.int (Lst cs)), .no]) (by simp only [x_bind, bk_ok, bk_ite, x_ret, x_lift, lk_some, lk_ite, app_ite, x_eC, x_eV, vk_imm, vk_own, vk_bor, x_give, gk_own, x_bin, x_un, x_ix, x_tru, x_eB, dBl_bl, dTru_bl, dTru_int, dTru_lst, x_and, x_or, x_not, x_eAnd, x_eOr, x_eNot, x_eIf, x_chain, x_aNil, x_aCons, x_aVr, rk_own, rk_io, x_aVb, tk_own, tk_io, tk_imm, tk_bor, x_eTup, x_eLst, imms_nil, imms_im, x_eF, x_call, ixV_C, jk_imm, jk_own, jk_io, jk_bor, flk_int, x_lenV, nk_imm, nk_own, nk_io, nk_bor, x_inV, hk_imm, hk_own, hk_io, hk_bor, x_sNx, x_pass, x_cont, x_brk, x_seq, sk_nx, sk_rt, sk_rtO, sk_ct, sk_bk, sk_ite, x_drop, x_sRet, x_sRetO, x_sIf, x_asg, x_asgO, x_gN, x_gO, x_gNil, x_gCons, x_gTt, x_gTl, x_sApp, x_sSet, x_chM, ck_own, ck_io, x_iOf, x_iRg, x_fn, fk_rt, fk_nx, fk_ite, ios_z, ios_s, keep_io, keep_imm, keep_own, keep_bor, keep_no, dSub_i, dAdd_i, dLt_i, dLe_i, dGt_i, dGe_i, dEq_int, dNe_int, ix_lst, ix_scr, ix_tup, atI_0, atI_1, atI_2, atI_3, List.getElem?_cons_zero, List.getElem?_cons_succ, List.set_cons_zero, List.set_cons_succ, List.length_cons, List.length_nil, List.cons_append, List.nil_append, List.replicate_succ, List.replicate_zero, Option.map_some, Option.bind_some, Nat.reduceAdd, Nat.reduceSub, Nat.reduceLT, Nat.reduceLeDiff, if_true, if_false, Bool.false_eq_true, decide_eq_true_eq, reduceIte, ne_eq, not_false_eq_true, Nat.lt_add_left_iff_pos, Nat.zero_lt_succ, x_call1, x_call2, x_call3, x_call4, dk1, dk2, dk3, dk4, ixV_V, Nat.reduceEqDiff, not_false_eq_true, x_isLst, x_isSet, List.map_cons, List.map_nil, Option.map_none, Option.bind_none, ev_least o]) rfl, x_seq]
  by_cases c1 : F < Lst cs
  · rw [sIf_t (δ1 := [.imm (grD cs), .imm (.int F), .imm (.int (Lst cs)), .no]) (by simp only [x_bind, bk_ok, bk_ite, x_ret, x_lift, lk_some, lk_ite, app_ite, x_eC, x_eV, vk_imm, vk_own, vk_bor, x_give, gk_own, x_bin, x_un, x_ix, x_tru, x_eB, dBl_bl, dTru_bl, dTru_int, dTru_lst, x_and, x_or, x_not, x_eAnd, x_eOr, x_eNot, x_eIf, x_chain, x_aNil, x_aCons, x_aVr, rk_own, rk_io, x_aVb, tk_own, tk_io, tk_imm, tk_bor, x_eTup, x_eLst, imms_nil, imms_im, x_eF, x_call, ixV_C, jk_imm, jk_own, jk_io, jk_bor, flk_int, x_lenV, nk_imm, nk_own, nk_io, nk_bor, x_inV, hk_imm, hk_own, hk_io, hk_bor, x_sNx, x_pass, x_cont, x_brk, x_seq, sk_nx, sk_rt, sk_rtO, sk_ct, sk_bk, sk_ite, x_drop, x_sRet, x_sRetO, x_sIf, x_asg, x_asgO, x_gN, x_gO, x_gNil, x_gCons, x_gTt, x_gTl, x_sApp, x_sSet, x_chM, ck_own, ck_io, x_iOf, x_iRg, x_fn, fk_rt, fk_nx, fk_ite, ios_z, ios_s, keep_io, keep_imm, keep_own, keep_bor, keep_no, dSub_i, dAdd_i, dLt_i, dLe_i, dGt_i, dGe_i, dEq_int, dNe_int, ix_lst, ix_scr, ix_tup, atI_0, atI_1, atI_2, atI_3, List.getElem?_cons_zero, List.getElem?_cons_succ, List.set_cons_zero, List.set_cons_succ, List.length_cons, List.length_nil, List.cons_append, List.nil_append, List.replicate_succ, List.replicate_zero, Option.map_some, Option.bind_some, Nat.reduceAdd, Nat.reduceSub, Nat.reduceLT, Nat.reduceLeDiff, if_true, if_false, Bool.false_eq_true, decide_eq_true_eq, reduceIte, ne_eq, not_false_eq_true, Nat.lt_add_left_iff_pos, Nat.zero_lt_succ, x_call1, x_call2, x_call3, x_call4, dk1, dk2, dk3, dk4, ixV_V, Nat.reduceEqDiff, not_false_eq_true, x_isLst, x_isSet, List.map_cons, List.map_nil, Option.map_none, Option.bind_none, c1, decide_true]), if_pos c1]
    simp only [x_bind, bk_ok, bk_ite, x_ret, x_lift, lk_some, lk_ite, app_ite, x_eC, x_eV, vk_imm, vk_own, vk_bor, x_give, gk_own, x_bin, x_un, x_ix, x_tru, x_eB, dBl_bl, dTru_bl, dTru_int, dTru_lst, x_and, x_or, x_not, x_eAnd, x_eOr, x_eNot, x_eIf, x_chain, x_aNil, x_aCons, x_aVr, rk_own, rk_io, x_aVb, tk_own, tk_io, tk_imm, tk_bor, x_eTup, x_eLst, imms_nil, imms_im, x_eF, x_call, ixV_C, jk_imm, jk_own, jk_io, jk_bor, flk_int, x_lenV, nk_imm, nk_own, nk_io, nk_bor, x_inV, hk_imm, hk_own, hk_io, hk_bor, x_sNx, x_pass, x_cont, x_brk, x_seq, sk_nx, sk_rt, sk_rtO, sk_ct, sk_bk, sk_ite, x_drop, x_sRet, x_sRetO, x_sIf, x_asg, x_asgO, x_gN, x_gO, x_gNil, x_gCons, x_gTt, x_gTl, x_sApp, x_sSet, x_chM, ck_own, ck_io, x_iOf, x_iRg, x_fn, fk_rt, fk_nx, fk_ite, ios_z, ios_s, keep_io, keep_imm, keep_own, keep_bor, keep_no, dSub_i, dAdd_i, dLt_i, dLe_i, dGt_i, dGe_i, dEq_int, dNe_int, ix_lst, ix_scr, ix_tup, atI_0, atI_1, atI_2, atI_3, List.getElem?_cons_zero, List.getElem?_cons_succ, List.set_cons_zero, List.set_cons_succ, List.length_cons, List.length_nil, List.cons_append, List.nil_append, List.replicate_succ, List.replicate_zero, Option.map_some, Option.bind_some, Nat.reduceAdd, Nat.reduceSub, Nat.reduceLT, Nat.reduceLeDiff, if_true, if_false, Bool.false_eq_true, decide_eq_true_eq, reduceIte, ne_eq, not_false_eq_true, Nat.lt_add_left_iff_pos, Nat.zero_lt_succ, x_call1, x_call2, x_call3, x_call4, dk1, dk2, dk3, dk4, ixV_V, Nat.reduceEqDiff, not_false_eq_true, x_isLst, x_isSet, List.map_cons, List.map_nil, Option.map_none, Option.bind_none]
  · rw [sIf_f (δ1 := [.imm (grD cs), .imm (.int F), .imm (.int (Lst cs)), .no]) (by simp only [x_bind, bk_ok, bk_ite, x_ret, x_lift, lk_some, lk_ite, app_ite, x_eC, x_eV, vk_imm, vk_own, vk_bor, x_give, gk_own, x_bin, x_un, x_ix, x_tru, x_eB, dBl_bl, dTru_bl, dTru_int, dTru_lst, x_and, x_or, x_not, x_eAnd, x_eOr, x_eNot, x_eIf, x_chain, x_aNil, x_aCons, x_aVr, rk_own, rk_io, x_aVb, tk_own, tk_io, tk_imm, tk_bor, x_eTup, x_eLst, imms_nil, imms_im, x_eF, x_call, ixV_C, jk_imm, jk_own, jk_io, jk_bor, flk_int, x_lenV, nk_imm, nk_own, nk_io, nk_bor, x_inV, hk_imm, hk_own, hk_io, hk_bor, x_sNx, x_pass, x_cont, x_brk, x_seq, sk_nx, sk_rt, sk_rtO, sk_ct, sk_bk, sk_ite, x_drop, x_sRet, x_sRetO, x_sIf, x_asg, x_asgO, x_gN, x_gO, x_gNil, x_gCons, x_gTt, x_gTl, x_sApp, x_sSet, x_chM, ck_own, ck_io, x_iOf, x_iRg, x_fn, fk_rt, fk_nx, fk_ite, ios_z, ios_s, keep_io, keep_imm, keep_own, keep_bor, keep_no, dSub_i, dAdd_i, dLt_i, dLe_i, dGt_i, dGe_i, dEq_int, dNe_int, ix_lst, ix_scr, ix_tup, atI_0, atI_1, atI_2, atI_3, List.getElem?_cons_zero, List.getElem?_cons_succ, List.set_cons_zero, List.set_cons_succ, List.length_cons, List.length_nil, List.cons_append, List.nil_append, List.replicate_succ, List.replicate_zero, Option.map_some, Option.bind_some, Nat.reduceAdd, Nat.reduceSub, Nat.reduceLT, Nat.reduceLeDiff, if_true, if_false, Bool.false_eq_true, decide_eq_true_eq, reduceIte, ne_eq, not_false_eq_true, Nat.lt_add_left_iff_pos, Nat.zero_lt_succ, x_call1, x_call2, x_call3, x_call4, dk1, dk2, dk3, dk4, ixV_V, Nat.reduceEqDiff, not_false_eq_true, x_isLst, x_isSet, List.map_cons, List.map_nil, Option.map_none, Option.bind_none, c1, decide_false]), if_neg c1, x_sNx, sk_nx, x_sRet]
    rw [eDcT_map (l := cs) (g := fun c => kT c.1) (p := sureB F cs) (kk := fun c => kK c.1) (f := fun c => .int (bst (tl c))) (δ0 := [.imm (grD cs), .imm (.int F), .imm (.int (Lst cs)), .no])]
    · simp only [x_bind, bk_ok, bk_ite, x_ret, x_lift, lk_some, lk_ite, app_ite, x_eC, x_eV, vk_imm, vk_own, vk_bor, x_give, gk_own, x_bin, x_un, x_ix, x_tru, x_eB, dBl_bl, dTru_bl, dTru_int, dTru_lst, x_and, x_or, x_not, x_eAnd, x_eOr, x_eNot, x_eIf, x_chain, x_aNil, x_aCons, x_aVr, rk_own, rk_io, x_aVb, tk_own, tk_io, tk_imm, tk_bor, x_eTup, x_eLst, imms_nil, imms_im, x_eF, x_call, ixV_C, jk_imm, jk_own, jk_io, jk_bor, flk_int, x_lenV, nk_imm, nk_own, nk_io, nk_bor, x_inV, hk_imm, hk_own, hk_io, hk_bor, x_sNx, x_pass, x_cont, x_brk, x_seq, sk_nx, sk_rt, sk_rtO, sk_ct, sk_bk, sk_ite, x_drop, x_sRet, x_sRetO, x_sIf, x_asg, x_asgO, x_gN, x_gO, x_gNil, x_gCons, x_gTt, x_gTl, x_sApp, x_sSet, x_chM, ck_own, ck_io, x_iOf, x_iRg, x_fn, fk_rt, fk_nx, fk_ite, ios_z, ios_s, keep_io, keep_imm, keep_own, keep_bor, keep_no, dSub_i, dAdd_i, dLt_i, dLe_i, dGt_i, dGe_i, dEq_int, dNe_int, ix_lst, ix_scr, ix_tup, atI_0, atI_1, atI_2, atI_3, List.getElem?_cons_zero, List.getElem?_cons_succ, List.set_cons_zero, List.set_cons_succ, List.length_cons, List.length_nil, List.cons_append, List.nil_append, List.replicate_succ, List.replicate_zero, Option.map_some, Option.bind_some, Nat.reduceAdd, Nat.reduceSub, Nat.reduceLT, Nat.reduceLeDiff, if_true, if_false, Bool.false_eq_true, decide_eq_true_eq, reduceIte, ne_eq, not_false_eq_true, Nat.lt_add_left_iff_pos, Nat.zero_lt_succ, x_call1, x_call2, x_call3, x_call4, dk1, dk2, dk3, dk4, ixV_V, Nat.reduceEqDiff, not_false_eq_true, x_isLst, x_isSet, List.map_cons, List.map_nil, Option.map_none, Option.bind_none, wipeE]
      rfl
    · simp only [x_iKy, x_bind, bk_ok, bk_ite, x_ret, x_lift, lk_some, lk_ite, app_ite, x_eC, x_eV, vk_imm, vk_own, vk_bor, x_give, gk_own, x_bin, x_un, x_ix, x_tru, x_eB, dBl_bl, dTru_bl, dTru_int, dTru_lst, x_and, x_or, x_not, x_eAnd, x_eOr, x_eNot, x_eIf, x_chain, x_aNil, x_aCons, x_aVr, rk_own, rk_io, x_aVb, tk_own, tk_io, tk_imm, tk_bor, x_eTup, x_eLst, imms_nil, imms_im, x_eF, x_call, ixV_C, jk_imm, jk_own, jk_io, jk_bor, flk_int, x_lenV, nk_imm, nk_own, nk_io, nk_bor, x_inV, hk_imm, hk_own, hk_io, hk_bor, x_sNx, x_pass, x_cont, x_brk, x_seq, sk_nx, sk_rt, sk_rtO, sk_ct, sk_bk, sk_ite, x_drop, x_sRet, x_sRetO, x_sIf, x_asg, x_asgO, x_gN, x_gO, x_gNil, x_gCons, x_gTt, x_gTl, x_sApp, x_sSet, x_chM, ck_own, ck_io, x_iOf, x_iRg, x_fn, fk_rt, fk_nx, fk_ite, ios_z, ios_s, keep_io, keep_imm, keep_own, keep_bor, keep_no, dSub_i, dAdd_i, dLt_i, dLe_i, dGt_i, dGe_i, dEq_int, dNe_int, ix_lst, ix_scr, ix_tup, atI_0, atI_1, atI_2, atI_3, List.getElem?_cons_zero, List.getElem?_cons_succ, List.set_cons_zero, List.set_cons_succ, List.length_cons, List.length_nil, List.cons_append, List.nil_append, List.replicate_succ, List.replicate_zero, Option.map_some, Option.bind_some, Nat.reduceAdd, Nat.reduceSub, Nat.reduceLT, Nat.reduceLeDiff, if_true, if_false, Bool.false_eq_true, decide_eq_true_eq, reduceIte, ne_eq, not_false_eq_true, Nat.lt_add_left_iff_pos, Nat.zero_lt_succ, x_call1, x_call2, x_call3, x_call4, dk1, dk2, dk3, dk4, ixV_V, Nat.reduceEqDiff, not_false_eq_true, x_isLst, x_isSet, List.map_cons, List.map_nil, Option.map_none, Option.bind_none, kyk_imm, keys_gr]
    · have := o.len; omega
    · exact kk_nodup o
    · intro c hc
      refine ⟨[.imm (grD cs), .imm (.int F), .imm (.int (Lst cs)), .imm (kT c.1)], [.imm (grD cs), .imm (.int F), .imm (.int (Lst cs)), .imm (kT c.1)], ?_, ?_, fun _ => rfl, fun _ => ⟨kT c.1, [.imm (grD cs), .imm (.int F), .imm (.int (Lst cs)), .imm (kT c.1)], [.imm (grD cs), .imm (.int F), .imm (.int (Lst cs)), .imm (kT c.1)], rfl, rfl, ?_, rfl⟩⟩
      · simp only [x_bind, bk_ok, bk_ite, x_ret, x_lift, lk_some, lk_ite, app_ite, x_eC, x_eV, vk_imm, vk_own, vk_bor, x_give, gk_own, x_bin, x_un, x_ix, x_tru, x_eB, dBl_bl, dTru_bl, dTru_int, dTru_lst, x_and, x_or, x_not, x_eAnd, x_eOr, x_eNot, x_eIf, x_chain, x_aNil, x_aCons, x_aVr, rk_own, rk_io, x_aVb, tk_own, tk_io, tk_imm, tk_bor, x_eTup, x_eLst, imms_nil, imms_im, x_eF, x_call, ixV_C, jk_imm, jk_own, jk_io, jk_bor, flk_int, x_lenV, nk_imm, nk_own, nk_io, nk_bor, x_inV, hk_imm, hk_own, hk_io, hk_bor, x_sNx, x_pass, x_cont, x_brk, x_seq, sk_nx, sk_rt, sk_rtO, sk_ct, sk_bk, sk_ite, x_drop, x_sRet, x_sRetO, x_sIf, x_asg, x_asgO, x_gN, x_gO, x_gNil, x_gCons, x_gTt, x_gTl, x_sApp, x_sSet, x_chM, ck_own, ck_io, x_iOf, x_iRg, x_fn, fk_rt, fk_nx, fk_ite, ios_z, ios_s, keep_io, keep_imm, keep_own, keep_bor, keep_no, dSub_i, dAdd_i, dLt_i, dLe_i, dGt_i, dGe_i, dEq_int, dNe_int, ix_lst, ix_scr, ix_tup, atI_0, atI_1, atI_2, atI_3, List.getElem?_cons_zero, List.getElem?_cons_succ, List.set_cons_zero, List.set_cons_succ, List.length_cons, List.length_nil, List.cons_append, List.nil_append, List.replicate_succ, List.replicate_zero, Option.map_some, Option.bind_some, Nat.reduceAdd, Nat.reduceSub, Nat.reduceLT, Nat.reduceLeDiff, if_true, if_false, Bool.false_eq_true, decide_eq_true_eq, reduceIte, ne_eq, not_false_eq_true, Nat.lt_add_left_iff_pos, Nat.zero_lt_succ, x_call1, x_call2, x_call3, x_call4, dk1, dk2, dk3, dk4, ixV_V, Nat.reduceEqDiff, not_false_eq_true, x_isLst, x_isSet, List.map_cons, List.map_nil, Option.map_none, Option.bind_none, wipeE]
      · simp only [x_bind, bk_ok, bk_ite, x_ret, x_lift, lk_some, lk_ite, app_ite, x_eC, x_eV, vk_imm, vk_own, vk_bor, x_give, gk_own, x_bin, x_un, x_ix, x_tru, x_eB, dBl_bl, dTru_bl, dTru_int, dTru_lst, x_and, x_or, x_not, x_eAnd, x_eOr, x_eNot, x_eIf, x_chain, x_aNil, x_aCons, x_aVr, rk_own, rk_io, x_aVb, tk_own, tk_io, tk_imm, tk_bor, x_eTup, x_eLst, imms_nil, imms_im, x_eF, x_call, ixV_C, jk_imm, jk_own, jk_io, jk_bor, flk_int, x_lenV, nk_imm, nk_own, nk_io, nk_bor, x_inV, hk_imm, hk_own, hk_io, hk_bor, x_sNx, x_pass, x_cont, x_brk, x_seq, sk_nx, sk_rt, sk_rtO, sk_ct, sk_bk, sk_ite, x_drop, x_sRet, x_sRetO, x_sIf, x_asg, x_asgO, x_gN, x_gO, x_gNil, x_gCons, x_gTt, x_gTl, x_sApp, x_sSet, x_chM, ck_own, ck_io, x_iOf, x_iRg, x_fn, fk_rt, fk_nx, fk_ite, ios_z, ios_s, keep_io, keep_imm, keep_own, keep_bor, keep_no, dSub_i, dAdd_i, dLt_i, dLe_i, dGt_i, dGe_i, dEq_int, dNe_int, ix_lst, ix_scr, ix_tup, atI_0, atI_1, atI_2, atI_3, List.getElem?_cons_zero, List.getElem?_cons_succ, List.set_cons_zero, List.set_cons_succ, List.length_cons, List.length_nil, List.cons_append, List.nil_append, List.replicate_succ, List.replicate_zero, Option.map_some, Option.bind_some, Nat.reduceAdd, Nat.reduceSub, Nat.reduceLT, Nat.reduceLeDiff, if_true, if_false, Bool.false_eq_true, decide_eq_true_eq, reduceIte, ne_eq, not_false_eq_true, Nat.lt_add_left_iff_pos, Nat.zero_lt_succ, x_call1, x_call2, x_call3, x_call4, dk1, dk2, dk3, dk4, ixV_V, Nat.reduceEqDiff, not_false_eq_true, x_isLst, x_isSet, List.map_cons, List.map_nil, Option.map_none, Option.bind_none, ev_is_sure o hc]
      · simp only [x_bind, bk_ok, bk_ite, x_ret, x_lift, lk_some, lk_ite, app_ite, x_eC, x_eV, vk_imm, vk_own, vk_bor, x_give, gk_own, x_bin, x_un, x_ix, x_tru, x_eB, dBl_bl, dTru_bl, dTru_int, dTru_lst, x_and, x_or, x_not, x_eAnd, x_eOr, x_eNot, x_eIf, x_chain, x_aNil, x_aCons, x_aVr, rk_own, rk_io, x_aVb, tk_own, tk_io, tk_imm, tk_bor, x_eTup, x_eLst, imms_nil, imms_im, x_eF, x_call, ixV_C, jk_imm, jk_own, jk_io, jk_bor, flk_int, x_lenV, nk_imm, nk_own, nk_io, nk_bor, x_inV, hk_imm, hk_own, hk_io, hk_bor, x_sNx, x_pass, x_cont, x_brk, x_seq, sk_nx, sk_rt, sk_rtO, sk_ct, sk_bk, sk_ite, x_drop, x_sRet, x_sRetO, x_sIf, x_asg, x_asgO, x_gN, x_gO, x_gNil, x_gCons, x_gTt, x_gTl, x_sApp, x_sSet, x_chM, ck_own, ck_io, x_iOf, x_iRg, x_fn, fk_rt, fk_nx, fk_ite, ios_z, ios_s, keep_io, keep_imm, keep_own, keep_bor, keep_no, dSub_i, dAdd_i, dLt_i, dLe_i, dGt_i, dGe_i, dEq_int, dNe_int, ix_lst, ix_scr, ix_tup, atI_0, atI_1, atI_2, atI_3, List.getElem?_cons_zero, List.getElem?_cons_succ, List.set_cons_zero, List.set_cons_succ, List.length_cons, List.length_nil, List.cons_append, List.nil_append, List.replicate_succ, List.replicate_zero, Option.map_some, Option.bind_some, Nat.reduceAdd, Nat.reduceSub, Nat.reduceLT, Nat.reduceLeDiff, if_true, if_false, Bool.false_eq_true, decide_eq_true_eq, reduceIte, ne_eq, not_false_eq_true, Nat.lt_add_left_iff_pos, Nat.zero_lt_succ, x_call1, x_call2, x_call3, x_call4, dk1, dk2, dk3, dk4, ixV_V, Nat.reduceEqDiff, not_false_eq_true, x_isLst, x_isSet, List.map_cons, List.map_nil, Option.map_none, Option.bind_none, ev_best o hc]
end M

set_option Elab.async false
set_option linter.all false
set_option maxRecDepth 100000
set_option maxHeartbeats 1000000
namespace M
open PySem L2
/-! ### the ground that is drawn -/
def nmS (j : Nat) : Str := (("v" : Str) ++ ((toString ((j : Nat) : Int) : String) : Str))
theorem nm_len : ∀ j : Nat, j < 20 → ((toString ((j : Nat) : Int) : String) : Str).length ≤ 100 ∧ ((j : Nat) : Int).natAbs.log2 < 1920 := by decide +kernel
theorem ev_nm {j : Nat} (h : j < 20) : (fStr [.int ((j : Nat) : Int)]).bind (dAdd (.str "v")) = some (.str (nmS j)) := by
  obtain ⟨h1, h2⟩ := nm_len j h
  show ((if ((j : Nat) : Int).natAbs.log2 < 1920 then some (D.str ((toString ((j : Nat) : Int) : String) : Str)) else none)).bind (dAdd (.str "v")) = _
  rw [if_pos h2, Option.bind_some]
  show (if ("v" : Str).length + ((toString ((j : Nat) : Int) : String) : Str).length ≤ sizeLine then some (D.str (("v" : Str) ++ ((toString ((j : Nat) : Int) : String) : Str))) else none) = _
  rw [if_pos]
  · rfl
  · have : ("v" : Str).length = 1 := by decide +kernel
    have := small1000 (show 1000 ≤ 1000 by omega)
    omega
def NmOk (s : Str) : Prop := (toPy (.str s)).canLay0 = true
theorem nm_ok : ∀ j : Nat, j < 20 → NmOk (nmS j) := by
  unfold NmOk
  decide +kernel
def GdV (v : Int) : Prop := v = 0 ∨ v = 1 ∨ v = 2 ∨ v = 5 ∨ v = -3
theorem five_at {t : Int} (h0 : 0 ≤ t) (h : t < 5) : ∃ v, dIx (.lst [.int 0, .int 1, .int 2, .int 5, .int (-3)]) (.int t) = some (.int v) ∧ GdV v := by
  have : t = 0 ∨ t = 1 ∨ t = 2 ∨ t = 3 ∨ t = 4 := by omega
  rcases this with e | e | e | e | e <;> rw [e]
  · exact ⟨0, atI_0, .inl rfl⟩
  · exact ⟨1, atI_1, .inr (.inl rfl)⟩
  · exact ⟨2, atI_2, .inr (.inr (.inl rfl))⟩
  · exact ⟨5, atI_3, .inr (.inr (.inr (.inl rfl)))⟩
  · exact ⟨-3, rfl, .inr (.inr (.inr (.inr rfl)))⟩
def GdR (r : Str × Int) : Prop := GdV r.2 ∧ NmOk r.1
noncomputable def gIn : Mo Out := (sApp 5 (eTup (aCons (eBin dAdd (eC (.str "v")) (eF fStr (aCons (eV 6) aNil))) (aCons (eIx (eLst (aCons (eC (.int 0)) (aCons (eC (.int 1)) (aCons (eC (.int 2)) (aCons (eC (.int 5)) (aCons (eUn dNeg (eC (.int 3))) aNil)))))) (eCall m__law_take (aVr 0 (aCons (eC (.int 5)) aNil)))) aNil))))
theorem ev_gIn {ns : List Int} {d g k a b : D} {rows : List (Str × Int)} {j : Nat} (hd : IsPl ns d) (hj : j < 20) (hl : rows.length ≤ 900) : ∃ d' v, gIn [.io d, .imm a, .imm b, .own g, .imm k, .own (.lst (rows.map rowD)), .imm (.int ((j : Nat) : Int))] = some (.ok .nx, [.io d', .imm a, .imm b, .own g, .imm k, .own (.lst ((rows ++ [(nmS j, v)]).map rowD)), .imm (.int ((j : Nat) : Int))]) ∧ IsPl ns d' ∧ GdR (nmS j, v) := by
  obtain ⟨t, d', c, i, a0, b0⟩ := ev_tk hd (m := 5) (by omega) (by omega)
  obtain ⟨v, e, hv⟩ := five_at a0 b0
  have hn := ev_nm hj
  refine ⟨d', v, ?_, i, hv, nm_ok j hj⟩
  have hs : ∃ x, fStr [.int ((j : Nat) : Int)] = some x ∧ dAdd (.str "v") x = some (.str (nmS j)) := by
    cases q : fStr [.int ((j : Nat) : Int)] with
    | none => rw [q] at hn; cases hn
    | some x => rw [q] at hn; exact ⟨x, rfl, hn⟩
  obtain ⟨x, hx, hy⟩ := hs
  unfold gIn
  rw [List.map_append]
  generalize ((j : Nat) : Int) = J at *
  have e2 : dNeg (.int 3) = some (.int (-3)) := rfl
  have e3 : dAppend (.tup [.str (nmS j), .int v]) (.lst (rows.map rowD)) = some (.lst (rows.map rowD ++ List.map rowD [(nmS j, v)])) := dApp_l (by rw [List.length_map]; omega)
  simp only [x_bind, bk_ok, bk_ite, x_ret, x_lift, lk_some, lk_ite, app_ite, x_eC, x_eV, vk_imm, vk_own, vk_bor, x_give, gk_own, x_bin, x_un, x_ix, x_tru, x_eB, dBl_bl, dTru_bl, dTru_int, dTru_lst, x_and, x_or, x_not, x_eAnd, x_eOr, x_eNot, x_eIf, x_chain, x_aNil, x_aCons, x_aVr, rk_own, rk_io, x_aVb, tk_own, tk_io, tk_imm, tk_bor, x_eTup, x_eLst, imms_nil, imms_im, x_eF, x_call, ixV_C, jk_imm, jk_own, jk_io, jk_bor, flk_int, x_lenV, nk_imm, nk_own, nk_io, nk_bor, x_inV, hk_imm, hk_own, hk_io, hk_bor, x_sNx, x_pass, x_cont, x_brk, x_seq, sk_nx, sk_rt, sk_rtO, sk_ct, sk_bk, sk_ite, x_drop, x_sRet, x_sRetO, x_sIf, x_asg, x_asgO, x_gN, x_gO, x_gNil, x_gCons, x_gTt, x_gTl, x_sApp, x_sSet, x_chM, ck_own, ck_io, x_iOf, x_iRg, x_fn, fk_rt, fk_nx, fk_ite, ios_z, ios_s, keep_io, keep_imm, keep_own, keep_bor, keep_no, dSub_i, dAdd_i, dLt_i, dLe_i, dGt_i, dGe_i, dEq_int, dNe_int, ix_lst, ix_scr, ix_tup, atI_0, atI_1, atI_2, atI_3, List.getElem?_cons_zero, List.getElem?_cons_succ, List.set_cons_zero, List.set_cons_succ, List.length_cons, List.length_nil, List.cons_append, List.nil_append, List.replicate_succ, List.replicate_zero, Option.map_some, Option.bind_some, Nat.reduceAdd, Nat.reduceSub, Nat.reduceLT, Nat.reduceLeDiff, if_true, if_false, Bool.false_eq_true, decide_eq_true_eq, reduceIte, ne_eq, not_false_eq_true, Nat.lt_add_left_iff_pos, Nat.zero_lt_succ, x_call1, x_call2, x_call3, x_call4, dk1, dk2, dk3, dk4, ixV_V, Nat.reduceEqDiff, not_false_eq_true, x_isLst, x_isSet, List.map_cons, List.map_nil, Option.map_none, Option.bind_none, hx, hy, e2, c, e, iLk_l, e3]
def gdRows (n : Nat) (rows : List (Str × Int)) : Prop := rows ≠ [] ∧ rows.length ≤ n ∧ ∀ r ∈ rows, GdR r
noncomputable def gOut : Mo Out := (sSeq (sAsgO 5 (eLst aNil))
 (sSeq (sFor (iRg rg1 (aCons (eBin dAdd (eC (.int 1)) (eCall m__law_take (aVr 0 (aCons (eV 2) aNil)))) aNil)) (gN 6) gIn)
 (sSet 3 (eTup (aCons (eBin dMod (eV 4) (eC (.int 2))) (aCons (eBin dDiv (eV 4) (eC (.int 2))) aNil))) (eF fTuple (aCons (eV 5) aNil)))))
def keyAt (k : Nat) : Int × Int := ((k : Int) % 2, (k : Int) / 2)
theorem keyAt_inj {a b : Nat} (h : keyAt a = keyAt b) : a = b := by
  unfold keyAt at h
  have h1 := congrArg Prod.fst h
  have h2 := congrArg Prod.snd h
  simp only at h1 h2
  omega
theorem ev_gOut {ns : List Int} {d a : D} {cs : List Cell} {b : Nat} {y5 y6 : Sl} (hd : IsPl ns d) (hb : 0 < b) (hb2 : b ≤ 20) (hk : cs.map (·.1) = (List.range cs.length).map keyAt) (hl : cs.length ≤ 20) :
    ∃ d' rows y6', gOut [.io d, .imm a, .imm (.int (b : Nat)), .own (grD cs), .imm (.int (cs.length : Nat)), y5, y6] = some (.ok .nx, [.io d', .imm a, .imm (.int (b : Nat)), .own (grD (cs ++ [(keyAt cs.length, rows)])), .imm (.int (cs.length : Nat)), .imm (.lst (rows.map rowD)), y6']) ∧ IsPl ns d' ∧ gdRows b rows := by
  obtain ⟨t, d1, c, i, a0, b0⟩ := ev_tk hd (m := (b : Nat)) (by omega) (by omega)
  obtain ⟨m, rfl⟩ : ∃ m : Nat, t = (m : Int) := ⟨t.toNat, by omega⟩
  obtain ⟨δ1, f1, d2, rows, y2, rfl, i2, l2, ok2⟩ := sFor_inv (I := (iRg rg1 (aCons (eBin dAdd (eC (.int 1)) (eCall m__law_take (aVr 0 (aCons (eV 2) aNil)))) aNil))) (T := gN 6) (S := gIn) (ds := rgD 0 (1 + m))
    (δ := [.io d, .imm a, .imm (.int (b : Nat)), .own (grD cs), .imm (.int (cs.length : Nat)), .own (.lst []), y6]) (δ0 := [.io d1, .imm a, .imm (.int (b : Nat)), .own (grD cs), .imm (.int (cs.length : Nat)), .own (.lst []), y6])
    (fun k δ => ∃ (d' : D) (rows : List (Str × Int)) (y : Sl), δ = [.io d', .imm a, .imm (.int (b : Nat)), .own (grD cs), .imm (.int (cs.length : Nat)), .own (.lst (rows.map rowD)), y] ∧ IsPl ns d' ∧ rows.length = k ∧ ∀ r ∈ rows, GdR r)
    (by
      have e : (1 : Int) + (m : Nat) = ((1 + m : Nat) : Int) := by omega
      simp only [x_bind, bk_ok, bk_ite, x_ret, x_lift, lk_some, lk_ite, app_ite, x_eC, x_eV, vk_imm, vk_own, vk_bor, x_give, gk_own, x_bin, x_un, x_ix, x_tru, x_eB, dBl_bl, dTru_bl, dTru_int, dTru_lst, x_and, x_or, x_not, x_eAnd, x_eOr, x_eNot, x_eIf, x_chain, x_aNil, x_aCons, x_aVr, rk_own, rk_io, x_aVb, tk_own, tk_io, tk_imm, tk_bor, x_eTup, x_eLst, imms_nil, imms_im, x_eF, x_call, ixV_C, jk_imm, jk_own, jk_io, jk_bor, flk_int, x_lenV, nk_imm, nk_own, nk_io, nk_bor, x_inV, hk_imm, hk_own, hk_io, hk_bor, x_sNx, x_pass, x_cont, x_brk, x_seq, sk_nx, sk_rt, sk_rtO, sk_ct, sk_bk, sk_ite, x_drop, x_sRet, x_sRetO, x_sIf, x_asg, x_asgO, x_gN, x_gO, x_gNil, x_gCons, x_gTt, x_gTl, x_sApp, x_sSet, x_chM, ck_own, ck_io, x_iOf, x_iRg, x_fn, fk_rt, fk_nx, fk_ite, ios_z, ios_s, keep_io, keep_imm, keep_own, keep_bor, keep_no, dSub_i, dAdd_i, dLt_i, dLe_i, dGt_i, dGe_i, dEq_int, dNe_int, ix_lst, ix_scr, ix_tup, atI_0, atI_1, atI_2, atI_3, List.getElem?_cons_zero, List.getElem?_cons_succ, List.set_cons_zero, List.set_cons_succ, List.length_cons, List.length_nil, List.cons_append, List.nil_append, List.replicate_succ, List.replicate_zero, Option.map_some, Option.bind_some, Nat.reduceAdd, Nat.reduceSub, Nat.reduceLT, Nat.reduceLeDiff, if_true, if_false, Bool.false_eq_true, decide_eq_true_eq, reduceIte, ne_eq, not_false_eq_true, Nat.lt_add_left_iff_pos, Nat.zero_lt_succ, x_call1, x_call2, x_call3, x_call4, dk1, dk2, dk3, dk4, ixV_V, Nat.reduceEqDiff, not_false_eq_true, x_isLst, x_isSet, List.map_cons, List.map_nil, Option.map_none, Option.bind_none, c, e, rg1_n (show 1 + m ≤ 1000 by omega)]) ⟨d1, [], y6, rfl, i, rfl, fun r hr => by simp at hr⟩ (fun k d δ hk hδ => by
      obtain ⟨d', rows, y, rfl, hd', hl, hok⟩ := hδ
      obtain ⟨hk, rfl⟩ := rgD_get hk
      obtain ⟨d2, v, e1, j1, g1⟩ := ev_gIn (g := grD cs) (k := .int (cs.length : Nat)) (a := a) (b := .int (b : Nat)) (rows := rows) (j := k) hd' (by omega) (by omega)
      exact ⟨[.io d', .imm a, .imm (.int (b : Nat)), .own (grD cs), .imm (.int (cs.length : Nat)), .own (.lst (rows.map rowD)), .imm (.int (k : Int))], _, by simp only [x_bind, bk_ok, bk_ite, x_ret, x_lift, lk_some, lk_ite, app_ite, x_eC, x_eV, vk_imm, vk_own, vk_bor, x_give, gk_own, x_bin, x_un, x_ix, x_tru, x_eB, dBl_bl, dTru_bl, dTru_int, dTru_lst, x_and, x_or, x_not, x_eAnd, x_eOr, x_eNot, x_eIf, x_chain, x_aNil, x_aCons, x_aVr, rk_own, rk_io, x_aVb, tk_own, tk_io, tk_imm, tk_bor, x_eTup, x_eLst, imms_nil, imms_im, x_eF, x_call, ixV_C, jk_imm, jk_own, jk_io, jk_bor, flk_int, x_lenV, nk_imm, nk_own, nk_io, nk_bor, x_inV, hk_imm, hk_own, hk_io, hk_bor, x_sNx, x_pass, x_cont, x_brk, x_seq, sk_nx, sk_rt, sk_rtO, sk_ct, sk_bk, sk_ite, x_drop, x_sRet, x_sRetO, x_sIf, x_asg, x_asgO, x_gN, x_gO, x_gNil, x_gCons, x_gTt, x_gTl, x_sApp, x_sSet, x_chM, ck_own, ck_io, x_iOf, x_iRg, x_fn, fk_rt, fk_nx, fk_ite, ios_z, ios_s, keep_io, keep_imm, keep_own, keep_bor, keep_no, dSub_i, dAdd_i, dLt_i, dLe_i, dGt_i, dGe_i, dEq_int, dNe_int, ix_lst, ix_scr, ix_tup, atI_0, atI_1, atI_2, atI_3, List.getElem?_cons_zero, List.getElem?_cons_succ, List.set_cons_zero, List.set_cons_succ, List.length_cons, List.length_nil, List.cons_append, List.nil_append, List.replicate_succ, List.replicate_zero, Option.map_some, Option.bind_some, Nat.reduceAdd, Nat.reduceSub, Nat.reduceLT, Nat.reduceLeDiff, if_true, if_false, Bool.false_eq_true, decide_eq_true_eq, reduceIte, ne_eq, not_false_eq_true, Nat.lt_add_left_iff_pos, Nat.zero_lt_succ, x_call1, x_call2, x_call3, x_call4, dk1, dk2, dk3, dk4, ixV_V, Nat.reduceEqDiff, not_false_eq_true, x_isLst, x_isSet, List.map_cons, List.map_nil, Option.map_none, Option.bind_none], .inl e1, d2, rows ++ [(nmS k, v)], _, rfl, j1, by rw [List.length_append]; show rows.length + 1 = _; omega, fun r hr => by
        rcases List.mem_append.mp hr with hr | hr
        · exact hok r hr
        · rw [List.mem_singleton.mp hr]; exact g1⟩)
  rw [rgD_len] at l2
  refine ⟨d2, rows, y2, ?_, i2, fun z => by rw [z] at l2; simp at l2; omega, by omega, ok2⟩
  unfold gOut
  refine ssq (δ1 := [.io d, .imm a, .imm (.int (b : Nat)), .own (grD cs), .imm (.int (cs.length : Nat)), .own (.lst []), y6]) (by simp only [x_bind, bk_ok, bk_ite, x_ret, x_lift, lk_some, lk_ite, app_ite, x_eC, x_eV, vk_imm, vk_own, vk_bor, x_give, gk_own, x_bin, x_un, x_ix, x_tru, x_eB, dBl_bl, dTru_bl, dTru_int, dTru_lst, x_and, x_or, x_not, x_eAnd, x_eOr, x_eNot, x_eIf, x_chain, x_aNil, x_aCons, x_aVr, rk_own, rk_io, x_aVb, tk_own, tk_io, tk_imm, tk_bor, x_eTup, x_eLst, imms_nil, imms_im, x_eF, x_call, ixV_C, jk_imm, jk_own, jk_io, jk_bor, flk_int, x_lenV, nk_imm, nk_own, nk_io, nk_bor, x_inV, hk_imm, hk_own, hk_io, hk_bor, x_sNx, x_pass, x_cont, x_brk, x_seq, sk_nx, sk_rt, sk_rtO, sk_ct, sk_bk, sk_ite, x_drop, x_sRet, x_sRetO, x_sIf, x_asg, x_asgO, x_gN, x_gO, x_gNil, x_gCons, x_gTt, x_gTl, x_sApp, x_sSet, x_chM, ck_own, ck_io, x_iOf, x_iRg, x_fn, fk_rt, fk_nx, fk_ite, ios_z, ios_s, keep_io, keep_imm, keep_own, keep_bor, keep_no, dSub_i, dAdd_i, dLt_i, dLe_i, dGt_i, dGe_i, dEq_int, dNe_int, ix_lst, ix_scr, ix_tup, atI_0, atI_1, atI_2, atI_3, List.getElem?_cons_zero, List.getElem?_cons_succ, List.set_cons_zero, List.set_cons_succ, List.length_cons, List.length_nil, List.cons_append, List.nil_append, List.replicate_succ, List.replicate_zero, Option.map_some, Option.bind_some, Nat.reduceAdd, Nat.reduceSub, Nat.reduceLT, Nat.reduceLeDiff, if_true, if_false, Bool.false_eq_true, decide_eq_true_eq, reduceIte, ne_eq, not_false_eq_true, Nat.lt_add_left_iff_pos, Nat.zero_lt_succ, x_call1, x_call2, x_call3, x_call4, dk1, dk2, dk3, dk4, ixV_V, Nat.reduceEqDiff, not_false_eq_true, x_isLst, x_isSet, List.map_cons, List.map_nil, Option.map_none, Option.bind_none]) (ssq f1 ?_)
  have e1 : fTuple [.lst (rows.map rowD)] = some (.tup (rows.map rowD)) := rfl
  have e2 : dMod (.int (cs.length : Nat)) (.int 2) = some (.int ((cs.length : Nat) % 2)) := dMod_i (by omega)
  have e3 : dDiv (.int (cs.length : Nat)) (.int 2) = some (.int ((cs.length : Nat) / 2)) := dDiv_i (by omega) (by omega)
  have e4 : dSet (.tup [.int ((cs.length : Nat) % 2), .int ((cs.length : Nat) / 2)]) (.tup (rows.map rowD)) (grD cs) = some (grD (cs ++ [(keyAt cs.length, rows)])) := by
    show (if (cs.map fun c => (kK c.1, rowsD c)).length < sizeLine then some (D.dT (putA (cs.map fun c => (kK c.1, rowsD c)) (kK (keyAt cs.length)) (.tup (rows.map rowD)))) else none) = _
    rw [if_pos (by rw [List.length_map]; exact small1000 (by omega)), putA_new]
    · unfold grD; rw [List.map_append]; rfl
    · intro p hp
      obtain ⟨c, hc, rfl⟩ := List.mem_map.mp hp
      intro z
      have z := kK_inj z
      have : c.1 ∈ cs.map (·.1) := List.mem_map.mpr ⟨c, hc, rfl⟩
      rw [hk] at this
      obtain ⟨q, hq, e⟩ := List.mem_map.mp this
      have := keyAt_inj (e.trans z)
      rw [List.mem_range] at hq
      omega
  generalize ((cs.length : Nat) : Int) = L at *
  simp only [x_bind, bk_ok, bk_ite, x_ret, x_lift, lk_some, lk_ite, app_ite, x_eC, x_eV, vk_imm, vk_own, vk_bor, x_give, gk_own, x_bin, x_un, x_ix, x_tru, x_eB, dBl_bl, dTru_bl, dTru_int, dTru_lst, x_and, x_or, x_not, x_eAnd, x_eOr, x_eNot, x_eIf, x_chain, x_aNil, x_aCons, x_aVr, rk_own, rk_io, x_aVb, tk_own, tk_io, tk_imm, tk_bor, x_eTup, x_eLst, imms_nil, imms_im, x_eF, x_call, ixV_C, jk_imm, jk_own, jk_io, jk_bor, flk_int, x_lenV, nk_imm, nk_own, nk_io, nk_bor, x_inV, hk_imm, hk_own, hk_io, hk_bor, x_sNx, x_pass, x_cont, x_brk, x_seq, sk_nx, sk_rt, sk_rtO, sk_ct, sk_bk, sk_ite, x_drop, x_sRet, x_sRetO, x_sIf, x_asg, x_asgO, x_gN, x_gO, x_gNil, x_gCons, x_gTt, x_gTl, x_sApp, x_sSet, x_chM, ck_own, ck_io, x_iOf, x_iRg, x_fn, fk_rt, fk_nx, fk_ite, ios_z, ios_s, keep_io, keep_imm, keep_own, keep_bor, keep_no, dSub_i, dAdd_i, dLt_i, dLe_i, dGt_i, dGe_i, dEq_int, dNe_int, ix_lst, ix_scr, ix_tup, atI_0, atI_1, atI_2, atI_3, List.getElem?_cons_zero, List.getElem?_cons_succ, List.set_cons_zero, List.set_cons_succ, List.length_cons, List.length_nil, List.cons_append, List.nil_append, List.replicate_succ, List.replicate_zero, Option.map_some, Option.bind_some, Nat.reduceAdd, Nat.reduceSub, Nat.reduceLT, Nat.reduceLeDiff, if_true, if_false, Bool.false_eq_true, decide_eq_true_eq, reduceIte, ne_eq, not_false_eq_true, Nat.lt_add_left_iff_pos, Nat.zero_lt_succ, x_call1, x_call2, x_call3, x_call4, dk1, dk2, dk3, dk4, ixV_V, Nat.reduceEqDiff, not_false_eq_true, x_isLst, x_isSet, List.map_cons, List.map_nil, Option.map_none, Option.bind_none, e1, e2, e3, e4, iSk_own]
structure GDr (n m : Nat) (cs : List Cell) : Prop where
  ne : cs ≠ []
  len : cs.length ≤ n
  key : cs.map (·.1) = (List.range cs.length).map keyAt
  rows : ∀ c ∈ cs, gdRows m c.2
theorem ev_ground {ns : List Int} {d : D} {a b : Nat} (hd : IsPl ns d) (ha : 0 < a) (ha2 : a ≤ 20) (hb : 0 < b) (hb2 : b ≤ 20) :
    ∃ d' cs, m__law_ground [.io d, .imm (.int (a : Nat)), .imm (.int (b : Nat))] = some (.ok (grD cs), [.io d', .no, .no]) ∧ IsPl ns d' ∧ GDr a b cs := by
  obtain ⟨t, d1, c, i, a0, b0⟩ := ev_tk hd (m := (a : Nat)) (by omega) (by omega)
  obtain ⟨m, rfl⟩ : ∃ m : Nat, t = (m : Int) := ⟨t.toNat, by omega⟩
  obtain ⟨δ1, f1, d2, cs, y4, y5, y6, rfl, i2, l2, k2, ok2⟩ := sFor_inv (I := (iRg rg1 (aCons (eBin dAdd (eC (.int 1)) (eCall m__law_take (aVr 0 (aCons (eV 1) aNil)))) aNil))) (T := gN 4) (S := gOut) (ds := rgD 0 (1 + m))
    (δ := [.io d, .imm (.int (a : Nat)), .imm (.int (b : Nat)), .own (grD []), .no, .no, .no]) (δ0 := [.io d1, .imm (.int (a : Nat)), .imm (.int (b : Nat)), .own (grD []), .no, .no, .no])
    (fun k δ => ∃ (d' : D) (cs : List Cell) (y4 y5 y6 : Sl), δ = [.io d', .imm (.int (a : Nat)), .imm (.int (b : Nat)), .own (grD cs), y4, y5, y6] ∧ IsPl ns d' ∧ cs.length = k ∧ cs.map (·.1) = (List.range cs.length).map keyAt ∧ ∀ c ∈ cs, gdRows b c.2)
    (by
      have e : (1 : Int) + (m : Nat) = ((1 + m : Nat) : Int) := by omega
      simp only [x_bind, bk_ok, bk_ite, x_ret, x_lift, lk_some, lk_ite, app_ite, x_eC, x_eV, vk_imm, vk_own, vk_bor, x_give, gk_own, x_bin, x_un, x_ix, x_tru, x_eB, dBl_bl, dTru_bl, dTru_int, dTru_lst, x_and, x_or, x_not, x_eAnd, x_eOr, x_eNot, x_eIf, x_chain, x_aNil, x_aCons, x_aVr, rk_own, rk_io, x_aVb, tk_own, tk_io, tk_imm, tk_bor, x_eTup, x_eLst, imms_nil, imms_im, x_eF, x_call, ixV_C, jk_imm, jk_own, jk_io, jk_bor, flk_int, x_lenV, nk_imm, nk_own, nk_io, nk_bor, x_inV, hk_imm, hk_own, hk_io, hk_bor, x_sNx, x_pass, x_cont, x_brk, x_seq, sk_nx, sk_rt, sk_rtO, sk_ct, sk_bk, sk_ite, x_drop, x_sRet, x_sRetO, x_sIf, x_asg, x_asgO, x_gN, x_gO, x_gNil, x_gCons, x_gTt, x_gTl, x_sApp, x_sSet, x_chM, ck_own, ck_io, x_iOf, x_iRg, x_fn, fk_rt, fk_nx, fk_ite, ios_z, ios_s, keep_io, keep_imm, keep_own, keep_bor, keep_no, dSub_i, dAdd_i, dLt_i, dLe_i, dGt_i, dGe_i, dEq_int, dNe_int, ix_lst, ix_scr, ix_tup, atI_0, atI_1, atI_2, atI_3, List.getElem?_cons_zero, List.getElem?_cons_succ, List.set_cons_zero, List.set_cons_succ, List.length_cons, List.length_nil, List.cons_append, List.nil_append, List.replicate_succ, List.replicate_zero, Option.map_some, Option.bind_some, Nat.reduceAdd, Nat.reduceSub, Nat.reduceLT, Nat.reduceLeDiff, if_true, if_false, Bool.false_eq_true, decide_eq_true_eq, reduceIte, ne_eq, not_false_eq_true, Nat.lt_add_left_iff_pos, Nat.zero_lt_succ, x_call1, x_call2, x_call3, x_call4, dk1, dk2, dk3, dk4, ixV_V, Nat.reduceEqDiff, not_false_eq_true, x_isLst, x_isSet, List.map_cons, List.map_nil, Option.map_none, Option.bind_none, c, e, rg1_n (show 1 + m ≤ 1000 by omega)]) ⟨d1, [], .no, .no, .no, rfl, i, rfl, rfl, fun r hr => by simp at hr⟩ (fun k d δ hk hδ => by
      obtain ⟨d', cs, y4, y5, y6, rfl, hd', hl, hke, hok⟩ := hδ
      obtain ⟨hk, rfl⟩ := rgD_get hk
      subst hl
      obtain ⟨d2, rows, y6', e1, j1, g1⟩ := ev_gOut (a := .int (a : Nat)) (cs := cs) (b := b) (y5 := y5) (y6 := y6) hd' hb hb2 hke (by omega)
      exact ⟨[.io d', .imm (.int (a : Nat)), .imm (.int (b : Nat)), .own (grD cs), .imm (.int (cs.length : Nat)), y5, y6], _, by simp only [x_bind, bk_ok, bk_ite, x_ret, x_lift, lk_some, lk_ite, app_ite, x_eC, x_eV, vk_imm, vk_own, vk_bor, x_give, gk_own, x_bin, x_un, x_ix, x_tru, x_eB, dBl_bl, dTru_bl, dTru_int, dTru_lst, x_and, x_or, x_not, x_eAnd, x_eOr, x_eNot, x_eIf, x_chain, x_aNil, x_aCons, x_aVr, rk_own, rk_io, x_aVb, tk_own, tk_io, tk_imm, tk_bor, x_eTup, x_eLst, imms_nil, imms_im, x_eF, x_call, ixV_C, jk_imm, jk_own, jk_io, jk_bor, flk_int, x_lenV, nk_imm, nk_own, nk_io, nk_bor, x_inV, hk_imm, hk_own, hk_io, hk_bor, x_sNx, x_pass, x_cont, x_brk, x_seq, sk_nx, sk_rt, sk_rtO, sk_ct, sk_bk, sk_ite, x_drop, x_sRet, x_sRetO, x_sIf, x_asg, x_asgO, x_gN, x_gO, x_gNil, x_gCons, x_gTt, x_gTl, x_sApp, x_sSet, x_chM, ck_own, ck_io, x_iOf, x_iRg, x_fn, fk_rt, fk_nx, fk_ite, ios_z, ios_s, keep_io, keep_imm, keep_own, keep_bor, keep_no, dSub_i, dAdd_i, dLt_i, dLe_i, dGt_i, dGe_i, dEq_int, dNe_int, ix_lst, ix_scr, ix_tup, atI_0, atI_1, atI_2, atI_3, List.getElem?_cons_zero, List.getElem?_cons_succ, List.set_cons_zero, List.set_cons_succ, List.length_cons, List.length_nil, List.cons_append, List.nil_append, List.replicate_succ, List.replicate_zero, Option.map_some, Option.bind_some, Nat.reduceAdd, Nat.reduceSub, Nat.reduceLT, Nat.reduceLeDiff, if_true, if_false, Bool.false_eq_true, decide_eq_true_eq, reduceIte, ne_eq, not_false_eq_true, Nat.lt_add_left_iff_pos, Nat.zero_lt_succ, x_call1, x_call2, x_call3, x_call4, dk1, dk2, dk3, dk4, ixV_V, Nat.reduceEqDiff, not_false_eq_true, x_isLst, x_isSet, List.map_cons, List.map_nil, Option.map_none, Option.bind_none], .inl e1, d2, cs ++ [(keyAt cs.length, rows)], _, _, _, rfl, j1, by rw [List.length_append]; rfl, by
        rw [List.map_append, hke, List.length_append]
        show _ = List.map keyAt (List.range (cs.length + 1))
        rw [List.range_succ, List.map_append]; rfl, fun r hr => by
        rcases List.mem_append.mp hr with hr | hr
        · exact hok r hr
        · rw [List.mem_singleton.mp hr]; exact g1⟩)
  rw [rgD_len] at l2
  refine ⟨d2, cs, ?_, i2, fun z => by rw [z] at l2; simp at l2; omega, by omega, k2, ok2⟩
  unfold m__law_ground b__law_ground
  rw [x_fn]
  have e0 : ([.io d, .imm (.int (a : Nat)), .imm (.int (b : Nat))] ++ List.replicate (7 - 3) Sl.no : Env) = [.io d, .imm (.int (a : Nat)), .imm (.int (b : Nat)), .no, .no, .no, .no] := rfl
  rw [e0]
  refine (congrArg (fk 3) (ssq (δ1 := [.io d, .imm (.int (a : Nat)), .imm (.int (b : Nat)), .own (grD []), .no, .no, .no]) rfl (ssq f1 rfl))).trans ?_
  simp only [x_bind, bk_ok, bk_ite, x_ret, x_lift, lk_some, lk_ite, app_ite, x_eC, x_eV, vk_imm, vk_own, vk_bor, x_give, gk_own, x_bin, x_un, x_ix, x_tru, x_eB, dBl_bl, dTru_bl, dTru_int, dTru_lst, x_and, x_or, x_not, x_eAnd, x_eOr, x_eNot, x_eIf, x_chain, x_aNil, x_aCons, x_aVr, rk_own, rk_io, x_aVb, tk_own, tk_io, tk_imm, tk_bor, x_eTup, x_eLst, imms_nil, imms_im, x_eF, x_call, ixV_C, jk_imm, jk_own, jk_io, jk_bor, flk_int, x_lenV, nk_imm, nk_own, nk_io, nk_bor, x_inV, hk_imm, hk_own, hk_io, hk_bor, x_sNx, x_pass, x_cont, x_brk, x_seq, sk_nx, sk_rt, sk_rtO, sk_ct, sk_bk, sk_ite, x_drop, x_sRet, x_sRetO, x_sIf, x_asg, x_asgO, x_gN, x_gO, x_gNil, x_gCons, x_gTt, x_gTl, x_sApp, x_sSet, x_chM, ck_own, ck_io, x_iOf, x_iRg, x_fn, fk_rt, fk_nx, fk_ite, ios_z, ios_s, keep_io, keep_imm, keep_own, keep_bor, keep_no, dSub_i, dAdd_i, dLt_i, dLe_i, dGt_i, dGe_i, dEq_int, dNe_int, ix_lst, ix_scr, ix_tup, atI_0, atI_1, atI_2, atI_3, List.getElem?_cons_zero, List.getElem?_cons_succ, List.set_cons_zero, List.set_cons_succ, List.length_cons, List.length_nil, List.cons_append, List.nil_append, List.replicate_succ, List.replicate_zero, Option.map_some, Option.bind_some, Nat.reduceAdd, Nat.reduceSub, Nat.reduceLT, Nat.reduceLeDiff, if_true, if_false, Bool.false_eq_true, decide_eq_true_eq, reduceIte, ne_eq, not_false_eq_true, Nat.lt_add_left_iff_pos, Nat.zero_lt_succ, x_call1, x_call2, x_call3, x_call4, dk1, dk2, dk3, dk4, ixV_V, Nat.reduceEqDiff, not_false_eq_true, x_isLst, x_isSet, List.map_cons, List.map_nil, Option.map_none, Option.bind_none]
theorem GDr.nodup {n m : Nat} {cs : List Cell} (g : GDr n m cs) : (cs.map (·.1)).Nodup := by
  rw [g.key, List.Nodup, List.pairwise_map]
  exact List.Pairwise.imp (fun h c => h (keyAt_inj c)) List.nodup_range
theorem GDr.ok {n m : Nat} {cs : List Cell} (g : GDr n m cs) (hn : n ≤ 20) (hm : m ≤ 20) : GOk cs := by
  refine ⟨g.nodup, by have := g.len; omega, fun c hc => by have := (g.rows c hc).2.1; omega, fun c hc => ?_⟩
  obtain ⟨h1, h2, h3⟩ := g.rows c hc
  refine ⟨fun z => h1 (List.map_eq_nil_iff.mp z), fun z => ?_⟩
  obtain ⟨r, hr, e⟩ := List.mem_map.mp z
  have := (h3 r hr).1
  unfold GdV at this
  omega
theorem apart_keys : ∀ n : Nat, n ≤ 6 → (∀ k ∈ (List.range n).map fun i => kK (keyAt i), intKey k = true) ∧ (((List.range n).map fun i => kK (keyAt i)).map ikHash).Nodup := by
  intro n hn
  have : n = 0 ∨ n = 1 ∨ n = 2 ∨ n = 3 ∨ n = 4 ∨ n = 5 ∨ n = 6 := by omega
  rcases this with rfl | rfl | rfl | rfl | rfl | rfl | rfl <;> decide +kernel
theorem GDr.apart {n m : Nat} {cs : List Cell} (g : GDr n m cs) (hn : n ≤ 6) : apart (cs.map fun c => kK c.1) := by
  have := apart_keys cs.length (by have := g.len; omega)
  have e : (cs.map fun c => kK c.1) = (List.range cs.length).map fun i => kK (keyAt i) := by
    have := congrArg (List.map kK) g.key
    rw [List.map_map, List.map_map] at this
    exact this
  rw [e]; exact this
end M

set_option Elab.async false
set_option linter.all false
set_option maxRecDepth 100000
set_option maxHeartbeats 1000000
namespace M
open PySem L2
theorem dd_fold : ∀ {l acc : List Int}, ddF acc l = l.foldl (fun acc v => if v ∈ acc then acc else acc ++ [v]) acc
  | [], acc => rfl
  | v :: l, acc => by
    unfold ddF
    rw [List.foldl_cons]
    split
    · exact dd_fold
    · exact dd_fold
theorem dd_take {l : List Int} {i : Nat} {x : Int} (h : l[i]? = some x) : ddF [] (l.take (i + 1)) = if x ∈ ddF [] (l.take i) then ddF [] (l.take i) else ddF [] (l.take i) ++ [x] := by
  rw [dd_fold, foldl_take h, ← dd_fold]
theorem dd_len : ∀ {l acc : List Int}, (ddF acc l).length ≤ acc.length + l.length
  | [], acc => by unfold ddF; simp
  | v :: l, acc => by
    unfold ddF
    split
    · have := dd_len (l := l) (acc := acc); rw [List.length_cons]; omega
    · have := dd_len (l := l) (acc := acc ++ [v]); rw [List.length_append] at this; rw [List.length_cons]
      have e : [v].length = 1 := rfl
      omega
theorem tl_get {c : Cell} {i : Nat} {r : Str × Int} (h : c.2[i]? = some r) : (tl c)[i]? = some r.2 := by unfold tl; rw [List.getElem?_map, h]; rfl
theorem tl_len {c : Cell} : (tl c).length = c.2.length := by unfold tl; rw [List.length_map]
theorem ev_cands {cs : List Cell} (o : GOk cs) {c : Cell} (h : c ∈ cs) : m__law_candidates [.imm (grD cs), .imm (kT c.1)] = some (.ok (iD (cands (tl c))), [.no, .no]) := by
  have hl := o.rows c h
  have hm := mex_un (o.tok c h).no3
  have hr := mex_rg (t := tl c)
  unfold m__law_candidates b__law_candidates
  rw [x_fn]
  have e0 : ([.imm (grD cs), .imm (kT c.1)] ++ List.replicate (5 - 2) Sl.no : Env) = [.imm (grD cs), .imm (kT c.1), .no, .no, .no] := rfl
  rw [e0, ssq (δ1 := [.imm (grD cs), .imm (kT c.1), .own (iD []), .no, .no]) rfl rfl, x_seq]
  rw [sFor_det (ds := c.2.map rowD) (δ0 := [.imm (grD cs), .imm (kT c.1), .own (iD []), .no, .no]) (F := fun k => [.imm (grD cs), .imm (kT c.1), .own (iD (ddF [] ((tl c).take k))), lastY .no (c.2.map rowD) k, .no])]
  · rw [List.length_map, ← tl_len, List.take_length, sk_nx, x_seq]
    generalize lastY .no (c.2.map rowD) (tl c).length = Y
    obtain ⟨m, hmm⟩ : ∃ m : Nat, mex (tl c) = (m : Int) := ⟨(mex (tl c)).toNat, by omega⟩
    rw [sFor_ret (ds := rgD 0 20) (m := m) (dm := .int (m : Int)) (z := iD (cands (tl c))) (δ0 := [.imm (grD cs), .imm (kT c.1), .own (iD (ddF [] (tl c))), Y, .no]) (δ2 := [.imm (grD cs), .imm (kT c.1), .imm (iD (ddF [] (tl c))), Y, .imm (.int (m : Int))]) (F := fun k => [.imm (grD cs), .imm (kT c.1), .own (iD (ddF [] (tl c))), Y, lastY .no (rgD 0 20) k])]
    · rfl
    · simp only [x_bind, bk_ok, bk_ite, x_ret, x_lift, lk_some, lk_ite, app_ite, x_eC, x_eV, vk_imm, vk_own, vk_bor, x_give, gk_own, x_bin, x_un, x_ix, x_tru, x_eB, dBl_bl, dTru_bl, dTru_int, dTru_lst, x_and, x_or, x_not, x_eAnd, x_eOr, x_eNot, x_eIf, x_chain, x_aNil, x_aCons, x_aVr, rk_own, rk_io, x_aVb, tk_own, tk_io, tk_imm, tk_bor, x_eTup, x_eLst, imms_nil, imms_im, x_eF, x_call, ixV_C, jk_imm, jk_own, jk_io, jk_bor, flk_int, x_lenV, nk_imm, nk_own, nk_io, nk_bor, x_inV, hk_imm, hk_own, hk_io, hk_bor, x_sNx, x_pass, x_cont, x_brk, x_seq, sk_nx, sk_rt, sk_rtO, sk_ct, sk_bk, sk_ite, x_drop, x_sRet, x_sRetO, x_sIf, x_asg, x_asgO, x_gN, x_gO, x_gNil, x_gCons, x_gTt, x_gTl, x_sApp, x_sSet, x_chM, ck_own, ck_io, x_iOf, x_iRg, x_fn, fk_rt, fk_nx, fk_ite, ios_z, ios_s, keep_io, keep_imm, keep_own, keep_bor, keep_no, dSub_i, dAdd_i, dLt_i, dLe_i, dGt_i, dGe_i, dEq_int, dNe_int, ix_lst, ix_scr, ix_tup, atI_0, atI_1, atI_2, atI_3, List.getElem?_cons_zero, List.getElem?_cons_succ, List.set_cons_zero, List.set_cons_succ, List.length_cons, List.length_nil, List.cons_append, List.nil_append, List.replicate_succ, List.replicate_zero, Option.map_some, Option.bind_some, Nat.reduceAdd, Nat.reduceSub, Nat.reduceLT, Nat.reduceLeDiff, if_true, if_false, Bool.false_eq_true, decide_eq_true_eq, reduceIte, ne_eq, not_false_eq_true, Nat.lt_add_left_iff_pos, Nat.zero_lt_succ, x_call1, x_call2, x_call3, x_call4, dk1, dk2, dk3, dk4, ixV_V, Nat.reduceEqDiff, not_false_eq_true, x_isLst, x_isSet, List.map_cons, List.map_nil, Option.map_none, Option.bind_none]
      rfl
    · rfl
    · have hm4 : m < 20 := by omega
      unfold rgD
      rw [List.getElem?_map, List.getElem?_range hm4]
      show some (D.int (0 + (m : Int))) = _
      rw [Int.zero_add]
    · intro i d hi hd
      rw [lastY_s hd]
      obtain ⟨_, rfl⟩ := rgD_get hd
      have hin : (i : Int) ∈ ddF [] (tl c) := dd_mem.mpr (.inr (mex_below (by omega) (by omega)))
      generalize ddF [] (tl c) = acc at *
      generalize (i : Int) = I at *
      refine ⟨[.imm (grD cs), .imm (kT c.1), .own (iD acc), Y, .imm (.int I)], by simp only [x_bind, bk_ok, bk_ite, x_ret, x_lift, lk_some, lk_ite, app_ite, x_eC, x_eV, vk_imm, vk_own, vk_bor, x_give, gk_own, x_bin, x_un, x_ix, x_tru, x_eB, dBl_bl, dTru_bl, dTru_int, dTru_lst, x_and, x_or, x_not, x_eAnd, x_eOr, x_eNot, x_eIf, x_chain, x_aNil, x_aCons, x_aVr, rk_own, rk_io, x_aVb, tk_own, tk_io, tk_imm, tk_bor, x_eTup, x_eLst, imms_nil, imms_im, x_eF, x_call, ixV_C, jk_imm, jk_own, jk_io, jk_bor, flk_int, x_lenV, nk_imm, nk_own, nk_io, nk_bor, x_inV, hk_imm, hk_own, hk_io, hk_bor, x_sNx, x_pass, x_cont, x_brk, x_seq, sk_nx, sk_rt, sk_rtO, sk_ct, sk_bk, sk_ite, x_drop, x_sRet, x_sRetO, x_sIf, x_asg, x_asgO, x_gN, x_gO, x_gNil, x_gCons, x_gTt, x_gTl, x_sApp, x_sSet, x_chM, ck_own, ck_io, x_iOf, x_iRg, x_fn, fk_rt, fk_nx, fk_ite, ios_z, ios_s, keep_io, keep_imm, keep_own, keep_bor, keep_no, dSub_i, dAdd_i, dLt_i, dLe_i, dGt_i, dGe_i, dEq_int, dNe_int, ix_lst, ix_scr, ix_tup, atI_0, atI_1, atI_2, atI_3, List.getElem?_cons_zero, List.getElem?_cons_succ, List.set_cons_zero, List.set_cons_succ, List.length_cons, List.length_nil, List.cons_append, List.nil_append, List.replicate_succ, List.replicate_zero, Option.map_some, Option.bind_some, Nat.reduceAdd, Nat.reduceSub, Nat.reduceLT, Nat.reduceLeDiff, if_true, if_false, Bool.false_eq_true, decide_eq_true_eq, reduceIte, ne_eq, not_false_eq_true, Nat.lt_add_left_iff_pos, Nat.zero_lt_succ, x_call1, x_call2, x_call3, x_call4, dk1, dk2, dk3, dk4, ixV_V, Nat.reduceEqDiff, not_false_eq_true, x_isLst, x_isSet, List.map_cons, List.map_nil, Option.map_none, Option.bind_none], .inl ?_⟩
      rw [sIf_f (δ1 := [.imm (grD cs), .imm (kT c.1), .own (iD acc), Y, .imm (.int I)]) (by simp only [x_bind, bk_ok, bk_ite, x_ret, x_lift, lk_some, lk_ite, app_ite, x_eC, x_eV, vk_imm, vk_own, vk_bor, x_give, gk_own, x_bin, x_un, x_ix, x_tru, x_eB, dBl_bl, dTru_bl, dTru_int, dTru_lst, x_and, x_or, x_not, x_eAnd, x_eOr, x_eNot, x_eIf, x_chain, x_aNil, x_aCons, x_aVr, rk_own, rk_io, x_aVb, tk_own, tk_io, tk_imm, tk_bor, x_eTup, x_eLst, imms_nil, imms_im, x_eF, x_call, ixV_C, jk_imm, jk_own, jk_io, jk_bor, flk_int, x_lenV, nk_imm, nk_own, nk_io, nk_bor, x_inV, hk_imm, hk_own, hk_io, hk_bor, x_sNx, x_pass, x_cont, x_brk, x_seq, sk_nx, sk_rt, sk_rtO, sk_ct, sk_bk, sk_ite, x_drop, x_sRet, x_sRetO, x_sIf, x_asg, x_asgO, x_gN, x_gO, x_gNil, x_gCons, x_gTt, x_gTl, x_sApp, x_sSet, x_chM, ck_own, ck_io, x_iOf, x_iRg, x_fn, fk_rt, fk_nx, fk_ite, ios_z, ios_s, keep_io, keep_imm, keep_own, keep_bor, keep_no, dSub_i, dAdd_i, dLt_i, dLe_i, dGt_i, dGe_i, dEq_int, dNe_int, ix_lst, ix_scr, ix_tup, atI_0, atI_1, atI_2, atI_3, List.getElem?_cons_zero, List.getElem?_cons_succ, List.set_cons_zero, List.set_cons_succ, List.length_cons, List.length_nil, List.cons_append, List.nil_append, List.replicate_succ, List.replicate_zero, Option.map_some, Option.bind_some, Nat.reduceAdd, Nat.reduceSub, Nat.reduceLT, Nat.reduceLeDiff, if_true, if_false, Bool.false_eq_true, decide_eq_true_eq, reduceIte, ne_eq, not_false_eq_true, Nat.lt_add_left_iff_pos, Nat.zero_lt_succ, x_call1, x_call2, x_call3, x_call4, dk1, dk2, dk3, dk4, ixV_V, Nat.reduceEqDiff, not_false_eq_true, x_isLst, x_isSet, List.map_cons, List.map_nil, Option.map_none, Option.bind_none, dIn_iD, hin, decide_true, Bool.not_true])]
      rfl
    · have hnin : (m : Int) ∉ ddF [] (tl c) := fun z => by
        rcases dd_mem.mp z with z | z
        · simp at z
        · rw [← hmm] at z; exact hm z
      have e1 : dAdd (iD (ddF [] (tl c))) (.lst [.int (m : Int)]) = some (iD (cands (tl c))) := by
        unfold iD cands
        rw [lst_app (by rw [List.length_map]; have := dd_len (l := tl c) (acc := []); rw [tl_len] at this; simp at this; omega) (by simp), List.map_append, hmm]; rfl
      generalize iD (cands (tl c)) = Z at *
      generalize ddF [] (tl c) = acc at *
      generalize (m : Int) = M' at *
      refine ⟨[.imm (grD cs), .imm (kT c.1), .own (iD acc), Y, .imm (.int M')], by simp only [x_bind, bk_ok, bk_ite, x_ret, x_lift, lk_some, lk_ite, app_ite, x_eC, x_eV, vk_imm, vk_own, vk_bor, x_give, gk_own, x_bin, x_un, x_ix, x_tru, x_eB, dBl_bl, dTru_bl, dTru_int, dTru_lst, x_and, x_or, x_not, x_eAnd, x_eOr, x_eNot, x_eIf, x_chain, x_aNil, x_aCons, x_aVr, rk_own, rk_io, x_aVb, tk_own, tk_io, tk_imm, tk_bor, x_eTup, x_eLst, imms_nil, imms_im, x_eF, x_call, ixV_C, jk_imm, jk_own, jk_io, jk_bor, flk_int, x_lenV, nk_imm, nk_own, nk_io, nk_bor, x_inV, hk_imm, hk_own, hk_io, hk_bor, x_sNx, x_pass, x_cont, x_brk, x_seq, sk_nx, sk_rt, sk_rtO, sk_ct, sk_bk, sk_ite, x_drop, x_sRet, x_sRetO, x_sIf, x_asg, x_asgO, x_gN, x_gO, x_gNil, x_gCons, x_gTt, x_gTl, x_sApp, x_sSet, x_chM, ck_own, ck_io, x_iOf, x_iRg, x_fn, fk_rt, fk_nx, fk_ite, ios_z, ios_s, keep_io, keep_imm, keep_own, keep_bor, keep_no, dSub_i, dAdd_i, dLt_i, dLe_i, dGt_i, dGe_i, dEq_int, dNe_int, ix_lst, ix_scr, ix_tup, atI_0, atI_1, atI_2, atI_3, List.getElem?_cons_zero, List.getElem?_cons_succ, List.set_cons_zero, List.set_cons_succ, List.length_cons, List.length_nil, List.cons_append, List.nil_append, List.replicate_succ, List.replicate_zero, Option.map_some, Option.bind_some, Nat.reduceAdd, Nat.reduceSub, Nat.reduceLT, Nat.reduceLeDiff, if_true, if_false, Bool.false_eq_true, decide_eq_true_eq, reduceIte, ne_eq, not_false_eq_true, Nat.lt_add_left_iff_pos, Nat.zero_lt_succ, x_call1, x_call2, x_call3, x_call4, dk1, dk2, dk3, dk4, ixV_V, Nat.reduceEqDiff, not_false_eq_true, x_isLst, x_isSet, List.map_cons, List.map_nil, Option.map_none, Option.bind_none], ?_⟩
      rw [sIf_t (δ1 := [.imm (grD cs), .imm (kT c.1), .own (iD acc), Y, .imm (.int M')]) (by simp only [x_bind, bk_ok, bk_ite, x_ret, x_lift, lk_some, lk_ite, app_ite, x_eC, x_eV, vk_imm, vk_own, vk_bor, x_give, gk_own, x_bin, x_un, x_ix, x_tru, x_eB, dBl_bl, dTru_bl, dTru_int, dTru_lst, x_and, x_or, x_not, x_eAnd, x_eOr, x_eNot, x_eIf, x_chain, x_aNil, x_aCons, x_aVr, rk_own, rk_io, x_aVb, tk_own, tk_io, tk_imm, tk_bor, x_eTup, x_eLst, imms_nil, imms_im, x_eF, x_call, ixV_C, jk_imm, jk_own, jk_io, jk_bor, flk_int, x_lenV, nk_imm, nk_own, nk_io, nk_bor, x_inV, hk_imm, hk_own, hk_io, hk_bor, x_sNx, x_pass, x_cont, x_brk, x_seq, sk_nx, sk_rt, sk_rtO, sk_ct, sk_bk, sk_ite, x_drop, x_sRet, x_sRetO, x_sIf, x_asg, x_asgO, x_gN, x_gO, x_gNil, x_gCons, x_gTt, x_gTl, x_sApp, x_sSet, x_chM, ck_own, ck_io, x_iOf, x_iRg, x_fn, fk_rt, fk_nx, fk_ite, ios_z, ios_s, keep_io, keep_imm, keep_own, keep_bor, keep_no, dSub_i, dAdd_i, dLt_i, dLe_i, dGt_i, dGe_i, dEq_int, dNe_int, ix_lst, ix_scr, ix_tup, atI_0, atI_1, atI_2, atI_3, List.getElem?_cons_zero, List.getElem?_cons_succ, List.set_cons_zero, List.set_cons_succ, List.length_cons, List.length_nil, List.cons_append, List.nil_append, List.replicate_succ, List.replicate_zero, Option.map_some, Option.bind_some, Nat.reduceAdd, Nat.reduceSub, Nat.reduceLT, Nat.reduceLeDiff, if_true, if_false, Bool.false_eq_true, decide_eq_true_eq, reduceIte, ne_eq, not_false_eq_true, Nat.lt_add_left_iff_pos, Nat.zero_lt_succ, x_call1, x_call2, x_call3, x_call4, dk1, dk2, dk3, dk4, ixV_V, Nat.reduceEqDiff, not_false_eq_true, x_isLst, x_isSet, List.map_cons, List.map_nil, Option.map_none, Option.bind_none, dIn_iD, hnin, decide_false, Bool.not_false])]
      simp only [x_bind, bk_ok, bk_ite, x_ret, x_lift, lk_some, lk_ite, app_ite, x_eC, x_eV, vk_imm, vk_own, vk_bor, x_give, gk_own, x_bin, x_un, x_ix, x_tru, x_eB, dBl_bl, dTru_bl, dTru_int, dTru_lst, x_and, x_or, x_not, x_eAnd, x_eOr, x_eNot, x_eIf, x_chain, x_aNil, x_aCons, x_aVr, rk_own, rk_io, x_aVb, tk_own, tk_io, tk_imm, tk_bor, x_eTup, x_eLst, imms_nil, imms_im, x_eF, x_call, ixV_C, jk_imm, jk_own, jk_io, jk_bor, flk_int, x_lenV, nk_imm, nk_own, nk_io, nk_bor, x_inV, hk_imm, hk_own, hk_io, hk_bor, x_sNx, x_pass, x_cont, x_brk, x_seq, sk_nx, sk_rt, sk_rtO, sk_ct, sk_bk, sk_ite, x_drop, x_sRet, x_sRetO, x_sIf, x_asg, x_asgO, x_gN, x_gO, x_gNil, x_gCons, x_gTt, x_gTl, x_sApp, x_sSet, x_chM, ck_own, ck_io, x_iOf, x_iRg, x_fn, fk_rt, fk_nx, fk_ite, ios_z, ios_s, keep_io, keep_imm, keep_own, keep_bor, keep_no, dSub_i, dAdd_i, dLt_i, dLe_i, dGt_i, dGe_i, dEq_int, dNe_int, ix_lst, ix_scr, ix_tup, atI_0, atI_1, atI_2, atI_3, List.getElem?_cons_zero, List.getElem?_cons_succ, List.set_cons_zero, List.set_cons_succ, List.length_cons, List.length_nil, List.cons_append, List.nil_append, List.replicate_succ, List.replicate_zero, Option.map_some, Option.bind_some, Nat.reduceAdd, Nat.reduceSub, Nat.reduceLT, Nat.reduceLeDiff, if_true, if_false, Bool.false_eq_true, decide_eq_true_eq, reduceIte, ne_eq, not_false_eq_true, Nat.lt_add_left_iff_pos, Nat.zero_lt_succ, x_call1, x_call2, x_call3, x_call4, dk1, dk2, dk3, dk4, ixV_V, Nat.reduceEqDiff, not_false_eq_true, x_isLst, x_isSet, List.map_cons, List.map_nil, Option.map_none, Option.bind_none, e1]
  · simp only [x_bind, bk_ok, bk_ite, x_ret, x_lift, lk_some, lk_ite, app_ite, x_eC, x_eV, vk_imm, vk_own, vk_bor, x_give, gk_own, x_bin, x_un, x_ix, x_tru, x_eB, dBl_bl, dTru_bl, dTru_int, dTru_lst, x_and, x_or, x_not, x_eAnd, x_eOr, x_eNot, x_eIf, x_chain, x_aNil, x_aCons, x_aVr, rk_own, rk_io, x_aVb, tk_own, tk_io, tk_imm, tk_bor, x_eTup, x_eLst, imms_nil, imms_im, x_eF, x_call, ixV_C, jk_imm, jk_own, jk_io, jk_bor, flk_int, x_lenV, nk_imm, nk_own, nk_io, nk_bor, x_inV, hk_imm, hk_own, hk_io, hk_bor, x_sNx, x_pass, x_cont, x_brk, x_seq, sk_nx, sk_rt, sk_rtO, sk_ct, sk_bk, sk_ite, x_drop, x_sRet, x_sRetO, x_sIf, x_asg, x_asgO, x_gN, x_gO, x_gNil, x_gCons, x_gTt, x_gTl, x_sApp, x_sSet, x_chM, ck_own, ck_io, x_iOf, x_iRg, x_fn, fk_rt, fk_nx, fk_ite, ios_z, ios_s, keep_io, keep_imm, keep_own, keep_bor, keep_no, dSub_i, dAdd_i, dLt_i, dLe_i, dGt_i, dGe_i, dEq_int, dNe_int, ix_lst, ix_scr, ix_tup, atI_0, atI_1, atI_2, atI_3, List.getElem?_cons_zero, List.getElem?_cons_succ, List.set_cons_zero, List.set_cons_succ, List.length_cons, List.length_nil, List.cons_append, List.nil_append, List.replicate_succ, List.replicate_zero, Option.map_some, Option.bind_some, Nat.reduceAdd, Nat.reduceSub, Nat.reduceLT, Nat.reduceLeDiff, if_true, if_false, Bool.false_eq_true, decide_eq_true_eq, reduceIte, ne_eq, not_false_eq_true, Nat.lt_add_left_iff_pos, Nat.zero_lt_succ, x_call1, x_call2, x_call3, x_call4, dk1, dk2, dk3, dk4, ixV_V, Nat.reduceEqDiff, not_false_eq_true, x_isLst, x_isSet, List.map_cons, List.map_nil, Option.map_none, Option.bind_none, ix_gr o h, it_rows]
  · rfl
  · intro i d hd
    rw [lastY_s hd]
    obtain ⟨r, hr2, rfl⟩ := getmap hd
    rw [dd_take (tl_get hr2)]
    have hacc : (ddF [] ((tl c).take i)).length ≤ 900 := by
      have := dd_len (l := (tl c).take i) (acc := [])
      have h2 := List.length_take_le i (tl c)
      have h3 : ((tl c).take i).length ≤ (tl c).length := by rw [List.length_take]; omega
      rw [tl_len] at h3
      simp only [List.length_nil] at this
      omega
    generalize ddF [] ((tl c).take i) = acc at *
    have e1 : dIx (rowD r) (.int 1) = some (.int r.2) := atI_1
    refine ⟨[.imm (grD cs), .imm (kT c.1), .own (iD acc), .imm (rowD r), .no], by simp only [x_bind, bk_ok, bk_ite, x_ret, x_lift, lk_some, lk_ite, app_ite, x_eC, x_eV, vk_imm, vk_own, vk_bor, x_give, gk_own, x_bin, x_un, x_ix, x_tru, x_eB, dBl_bl, dTru_bl, dTru_int, dTru_lst, x_and, x_or, x_not, x_eAnd, x_eOr, x_eNot, x_eIf, x_chain, x_aNil, x_aCons, x_aVr, rk_own, rk_io, x_aVb, tk_own, tk_io, tk_imm, tk_bor, x_eTup, x_eLst, imms_nil, imms_im, x_eF, x_call, ixV_C, jk_imm, jk_own, jk_io, jk_bor, flk_int, x_lenV, nk_imm, nk_own, nk_io, nk_bor, x_inV, hk_imm, hk_own, hk_io, hk_bor, x_sNx, x_pass, x_cont, x_brk, x_seq, sk_nx, sk_rt, sk_rtO, sk_ct, sk_bk, sk_ite, x_drop, x_sRet, x_sRetO, x_sIf, x_asg, x_asgO, x_gN, x_gO, x_gNil, x_gCons, x_gTt, x_gTl, x_sApp, x_sSet, x_chM, ck_own, ck_io, x_iOf, x_iRg, x_fn, fk_rt, fk_nx, fk_ite, ios_z, ios_s, keep_io, keep_imm, keep_own, keep_bor, keep_no, dSub_i, dAdd_i, dLt_i, dLe_i, dGt_i, dGe_i, dEq_int, dNe_int, ix_lst, ix_scr, ix_tup, atI_0, atI_1, atI_2, atI_3, List.getElem?_cons_zero, List.getElem?_cons_succ, List.set_cons_zero, List.set_cons_succ, List.length_cons, List.length_nil, List.cons_append, List.nil_append, List.replicate_succ, List.replicate_zero, Option.map_some, Option.bind_some, Nat.reduceAdd, Nat.reduceSub, Nat.reduceLT, Nat.reduceLeDiff, if_true, if_false, Bool.false_eq_true, decide_eq_true_eq, reduceIte, ne_eq, not_false_eq_true, Nat.lt_add_left_iff_pos, Nat.zero_lt_succ, x_call1, x_call2, x_call3, x_call4, dk1, dk2, dk3, dk4, ixV_V, Nat.reduceEqDiff, not_false_eq_true, x_isLst, x_isSet, List.map_cons, List.map_nil, Option.map_none, Option.bind_none], .inl ?_⟩
    by_cases hin : r.2 ∈ acc
    · rw [sIf_f (δ1 := [.imm (grD cs), .imm (kT c.1), .own (iD acc), .imm (rowD r), .no]) (by simp only [x_bind, bk_ok, bk_ite, x_ret, x_lift, lk_some, lk_ite, app_ite, x_eC, x_eV, vk_imm, vk_own, vk_bor, x_give, gk_own, x_bin, x_un, x_ix, x_tru, x_eB, dBl_bl, dTru_bl, dTru_int, dTru_lst, x_and, x_or, x_not, x_eAnd, x_eOr, x_eNot, x_eIf, x_chain, x_aNil, x_aCons, x_aVr, rk_own, rk_io, x_aVb, tk_own, tk_io, tk_imm, tk_bor, x_eTup, x_eLst, imms_nil, imms_im, x_eF, x_call, ixV_C, jk_imm, jk_own, jk_io, jk_bor, flk_int, x_lenV, nk_imm, nk_own, nk_io, nk_bor, x_inV, hk_imm, hk_own, hk_io, hk_bor, x_sNx, x_pass, x_cont, x_brk, x_seq, sk_nx, sk_rt, sk_rtO, sk_ct, sk_bk, sk_ite, x_drop, x_sRet, x_sRetO, x_sIf, x_asg, x_asgO, x_gN, x_gO, x_gNil, x_gCons, x_gTt, x_gTl, x_sApp, x_sSet, x_chM, ck_own, ck_io, x_iOf, x_iRg, x_fn, fk_rt, fk_nx, fk_ite, ios_z, ios_s, keep_io, keep_imm, keep_own, keep_bor, keep_no, dSub_i, dAdd_i, dLt_i, dLe_i, dGt_i, dGe_i, dEq_int, dNe_int, ix_lst, ix_scr, ix_tup, atI_0, atI_1, atI_2, atI_3, List.getElem?_cons_zero, List.getElem?_cons_succ, List.set_cons_zero, List.set_cons_succ, List.length_cons, List.length_nil, List.cons_append, List.nil_append, List.replicate_succ, List.replicate_zero, Option.map_some, Option.bind_some, Nat.reduceAdd, Nat.reduceSub, Nat.reduceLT, Nat.reduceLeDiff, if_true, if_false, Bool.false_eq_true, decide_eq_true_eq, reduceIte, ne_eq, not_false_eq_true, Nat.lt_add_left_iff_pos, Nat.zero_lt_succ, x_call1, x_call2, x_call3, x_call4, dk1, dk2, dk3, dk4, ixV_V, Nat.reduceEqDiff, not_false_eq_true, x_isLst, x_isSet, List.map_cons, List.map_nil, Option.map_none, Option.bind_none, e1, dIn_iD, hin, decide_true, Bool.not_true]), if_pos hin]
      rfl
    · rw [sIf_t (δ1 := [.imm (grD cs), .imm (kT c.1), .own (iD acc), .imm (rowD r), .no]) (by simp only [x_bind, bk_ok, bk_ite, x_ret, x_lift, lk_some, lk_ite, app_ite, x_eC, x_eV, vk_imm, vk_own, vk_bor, x_give, gk_own, x_bin, x_un, x_ix, x_tru, x_eB, dBl_bl, dTru_bl, dTru_int, dTru_lst, x_and, x_or, x_not, x_eAnd, x_eOr, x_eNot, x_eIf, x_chain, x_aNil, x_aCons, x_aVr, rk_own, rk_io, x_aVb, tk_own, tk_io, tk_imm, tk_bor, x_eTup, x_eLst, imms_nil, imms_im, x_eF, x_call, ixV_C, jk_imm, jk_own, jk_io, jk_bor, flk_int, x_lenV, nk_imm, nk_own, nk_io, nk_bor, x_inV, hk_imm, hk_own, hk_io, hk_bor, x_sNx, x_pass, x_cont, x_brk, x_seq, sk_nx, sk_rt, sk_rtO, sk_ct, sk_bk, sk_ite, x_drop, x_sRet, x_sRetO, x_sIf, x_asg, x_asgO, x_gN, x_gO, x_gNil, x_gCons, x_gTt, x_gTl, x_sApp, x_sSet, x_chM, ck_own, ck_io, x_iOf, x_iRg, x_fn, fk_rt, fk_nx, fk_ite, ios_z, ios_s, keep_io, keep_imm, keep_own, keep_bor, keep_no, dSub_i, dAdd_i, dLt_i, dLe_i, dGt_i, dGe_i, dEq_int, dNe_int, ix_lst, ix_scr, ix_tup, atI_0, atI_1, atI_2, atI_3, List.getElem?_cons_zero, List.getElem?_cons_succ, List.set_cons_zero, List.set_cons_succ, List.length_cons, List.length_nil, List.cons_append, List.nil_append, List.replicate_succ, List.replicate_zero, Option.map_some, Option.bind_some, Nat.reduceAdd, Nat.reduceSub, Nat.reduceLT, Nat.reduceLeDiff, if_true, if_false, Bool.false_eq_true, decide_eq_true_eq, reduceIte, ne_eq, not_false_eq_true, Nat.lt_add_left_iff_pos, Nat.zero_lt_succ, x_call1, x_call2, x_call3, x_call4, dk1, dk2, dk3, dk4, ixV_V, Nat.reduceEqDiff, not_false_eq_true, x_isLst, x_isSet, List.map_cons, List.map_nil, Option.map_none, Option.bind_none, e1, dIn_iD, hin, decide_false, Bool.not_false]), if_neg hin]
      have e2 : dAppend (.int r.2) (iD acc) = some (iD (acc ++ [r.2])) := by
        unfold iD
        rw [dApp_l (by rw [List.length_map]; omega), List.map_append]; rfl
      have e3 : iLk (some (.own (iD acc))) = true := rfl
      simp only [x_bind, bk_ok, bk_ite, x_ret, x_lift, lk_some, lk_ite, app_ite, x_eC, x_eV, vk_imm, vk_own, vk_bor, x_give, gk_own, x_bin, x_un, x_ix, x_tru, x_eB, dBl_bl, dTru_bl, dTru_int, dTru_lst, x_and, x_or, x_not, x_eAnd, x_eOr, x_eNot, x_eIf, x_chain, x_aNil, x_aCons, x_aVr, rk_own, rk_io, x_aVb, tk_own, tk_io, tk_imm, tk_bor, x_eTup, x_eLst, imms_nil, imms_im, x_eF, x_call, ixV_C, jk_imm, jk_own, jk_io, jk_bor, flk_int, x_lenV, nk_imm, nk_own, nk_io, nk_bor, x_inV, hk_imm, hk_own, hk_io, hk_bor, x_sNx, x_pass, x_cont, x_brk, x_seq, sk_nx, sk_rt, sk_rtO, sk_ct, sk_bk, sk_ite, x_drop, x_sRet, x_sRetO, x_sIf, x_asg, x_asgO, x_gN, x_gO, x_gNil, x_gCons, x_gTt, x_gTl, x_sApp, x_sSet, x_chM, ck_own, ck_io, x_iOf, x_iRg, x_fn, fk_rt, fk_nx, fk_ite, ios_z, ios_s, keep_io, keep_imm, keep_own, keep_bor, keep_no, dSub_i, dAdd_i, dLt_i, dLe_i, dGt_i, dGe_i, dEq_int, dNe_int, ix_lst, ix_scr, ix_tup, atI_0, atI_1, atI_2, atI_3, List.getElem?_cons_zero, List.getElem?_cons_succ, List.set_cons_zero, List.set_cons_succ, List.length_cons, List.length_nil, List.cons_append, List.nil_append, List.replicate_succ, List.replicate_zero, Option.map_some, Option.bind_some, Nat.reduceAdd, Nat.reduceSub, Nat.reduceLT, Nat.reduceLeDiff, if_true, if_false, Bool.false_eq_true, decide_eq_true_eq, reduceIte, ne_eq, not_false_eq_true, Nat.lt_add_left_iff_pos, Nat.zero_lt_succ, x_call1, x_call2, x_call3, x_call4, dk1, dk2, dk3, dk4, ixV_V, Nat.reduceEqDiff, not_false_eq_true, x_isLst, x_isSet, List.map_cons, List.map_nil, Option.map_none, Option.bind_none, e1, e3, e2]
theorem ev_lcost {cs : List Cell} (o : GOk cs) {c : Cell} (h : c ∈ cs) {v : Int} : m__law_cost [.imm (grD cs), .imm (kT c.1), .imm (.int v)] = some (.ok (.int (cst (tl c) v)), [.no, .no, .no]) := by
  unfold m__law_cost b__law_cost
  rw [x_fn]
  have e0 : ([.imm (grD cs), .imm (kT c.1), .imm (.int v)] ++ List.replicate (4 - 3) Sl.no : Env) = [.imm (grD cs), .imm (kT c.1), .imm (.int v), .no] := rfl
  rw [e0, x_sRet, x_eF, x_aCons]
  rw [eLc_map (l := c.2) (g := rowD) (p := fun r => !decide (r.2 = v)) (f := rowD) (δ0 := [.imm (grD cs), .imm (kT c.1), .imm (.int v), .no])]
  · simp only [x_bind, bk_ok, bk_ite, x_ret, x_lift, lk_some, lk_ite, app_ite, x_eC, x_eV, vk_imm, vk_own, vk_bor, x_give, gk_own, x_bin, x_un, x_ix, x_tru, x_eB, dBl_bl, dTru_bl, dTru_int, dTru_lst, x_and, x_or, x_not, x_eAnd, x_eOr, x_eNot, x_eIf, x_chain, x_aNil, x_aCons, x_aVr, rk_own, rk_io, x_aVb, tk_own, tk_io, tk_imm, tk_bor, x_eTup, x_eLst, imms_nil, imms_im, x_eF, x_call, ixV_C, jk_imm, jk_own, jk_io, jk_bor, flk_int, x_lenV, nk_imm, nk_own, nk_io, nk_bor, x_inV, hk_imm, hk_own, hk_io, hk_bor, x_sNx, x_pass, x_cont, x_brk, x_seq, sk_nx, sk_rt, sk_rtO, sk_ct, sk_bk, sk_ite, x_drop, x_sRet, x_sRetO, x_sIf, x_asg, x_asgO, x_gN, x_gO, x_gNil, x_gCons, x_gTt, x_gTl, x_sApp, x_sSet, x_chM, ck_own, ck_io, x_iOf, x_iRg, x_fn, fk_rt, fk_nx, fk_ite, ios_z, ios_s, keep_io, keep_imm, keep_own, keep_bor, keep_no, dSub_i, dAdd_i, dLt_i, dLe_i, dGt_i, dGe_i, dEq_int, dNe_int, ix_lst, ix_scr, ix_tup, atI_0, atI_1, atI_2, atI_3, List.getElem?_cons_zero, List.getElem?_cons_succ, List.set_cons_zero, List.set_cons_succ, List.length_cons, List.length_nil, List.cons_append, List.nil_append, List.replicate_succ, List.replicate_zero, Option.map_some, Option.bind_some, Nat.reduceAdd, Nat.reduceSub, Nat.reduceLT, Nat.reduceLeDiff, if_true, if_false, Bool.false_eq_true, decide_eq_true_eq, reduceIte, ne_eq, not_false_eq_true, Nat.lt_add_left_iff_pos, Nat.zero_lt_succ, x_call1, x_call2, x_call3, x_call4, dk1, dk2, dk3, dk4, ixV_V, Nat.reduceEqDiff, not_false_eq_true, x_isLst, x_isSet, List.map_cons, List.map_nil, Option.map_none, Option.bind_none, wipeE, fLen_lst, List.length_map, filter_tl]
  · simp only [x_bind, bk_ok, bk_ite, x_ret, x_lift, lk_some, lk_ite, app_ite, x_eC, x_eV, vk_imm, vk_own, vk_bor, x_give, gk_own, x_bin, x_un, x_ix, x_tru, x_eB, dBl_bl, dTru_bl, dTru_int, dTru_lst, x_and, x_or, x_not, x_eAnd, x_eOr, x_eNot, x_eIf, x_chain, x_aNil, x_aCons, x_aVr, rk_own, rk_io, x_aVb, tk_own, tk_io, tk_imm, tk_bor, x_eTup, x_eLst, imms_nil, imms_im, x_eF, x_call, ixV_C, jk_imm, jk_own, jk_io, jk_bor, flk_int, x_lenV, nk_imm, nk_own, nk_io, nk_bor, x_inV, hk_imm, hk_own, hk_io, hk_bor, x_sNx, x_pass, x_cont, x_brk, x_seq, sk_nx, sk_rt, sk_rtO, sk_ct, sk_bk, sk_ite, x_drop, x_sRet, x_sRetO, x_sIf, x_asg, x_asgO, x_gN, x_gO, x_gNil, x_gCons, x_gTt, x_gTl, x_sApp, x_sSet, x_chM, ck_own, ck_io, x_iOf, x_iRg, x_fn, fk_rt, fk_nx, fk_ite, ios_z, ios_s, keep_io, keep_imm, keep_own, keep_bor, keep_no, dSub_i, dAdd_i, dLt_i, dLe_i, dGt_i, dGe_i, dEq_int, dNe_int, ix_lst, ix_scr, ix_tup, atI_0, atI_1, atI_2, atI_3, List.getElem?_cons_zero, List.getElem?_cons_succ, List.set_cons_zero, List.set_cons_succ, List.length_cons, List.length_nil, List.cons_append, List.nil_append, List.replicate_succ, List.replicate_zero, Option.map_some, Option.bind_some, Nat.reduceAdd, Nat.reduceSub, Nat.reduceLT, Nat.reduceLeDiff, if_true, if_false, Bool.false_eq_true, decide_eq_true_eq, reduceIte, ne_eq, not_false_eq_true, Nat.lt_add_left_iff_pos, Nat.zero_lt_succ, x_call1, x_call2, x_call3, x_call4, dk1, dk2, dk3, dk4, ixV_V, Nat.reduceEqDiff, not_false_eq_true, x_isLst, x_isSet, List.map_cons, List.map_nil, Option.map_none, Option.bind_none, ix_gr o h, it_rows]
  · have := o.rows c h; omega
  · intro r hr
    have e1 : dIx (rowD r) (.int 1) = some (.int r.2) := atI_1
    refine ⟨[.imm (grD cs), .imm (kT c.1), .imm (.int v), .imm (rowD r)], [.imm (grD cs), .imm (kT c.1), .imm (.int v), .imm (rowD r)], ?_, ?_, fun _ => rfl, fun _ => ⟨_, rfl, rfl⟩⟩
    · simp only [x_bind, bk_ok, bk_ite, x_ret, x_lift, lk_some, lk_ite, app_ite, x_eC, x_eV, vk_imm, vk_own, vk_bor, x_give, gk_own, x_bin, x_un, x_ix, x_tru, x_eB, dBl_bl, dTru_bl, dTru_int, dTru_lst, x_and, x_or, x_not, x_eAnd, x_eOr, x_eNot, x_eIf, x_chain, x_aNil, x_aCons, x_aVr, rk_own, rk_io, x_aVb, tk_own, tk_io, tk_imm, tk_bor, x_eTup, x_eLst, imms_nil, imms_im, x_eF, x_call, ixV_C, jk_imm, jk_own, jk_io, jk_bor, flk_int, x_lenV, nk_imm, nk_own, nk_io, nk_bor, x_inV, hk_imm, hk_own, hk_io, hk_bor, x_sNx, x_pass, x_cont, x_brk, x_seq, sk_nx, sk_rt, sk_rtO, sk_ct, sk_bk, sk_ite, x_drop, x_sRet, x_sRetO, x_sIf, x_asg, x_asgO, x_gN, x_gO, x_gNil, x_gCons, x_gTt, x_gTl, x_sApp, x_sSet, x_chM, ck_own, ck_io, x_iOf, x_iRg, x_fn, fk_rt, fk_nx, fk_ite, ios_z, ios_s, keep_io, keep_imm, keep_own, keep_bor, keep_no, dSub_i, dAdd_i, dLt_i, dLe_i, dGt_i, dGe_i, dEq_int, dNe_int, ix_lst, ix_scr, ix_tup, atI_0, atI_1, atI_2, atI_3, List.getElem?_cons_zero, List.getElem?_cons_succ, List.set_cons_zero, List.set_cons_succ, List.length_cons, List.length_nil, List.cons_append, List.nil_append, List.replicate_succ, List.replicate_zero, Option.map_some, Option.bind_some, Nat.reduceAdd, Nat.reduceSub, Nat.reduceLT, Nat.reduceLeDiff, if_true, if_false, Bool.false_eq_true, decide_eq_true_eq, reduceIte, ne_eq, not_false_eq_true, Nat.lt_add_left_iff_pos, Nat.zero_lt_succ, x_call1, x_call2, x_call3, x_call4, dk1, dk2, dk3, dk4, ixV_V, Nat.reduceEqDiff, not_false_eq_true, x_isLst, x_isSet, List.map_cons, List.map_nil, Option.map_none, Option.bind_none, wipeE]
    · simp only [x_bind, bk_ok, bk_ite, x_ret, x_lift, lk_some, lk_ite, app_ite, x_eC, x_eV, vk_imm, vk_own, vk_bor, x_give, gk_own, x_bin, x_un, x_ix, x_tru, x_eB, dBl_bl, dTru_bl, dTru_int, dTru_lst, x_and, x_or, x_not, x_eAnd, x_eOr, x_eNot, x_eIf, x_chain, x_aNil, x_aCons, x_aVr, rk_own, rk_io, x_aVb, tk_own, tk_io, tk_imm, tk_bor, x_eTup, x_eLst, imms_nil, imms_im, x_eF, x_call, ixV_C, jk_imm, jk_own, jk_io, jk_bor, flk_int, x_lenV, nk_imm, nk_own, nk_io, nk_bor, x_inV, hk_imm, hk_own, hk_io, hk_bor, x_sNx, x_pass, x_cont, x_brk, x_seq, sk_nx, sk_rt, sk_rtO, sk_ct, sk_bk, sk_ite, x_drop, x_sRet, x_sRetO, x_sIf, x_asg, x_asgO, x_gN, x_gO, x_gNil, x_gCons, x_gTt, x_gTl, x_sApp, x_sSet, x_chM, ck_own, ck_io, x_iOf, x_iRg, x_fn, fk_rt, fk_nx, fk_ite, ios_z, ios_s, keep_io, keep_imm, keep_own, keep_bor, keep_no, dSub_i, dAdd_i, dLt_i, dLe_i, dGt_i, dGe_i, dEq_int, dNe_int, ix_lst, ix_scr, ix_tup, atI_0, atI_1, atI_2, atI_3, List.getElem?_cons_zero, List.getElem?_cons_succ, List.set_cons_zero, List.set_cons_succ, List.length_cons, List.length_nil, List.cons_append, List.nil_append, List.replicate_succ, List.replicate_zero, Option.map_some, Option.bind_some, Nat.reduceAdd, Nat.reduceSub, Nat.reduceLT, Nat.reduceLeDiff, if_true, if_false, Bool.false_eq_true, decide_eq_true_eq, reduceIte, ne_eq, not_false_eq_true, Nat.lt_add_left_iff_pos, Nat.zero_lt_succ, x_call1, x_call2, x_call3, x_call4, dk1, dk2, dk3, dk4, ixV_V, Nat.reduceEqDiff, not_false_eq_true, x_isLst, x_isSet, List.map_cons, List.map_nil, Option.map_none, Option.bind_none, e1]
end M

set_option Elab.async false
set_option linter.all false
set_option maxRecDepth 100000
set_option maxHeartbeats 1000000
namespace M
open PySem L2
abbrev Ex := Int × List (Cell × Int)
def exD (l : List (Cell × Int)) : D := .dT (l.map fun p => (kK p.1.1, .int p.2))
def prD (p : Ex) : D := .lst [.int p.1, exD p.2]
def fm (F : Int) (c : Cell) (p : Ex) (v : Int) : Option Ex := if p.1 + cst (tl c) v ≤ F then some (p.1 + cst (tl c) v, p.2 ++ [(c, v)]) else none
theorem stepF_fm {F : Int} {ps : List Ex} {c : Cell} : stepF tl F ps c = ps.flatMap fun p => (cands (tl c)).filterMap (fm F c p) := rfl
/-- c is new in l, and l can be copied -/
structure ExOk (l : List (Cell × Int)) (c : Cell) : Prop where
  ap : apart (l.map fun p => kK p.1.1)
  nw : ∀ p ∈ l, p.1.1 ≠ c.1
  ln : l.length ≤ 900
theorem fDict_T {l : List (List Key × D)} (h : apart (l.map (·.1))) : fDict [.dT l] = some (.dT l) := by
  unfold fDict
  dsimp only
  rw [if_pos h]
theorem fDict_ex {l : List (Cell × Int)} {c : Cell} (h : ExOk l c) : fDict [exD l] = some (exD l) := by
  exact fDict_T (by rw [List.map_map]; exact h.ap)
theorem dSet_ex {l : List (Cell × Int)} {c : Cell} (h : ExOk l c) {v : Int} : dSet (kT c.1) (.int v) (exD l) = some (exD (l ++ [(c, v)])) := by
  show (if (l.map fun p => (kK p.1.1, D.int p.2)).length < sizeLine then some (D.dT (putA (l.map fun p => (kK p.1.1, D.int p.2)) (kK c.1) (.int v))) else none) = _
  rw [if_pos (by rw [List.length_map]; exact small1000 (by have := h.ln; omega)), putA_new]
  · unfold exD; rw [List.map_append]; rfl
  · intro p hp
    obtain ⟨q, hq, rfl⟩ := List.mem_map.mp hp
    exact fun z => h.nw q hq (kK_inj z)
noncomputable def aIn : Mo Out := (sSeq (sAsg (gN 7) (eBin dAdd (eIxV 5 (eC (.int 0))) (eCall m__law_cost (aCons (eV 0) (aCons (eV 3) (aCons (eV 6) aNil))))))
 (sIf (eB (eBin dLe (eV 7) (eV 1)))
 (sSeq (sAsgO 8 (eF fDict (aCons (eIxV 5 (eC (.int 1))) aNil)))
 (sSeq (sSet 8 (eV 3) (eV 6))
 (sApp 4 (eLst (aCons (eV 7) (aCons (eV 8) aNil))))))
 sNx))
theorem ev_aIn {cs : List Cell} (o : GOk cs) {c : Cell} (h : c ∈ cs) {F v : Int} {p : Ex} {acc : List Ex} {y2 y7 y8 : Sl} (hp : ExOk p.2 c) (hl : acc.length ≤ 1000) :
    ∃ y7' y8', aIn [.imm (grD cs), .imm (.int F), y2, .imm (kT c.1), .own (.lst (acc.map prD)), .imm (prD p), .imm (.int v), y7, y8] = some (.ok .nx, [.imm (grD cs), .imm (.int F), y2, .imm (kT c.1), .own (.lst ((acc ++ (fm F c p v).toList).map prD)), .imm (prD p), .imm (.int v), y7', y8']) := by
  have e1 : dIx (prD p) (.int 0) = some (.int p.1) := atI_0
  have e2 : dIx (prD p) (.int 1) = some (exD p.2) := atI_1
  unfold aIn
  have hs : (sAsg (gN 7) (eBin dAdd (eIxV 5 (eC (.int 0))) (eCall m__law_cost (aCons (eV 0) (aCons (eV 3) (aCons (eV 6) aNil)))))) [.imm (grD cs), .imm (.int F), y2, .imm (kT c.1), .own (.lst (acc.map prD)), .imm (prD p), .imm (.int v), y7, y8] = some (.ok .nx, [.imm (grD cs), .imm (.int F), y2, .imm (kT c.1), .own (.lst (acc.map prD)), .imm (prD p), .imm (.int v), .imm (.int (p.1 + cst (tl c) v)), y8]) := by
    simp only [x_bind, bk_ok, bk_ite, x_ret, x_lift, lk_some, lk_ite, app_ite, x_eC, x_eV, vk_imm, vk_own, vk_bor, x_give, gk_own, x_bin, x_un, x_ix, x_tru, x_eB, dBl_bl, dTru_bl, dTru_int, dTru_lst, x_and, x_or, x_not, x_eAnd, x_eOr, x_eNot, x_eIf, x_chain, x_aNil, x_aCons, x_aVr, rk_own, rk_io, x_aVb, tk_own, tk_io, tk_imm, tk_bor, x_eTup, x_eLst, imms_nil, imms_im, x_eF, x_call, ixV_C, jk_imm, jk_own, jk_io, jk_bor, flk_int, x_lenV, nk_imm, nk_own, nk_io, nk_bor, x_inV, hk_imm, hk_own, hk_io, hk_bor, x_sNx, x_pass, x_cont, x_brk, x_seq, sk_nx, sk_rt, sk_rtO, sk_ct, sk_bk, sk_ite, x_drop, x_sRet, x_sRetO, x_sIf, x_asg, x_asgO, x_gN, x_gO, x_gNil, x_gCons, x_gTt, x_gTl, x_sApp, x_sSet, x_chM, ck_own, ck_io, x_iOf, x_iRg, x_fn, fk_rt, fk_nx, fk_ite, ios_z, ios_s, keep_io, keep_imm, keep_own, keep_bor, keep_no, dSub_i, dAdd_i, dLt_i, dLe_i, dGt_i, dGe_i, dEq_int, dNe_int, ix_lst, ix_scr, ix_tup, atI_0, atI_1, atI_2, atI_3, List.getElem?_cons_zero, List.getElem?_cons_succ, List.set_cons_zero, List.set_cons_succ, List.length_cons, List.length_nil, List.cons_append, List.nil_append, List.replicate_succ, List.replicate_zero, Option.map_some, Option.bind_some, Nat.reduceAdd, Nat.reduceSub, Nat.reduceLT, Nat.reduceLeDiff, if_true, if_false, Bool.false_eq_true, decide_eq_true_eq, reduceIte, ne_eq, not_false_eq_true, Nat.lt_add_left_iff_pos, Nat.zero_lt_succ, x_call1, x_call2, x_call3, x_call4, dk1, dk2, dk3, dk4, ixV_V, Nat.reduceEqDiff, not_false_eq_true, x_isLst, x_isSet, List.map_cons, List.map_nil, Option.map_none, Option.bind_none, e1, ev_lcost o h]
  unfold fm
  by_cases lt : p.1 + cst (tl c) v ≤ F
  · rw [if_pos lt]
    refine ⟨.imm (.int (p.1 + cst (tl c) v)), .imm (exD (p.2 ++ [(c, v)])), ?_⟩
    rw [ssq hs rfl, sIf_t (δ1 := [.imm (grD cs), .imm (.int F), y2, .imm (kT c.1), .own (.lst (acc.map prD)), .imm (prD p), .imm (.int v), .imm (.int (p.1 + cst (tl c) v)), y8]) (by simp only [x_bind, bk_ok, bk_ite, x_ret, x_lift, lk_some, lk_ite, app_ite, x_eC, x_eV, vk_imm, vk_own, vk_bor, x_give, gk_own, x_bin, x_un, x_ix, x_tru, x_eB, dBl_bl, dTru_bl, dTru_int, dTru_lst, x_and, x_or, x_not, x_eAnd, x_eOr, x_eNot, x_eIf, x_chain, x_aNil, x_aCons, x_aVr, rk_own, rk_io, x_aVb, tk_own, tk_io, tk_imm, tk_bor, x_eTup, x_eLst, imms_nil, imms_im, x_eF, x_call, ixV_C, jk_imm, jk_own, jk_io, jk_bor, flk_int, x_lenV, nk_imm, nk_own, nk_io, nk_bor, x_inV, hk_imm, hk_own, hk_io, hk_bor, x_sNx, x_pass, x_cont, x_brk, x_seq, sk_nx, sk_rt, sk_rtO, sk_ct, sk_bk, sk_ite, x_drop, x_sRet, x_sRetO, x_sIf, x_asg, x_asgO, x_gN, x_gO, x_gNil, x_gCons, x_gTt, x_gTl, x_sApp, x_sSet, x_chM, ck_own, ck_io, x_iOf, x_iRg, x_fn, fk_rt, fk_nx, fk_ite, ios_z, ios_s, keep_io, keep_imm, keep_own, keep_bor, keep_no, dSub_i, dAdd_i, dLt_i, dLe_i, dGt_i, dGe_i, dEq_int, dNe_int, ix_lst, ix_scr, ix_tup, atI_0, atI_1, atI_2, atI_3, List.getElem?_cons_zero, List.getElem?_cons_succ, List.set_cons_zero, List.set_cons_succ, List.length_cons, List.length_nil, List.cons_append, List.nil_append, List.replicate_succ, List.replicate_zero, Option.map_some, Option.bind_some, Nat.reduceAdd, Nat.reduceSub, Nat.reduceLT, Nat.reduceLeDiff, if_true, if_false, Bool.false_eq_true, decide_eq_true_eq, reduceIte, ne_eq, not_false_eq_true, Nat.lt_add_left_iff_pos, Nat.zero_lt_succ, x_call1, x_call2, x_call3, x_call4, dk1, dk2, dk3, dk4, ixV_V, Nat.reduceEqDiff, not_false_eq_true, x_isLst, x_isSet, List.map_cons, List.map_nil, Option.map_none, Option.bind_none, lt, decide_true])]
    have e3 : iSk (some (.own (exD p.2))) = true := rfl
    rw [ssq (δ1 := [.imm (grD cs), .imm (.int F), y2, .imm (kT c.1), .own (.lst (acc.map prD)), .imm (prD p), .imm (.int v), .imm (.int (p.1 + cst (tl c) v)), .own (exD p.2)]) (by simp only [x_bind, bk_ok, bk_ite, x_ret, x_lift, lk_some, lk_ite, app_ite, x_eC, x_eV, vk_imm, vk_own, vk_bor, x_give, gk_own, x_bin, x_un, x_ix, x_tru, x_eB, dBl_bl, dTru_bl, dTru_int, dTru_lst, x_and, x_or, x_not, x_eAnd, x_eOr, x_eNot, x_eIf, x_chain, x_aNil, x_aCons, x_aVr, rk_own, rk_io, x_aVb, tk_own, tk_io, tk_imm, tk_bor, x_eTup, x_eLst, imms_nil, imms_im, x_eF, x_call, ixV_C, jk_imm, jk_own, jk_io, jk_bor, flk_int, x_lenV, nk_imm, nk_own, nk_io, nk_bor, x_inV, hk_imm, hk_own, hk_io, hk_bor, x_sNx, x_pass, x_cont, x_brk, x_seq, sk_nx, sk_rt, sk_rtO, sk_ct, sk_bk, sk_ite, x_drop, x_sRet, x_sRetO, x_sIf, x_asg, x_asgO, x_gN, x_gO, x_gNil, x_gCons, x_gTt, x_gTl, x_sApp, x_sSet, x_chM, ck_own, ck_io, x_iOf, x_iRg, x_fn, fk_rt, fk_nx, fk_ite, ios_z, ios_s, keep_io, keep_imm, keep_own, keep_bor, keep_no, dSub_i, dAdd_i, dLt_i, dLe_i, dGt_i, dGe_i, dEq_int, dNe_int, ix_lst, ix_scr, ix_tup, atI_0, atI_1, atI_2, atI_3, List.getElem?_cons_zero, List.getElem?_cons_succ, List.set_cons_zero, List.set_cons_succ, List.length_cons, List.length_nil, List.cons_append, List.nil_append, List.replicate_succ, List.replicate_zero, Option.map_some, Option.bind_some, Nat.reduceAdd, Nat.reduceSub, Nat.reduceLT, Nat.reduceLeDiff, if_true, if_false, Bool.false_eq_true, decide_eq_true_eq, reduceIte, ne_eq, not_false_eq_true, Nat.lt_add_left_iff_pos, Nat.zero_lt_succ, x_call1, x_call2, x_call3, x_call4, dk1, dk2, dk3, dk4, ixV_V, Nat.reduceEqDiff, not_false_eq_true, x_isLst, x_isSet, List.map_cons, List.map_nil, Option.map_none, Option.bind_none, e2, fDict_ex hp]) rfl]
    rw [ssq (δ1 := [.imm (grD cs), .imm (.int F), y2, .imm (kT c.1), .own (.lst (acc.map prD)), .imm (prD p), .imm (.int v), .imm (.int (p.1 + cst (tl c) v)), .own (exD (p.2 ++ [(c, v)]))]) (by simp only [x_bind, bk_ok, bk_ite, x_ret, x_lift, lk_some, lk_ite, app_ite, x_eC, x_eV, vk_imm, vk_own, vk_bor, x_give, gk_own, x_bin, x_un, x_ix, x_tru, x_eB, dBl_bl, dTru_bl, dTru_int, dTru_lst, x_and, x_or, x_not, x_eAnd, x_eOr, x_eNot, x_eIf, x_chain, x_aNil, x_aCons, x_aVr, rk_own, rk_io, x_aVb, tk_own, tk_io, tk_imm, tk_bor, x_eTup, x_eLst, imms_nil, imms_im, x_eF, x_call, ixV_C, jk_imm, jk_own, jk_io, jk_bor, flk_int, x_lenV, nk_imm, nk_own, nk_io, nk_bor, x_inV, hk_imm, hk_own, hk_io, hk_bor, x_sNx, x_pass, x_cont, x_brk, x_seq, sk_nx, sk_rt, sk_rtO, sk_ct, sk_bk, sk_ite, x_drop, x_sRet, x_sRetO, x_sIf, x_asg, x_asgO, x_gN, x_gO, x_gNil, x_gCons, x_gTt, x_gTl, x_sApp, x_sSet, x_chM, ck_own, ck_io, x_iOf, x_iRg, x_fn, fk_rt, fk_nx, fk_ite, ios_z, ios_s, keep_io, keep_imm, keep_own, keep_bor, keep_no, dSub_i, dAdd_i, dLt_i, dLe_i, dGt_i, dGe_i, dEq_int, dNe_int, ix_lst, ix_scr, ix_tup, atI_0, atI_1, atI_2, atI_3, List.getElem?_cons_zero, List.getElem?_cons_succ, List.set_cons_zero, List.set_cons_succ, List.length_cons, List.length_nil, List.cons_append, List.nil_append, List.replicate_succ, List.replicate_zero, Option.map_some, Option.bind_some, Nat.reduceAdd, Nat.reduceSub, Nat.reduceLT, Nat.reduceLeDiff, if_true, if_false, Bool.false_eq_true, decide_eq_true_eq, reduceIte, ne_eq, not_false_eq_true, Nat.lt_add_left_iff_pos, Nat.zero_lt_succ, x_call1, x_call2, x_call3, x_call4, dk1, dk2, dk3, dk4, ixV_V, Nat.reduceEqDiff, not_false_eq_true, x_isLst, x_isSet, List.map_cons, List.map_nil, Option.map_none, Option.bind_none, e3, dSet_ex hp]) rfl]
    simp only [x_bind, bk_ok, bk_ite, x_ret, x_lift, lk_some, lk_ite, app_ite, x_eC, x_eV, vk_imm, vk_own, vk_bor, x_give, gk_own, x_bin, x_un, x_ix, x_tru, x_eB, dBl_bl, dTru_bl, dTru_int, dTru_lst, x_and, x_or, x_not, x_eAnd, x_eOr, x_eNot, x_eIf, x_chain, x_aNil, x_aCons, x_aVr, rk_own, rk_io, x_aVb, tk_own, tk_io, tk_imm, tk_bor, x_eTup, x_eLst, imms_nil, imms_im, x_eF, x_call, ixV_C, jk_imm, jk_own, jk_io, jk_bor, flk_int, x_lenV, nk_imm, nk_own, nk_io, nk_bor, x_inV, hk_imm, hk_own, hk_io, hk_bor, x_sNx, x_pass, x_cont, x_brk, x_seq, sk_nx, sk_rt, sk_rtO, sk_ct, sk_bk, sk_ite, x_drop, x_sRet, x_sRetO, x_sIf, x_asg, x_asgO, x_gN, x_gO, x_gNil, x_gCons, x_gTt, x_gTl, x_sApp, x_sSet, x_chM, ck_own, ck_io, x_iOf, x_iRg, x_fn, fk_rt, fk_nx, fk_ite, ios_z, ios_s, keep_io, keep_imm, keep_own, keep_bor, keep_no, dSub_i, dAdd_i, dLt_i, dLe_i, dGt_i, dGe_i, dEq_int, dNe_int, ix_lst, ix_scr, ix_tup, atI_0, atI_1, atI_2, atI_3, List.getElem?_cons_zero, List.getElem?_cons_succ, List.set_cons_zero, List.set_cons_succ, List.length_cons, List.length_nil, List.cons_append, List.nil_append, List.replicate_succ, List.replicate_zero, Option.map_some, Option.bind_some, Nat.reduceAdd, Nat.reduceSub, Nat.reduceLT, Nat.reduceLeDiff, if_true, if_false, Bool.false_eq_true, decide_eq_true_eq, reduceIte, ne_eq, not_false_eq_true, Nat.lt_add_left_iff_pos, Nat.zero_lt_succ, x_call1, x_call2, x_call3, x_call4, dk1, dk2, dk3, dk4, ixV_V, Nat.reduceEqDiff, not_false_eq_true, x_isLst, x_isSet, List.map_cons, List.map_nil, Option.map_none, Option.bind_none, iLk_l, dApp_l (show (acc.map prD).length ≤ 1000 by rw [List.length_map]; exact hl), List.map_append, Option.toList_some]
    rfl
  · rw [if_neg lt]
    refine ⟨.imm (.int (p.1 + cst (tl c) v)), y8, ?_⟩
    rw [ssq hs rfl, sIf_f (δ1 := [.imm (grD cs), .imm (.int F), y2, .imm (kT c.1), .own (.lst (acc.map prD)), .imm (prD p), .imm (.int v), .imm (.int (p.1 + cst (tl c) v)), y8]) (by simp only [x_bind, bk_ok, bk_ite, x_ret, x_lift, lk_some, lk_ite, app_ite, x_eC, x_eV, vk_imm, vk_own, vk_bor, x_give, gk_own, x_bin, x_un, x_ix, x_tru, x_eB, dBl_bl, dTru_bl, dTru_int, dTru_lst, x_and, x_or, x_not, x_eAnd, x_eOr, x_eNot, x_eIf, x_chain, x_aNil, x_aCons, x_aVr, rk_own, rk_io, x_aVb, tk_own, tk_io, tk_imm, tk_bor, x_eTup, x_eLst, imms_nil, imms_im, x_eF, x_call, ixV_C, jk_imm, jk_own, jk_io, jk_bor, flk_int, x_lenV, nk_imm, nk_own, nk_io, nk_bor, x_inV, hk_imm, hk_own, hk_io, hk_bor, x_sNx, x_pass, x_cont, x_brk, x_seq, sk_nx, sk_rt, sk_rtO, sk_ct, sk_bk, sk_ite, x_drop, x_sRet, x_sRetO, x_sIf, x_asg, x_asgO, x_gN, x_gO, x_gNil, x_gCons, x_gTt, x_gTl, x_sApp, x_sSet, x_chM, ck_own, ck_io, x_iOf, x_iRg, x_fn, fk_rt, fk_nx, fk_ite, ios_z, ios_s, keep_io, keep_imm, keep_own, keep_bor, keep_no, dSub_i, dAdd_i, dLt_i, dLe_i, dGt_i, dGe_i, dEq_int, dNe_int, ix_lst, ix_scr, ix_tup, atI_0, atI_1, atI_2, atI_3, List.getElem?_cons_zero, List.getElem?_cons_succ, List.set_cons_zero, List.set_cons_succ, List.length_cons, List.length_nil, List.cons_append, List.nil_append, List.replicate_succ, List.replicate_zero, Option.map_some, Option.bind_some, Nat.reduceAdd, Nat.reduceSub, Nat.reduceLT, Nat.reduceLeDiff, if_true, if_false, Bool.false_eq_true, decide_eq_true_eq, reduceIte, ne_eq, not_false_eq_true, Nat.lt_add_left_iff_pos, Nat.zero_lt_succ, x_call1, x_call2, x_call3, x_call4, dk1, dk2, dk3, dk4, ixV_V, Nat.reduceEqDiff, not_false_eq_true, x_isLst, x_isSet, List.map_cons, List.map_nil, Option.map_none, Option.bind_none, lt, decide_false])]
    rw [Option.toList_none, List.append_nil]; rfl
noncomputable def aMid : Mo Out := (sFor (iOf (eCall m__law_candidates (aCons (eV 0) (aCons (eV 3) aNil)))) (gN 6) aIn)
theorem fmap_take {α β : Type} {f : α → Option β} {l : List α} {i : Nat} {x : α} (h : l[i]? = some x) : (l.take (i + 1)).filterMap f = (l.take i).filterMap f ++ (f x).toList := by
  rw [take_snoc h, List.filterMap_append]
  congr 1
theorem fmap_len {α β : Type} {f : α → Option β} {l : List α} : (l.filterMap f).length ≤ l.length := List.length_filterMap_le _ _
theorem ev_aMid {cs : List Cell} (o : GOk cs) {c : Cell} (h : c ∈ cs) {F : Int} {p : Ex} {acc : List Ex} {y2 y6 y7 y8 : Sl} (hp : ExOk p.2 c) (hl : acc.length + (cands (tl c)).length ≤ 1000) :
    ∃ y6' y7' y8', aMid [.imm (grD cs), .imm (.int F), y2, .imm (kT c.1), .own (.lst (acc.map prD)), .imm (prD p), y6, y7, y8] = some (.ok .nx, [.imm (grD cs), .imm (.int F), y2, .imm (kT c.1), .own (.lst ((acc ++ (cands (tl c)).filterMap (fm F c p)).map prD)), .imm (prD p), y6', y7', y8']) := by
  obtain ⟨δ', f1, y6', y7', y8', rfl⟩ := sFor_inv (I := (iOf (eCall m__law_candidates (aCons (eV 0) (aCons (eV 3) aNil))))) (T := gN 6) (S := aIn) (ds := (cands (tl c)).map D.int)
    (δ := [.imm (grD cs), .imm (.int F), y2, .imm (kT c.1), .own (.lst (acc.map prD)), .imm (prD p), y6, y7, y8]) (δ0 := [.imm (grD cs), .imm (.int F), y2, .imm (kT c.1), .own (.lst (acc.map prD)), .imm (prD p), y6, y7, y8])
    (fun k δ => ∃ y6' y7' y8' : Sl, δ = [.imm (grD cs), .imm (.int F), y2, .imm (kT c.1), .own (.lst ((acc ++ ((cands (tl c)).take k).filterMap (fm F c p)).map prD)), .imm (prD p), y6', y7', y8'])
    (by simp only [x_bind, bk_ok, bk_ite, x_ret, x_lift, lk_some, lk_ite, app_ite, x_eC, x_eV, vk_imm, vk_own, vk_bor, x_give, gk_own, x_bin, x_un, x_ix, x_tru, x_eB, dBl_bl, dTru_bl, dTru_int, dTru_lst, x_and, x_or, x_not, x_eAnd, x_eOr, x_eNot, x_eIf, x_chain, x_aNil, x_aCons, x_aVr, rk_own, rk_io, x_aVb, tk_own, tk_io, tk_imm, tk_bor, x_eTup, x_eLst, imms_nil, imms_im, x_eF, x_call, ixV_C, jk_imm, jk_own, jk_io, jk_bor, flk_int, x_lenV, nk_imm, nk_own, nk_io, nk_bor, x_inV, hk_imm, hk_own, hk_io, hk_bor, x_sNx, x_pass, x_cont, x_brk, x_seq, sk_nx, sk_rt, sk_rtO, sk_ct, sk_bk, sk_ite, x_drop, x_sRet, x_sRetO, x_sIf, x_asg, x_asgO, x_gN, x_gO, x_gNil, x_gCons, x_gTt, x_gTl, x_sApp, x_sSet, x_chM, ck_own, ck_io, x_iOf, x_iRg, x_fn, fk_rt, fk_nx, fk_ite, ios_z, ios_s, keep_io, keep_imm, keep_own, keep_bor, keep_no, dSub_i, dAdd_i, dLt_i, dLe_i, dGt_i, dGe_i, dEq_int, dNe_int, ix_lst, ix_scr, ix_tup, atI_0, atI_1, atI_2, atI_3, List.getElem?_cons_zero, List.getElem?_cons_succ, List.set_cons_zero, List.set_cons_succ, List.length_cons, List.length_nil, List.cons_append, List.nil_append, List.replicate_succ, List.replicate_zero, Option.map_some, Option.bind_some, Nat.reduceAdd, Nat.reduceSub, Nat.reduceLT, Nat.reduceLeDiff, if_true, if_false, Bool.false_eq_true, decide_eq_true_eq, reduceIte, ne_eq, not_false_eq_true, Nat.lt_add_left_iff_pos, Nat.zero_lt_succ, x_call1, x_call2, x_call3, x_call4, dk1, dk2, dk3, dk4, ixV_V, Nat.reduceEqDiff, not_false_eq_true, x_isLst, x_isSet, List.map_cons, List.map_nil, Option.map_none, Option.bind_none, ev_cands o h]; rfl) ⟨y6, y7, y8, by simp⟩ (fun k d δ hd hδ => by
      obtain ⟨y6', y7', y8', rfl⟩ := hδ
      obtain ⟨v, hv, rfl⟩ := get_mapI hd
      have hlen : (((cands (tl c)).take k).filterMap (fm F c p)).length ≤ (cands (tl c)).length := by
        have := fmap_len (f := fm F c p) (l := (cands (tl c)).take k)
        rw [List.length_take] at this
        omega
      obtain ⟨z7, z8, e⟩ := ev_aIn (v := v) (acc := acc ++ ((cands (tl c)).take k).filterMap (fm F c p)) (y2 := y2) (y7 := y7') (y8 := y8') (F := F) o h hp (by rw [List.length_append]; omega)
      rw [fmap_take hv, ← List.append_assoc]
      exact ⟨[.imm (grD cs), .imm (.int F), y2, .imm (kT c.1), .own (.lst ((acc ++ ((cands (tl c)).take k).filterMap (fm F c p)).map prD)), .imm (prD p), .imm (.int v), y7', y8'], _, by simp only [x_bind, bk_ok, bk_ite, x_ret, x_lift, lk_some, lk_ite, app_ite, x_eC, x_eV, vk_imm, vk_own, vk_bor, x_give, gk_own, x_bin, x_un, x_ix, x_tru, x_eB, dBl_bl, dTru_bl, dTru_int, dTru_lst, x_and, x_or, x_not, x_eAnd, x_eOr, x_eNot, x_eIf, x_chain, x_aNil, x_aCons, x_aVr, rk_own, rk_io, x_aVb, tk_own, tk_io, tk_imm, tk_bor, x_eTup, x_eLst, imms_nil, imms_im, x_eF, x_call, ixV_C, jk_imm, jk_own, jk_io, jk_bor, flk_int, x_lenV, nk_imm, nk_own, nk_io, nk_bor, x_inV, hk_imm, hk_own, hk_io, hk_bor, x_sNx, x_pass, x_cont, x_brk, x_seq, sk_nx, sk_rt, sk_rtO, sk_ct, sk_bk, sk_ite, x_drop, x_sRet, x_sRetO, x_sIf, x_asg, x_asgO, x_gN, x_gO, x_gNil, x_gCons, x_gTt, x_gTl, x_sApp, x_sSet, x_chM, ck_own, ck_io, x_iOf, x_iRg, x_fn, fk_rt, fk_nx, fk_ite, ios_z, ios_s, keep_io, keep_imm, keep_own, keep_bor, keep_no, dSub_i, dAdd_i, dLt_i, dLe_i, dGt_i, dGe_i, dEq_int, dNe_int, ix_lst, ix_scr, ix_tup, atI_0, atI_1, atI_2, atI_3, List.getElem?_cons_zero, List.getElem?_cons_succ, List.set_cons_zero, List.set_cons_succ, List.length_cons, List.length_nil, List.cons_append, List.nil_append, List.replicate_succ, List.replicate_zero, Option.map_some, Option.bind_some, Nat.reduceAdd, Nat.reduceSub, Nat.reduceLT, Nat.reduceLeDiff, if_true, if_false, Bool.false_eq_true, decide_eq_true_eq, reduceIte, ne_eq, not_false_eq_true, Nat.lt_add_left_iff_pos, Nat.zero_lt_succ, x_call1, x_call2, x_call3, x_call4, dk1, dk2, dk3, dk4, ixV_V, Nat.reduceEqDiff, not_false_eq_true, x_isLst, x_isSet, List.map_cons, List.map_nil, Option.map_none, Option.bind_none], .inl e, _, _, _, rfl⟩)
  rw [List.length_map, List.take_length] at f1
  exact ⟨y6', y7', y8', f1⟩
noncomputable def aOut : Mo Out := (sSeq (sAsgO 4 (eLst aNil))
 (sSeq (sFor (iOf (eV 2)) (gN 5) aMid)
 (sAsg (gN 2) (eV 4))))
theorem fl_take {α β : Type} {f : α → List β} {l : List α} {i : Nat} {x : α} (h : l[i]? = some x) : (l.take (i + 1)).flatMap f = (l.take i).flatMap f ++ f x := by
  rw [take_snoc h, List.flatMap_append]; simp
theorem fl_len {α β : Type} {f : α → List β} {m : Nat} : ∀ {l : List α}, (∀ x ∈ l, (f x).length ≤ m) → (l.flatMap f).length ≤ m * l.length
  | [], _ => by simp
  | x :: l, h => by
    have := fl_len (l := l) fun y hy => h y (List.mem_cons_of_mem _ hy)
    have := h x List.mem_cons_self
    rw [List.flatMap_cons, List.length_append, List.length_cons, Nat.mul_add]
    omega
theorem cands_len {c : Cell} (h : c.2.length ≤ 4) : (cands (tl c)).length ≤ 5 := by
  unfold cands
  have := dd_len (l := tl c) (acc := [])
  rw [tl_len] at this
  rw [List.length_append]
  simp at this ⊢
  omega
theorem ev_aOut {cs : List Cell} (o : GOk cs) {c : Cell} (h : c ∈ cs) (h4 : c.2.length ≤ 4) {F : Int} {ps : List Ex} {y4 y5 y6 y7 y8 : Sl} (hp : ∀ p ∈ ps, ExOk p.2 c) (hl : ps.length ≤ 125) :
    ∃ y4' y5' y6' y7' y8', aOut [.imm (grD cs), .imm (.int F), .imm (.lst (ps.map prD)), .imm (kT c.1), y4, y5, y6, y7, y8] = some (.ok .nx, [.imm (grD cs), .imm (.int F), .imm (.lst ((stepF tl F ps c).map prD)), .imm (kT c.1), y4', y5', y6', y7', y8']) := by
  have hc5 := cands_len h4
  obtain ⟨δ', f1, y5', y6', y7', y8', rfl⟩ := sFor_inv (I := iOf (eV 2)) (T := gN 5) (S := aMid) (ds := ps.map prD)
    (δ := [.imm (grD cs), .imm (.int F), .imm (.lst (ps.map prD)), .imm (kT c.1), .own (.lst (List.map prD [])), y5, y6, y7, y8]) (δ0 := [.imm (grD cs), .imm (.int F), .imm (.lst (ps.map prD)), .imm (kT c.1), .own (.lst (List.map prD [])), y5, y6, y7, y8])
    (fun k δ => ∃ y5' y6' y7' y8' : Sl, δ = [.imm (grD cs), .imm (.int F), .imm (.lst (ps.map prD)), .imm (kT c.1), .own (.lst (((ps.take k).flatMap fun p => (cands (tl c)).filterMap (fm F c p)).map prD)), y5', y6', y7', y8'])
    (by simp only [x_bind, bk_ok, bk_ite, x_ret, x_lift, lk_some, lk_ite, app_ite, x_eC, x_eV, vk_imm, vk_own, vk_bor, x_give, gk_own, x_bin, x_un, x_ix, x_tru, x_eB, dBl_bl, dTru_bl, dTru_int, dTru_lst, x_and, x_or, x_not, x_eAnd, x_eOr, x_eNot, x_eIf, x_chain, x_aNil, x_aCons, x_aVr, rk_own, rk_io, x_aVb, tk_own, tk_io, tk_imm, tk_bor, x_eTup, x_eLst, imms_nil, imms_im, x_eF, x_call, ixV_C, jk_imm, jk_own, jk_io, jk_bor, flk_int, x_lenV, nk_imm, nk_own, nk_io, nk_bor, x_inV, hk_imm, hk_own, hk_io, hk_bor, x_sNx, x_pass, x_cont, x_brk, x_seq, sk_nx, sk_rt, sk_rtO, sk_ct, sk_bk, sk_ite, x_drop, x_sRet, x_sRetO, x_sIf, x_asg, x_asgO, x_gN, x_gO, x_gNil, x_gCons, x_gTt, x_gTl, x_sApp, x_sSet, x_chM, ck_own, ck_io, x_iOf, x_iRg, x_fn, fk_rt, fk_nx, fk_ite, ios_z, ios_s, keep_io, keep_imm, keep_own, keep_bor, keep_no, dSub_i, dAdd_i, dLt_i, dLe_i, dGt_i, dGe_i, dEq_int, dNe_int, ix_lst, ix_scr, ix_tup, atI_0, atI_1, atI_2, atI_3, List.getElem?_cons_zero, List.getElem?_cons_succ, List.set_cons_zero, List.set_cons_succ, List.length_cons, List.length_nil, List.cons_append, List.nil_append, List.replicate_succ, List.replicate_zero, Option.map_some, Option.bind_some, Nat.reduceAdd, Nat.reduceSub, Nat.reduceLT, Nat.reduceLeDiff, if_true, if_false, Bool.false_eq_true, decide_eq_true_eq, reduceIte, ne_eq, not_false_eq_true, Nat.lt_add_left_iff_pos, Nat.zero_lt_succ, x_call1, x_call2, x_call3, x_call4, dk1, dk2, dk3, dk4, ixV_V, Nat.reduceEqDiff, not_false_eq_true, x_isLst, x_isSet, List.map_cons, List.map_nil, Option.map_none, Option.bind_none]; rfl) ⟨y5, y6, y7, y8, by simp⟩ (fun k d δ hd hδ => by
      obtain ⟨y5', y6', y7', y8', rfl⟩ := hδ
      obtain ⟨p, hpk, rfl⟩ := getmap hd
      have hpm : p ∈ ps := List.mem_of_getElem? hpk
      have hlen : ((ps.take k).flatMap fun p => (cands (tl c)).filterMap (fm F c p)).length ≤ 5 * (ps.take k).length := fl_len fun x _ => Nat.le_trans fmap_len hc5
      have hk2 : (ps.take k).length ≤ ps.length := by rw [List.length_take]; omega
      obtain ⟨z6, z7, z8, e⟩ := ev_aMid (acc := (ps.take k).flatMap fun p => (cands (tl c)).filterMap (fm F c p)) (y2 := .imm (.lst (ps.map prD))) (y6 := y6') (y7 := y7') (y8 := y8') (F := F) o h (hp p hpm) (by omega)
      rw [fl_take hpk]
      exact ⟨[.imm (grD cs), .imm (.int F), .imm (.lst (ps.map prD)), .imm (kT c.1), .own (.lst (((ps.take k).flatMap fun p => (cands (tl c)).filterMap (fm F c p)).map prD)), .imm (prD p), y6', y7', y8'], _, by simp only [x_bind, bk_ok, bk_ite, x_ret, x_lift, lk_some, lk_ite, app_ite, x_eC, x_eV, vk_imm, vk_own, vk_bor, x_give, gk_own, x_bin, x_un, x_ix, x_tru, x_eB, dBl_bl, dTru_bl, dTru_int, dTru_lst, x_and, x_or, x_not, x_eAnd, x_eOr, x_eNot, x_eIf, x_chain, x_aNil, x_aCons, x_aVr, rk_own, rk_io, x_aVb, tk_own, tk_io, tk_imm, tk_bor, x_eTup, x_eLst, imms_nil, imms_im, x_eF, x_call, ixV_C, jk_imm, jk_own, jk_io, jk_bor, flk_int, x_lenV, nk_imm, nk_own, nk_io, nk_bor, x_inV, hk_imm, hk_own, hk_io, hk_bor, x_sNx, x_pass, x_cont, x_brk, x_seq, sk_nx, sk_rt, sk_rtO, sk_ct, sk_bk, sk_ite, x_drop, x_sRet, x_sRetO, x_sIf, x_asg, x_asgO, x_gN, x_gO, x_gNil, x_gCons, x_gTt, x_gTl, x_sApp, x_sSet, x_chM, ck_own, ck_io, x_iOf, x_iRg, x_fn, fk_rt, fk_nx, fk_ite, ios_z, ios_s, keep_io, keep_imm, keep_own, keep_bor, keep_no, dSub_i, dAdd_i, dLt_i, dLe_i, dGt_i, dGe_i, dEq_int, dNe_int, ix_lst, ix_scr, ix_tup, atI_0, atI_1, atI_2, atI_3, List.getElem?_cons_zero, List.getElem?_cons_succ, List.set_cons_zero, List.set_cons_succ, List.length_cons, List.length_nil, List.cons_append, List.nil_append, List.replicate_succ, List.replicate_zero, Option.map_some, Option.bind_some, Nat.reduceAdd, Nat.reduceSub, Nat.reduceLT, Nat.reduceLeDiff, if_true, if_false, Bool.false_eq_true, decide_eq_true_eq, reduceIte, ne_eq, not_false_eq_true, Nat.lt_add_left_iff_pos, Nat.zero_lt_succ, x_call1, x_call2, x_call3, x_call4, dk1, dk2, dk3, dk4, ixV_V, Nat.reduceEqDiff, not_false_eq_true, x_isLst, x_isSet, List.map_cons, List.map_nil, Option.map_none, Option.bind_none], .inl e, _, _, _, _, rfl⟩)
  rw [List.length_map, List.take_length] at f1
  refine ⟨.imm (.lst ((stepF tl F ps c).map prD)), y5', y6', y7', y8', ?_⟩
  unfold aOut
  rw [ssq (δ1 := [.imm (grD cs), .imm (.int F), .imm (.lst (ps.map prD)), .imm (kT c.1), .own (.lst (List.map prD [])), y5, y6, y7, y8]) rfl rfl, ssq f1 rfl, ← stepF_fm]
  simp only [x_bind, bk_ok, bk_ite, x_ret, x_lift, lk_some, lk_ite, app_ite, x_eC, x_eV, vk_imm, vk_own, vk_bor, x_give, gk_own, x_bin, x_un, x_ix, x_tru, x_eB, dBl_bl, dTru_bl, dTru_int, dTru_lst, x_and, x_or, x_not, x_eAnd, x_eOr, x_eNot, x_eIf, x_chain, x_aNil, x_aCons, x_aVr, rk_own, rk_io, x_aVb, tk_own, tk_io, tk_imm, tk_bor, x_eTup, x_eLst, imms_nil, imms_im, x_eF, x_call, ixV_C, jk_imm, jk_own, jk_io, jk_bor, flk_int, x_lenV, nk_imm, nk_own, nk_io, nk_bor, x_inV, hk_imm, hk_own, hk_io, hk_bor, x_sNx, x_pass, x_cont, x_brk, x_seq, sk_nx, sk_rt, sk_rtO, sk_ct, sk_bk, sk_ite, x_drop, x_sRet, x_sRetO, x_sIf, x_asg, x_asgO, x_gN, x_gO, x_gNil, x_gCons, x_gTt, x_gTl, x_sApp, x_sSet, x_chM, ck_own, ck_io, x_iOf, x_iRg, x_fn, fk_rt, fk_nx, fk_ite, ios_z, ios_s, keep_io, keep_imm, keep_own, keep_bor, keep_no, dSub_i, dAdd_i, dLt_i, dLe_i, dGt_i, dGe_i, dEq_int, dNe_int, ix_lst, ix_scr, ix_tup, atI_0, atI_1, atI_2, atI_3, List.getElem?_cons_zero, List.getElem?_cons_succ, List.set_cons_zero, List.set_cons_succ, List.length_cons, List.length_nil, List.cons_append, List.nil_append, List.replicate_succ, List.replicate_zero, Option.map_some, Option.bind_some, Nat.reduceAdd, Nat.reduceSub, Nat.reduceLT, Nat.reduceLeDiff, if_true, if_false, Bool.false_eq_true, decide_eq_true_eq, reduceIte, ne_eq, not_false_eq_true, Nat.lt_add_left_iff_pos, Nat.zero_lt_succ, x_call1, x_call2, x_call3, x_call4, dk1, dk2, dk3, dk4, ixV_V, Nat.reduceEqDiff, not_false_eq_true, x_isLst, x_isSet, List.map_cons, List.map_nil, Option.map_none, Option.bind_none]
theorem all_keys {F : Int} : ∀ {cs : List Cell} {ps : List Ex} {pre : List Cell}, (∀ q ∈ ps, q.2.map (·.1) = pre) → ∀ p ∈ cs.foldl (stepF tl F) ps, p.2.map (·.1) = pre ++ cs
  | [], ps, pre, h, p, hp => by rw [List.append_nil]; exact h p hp
  | c :: cs, ps, pre, h, p, hp => by
    have := all_keys (cs := cs) (ps := stepF tl F ps c) (pre := pre ++ [c]) (fun q hq => by
      obtain ⟨q', hq', v, _, _, rfl⟩ := step_mem.mp hq
      show (q'.2 ++ [(c, v)]).map (·.1) = _
      rw [List.map_append, h q' hq']; rfl) p hp
    rw [this, List.append_assoc]; rfl
theorem allF_keys {F : Int} {cs : List Cell} {p : Ex} (h : p ∈ allF tl F cs) : p.2.map (·.1) = cs := by
  have := all_keys (ps := [(0, [])]) (pre := []) (fun q hq => by rw [List.mem_singleton.mp hq]; rfl) p h
  simpa using this
theorem all_len {F : Int} {cs : List Cell} (h4 : ∀ c ∈ cs, c.2.length ≤ 4) : ∀ k, k ≤ cs.length → (allF tl F (cs.take k)).length ≤ 5 ^ k
  | 0, _ => by simp [allF]
  | k + 1, hk => by
    have ih := all_len (F := F) h4 k (by omega)
    have hg : cs[k]? = some cs[k] := List.getElem?_eq_getElem (by omega)
    have e : allF tl F (cs.take (k + 1)) = stepF tl F (allF tl F (cs.take k)) cs[k] := by unfold allF; rw [foldl_take hg]
    rw [e, stepF_fm]
    have := fl_len (f := fun p => (cands (tl cs[k])).filterMap (fm F cs[k] p)) (m := 5) (l := allF tl F (cs.take k)) fun x _ => Nat.le_trans fmap_len (cands_len (h4 _ (List.getElem_mem (by omega))))
    rw [Nat.pow_succ]
    omega
theorem ex_ok {F : Int} {cs : List Cell} (nd : (cs.map (·.1)).Nodup) (ap : apart (cs.map fun c => kK c.1)) (hl : cs.length ≤ 20) {k : Nat} (hk : k < cs.length) {p : Ex} (h : p ∈ allF tl F (cs.take k)) : ExOk p.2 cs[k] := by
  have hkeys := allF_keys h
  have e : p.2.map (fun q => kK q.1.1) = (cs.map fun c => kK c.1).take k := by
    rw [← List.map_take, ← hkeys, List.map_map]; rfl
  have hlen : p.2.length ≤ 20 := by
    have := congrArg List.length hkeys
    rw [List.length_map, List.length_take] at this
    omega
  refine ⟨?_, fun q hq z => ?_, by omega⟩
  · rw [e]
    obtain ⟨a1, a2⟩ := ap
    refine ⟨fun x hx => a1 x (List.mem_of_mem_take hx), ?_⟩
    rw [List.map_take]
    exact a2.sublist (List.take_sublist _ _)
  · have hm : q.1 ∈ cs.take k := by rw [← hkeys]; exact List.mem_map.mpr ⟨q, hq, rfl⟩
    obtain ⟨j, hj, ej⟩ := List.getElem_of_mem hm
    rw [List.length_take] at hj
    rw [List.getElem_take] at ej
    have e1 : (cs.map (·.1))[j]'(by rw [List.length_map]; omega) = (cs.map (·.1))[k]'(by rw [List.length_map]; exact hk) := by
      rw [List.getElem_map, List.getElem_map, ej, z]
    exact List.pairwise_iff_getElem.mp nd j k _ _ (by omega) e1
theorem fList_gr {cs : List Cell} : fList' [grD cs] = some (.lst (cs.map fun c => kT c.1)) := by
  show (if shortK ((cs.map fun c => (kK c.1, rowsD c)).map (·.1)) = true then some (D.lst ((cs.map fun c => (kK c.1, rowsD c)).map fun p => D.tup (p.1.map kD))) else none) = _
  rw [if_pos (short_k (f := fun c : Cell => c.1) (g := rowsD)), List.map_map]; rfl
theorem ev_all {cs : List Cell} (o : GOk cs) (ap : apart (cs.map fun c => kK c.1)) (hn : cs.length ≤ 4) (h4 : ∀ c ∈ cs, c.2.length ≤ 4) {F : Int} :
    m__law_all [.imm (grD cs), .imm (.int F)] = some (.ok (.lst ((allF tl F cs).map fun p => exD p.2)), [.no, .no]) := by
  obtain ⟨δ', f1, y3, y4, y5, y6, y7, y8, rfl⟩ := sFor_inv (I := (iOf (eF fList' (aCons (eV 0) aNil)))) (T := gN 3) (S := aOut) (ds := cs.map fun c => kT c.1)
    (δ := [.imm (grD cs), .imm (.int F), .imm (.lst ((allF tl F []).map prD)), .no, .no, .no, .no, .no, .no]) (δ0 := [.imm (grD cs), .imm (.int F), .imm (.lst ((allF tl F []).map prD)), .no, .no, .no, .no, .no, .no])
    (fun k δ => ∃ y3 y4 y5 y6 y7 y8 : Sl, δ = [.imm (grD cs), .imm (.int F), .imm (.lst ((allF tl F (cs.take k)).map prD)), y3, y4, y5, y6, y7, y8])
    (by simp only [x_bind, bk_ok, bk_ite, x_ret, x_lift, lk_some, lk_ite, app_ite, x_eC, x_eV, vk_imm, vk_own, vk_bor, x_give, gk_own, x_bin, x_un, x_ix, x_tru, x_eB, dBl_bl, dTru_bl, dTru_int, dTru_lst, x_and, x_or, x_not, x_eAnd, x_eOr, x_eNot, x_eIf, x_chain, x_aNil, x_aCons, x_aVr, rk_own, rk_io, x_aVb, tk_own, tk_io, tk_imm, tk_bor, x_eTup, x_eLst, imms_nil, imms_im, x_eF, x_call, ixV_C, jk_imm, jk_own, jk_io, jk_bor, flk_int, x_lenV, nk_imm, nk_own, nk_io, nk_bor, x_inV, hk_imm, hk_own, hk_io, hk_bor, x_sNx, x_pass, x_cont, x_brk, x_seq, sk_nx, sk_rt, sk_rtO, sk_ct, sk_bk, sk_ite, x_drop, x_sRet, x_sRetO, x_sIf, x_asg, x_asgO, x_gN, x_gO, x_gNil, x_gCons, x_gTt, x_gTl, x_sApp, x_sSet, x_chM, ck_own, ck_io, x_iOf, x_iRg, x_fn, fk_rt, fk_nx, fk_ite, ios_z, ios_s, keep_io, keep_imm, keep_own, keep_bor, keep_no, dSub_i, dAdd_i, dLt_i, dLe_i, dGt_i, dGe_i, dEq_int, dNe_int, ix_lst, ix_scr, ix_tup, atI_0, atI_1, atI_2, atI_3, List.getElem?_cons_zero, List.getElem?_cons_succ, List.set_cons_zero, List.set_cons_succ, List.length_cons, List.length_nil, List.cons_append, List.nil_append, List.replicate_succ, List.replicate_zero, Option.map_some, Option.bind_some, Nat.reduceAdd, Nat.reduceSub, Nat.reduceLT, Nat.reduceLeDiff, if_true, if_false, Bool.false_eq_true, decide_eq_true_eq, reduceIte, ne_eq, not_false_eq_true, Nat.lt_add_left_iff_pos, Nat.zero_lt_succ, x_call1, x_call2, x_call3, x_call4, dk1, dk2, dk3, dk4, ixV_V, Nat.reduceEqDiff, not_false_eq_true, x_isLst, x_isSet, List.map_cons, List.map_nil, Option.map_none, Option.bind_none, fList_gr]; rfl) ⟨.no, .no, .no, .no, .no, .no, rfl⟩ (fun k d δ hd hδ => by
      obtain ⟨y3, y4, y5, y6, y7, y8, rfl⟩ := hδ
      obtain ⟨c, hck, rfl⟩ := getmap hd
      have hk : k < cs.length := (List.getElem?_eq_some_iff.mp hck).1
      have hcm : c ∈ cs := List.mem_of_getElem? hck
      have ec : c = cs[k] := by
        rw [List.getElem?_eq_getElem hk] at hck; exact (Option.some.inj hck).symm
      have hb := all_len (F := F) h4 k (by omega)
      have hb2 : 5 ^ k ≤ 125 := by
        have : k = 0 ∨ k = 1 ∨ k = 2 ∨ k = 3 := by omega
        rcases this with rfl | rfl | rfl | rfl <;> decide
      obtain ⟨z4, z5, z6, z7, z8, e⟩ := ev_aOut (F := F) (ps := allF tl F (cs.take k)) (y4 := y4) (y5 := y5) (y6 := y6) (y7 := y7) (y8 := y8) o hcm (h4 c hcm) (fun p hp => by rw [ec]; exact ex_ok o.keys ap o.len hk hp) (by omega)
      have e2 : allF tl F (cs.take (k + 1)) = stepF tl F (allF tl F (cs.take k)) c := by unfold allF; rw [foldl_take hck]
      rw [e2]
      exact ⟨[.imm (grD cs), .imm (.int F), .imm (.lst ((allF tl F (cs.take k)).map prD)), .imm (kT c.1), y4, y5, y6, y7, y8], _, by simp only [x_bind, bk_ok, bk_ite, x_ret, x_lift, lk_some, lk_ite, app_ite, x_eC, x_eV, vk_imm, vk_own, vk_bor, x_give, gk_own, x_bin, x_un, x_ix, x_tru, x_eB, dBl_bl, dTru_bl, dTru_int, dTru_lst, x_and, x_or, x_not, x_eAnd, x_eOr, x_eNot, x_eIf, x_chain, x_aNil, x_aCons, x_aVr, rk_own, rk_io, x_aVb, tk_own, tk_io, tk_imm, tk_bor, x_eTup, x_eLst, imms_nil, imms_im, x_eF, x_call, ixV_C, jk_imm, jk_own, jk_io, jk_bor, flk_int, x_lenV, nk_imm, nk_own, nk_io, nk_bor, x_inV, hk_imm, hk_own, hk_io, hk_bor, x_sNx, x_pass, x_cont, x_brk, x_seq, sk_nx, sk_rt, sk_rtO, sk_ct, sk_bk, sk_ite, x_drop, x_sRet, x_sRetO, x_sIf, x_asg, x_asgO, x_gN, x_gO, x_gNil, x_gCons, x_gTt, x_gTl, x_sApp, x_sSet, x_chM, ck_own, ck_io, x_iOf, x_iRg, x_fn, fk_rt, fk_nx, fk_ite, ios_z, ios_s, keep_io, keep_imm, keep_own, keep_bor, keep_no, dSub_i, dAdd_i, dLt_i, dLe_i, dGt_i, dGe_i, dEq_int, dNe_int, ix_lst, ix_scr, ix_tup, atI_0, atI_1, atI_2, atI_3, List.getElem?_cons_zero, List.getElem?_cons_succ, List.set_cons_zero, List.set_cons_succ, List.length_cons, List.length_nil, List.cons_append, List.nil_append, List.replicate_succ, List.replicate_zero, Option.map_some, Option.bind_some, Nat.reduceAdd, Nat.reduceSub, Nat.reduceLT, Nat.reduceLeDiff, if_true, if_false, Bool.false_eq_true, decide_eq_true_eq, reduceIte, ne_eq, not_false_eq_true, Nat.lt_add_left_iff_pos, Nat.zero_lt_succ, x_call1, x_call2, x_call3, x_call4, dk1, dk2, dk3, dk4, ixV_V, Nat.reduceEqDiff, not_false_eq_true, x_isLst, x_isSet, List.map_cons, List.map_nil, Option.map_none, Option.bind_none], .inl e, _, _, _, _, _, _, rfl⟩)
  rw [List.length_map, List.take_length] at f1
  have hlen : (allF tl F cs).length ≤ 625 := by
    have := all_len (F := F) h4 cs.length (Nat.le_refl _)
    rw [List.take_length] at this
    have h2 : 5 ^ cs.length ≤ 625 := by
      have : cs.length = 0 ∨ cs.length = 1 ∨ cs.length = 2 ∨ cs.length = 3 ∨ cs.length = 4 := by omega
      rcases this with z | z | z | z | z <;> rw [z] <;> decide
    omega
  unfold m__law_all b__law_all
  rw [x_fn]
  have e0 : ([.imm (grD cs), .imm (.int F)] ++ List.replicate (9 - 2) Sl.no : Env) = [.imm (grD cs), .imm (.int F), .no, .no, .no, .no, .no, .no, .no] := rfl
  rw [e0]
  refine (congrArg (fk 2) (ssq (δ1 := [.imm (grD cs), .imm (.int F), .imm (.lst ((allF tl F []).map prD)), .no, .no, .no, .no, .no, .no]) rfl (ssq f1 rfl))).trans ?_
  rw [x_sRet]
  rw [eLc_map (l := allF tl F cs) (g := prD) (p := fun _ => true) (f := fun p => exD p.2) (δ0 := [.imm (grD cs), .imm (.int F), .imm (.lst ((allF tl F cs).map prD)), y3, y4, y5, y6, y7, y8])]
  · rw [filter_tt]; rfl
  · simp only [x_bind, bk_ok, bk_ite, x_ret, x_lift, lk_some, lk_ite, app_ite, x_eC, x_eV, vk_imm, vk_own, vk_bor, x_give, gk_own, x_bin, x_un, x_ix, x_tru, x_eB, dBl_bl, dTru_bl, dTru_int, dTru_lst, x_and, x_or, x_not, x_eAnd, x_eOr, x_eNot, x_eIf, x_chain, x_aNil, x_aCons, x_aVr, rk_own, rk_io, x_aVb, tk_own, tk_io, tk_imm, tk_bor, x_eTup, x_eLst, imms_nil, imms_im, x_eF, x_call, ixV_C, jk_imm, jk_own, jk_io, jk_bor, flk_int, x_lenV, nk_imm, nk_own, nk_io, nk_bor, x_inV, hk_imm, hk_own, hk_io, hk_bor, x_sNx, x_pass, x_cont, x_brk, x_seq, sk_nx, sk_rt, sk_rtO, sk_ct, sk_bk, sk_ite, x_drop, x_sRet, x_sRetO, x_sIf, x_asg, x_asgO, x_gN, x_gO, x_gNil, x_gCons, x_gTt, x_gTl, x_sApp, x_sSet, x_chM, ck_own, ck_io, x_iOf, x_iRg, x_fn, fk_rt, fk_nx, fk_ite, ios_z, ios_s, keep_io, keep_imm, keep_own, keep_bor, keep_no, dSub_i, dAdd_i, dLt_i, dLe_i, dGt_i, dGe_i, dEq_int, dNe_int, ix_lst, ix_scr, ix_tup, atI_0, atI_1, atI_2, atI_3, List.getElem?_cons_zero, List.getElem?_cons_succ, List.set_cons_zero, List.set_cons_succ, List.length_cons, List.length_nil, List.cons_append, List.nil_append, List.replicate_succ, List.replicate_zero, Option.map_some, Option.bind_some, Nat.reduceAdd, Nat.reduceSub, Nat.reduceLT, Nat.reduceLeDiff, if_true, if_false, Bool.false_eq_true, decide_eq_true_eq, reduceIte, ne_eq, not_false_eq_true, Nat.lt_add_left_iff_pos, Nat.zero_lt_succ, x_call1, x_call2, x_call3, x_call4, dk1, dk2, dk3, dk4, ixV_V, Nat.reduceEqDiff, not_false_eq_true, x_isLst, x_isSet, List.map_cons, List.map_nil, Option.map_none, Option.bind_none]; rfl
  · omega
  · intro p hp
    have e1 : dIx (prD p) (.int 1) = some (exD p.2) := atI_1
    refine ⟨[.imm (grD cs), .imm (.int F), .imm (.lst ((allF tl F cs).map prD)), y3, y4, .imm (prD p), y6, y7, y8], [.imm (grD cs), .imm (.int F), .imm (.lst ((allF tl F cs).map prD)), y3, y4, .imm (prD p), y6, y7, y8], ?_, rfl, fun _ => rfl, fun _ => ⟨[.imm (grD cs), .imm (.int F), .imm (.lst ((allF tl F cs).map prD)), y3, y4, .imm (prD p), y6, y7, y8], ?_, rfl⟩⟩
    · simp only [x_bind, bk_ok, bk_ite, x_ret, x_lift, lk_some, lk_ite, app_ite, x_eC, x_eV, vk_imm, vk_own, vk_bor, x_give, gk_own, x_bin, x_un, x_ix, x_tru, x_eB, dBl_bl, dTru_bl, dTru_int, dTru_lst, x_and, x_or, x_not, x_eAnd, x_eOr, x_eNot, x_eIf, x_chain, x_aNil, x_aCons, x_aVr, rk_own, rk_io, x_aVb, tk_own, tk_io, tk_imm, tk_bor, x_eTup, x_eLst, imms_nil, imms_im, x_eF, x_call, ixV_C, jk_imm, jk_own, jk_io, jk_bor, flk_int, x_lenV, nk_imm, nk_own, nk_io, nk_bor, x_inV, hk_imm, hk_own, hk_io, hk_bor, x_sNx, x_pass, x_cont, x_brk, x_seq, sk_nx, sk_rt, sk_rtO, sk_ct, sk_bk, sk_ite, x_drop, x_sRet, x_sRetO, x_sIf, x_asg, x_asgO, x_gN, x_gO, x_gNil, x_gCons, x_gTt, x_gTl, x_sApp, x_sSet, x_chM, ck_own, ck_io, x_iOf, x_iRg, x_fn, fk_rt, fk_nx, fk_ite, ios_z, ios_s, keep_io, keep_imm, keep_own, keep_bor, keep_no, dSub_i, dAdd_i, dLt_i, dLe_i, dGt_i, dGe_i, dEq_int, dNe_int, ix_lst, ix_scr, ix_tup, atI_0, atI_1, atI_2, atI_3, List.getElem?_cons_zero, List.getElem?_cons_succ, List.set_cons_zero, List.set_cons_succ, List.length_cons, List.length_nil, List.cons_append, List.nil_append, List.replicate_succ, List.replicate_zero, Option.map_some, Option.bind_some, Nat.reduceAdd, Nat.reduceSub, Nat.reduceLT, Nat.reduceLeDiff, if_true, if_false, Bool.false_eq_true, decide_eq_true_eq, reduceIte, ne_eq, not_false_eq_true, Nat.lt_add_left_iff_pos, Nat.zero_lt_succ, x_call1, x_call2, x_call3, x_call4, dk1, dk2, dk3, dk4, ixV_V, Nat.reduceEqDiff, not_false_eq_true, x_isLst, x_isSet, List.map_cons, List.map_nil, Option.map_none, Option.bind_none, wipeE]
    · simp only [x_bind, bk_ok, bk_ite, x_ret, x_lift, lk_some, lk_ite, app_ite, x_eC, x_eV, vk_imm, vk_own, vk_bor, x_give, gk_own, x_bin, x_un, x_ix, x_tru, x_eB, dBl_bl, dTru_bl, dTru_int, dTru_lst, x_and, x_or, x_not, x_eAnd, x_eOr, x_eNot, x_eIf, x_chain, x_aNil, x_aCons, x_aVr, rk_own, rk_io, x_aVb, tk_own, tk_io, tk_imm, tk_bor, x_eTup, x_eLst, imms_nil, imms_im, x_eF, x_call, ixV_C, jk_imm, jk_own, jk_io, jk_bor, flk_int, x_lenV, nk_imm, nk_own, nk_io, nk_bor, x_inV, hk_imm, hk_own, hk_io, hk_bor, x_sNx, x_pass, x_cont, x_brk, x_seq, sk_nx, sk_rt, sk_rtO, sk_ct, sk_bk, sk_ite, x_drop, x_sRet, x_sRetO, x_sIf, x_asg, x_asgO, x_gN, x_gO, x_gNil, x_gCons, x_gTt, x_gTl, x_sApp, x_sSet, x_chM, ck_own, ck_io, x_iOf, x_iRg, x_fn, fk_rt, fk_nx, fk_ite, ios_z, ios_s, keep_io, keep_imm, keep_own, keep_bor, keep_no, dSub_i, dAdd_i, dLt_i, dLe_i, dGt_i, dGe_i, dEq_int, dNe_int, ix_lst, ix_scr, ix_tup, atI_0, atI_1, atI_2, atI_3, List.getElem?_cons_zero, List.getElem?_cons_succ, List.set_cons_zero, List.set_cons_succ, List.length_cons, List.length_nil, List.cons_append, List.nil_append, List.replicate_succ, List.replicate_zero, Option.map_some, Option.bind_some, Nat.reduceAdd, Nat.reduceSub, Nat.reduceLT, Nat.reduceLeDiff, if_true, if_false, Bool.false_eq_true, decide_eq_true_eq, reduceIte, ne_eq, not_false_eq_true, Nat.lt_add_left_iff_pos, Nat.zero_lt_succ, x_call1, x_call2, x_call3, x_call4, dk1, dk2, dk3, dk4, ixV_V, Nat.reduceEqDiff, not_false_eq_true, x_isLst, x_isSet, List.map_cons, List.map_nil, Option.map_none, Option.bind_none, e1]
end M

set_option Elab.async false
set_option linter.all false
set_option maxRecDepth 100000
set_option maxHeartbeats 1000000
namespace M
open PySem L2
theorem nodup_of_map {α β : Type} {f : α → β} {l : List α} (h : (l.map f).Nodup) : l.Nodup := (List.pairwise_map.mp h).imp fun h e => h (congrArg f e)
theorem fine_str {s : Str} (h : NmOk s) : Fine (.str s) ∧ (toPy (.str s)).depth ≤ 0 := ⟨⟨h, by unfold toPy PyData.depth; omega, by unfold toPy PyData.eqv; simp⟩, by unfold toPy PyData.depth; omega⟩
theorem fine_row {r : Str × Int} (h : GdR r) : Fine (rowD r) ∧ (toPy (rowD r)).depth ≤ 1 := fine_tup (k := 0) (by omega) fun d m => by
  rcases List.mem_cons.mp m with rfl | m
  · exact fine_str h.2
  · rcases List.mem_cons.mp m with rfl | m
    · exact fine_int' _
    · simp at m
theorem fine_rows {c : Cell} (h : ∀ r ∈ c.2, GdR r) : Fine (rowsD c) := (fine_tup (k := 1) (by omega) fun d m => by
  obtain ⟨r, hr, rfl⟩ := List.mem_map.mp m
  exact fine_row (h r hr)).1
theorem fine_key (k : Int × Int) : Fine (kT k) ∧ (toPy (kT k)).depth ≤ 1 := fine_tup (k := 0) (by omega) fun d m => by
  rcases List.mem_cons.mp m with rfl | m
  · exact fine_int' _
  · rcases List.mem_cons.mp m with rfl | m
    · exact fine_int' _
    · simp at m
theorem look_mem {κ α : Type} [DecidableEq κ] : ∀ {l : List (κ × α)} {p : κ × α}, (l.map (·.1)).Nodup → p ∈ l → lookA l p.1 = some p.2
  | [], p, _, h => by simp at h
  | q :: l, p, nd, h => by
    rw [List.map_cons] at nd
    obtain ⟨n1, n2⟩ := List.nodup_cons.mp nd
    unfold lookA
    rw [List.find?_cons]
    by_cases e : q.1 = p.1
    · have : q = p := by
        rcases List.mem_cons.mp h with h | h
        · exact h.symm
        · exact absurd (List.mem_map.mpr ⟨p, h, e.symm⟩) n1
      subst this
      simp
    · rw [decide_eq_false e]
      rcases List.mem_cons.mp h with rfl | h
      · exact absurd rfl e
      · exact look_mem n2 h
theorem dNeX_T {l : List (List Key × D)} (nd : (l.map (·.1)).Nodup) (hf : ∀ p ∈ l, Fine p.2) : dNeX (.dT l) (.dT l) = some (.bl false) := by
  have h1 : allShp l = true := List.all_eq_true.mpr fun p hp => fine_shp (hf p hp)
  have h2 : eqTab l l = true := by
    unfold eqTab
    rw [Bool.and_eq_true]
    refine ⟨beq_self_eq_true _, List.all_eq_true.mpr fun p hp => ?_⟩
    rw [look_mem nd hp]
    exact (hf p hp).rfl
  show (if (allShp l && allShp l) = true then some (D.bl (!eqTab l l)) else none) = _
  rw [h1, h2]; rfl
theorem dNeX_l {l : List D} (h : Fine (.lst l)) : dNeX (.lst l) (.lst l) = some (.bl false) := dNe_rfl h
/-! ### the explanations -/
def valC (p : Ex) (c : Cell) : Int := ((p.2.find? fun q => decide (q.1 = c)).map (·.2)).getD 0
theorem find_f {f : Cell → Int} {c : Cell} : ∀ {cs : List Cell}, c ∈ cs → (cs.map fun c => (c, f c)).find? (fun q => decide (q.1 = c)) = some (c, f c)
  | [], h => by simp at h
  | x :: cs, h => by
    rw [List.map_cons, List.find?_cons]
    by_cases e : x = c
    · subst e; simp
    · rw [decide_eq_false e]
      rcases List.mem_cons.mp h with rfl | h
      · exact absurd rfl e
      · exact find_f h
theorem valC_f {f : Cell → Int} {cs : List Cell} {c : Cell} (h : c ∈ cs) {p : Ex} (e : p.2 = cs.map fun c => (c, f c)) : valC p c = f c := by
  unfold valC
  rw [e, find_f h]; rfl
theorem ix_ex {cs : List Cell} (nd : (cs.map (·.1)).Nodup) {F : Int} {p : Ex} (h0 : 0 ≤ F) (hp : p ∈ allF tl F cs) {c : Cell} (h : c ∈ cs) : dIx (exD p.2) (kT c.1) = some (.int (valC p c)) := by
  obtain ⟨f, e, _⟩ := (allF_mem h0 (nodup_of_map nd)).mp hp
  rw [valC_f h e, e]
  show (some (lookA ((cs.map fun c => (c, f c)).map fun p => (kK p.1.1, D.int p.2)) (kK c.1))).bind id = _
  rw [List.map_map, show ((fun p : Cell × Int => (kK p.1.1, D.int p.2)) ∘ fun c => (c, f c)) = fun c : Cell => (kK c.1, D.int (f c)) from rfl, look_key (f := fun c : Cell => c.1) (g := fun c => D.int (f c)) nd h]; rfl
def valsC (F : Int) (cs : List Cell) (c : Cell) : List Int := (allF tl F cs).map fun p => valC p c
/-- what the law finds is what is surely seen -/
theorem vals_sure {cs : List Cell} (o : GOk cs) {F : Int} (h0 : 0 ≤ F) (hL : Lst cs ≤ F) {c : Cell} (h : c ∈ cs) :
    ∃ v vs, valsC F cs c = v :: vs ∧ decide (((((v :: vs).filter fun x => !decide (x = v)).length : Nat) : Int) = 0) = sureB F cs c ∧ (sureB F cs c = true → v = bst (tl c)) := by
  have nd : cs.Nodup := nodup_of_map o.keys
  have hne : allF tl F cs ≠ [] := fun z => by
    have : F < Lst cs := (all_nil h0 nd o.tok).mp z
    omega
  obtain ⟨s1, s2⟩ := all_same (tl := tl) h0 nd o.tok hL h
  obtain ⟨p0, ps, hps⟩ := List.exists_cons_of_ne_nil hne
  refine ⟨valC p0 c, ps.map fun p => valC p c, by unfold valsC; rw [hps]; rfl, ?_, fun hs => ?_⟩
  · rw [Bool.eq_iff_iff, decide_eq_true_iff]
    constructor
    · intro hz
      have hz : (((valC p0 c :: ps.map fun p => valC p c).filter fun x => !decide (x = valC p0 c))).length = 0 := by omega
      have hz := List.length_eq_zero_iff.mp hz
      have same : ∀ p ∈ allF tl F cs, valC p c = valC p0 c := fun p hp => by
        have := (List.filter_eq_nil_iff.mp hz) (valC p c) (by
          rw [hps] at hp
          rcases List.mem_cons.mp hp with rfl | hp
          · exact List.mem_cons_self
          · exact List.mem_cons_of_mem _ (List.mem_map.mpr ⟨p, hp, rfl⟩))
        simpa using this
      unfold sureB
      rw [Bool.and_eq_true, decide_eq_true_iff, decide_eq_true_iff]
      refine ⟨hL, Classical.byContradiction fun z => ?_⟩
      obtain ⟨f, f1, f2, f3⟩ := s2 (by show tot tl cs bstC - _ + _ ≤ F; unfold Lst at z; omega)
      have m1 : (tot tl cs f, cs.map fun c => (c, f c)) ∈ allF tl F cs := (allF_mem h0 nd).mpr ⟨f, rfl, rfl, f1, f2⟩
      have m2 : (tot tl cs bstC, cs.map fun c => (c, bstC c)) ∈ allF tl F cs := (allF_mem h0 nd).mpr ⟨bstC, rfl, rfl, fun c hc => bst_cand (o.tok c hc), hL⟩
      have e1 := same _ m1
      have e2 := same _ m2
      rw [valC_f h rfl] at e1 e2
      exact f3 (e1.trans e2.symm)
    · intro hs
      unfold sureB at hs
      rw [Bool.and_eq_true, decide_eq_true_iff, decide_eq_true_iff] at hs
      have all : ∀ p ∈ allF tl F cs, valC p c = bst (tl c) := fun p hp => by
        obtain ⟨f, e, e2, f1, f2⟩ := (allF_mem h0 nd).mp hp
        rw [valC_f h e]
        exact s1 hs.2 f f1 (by omega)
      have : ((valC p0 c :: ps.map fun p => valC p c).filter fun x => !decide (x = valC p0 c)) = [] := by
        rw [List.filter_eq_nil_iff]
        intro x hx
        have a0 := all p0 (by rw [hps]; exact List.mem_cons_self)
        have : x = bst (tl c) := by
          rcases List.mem_cons.mp hx with rfl | hx
          · exact a0
          · obtain ⟨p, hp, rfl⟩ := List.mem_map.mp hx
            exact all p (by rw [hps]; exact List.mem_cons_of_mem _ hp)
        rw [this, a0]; simp
      rw [this]; rfl
  · unfold sureB at hs
    rw [Bool.and_eq_true, decide_eq_true_iff, decide_eq_true_iff] at hs
    obtain ⟨f, e, e2, f1, f2⟩ := (allF_mem h0 nd).mp (show p0 ∈ allF tl F cs by rw [hps]; exact List.mem_cons_self)
    rw [valC_f h e]
    exact s1 hs.2 f f1 (by omega)
theorem call_w1 {m : Mo D} {a d d' r : D} {s s0 : Sl} {δ : Env} (hm : m [.io d, .imm a] = some (.ok r, [.io d', s])) : callM m [.vr 1, .im a] (s0 :: .own d :: δ) = some (.ok r, s0 :: .own d' :: δ) :=
  call_of (by simp only [argSls, argSl, List.getElem?_cons_zero, List.getElem?_cons_succ]) ⟨by simp [vrs], by simp [vbs]⟩ hm (by simp only [backs, List.getElem?_cons_zero, List.getElem?_cons_succ, List.set_cons_zero, List.set_cons_succ])
theorem call_w2 {m : Mo D} {a b d d' r : D} {s t s0 : Sl} {δ : Env} (hm : m [.io d, .imm a, .imm b] = some (.ok r, [.io d', s, t])) : callM m [.vr 1, .im a, .im b] (s0 :: .own d :: δ) = some (.ok r, s0 :: .own d' :: δ) :=
  call_of (by simp only [argSls, argSl, List.getElem?_cons_zero, List.getElem?_cons_succ]) ⟨by simp [vrs], by simp [vbs]⟩ hm (by simp only [backs, List.getElem?_cons_zero, List.getElem?_cons_succ, List.set_cons_zero, List.set_cons_succ])
theorem ev_tk1 {ns : List Int} {d : D} {m : Int} (hd : IsPl ns d) (h : 0 < m) (h2 : m ≤ 1000) : ∃ t d', (∀ s0 δ, callM m__law_take [.vr 1, .im (.int m)] (s0 :: .own d :: δ) = some (.ok (.int t), s0 :: .own d' :: δ)) ∧ IsPl ns d' ∧ 0 ≤ t ∧ t < m := by
  obtain ⟨x, p, hp, rfl⟩ := hd
  obtain ⟨t, x', p', h1, h3, h4, h5⟩ := ev_take (ns := ns) (x := x) hp h h2
  exact ⟨t, _, fun s0 δ => call_w1 h1, ⟨x', p', h3, rfl⟩, h4, h5⟩
theorem ev_pool {ns : List Int} : ∃ d, m__law_pool [.imm (.scr (ns.map D.int))] = some (.ok d, [.no]) ∧ IsPl ns d := by
  refine ⟨plD ns 0 (-1), ?_, 0, -1, by omega, rfl⟩
  rfl
end M

set_option Elab.async false
set_option linter.all false
set_option maxRecDepth 100000
set_option maxHeartbeats 2000000
namespace M
open PySem L2
def duD (F : Int) (cs l : List Cell) : D := .dT ((l.filter (sureB F cs)).map fun c => (kK c.1, .int (bst (tl c))))
theorem duD_sure {F : Int} {cs : List Cell} : duD F cs cs = sureD F cs := rfl
abbrev E7 (p g F gv so fo : D) (y7 y8 y9 y10 y11 : Sl) (s0 : Sl) : Env := [s0, .own p, .imm g, .imm F, .imm gv, .imm so, .imm fo, y7, y8, y9, y10, y11]
noncomputable def dIn1 : Mo Out := (sSeq (sAsg (gN 9) (eLc (iOf (eV 6)) (gN 10) tYesM (eIxV 10 (eV 8)) [10]))
 (sIf (eB (eBin dEqX (eF fLen (aCons (eLc (iOf (eV 9)) (gN 11) (eB (eBin dNeX (eV 11) (eIxV 9 (eC (.int 0))))) (eV 11) [11]) aNil)) (eC (.int 0))))
 (sSet 7 (eV 8) (eIxV 9 (eC (.int 0))))
 sNx))
def foD (F : Int) (cs : List Cell) : D := .lst ((allF tl F cs).map fun p => exD p.2)
theorem ev_dIn {cs : List Cell} (o : GOk cs) {F : Int} (h0 : 0 ≤ F) (hL : Lst cs ≤ F) (hal : (allF tl F cs).length ≤ 1000) {k : Nat} {c : Cell} (hk : cs[k]? = some c) {p gv so : D} {s0 y9 y10 y11 : Sl} :
    ∃ z9, dIn1 (E7 p (grD cs) (.int F) gv so (foD F cs) (.own (duD F cs (cs.take k))) (.imm (kT c.1)) y9 .no .no s0) = some (.ok .nx, E7 p (grD cs) (.int F) gv so (foD F cs) (.own (duD F cs (cs.take (k + 1)))) (.imm (kT c.1)) z9 .no .no s0) := by
  have h : c ∈ cs := List.mem_of_getElem? hk
  obtain ⟨v, vs, hv, hb, hs⟩ := vals_sure o h0 hL h
  have hvl : (v :: vs).length ≤ 1000 := by rw [← hv]; unfold valsC; rw [List.length_map]; exact hal
  refine ⟨.imm (iD (v :: vs)), ?_⟩
  unfold dIn1
  have e1 : (eLc (iOf (eV 6)) (gN 10) tYesM (eIxV 10 (eV 8)) [10]) (E7 p (grD cs) (.int F) gv so (foD F cs) (.own (duD F cs (cs.take k))) (.imm (kT c.1)) y9 .no .no s0) = some (.ok (iD (v :: vs)), E7 p (grD cs) (.int F) gv so (foD F cs) (.own (duD F cs (cs.take k))) (.imm (kT c.1)) y9 .no .no s0) := by
    rw [eLc_map (l := allF tl F cs) (g := fun p => exD p.2) (p := fun _ => true) (f := fun p => .int (valC p c)) (δ0 := E7 p (grD cs) (.int F) gv so (foD F cs) (.own (duD F cs (cs.take k))) (.imm (kT c.1)) y9 .no .no s0)]
    · rw [filter_tt, ← hv]
      unfold valsC iD
      rw [List.map_map]; rfl
    · simp only [x_bind, bk_ok, bk_ite, x_ret, x_lift, lk_some, lk_ite, app_ite, x_eC, x_eV, vk_imm, vk_own, vk_bor, x_give, gk_own, x_bin, x_un, x_ix, x_tru, x_eB, dBl_bl, dTru_bl, dTru_int, dTru_lst, x_and, x_or, x_not, x_eAnd, x_eOr, x_eNot, x_eIf, x_chain, x_aNil, x_aCons, x_aVr, rk_own, rk_io, x_aVb, tk_own, tk_io, tk_imm, tk_bor, x_eTup, x_eLst, imms_nil, imms_im, x_eF, x_call, ixV_C, jk_imm, jk_own, jk_io, jk_bor, flk_int, x_lenV, nk_imm, nk_own, nk_io, nk_bor, x_inV, hk_imm, hk_own, hk_io, hk_bor, x_sNx, x_pass, x_cont, x_brk, x_seq, sk_nx, sk_rt, sk_rtO, sk_ct, sk_bk, sk_ite, x_drop, x_sRet, x_sRetO, x_sIf, x_asg, x_asgO, x_gN, x_gO, x_gNil, x_gCons, x_gTt, x_gTl, x_sApp, x_sSet, x_chM, ck_own, ck_io, x_iOf, x_iRg, x_fn, fk_rt, fk_nx, fk_ite, ios_z, ios_s, keep_io, keep_imm, keep_own, keep_bor, keep_no, dSub_i, dAdd_i, dLt_i, dLe_i, dGt_i, dGe_i, dEq_int, dNe_int, ix_lst, ix_scr, ix_tup, atI_0, atI_1, atI_2, atI_3, List.getElem?_cons_zero, List.getElem?_cons_succ, List.set_cons_zero, List.set_cons_succ, List.length_cons, List.length_nil, List.cons_append, List.nil_append, List.replicate_succ, List.replicate_zero, Option.map_some, Option.bind_some, Nat.reduceAdd, Nat.reduceSub, Nat.reduceLT, Nat.reduceLeDiff, if_true, if_false, Bool.false_eq_true, decide_eq_true_eq, reduceIte, ne_eq, not_false_eq_true, Nat.lt_add_left_iff_pos, Nat.zero_lt_succ, x_call1, x_call2, x_call3, x_call4, dk1, dk2, dk3, dk4, ixV_V, Nat.reduceEqDiff, not_false_eq_true, x_isLst, x_isSet, List.map_cons, List.map_nil, Option.map_none, Option.bind_none]; rfl
    · exact hal
    · intro q hq
      refine ⟨E7 p (grD cs) (.int F) gv so (foD F cs) (.own (duD F cs (cs.take k))) (.imm (kT c.1)) y9 (.imm (exD q.2)) .no s0, E7 p (grD cs) (.int F) gv so (foD F cs) (.own (duD F cs (cs.take k))) (.imm (kT c.1)) y9 (.imm (exD q.2)) .no s0, ?_, rfl, fun _ => rfl, fun _ => ⟨E7 p (grD cs) (.int F) gv so (foD F cs) (.own (duD F cs (cs.take k))) (.imm (kT c.1)) y9 (.imm (exD q.2)) .no s0, ?_, rfl⟩⟩
      · simp only [x_bind, bk_ok, bk_ite, x_ret, x_lift, lk_some, lk_ite, app_ite, x_eC, x_eV, vk_imm, vk_own, vk_bor, x_give, gk_own, x_bin, x_un, x_ix, x_tru, x_eB, dBl_bl, dTru_bl, dTru_int, dTru_lst, x_and, x_or, x_not, x_eAnd, x_eOr, x_eNot, x_eIf, x_chain, x_aNil, x_aCons, x_aVr, rk_own, rk_io, x_aVb, tk_own, tk_io, tk_imm, tk_bor, x_eTup, x_eLst, imms_nil, imms_im, x_eF, x_call, ixV_C, jk_imm, jk_own, jk_io, jk_bor, flk_int, x_lenV, nk_imm, nk_own, nk_io, nk_bor, x_inV, hk_imm, hk_own, hk_io, hk_bor, x_sNx, x_pass, x_cont, x_brk, x_seq, sk_nx, sk_rt, sk_rtO, sk_ct, sk_bk, sk_ite, x_drop, x_sRet, x_sRetO, x_sIf, x_asg, x_asgO, x_gN, x_gO, x_gNil, x_gCons, x_gTt, x_gTl, x_sApp, x_sSet, x_chM, ck_own, ck_io, x_iOf, x_iRg, x_fn, fk_rt, fk_nx, fk_ite, ios_z, ios_s, keep_io, keep_imm, keep_own, keep_bor, keep_no, dSub_i, dAdd_i, dLt_i, dLe_i, dGt_i, dGe_i, dEq_int, dNe_int, ix_lst, ix_scr, ix_tup, atI_0, atI_1, atI_2, atI_3, List.getElem?_cons_zero, List.getElem?_cons_succ, List.set_cons_zero, List.set_cons_succ, List.length_cons, List.length_nil, List.cons_append, List.nil_append, List.replicate_succ, List.replicate_zero, Option.map_some, Option.bind_some, Nat.reduceAdd, Nat.reduceSub, Nat.reduceLT, Nat.reduceLeDiff, if_true, if_false, Bool.false_eq_true, decide_eq_true_eq, reduceIte, ne_eq, not_false_eq_true, Nat.lt_add_left_iff_pos, Nat.zero_lt_succ, x_call1, x_call2, x_call3, x_call4, dk1, dk2, dk3, dk4, ixV_V, Nat.reduceEqDiff, not_false_eq_true, x_isLst, x_isSet, List.map_cons, List.map_nil, Option.map_none, Option.bind_none, wipeE]
      · simp only [x_bind, bk_ok, bk_ite, x_ret, x_lift, lk_some, lk_ite, app_ite, x_eC, x_eV, vk_imm, vk_own, vk_bor, x_give, gk_own, x_bin, x_un, x_ix, x_tru, x_eB, dBl_bl, dTru_bl, dTru_int, dTru_lst, x_and, x_or, x_not, x_eAnd, x_eOr, x_eNot, x_eIf, x_chain, x_aNil, x_aCons, x_aVr, rk_own, rk_io, x_aVb, tk_own, tk_io, tk_imm, tk_bor, x_eTup, x_eLst, imms_nil, imms_im, x_eF, x_call, ixV_C, jk_imm, jk_own, jk_io, jk_bor, flk_int, x_lenV, nk_imm, nk_own, nk_io, nk_bor, x_inV, hk_imm, hk_own, hk_io, hk_bor, x_sNx, x_pass, x_cont, x_brk, x_seq, sk_nx, sk_rt, sk_rtO, sk_ct, sk_bk, sk_ite, x_drop, x_sRet, x_sRetO, x_sIf, x_asg, x_asgO, x_gN, x_gO, x_gNil, x_gCons, x_gTt, x_gTl, x_sApp, x_sSet, x_chM, ck_own, ck_io, x_iOf, x_iRg, x_fn, fk_rt, fk_nx, fk_ite, ios_z, ios_s, keep_io, keep_imm, keep_own, keep_bor, keep_no, dSub_i, dAdd_i, dLt_i, dLe_i, dGt_i, dGe_i, dEq_int, dNe_int, ix_lst, ix_scr, ix_tup, atI_0, atI_1, atI_2, atI_3, List.getElem?_cons_zero, List.getElem?_cons_succ, List.set_cons_zero, List.set_cons_succ, List.length_cons, List.length_nil, List.cons_append, List.nil_append, List.replicate_succ, List.replicate_zero, Option.map_some, Option.bind_some, Nat.reduceAdd, Nat.reduceSub, Nat.reduceLT, Nat.reduceLeDiff, if_true, if_false, Bool.false_eq_true, decide_eq_true_eq, reduceIte, ne_eq, not_false_eq_true, Nat.lt_add_left_iff_pos, Nat.zero_lt_succ, x_call1, x_call2, x_call3, x_call4, dk1, dk2, dk3, dk4, ixV_V, Nat.reduceEqDiff, not_false_eq_true, x_isLst, x_isSet, List.map_cons, List.map_nil, Option.map_none, Option.bind_none, ix_ex o.keys h0 hq h]
  rw [ssq (δ1 := E7 p (grD cs) (.int F) gv so (foD F cs) (.own (duD F cs (cs.take k))) (.imm (kT c.1)) (.imm (iD (v :: vs))) .no .no s0) (by simp only [x_asg, e1, x_bind, bk_ok, bk_ite, x_ret, x_lift, lk_some, lk_ite, app_ite, x_eC, x_eV, vk_imm, vk_own, vk_bor, x_give, gk_own, x_bin, x_un, x_ix, x_tru, x_eB, dBl_bl, dTru_bl, dTru_int, dTru_lst, x_and, x_or, x_not, x_eAnd, x_eOr, x_eNot, x_eIf, x_chain, x_aNil, x_aCons, x_aVr, rk_own, rk_io, x_aVb, tk_own, tk_io, tk_imm, tk_bor, x_eTup, x_eLst, imms_nil, imms_im, x_eF, x_call, ixV_C, jk_imm, jk_own, jk_io, jk_bor, flk_int, x_lenV, nk_imm, nk_own, nk_io, nk_bor, x_inV, hk_imm, hk_own, hk_io, hk_bor, x_sNx, x_pass, x_cont, x_brk, x_seq, sk_nx, sk_rt, sk_rtO, sk_ct, sk_bk, sk_ite, x_drop, x_sRet, x_sRetO, x_sIf, x_asg, x_asgO, x_gN, x_gO, x_gNil, x_gCons, x_gTt, x_gTl, x_sApp, x_sSet, x_chM, ck_own, ck_io, x_iOf, x_iRg, x_fn, fk_rt, fk_nx, fk_ite, ios_z, ios_s, keep_io, keep_imm, keep_own, keep_bor, keep_no, dSub_i, dAdd_i, dLt_i, dLe_i, dGt_i, dGe_i, dEq_int, dNe_int, ix_lst, ix_scr, ix_tup, atI_0, atI_1, atI_2, atI_3, List.getElem?_cons_zero, List.getElem?_cons_succ, List.set_cons_zero, List.set_cons_succ, List.length_cons, List.length_nil, List.cons_append, List.nil_append, List.replicate_succ, List.replicate_zero, Option.map_some, Option.bind_some, Nat.reduceAdd, Nat.reduceSub, Nat.reduceLT, Nat.reduceLeDiff, if_true, if_false, Bool.false_eq_true, decide_eq_true_eq, reduceIte, ne_eq, not_false_eq_true, Nat.lt_add_left_iff_pos, Nat.zero_lt_succ, x_call1, x_call2, x_call3, x_call4, dk1, dk2, dk3, dk4, ixV_V, Nat.reduceEqDiff, not_false_eq_true, x_isLst, x_isSet, List.map_cons, List.map_nil, Option.map_none, Option.bind_none]) rfl]
  have e2 : (eLc (iOf (eV 9)) (gN 11) (eB (eBin dNeX (eV 11) (eIxV 9 (eC (.int 0))))) (eV 11) [11]) (E7 p (grD cs) (.int F) gv so (foD F cs) (.own (duD F cs (cs.take k))) (.imm (kT c.1)) (.imm (iD (v :: vs))) .no .no s0) = some (.ok (iD ((v :: vs).filter fun x => !decide (x = v))), E7 p (grD cs) (.int F) gv so (foD F cs) (.own (duD F cs (cs.take k))) (.imm (kT c.1)) (.imm (iD (v :: vs))) .no .no s0) := by
    rw [eLc_map (l := v :: vs) (g := D.int) (p := fun x => !decide (x = v)) (f := D.int) (δ0 := E7 p (grD cs) (.int F) gv so (foD F cs) (.own (duD F cs (cs.take k))) (.imm (kT c.1)) (.imm (iD (v :: vs))) .no .no s0)]
    · rfl
    · simp only [x_bind, bk_ok, bk_ite, x_ret, x_lift, lk_some, lk_ite, app_ite, x_eC, x_eV, vk_imm, vk_own, vk_bor, x_give, gk_own, x_bin, x_un, x_ix, x_tru, x_eB, dBl_bl, dTru_bl, dTru_int, dTru_lst, x_and, x_or, x_not, x_eAnd, x_eOr, x_eNot, x_eIf, x_chain, x_aNil, x_aCons, x_aVr, rk_own, rk_io, x_aVb, tk_own, tk_io, tk_imm, tk_bor, x_eTup, x_eLst, imms_nil, imms_im, x_eF, x_call, ixV_C, jk_imm, jk_own, jk_io, jk_bor, flk_int, x_lenV, nk_imm, nk_own, nk_io, nk_bor, x_inV, hk_imm, hk_own, hk_io, hk_bor, x_sNx, x_pass, x_cont, x_brk, x_seq, sk_nx, sk_rt, sk_rtO, sk_ct, sk_bk, sk_ite, x_drop, x_sRet, x_sRetO, x_sIf, x_asg, x_asgO, x_gN, x_gO, x_gNil, x_gCons, x_gTt, x_gTl, x_sApp, x_sSet, x_chM, ck_own, ck_io, x_iOf, x_iRg, x_fn, fk_rt, fk_nx, fk_ite, ios_z, ios_s, keep_io, keep_imm, keep_own, keep_bor, keep_no, dSub_i, dAdd_i, dLt_i, dLe_i, dGt_i, dGe_i, dEq_int, dNe_int, ix_lst, ix_scr, ix_tup, atI_0, atI_1, atI_2, atI_3, List.getElem?_cons_zero, List.getElem?_cons_succ, List.set_cons_zero, List.set_cons_succ, List.length_cons, List.length_nil, List.cons_append, List.nil_append, List.replicate_succ, List.replicate_zero, Option.map_some, Option.bind_some, Nat.reduceAdd, Nat.reduceSub, Nat.reduceLT, Nat.reduceLeDiff, if_true, if_false, Bool.false_eq_true, decide_eq_true_eq, reduceIte, ne_eq, not_false_eq_true, Nat.lt_add_left_iff_pos, Nat.zero_lt_succ, x_call1, x_call2, x_call3, x_call4, dk1, dk2, dk3, dk4, ixV_V, Nat.reduceEqDiff, not_false_eq_true, x_isLst, x_isSet, List.map_cons, List.map_nil, Option.map_none, Option.bind_none]; rfl
    · exact hvl
    · intro x hx
      refine ⟨E7 p (grD cs) (.int F) gv so (foD F cs) (.own (duD F cs (cs.take k))) (.imm (kT c.1)) (.imm (iD (v :: vs))) .no (.imm (.int x)) s0, E7 p (grD cs) (.int F) gv so (foD F cs) (.own (duD F cs (cs.take k))) (.imm (kT c.1)) (.imm (iD (v :: vs))) .no (.imm (.int x)) s0, ?_, ?_, fun _ => rfl, fun _ => ⟨_, rfl, rfl⟩⟩
      · simp only [x_bind, bk_ok, bk_ite, x_ret, x_lift, lk_some, lk_ite, app_ite, x_eC, x_eV, vk_imm, vk_own, vk_bor, x_give, gk_own, x_bin, x_un, x_ix, x_tru, x_eB, dBl_bl, dTru_bl, dTru_int, dTru_lst, x_and, x_or, x_not, x_eAnd, x_eOr, x_eNot, x_eIf, x_chain, x_aNil, x_aCons, x_aVr, rk_own, rk_io, x_aVb, tk_own, tk_io, tk_imm, tk_bor, x_eTup, x_eLst, imms_nil, imms_im, x_eF, x_call, ixV_C, jk_imm, jk_own, jk_io, jk_bor, flk_int, x_lenV, nk_imm, nk_own, nk_io, nk_bor, x_inV, hk_imm, hk_own, hk_io, hk_bor, x_sNx, x_pass, x_cont, x_brk, x_seq, sk_nx, sk_rt, sk_rtO, sk_ct, sk_bk, sk_ite, x_drop, x_sRet, x_sRetO, x_sIf, x_asg, x_asgO, x_gN, x_gO, x_gNil, x_gCons, x_gTt, x_gTl, x_sApp, x_sSet, x_chM, ck_own, ck_io, x_iOf, x_iRg, x_fn, fk_rt, fk_nx, fk_ite, ios_z, ios_s, keep_io, keep_imm, keep_own, keep_bor, keep_no, dSub_i, dAdd_i, dLt_i, dLe_i, dGt_i, dGe_i, dEq_int, dNe_int, ix_lst, ix_scr, ix_tup, atI_0, atI_1, atI_2, atI_3, List.getElem?_cons_zero, List.getElem?_cons_succ, List.set_cons_zero, List.set_cons_succ, List.length_cons, List.length_nil, List.cons_append, List.nil_append, List.replicate_succ, List.replicate_zero, Option.map_some, Option.bind_some, Nat.reduceAdd, Nat.reduceSub, Nat.reduceLT, Nat.reduceLeDiff, if_true, if_false, Bool.false_eq_true, decide_eq_true_eq, reduceIte, ne_eq, not_false_eq_true, Nat.lt_add_left_iff_pos, Nat.zero_lt_succ, x_call1, x_call2, x_call3, x_call4, dk1, dk2, dk3, dk4, ixV_V, Nat.reduceEqDiff, not_false_eq_true, x_isLst, x_isSet, List.map_cons, List.map_nil, Option.map_none, Option.bind_none, wipeE]
      · have e : dIx (iD (v :: vs)) (.int 0) = some (.int v) := atI_0
        simp only [x_bind, bk_ok, bk_ite, x_ret, x_lift, lk_some, lk_ite, app_ite, x_eC, x_eV, vk_imm, vk_own, vk_bor, x_give, gk_own, x_bin, x_un, x_ix, x_tru, x_eB, dBl_bl, dTru_bl, dTru_int, dTru_lst, x_and, x_or, x_not, x_eAnd, x_eOr, x_eNot, x_eIf, x_chain, x_aNil, x_aCons, x_aVr, rk_own, rk_io, x_aVb, tk_own, tk_io, tk_imm, tk_bor, x_eTup, x_eLst, imms_nil, imms_im, x_eF, x_call, ixV_C, jk_imm, jk_own, jk_io, jk_bor, flk_int, x_lenV, nk_imm, nk_own, nk_io, nk_bor, x_inV, hk_imm, hk_own, hk_io, hk_bor, x_sNx, x_pass, x_cont, x_brk, x_seq, sk_nx, sk_rt, sk_rtO, sk_ct, sk_bk, sk_ite, x_drop, x_sRet, x_sRetO, x_sIf, x_asg, x_asgO, x_gN, x_gO, x_gNil, x_gCons, x_gTt, x_gTl, x_sApp, x_sSet, x_chM, ck_own, ck_io, x_iOf, x_iRg, x_fn, fk_rt, fk_nx, fk_ite, ios_z, ios_s, keep_io, keep_imm, keep_own, keep_bor, keep_no, dSub_i, dAdd_i, dLt_i, dLe_i, dGt_i, dGe_i, dEq_int, dNe_int, ix_lst, ix_scr, ix_tup, atI_0, atI_1, atI_2, atI_3, List.getElem?_cons_zero, List.getElem?_cons_succ, List.set_cons_zero, List.set_cons_succ, List.length_cons, List.length_nil, List.cons_append, List.nil_append, List.replicate_succ, List.replicate_zero, Option.map_some, Option.bind_some, Nat.reduceAdd, Nat.reduceSub, Nat.reduceLT, Nat.reduceLeDiff, if_true, if_false, Bool.false_eq_true, decide_eq_true_eq, reduceIte, ne_eq, not_false_eq_true, Nat.lt_add_left_iff_pos, Nat.zero_lt_succ, x_call1, x_call2, x_call3, x_call4, dk1, dk2, dk3, dk4, ixV_V, Nat.reduceEqDiff, not_false_eq_true, x_isLst, x_isSet, List.map_cons, List.map_nil, Option.map_none, Option.bind_none, e, dNeX_i]
  have e3 : (eB (eBin dEqX (eF fLen (aCons (eLc (iOf (eV 9)) (gN 11) (eB (eBin dNeX (eV 11) (eIxV 9 (eC (.int 0))))) (eV 11) [11]) aNil)) (eC (.int 0)))) (E7 p (grD cs) (.int F) gv so (foD F cs) (.own (duD F cs (cs.take k))) (.imm (kT c.1)) (.imm (iD (v :: vs))) .no .no s0) = some (.ok (sureB F cs c), E7 p (grD cs) (.int F) gv so (foD F cs) (.own (duD F cs (cs.take k))) (.imm (kT c.1)) (.imm (iD (v :: vs))) .no .no s0) := by
    rw [← hb, x_eB, x_bin, x_eF, x_aCons, e2]
    simp only [x_bind, bk_ok, bk_ite, x_ret, x_lift, lk_some, lk_ite, app_ite, x_eC, x_eV, vk_imm, vk_own, vk_bor, x_give, gk_own, x_bin, x_un, x_ix, x_tru, x_eB, dBl_bl, dTru_bl, dTru_int, dTru_lst, x_and, x_or, x_not, x_eAnd, x_eOr, x_eNot, x_eIf, x_chain, x_aNil, x_aCons, x_aVr, rk_own, rk_io, x_aVb, tk_own, tk_io, tk_imm, tk_bor, x_eTup, x_eLst, imms_nil, imms_im, x_eF, x_call, ixV_C, jk_imm, jk_own, jk_io, jk_bor, flk_int, x_lenV, nk_imm, nk_own, nk_io, nk_bor, x_inV, hk_imm, hk_own, hk_io, hk_bor, x_sNx, x_pass, x_cont, x_brk, x_seq, sk_nx, sk_rt, sk_rtO, sk_ct, sk_bk, sk_ite, x_drop, x_sRet, x_sRetO, x_sIf, x_asg, x_asgO, x_gN, x_gO, x_gNil, x_gCons, x_gTt, x_gTl, x_sApp, x_sSet, x_chM, ck_own, ck_io, x_iOf, x_iRg, x_fn, fk_rt, fk_nx, fk_ite, ios_z, ios_s, keep_io, keep_imm, keep_own, keep_bor, keep_no, dSub_i, dAdd_i, dLt_i, dLe_i, dGt_i, dGe_i, dEq_int, dNe_int, ix_lst, ix_scr, ix_tup, atI_0, atI_1, atI_2, atI_3, List.getElem?_cons_zero, List.getElem?_cons_succ, List.set_cons_zero, List.set_cons_succ, List.length_cons, List.length_nil, List.cons_append, List.nil_append, List.replicate_succ, List.replicate_zero, Option.map_some, Option.bind_some, Nat.reduceAdd, Nat.reduceSub, Nat.reduceLT, Nat.reduceLeDiff, if_true, if_false, Bool.false_eq_true, decide_eq_true_eq, reduceIte, ne_eq, not_false_eq_true, Nat.lt_add_left_iff_pos, Nat.zero_lt_succ, x_call1, x_call2, x_call3, x_call4, dk1, dk2, dk3, dk4, ixV_V, Nat.reduceEqDiff, not_false_eq_true, x_isLst, x_isSet, List.map_cons, List.map_nil, Option.map_none, Option.bind_none, fLen_iD, dEqX_i]
  have etk : cs.take (k + 1) = cs.take k ++ [c] := take_snoc hk
  cases hsu : sureB F cs c with
  | true =>
    rw [hsu] at e3
    rw [sIf_t e3, etk]
    have hvb := hs hsu
    subst hvb
    have e4 : dIx (iD (bst (tl c) :: vs)) (.int 0) = some (.int (bst (tl c))) := atI_0
    have e5 : dSet (kT c.1) (.int (bst (tl c))) (duD F cs (cs.take k)) = some (duD F cs (cs.take k ++ [c])) := by
      have hlen := o.len
      show (if (((cs.take k).filter (sureB F cs)).map fun c => (kK c.1, D.int (bst (tl c)))).length < sizeLine then some (D.dT (putA (((cs.take k).filter (sureB F cs)).map fun c => (kK c.1, D.int (bst (tl c)))) (kK c.1) (.int (bst (tl c))))) else none) = _
      rw [if_pos (by
        rw [List.length_map]
        have h1 := List.length_filter_le (sureB F cs) (cs.take k)
        have h2 : (cs.take k).length ≤ cs.length := by rw [List.length_take]; omega
        exact small1000 (by omega)), putA_new]
      · unfold duD
        rw [List.filter_append, List.filter_cons_of_pos hsu, List.map_append]; rfl
      · intro q hq
        obtain ⟨x, hx, rfl⟩ := List.mem_map.mp hq
        intro z
        have z := kK_inj z
        obtain ⟨j, hj, ej⟩ := List.getElem_of_mem (List.mem_filter.mp hx).1
        rw [List.length_take] at hj
        rw [List.getElem_take] at ej
        have hkk : k < cs.length := (List.getElem?_eq_some_iff.mp hk).1
        have ec : c = cs[k] := by
          rw [List.getElem?_eq_getElem hkk] at hk; exact (Option.some.inj hk).symm
        have e1 : (cs.map (·.1))[j]'(by rw [List.length_map]; omega) = (cs.map (·.1))[k]'(by rw [List.length_map]; exact hkk) := by
          rw [List.getElem_map, List.getElem_map, ej, z, ec]
        exact List.pairwise_iff_getElem.mp o.keys j k _ _ (by omega) e1
    have e6 : iSk (some (.own (duD F cs (cs.take k)))) = true := rfl
    simp only [x_bind, bk_ok, bk_ite, x_ret, x_lift, lk_some, lk_ite, app_ite, x_eC, x_eV, vk_imm, vk_own, vk_bor, x_give, gk_own, x_bin, x_un, x_ix, x_tru, x_eB, dBl_bl, dTru_bl, dTru_int, dTru_lst, x_and, x_or, x_not, x_eAnd, x_eOr, x_eNot, x_eIf, x_chain, x_aNil, x_aCons, x_aVr, rk_own, rk_io, x_aVb, tk_own, tk_io, tk_imm, tk_bor, x_eTup, x_eLst, imms_nil, imms_im, x_eF, x_call, ixV_C, jk_imm, jk_own, jk_io, jk_bor, flk_int, x_lenV, nk_imm, nk_own, nk_io, nk_bor, x_inV, hk_imm, hk_own, hk_io, hk_bor, x_sNx, x_pass, x_cont, x_brk, x_seq, sk_nx, sk_rt, sk_rtO, sk_ct, sk_bk, sk_ite, x_drop, x_sRet, x_sRetO, x_sIf, x_asg, x_asgO, x_gN, x_gO, x_gNil, x_gCons, x_gTt, x_gTl, x_sApp, x_sSet, x_chM, ck_own, ck_io, x_iOf, x_iRg, x_fn, fk_rt, fk_nx, fk_ite, ios_z, ios_s, keep_io, keep_imm, keep_own, keep_bor, keep_no, dSub_i, dAdd_i, dLt_i, dLe_i, dGt_i, dGe_i, dEq_int, dNe_int, ix_lst, ix_scr, ix_tup, atI_0, atI_1, atI_2, atI_3, List.getElem?_cons_zero, List.getElem?_cons_succ, List.set_cons_zero, List.set_cons_succ, List.length_cons, List.length_nil, List.cons_append, List.nil_append, List.replicate_succ, List.replicate_zero, Option.map_some, Option.bind_some, Nat.reduceAdd, Nat.reduceSub, Nat.reduceLT, Nat.reduceLeDiff, if_true, if_false, Bool.false_eq_true, decide_eq_true_eq, reduceIte, ne_eq, not_false_eq_true, Nat.lt_add_left_iff_pos, Nat.zero_lt_succ, x_call1, x_call2, x_call3, x_call4, dk1, dk2, dk3, dk4, ixV_V, Nat.reduceEqDiff, not_false_eq_true, x_isLst, x_isSet, List.map_cons, List.map_nil, Option.map_none, Option.bind_none, e4, e5, e6]
  | false =>
    rw [hsu] at e3
    rw [sIf_f e3, etk]
    have : duD F cs (cs.take k ++ [c]) = duD F cs (cs.take k) := by
      unfold duD
      rw [List.filter_append, List.filter_cons_of_neg (by rw [hsu]; simp), List.filter_nil, List.append_nil]
    rw [this]; rfl
noncomputable def wBody : Mo Out := (sSeq (sAsg (gN 4) (eF fDict (aCons (eV 2) aNil)))
 (sSeq (sAsg (gN 5) (eCall m_sure (aCons (eV 4) (aCons (eV 3) aNil))))
 (sSeq (sAsg (gN 6) (eCall m__law_all (aCons (eV 2) (aCons (eV 3) aNil))))
 (sSeq (sIf (tNotM (eTru (eV 6)))
 (sSeq (sIf (eB (eBin (dIs true) (eV 5) (eC .non)))
 (sRet (eC (.bl false)))
 sNx)
 sCont)
 sNx)
 (sSeq (sAsgO 7 (eD0 (.dT [])))
 (sSeq (sFor (iOf (eF fList' (aCons (eV 2) aNil))) (gN 8) dIn1)
 (sIf (tOrM (eB (eBin dNeX (eV 5) (eV 7))) (tOrM (eB (eBin dNeX (eF fList' (aCons (eV 5) aNil)) (eF fList' (aCons (eV 7) aNil)))) (eB (eBin dNeX (eV 4) (eV 2)))))
 (sRet (eC (.bl false)))
 sNx)))))))
theorem fList_sure {F : Int} {cs : List Cell} : fList' [sureD F cs] = some (.lst ((cs.filter (sureB F cs)).map fun c => kT c.1)) := by
  show (if shortK (((cs.filter (sureB F cs)).map fun c => (kK c.1, D.int (bst (tl c)))).map (·.1)) = true then some (D.lst (((cs.filter (sureB F cs)).map fun c => (kK c.1, D.int (bst (tl c)))).map fun p => D.tup (p.1.map kD))) else none) = _
  rw [if_pos (short_k (f := fun c : Cell => c.1) (g := fun c => D.int (bst (tl c)))), List.map_map]; rfl
theorem fine_keys (l : List Cell) : Fine (.lst (l.map fun c => kT c.1)) := (fine_lst (k := 1) (by omega) fun d m => by
  obtain ⟨c, _, rfl⟩ := List.mem_map.mp m
  exact fine_key c.1).1
theorem ev_wBody {n m : Nat} {cs : List Cell} (g : GDr n m cs) (hn : n ≤ 4) (hm : m ≤ 4) {F : Int} (h0 : 0 ≤ F) {p : D} {s0 y4 y5 y6 y7 y8 y9 : Sl} :
    ∃ y4 y5 y6 y7 y8 y9 δ', (wBody [s0, .own p, .imm (grD cs), .imm (.int F), y4', y5', y6', y7', y8', y9', .no, .no] = some (.ok .nx, δ') ∨ wBody [s0, .own p, .imm (grD cs), .imm (.int F), y4', y5', y6', y7', y8', y9', .no, .no] = some (.ok .ct, δ')) ∧ δ' = [s0, .own p, .imm (grD cs), .imm (.int F), y4, y5, y6, y7, y8, y9, .no, .no] := by
  have o := g.ok (by omega) (by omega)
  have ap := g.apart (by omega)
  have hlen : cs.length ≤ 4 := by have := g.len; omega
  have h4 : ∀ c ∈ cs, c.2.length ≤ 4 := fun c hc => by have := (g.rows c hc).2.1; omega
  have nd : cs.Nodup := nodup_of_map o.keys
  have fd : fDict [grD cs] = some (grD cs) := fDict_T (by rw [List.map_map]; exact ap)
  have hal : (allF tl F cs).length ≤ 1000 := by
    have := all_len (F := F) h4 cs.length (Nat.le_refl _)
    rw [List.take_length] at this
    have h2 : 5 ^ cs.length ≤ 625 := by
      have : cs.length = 0 ∨ cs.length = 1 ∨ cs.length = 2 ∨ cs.length = 3 ∨ cs.length = 4 := by omega
      rcases this with z | z | z | z | z <;> rw [z] <;> decide
    omega
  have nl := all_nil (tl := tl) h0 nd o.tok
  have nl : allF tl F cs = [] ↔ F < Lst cs := nl
  by_cases hF : F < Lst cs
  · have hnil := nl.mpr hF
    refine ⟨.imm (grD cs), .imm .non, .imm (.lst []), y7', y8', y9', _, .inr ?_, rfl⟩
    unfold wBody
    refine ssq (δ1 := [s0, .own p, .imm (grD cs), .imm (.int F), .imm (grD cs), y5', y6', y7', y8', y9', .no, .no]) (by simp only [x_bind, bk_ok, bk_ite, x_ret, x_lift, lk_some, lk_ite, app_ite, x_eC, x_eV, vk_imm, vk_own, vk_bor, x_give, gk_own, x_bin, x_un, x_ix, x_tru, x_eB, dBl_bl, dTru_bl, dTru_int, dTru_lst, x_and, x_or, x_not, x_eAnd, x_eOr, x_eNot, x_eIf, x_chain, x_aNil, x_aCons, x_aVr, rk_own, rk_io, x_aVb, tk_own, tk_io, tk_imm, tk_bor, x_eTup, x_eLst, imms_nil, imms_im, x_eF, x_call, ixV_C, jk_imm, jk_own, jk_io, jk_bor, flk_int, x_lenV, nk_imm, nk_own, nk_io, nk_bor, x_inV, hk_imm, hk_own, hk_io, hk_bor, x_sNx, x_pass, x_cont, x_brk, x_seq, sk_nx, sk_rt, sk_rtO, sk_ct, sk_bk, sk_ite, x_drop, x_sRet, x_sRetO, x_sIf, x_asg, x_asgO, x_gN, x_gO, x_gNil, x_gCons, x_gTt, x_gTl, x_sApp, x_sSet, x_chM, ck_own, ck_io, x_iOf, x_iRg, x_fn, fk_rt, fk_nx, fk_ite, ios_z, ios_s, keep_io, keep_imm, keep_own, keep_bor, keep_no, dSub_i, dAdd_i, dLt_i, dLe_i, dGt_i, dGe_i, dEq_int, dNe_int, ix_lst, ix_scr, ix_tup, atI_0, atI_1, atI_2, atI_3, List.getElem?_cons_zero, List.getElem?_cons_succ, List.set_cons_zero, List.set_cons_succ, List.length_cons, List.length_nil, List.cons_append, List.nil_append, List.replicate_succ, List.replicate_zero, Option.map_some, Option.bind_some, Nat.reduceAdd, Nat.reduceSub, Nat.reduceLT, Nat.reduceLeDiff, if_true, if_false, Bool.false_eq_true, decide_eq_true_eq, reduceIte, ne_eq, not_false_eq_true, Nat.lt_add_left_iff_pos, Nat.zero_lt_succ, x_call1, x_call2, x_call3, x_call4, dk1, dk2, dk3, dk4, ixV_V, Nat.reduceEqDiff, not_false_eq_true, x_isLst, x_isSet, List.map_cons, List.map_nil, Option.map_none, Option.bind_none, fd]) (ssq (δ1 := [s0, .own p, .imm (grD cs), .imm (.int F), .imm (grD cs), .imm .non, y6', y7', y8', y9', .no, .no]) (by simp only [x_bind, bk_ok, bk_ite, x_ret, x_lift, lk_some, lk_ite, app_ite, x_eC, x_eV, vk_imm, vk_own, vk_bor, x_give, gk_own, x_bin, x_un, x_ix, x_tru, x_eB, dBl_bl, dTru_bl, dTru_int, dTru_lst, x_and, x_or, x_not, x_eAnd, x_eOr, x_eNot, x_eIf, x_chain, x_aNil, x_aCons, x_aVr, rk_own, rk_io, x_aVb, tk_own, tk_io, tk_imm, tk_bor, x_eTup, x_eLst, imms_nil, imms_im, x_eF, x_call, ixV_C, jk_imm, jk_own, jk_io, jk_bor, flk_int, x_lenV, nk_imm, nk_own, nk_io, nk_bor, x_inV, hk_imm, hk_own, hk_io, hk_bor, x_sNx, x_pass, x_cont, x_brk, x_seq, sk_nx, sk_rt, sk_rtO, sk_ct, sk_bk, sk_ite, x_drop, x_sRet, x_sRetO, x_sIf, x_asg, x_asgO, x_gN, x_gO, x_gNil, x_gCons, x_gTt, x_gTl, x_sApp, x_sSet, x_chM, ck_own, ck_io, x_iOf, x_iRg, x_fn, fk_rt, fk_nx, fk_ite, ios_z, ios_s, keep_io, keep_imm, keep_own, keep_bor, keep_no, dSub_i, dAdd_i, dLt_i, dLe_i, dGt_i, dGe_i, dEq_int, dNe_int, ix_lst, ix_scr, ix_tup, atI_0, atI_1, atI_2, atI_3, List.getElem?_cons_zero, List.getElem?_cons_succ, List.set_cons_zero, List.set_cons_succ, List.length_cons, List.length_nil, List.cons_append, List.nil_append, List.replicate_succ, List.replicate_zero, Option.map_some, Option.bind_some, Nat.reduceAdd, Nat.reduceSub, Nat.reduceLT, Nat.reduceLeDiff, if_true, if_false, Bool.false_eq_true, decide_eq_true_eq, reduceIte, ne_eq, not_false_eq_true, Nat.lt_add_left_iff_pos, Nat.zero_lt_succ, x_call1, x_call2, x_call3, x_call4, dk1, dk2, dk3, dk4, ixV_V, Nat.reduceEqDiff, not_false_eq_true, x_isLst, x_isSet, List.map_cons, List.map_nil, Option.map_none, Option.bind_none, ev_sure o, if_pos hF]) (ssq (δ1 := [s0, .own p, .imm (grD cs), .imm (.int F), .imm (grD cs), .imm .non, .imm (.lst []), y7', y8', y9', .no, .no]) (by simp only [x_bind, bk_ok, bk_ite, x_ret, x_lift, lk_some, lk_ite, app_ite, x_eC, x_eV, vk_imm, vk_own, vk_bor, x_give, gk_own, x_bin, x_un, x_ix, x_tru, x_eB, dBl_bl, dTru_bl, dTru_int, dTru_lst, x_and, x_or, x_not, x_eAnd, x_eOr, x_eNot, x_eIf, x_chain, x_aNil, x_aCons, x_aVr, rk_own, rk_io, x_aVb, tk_own, tk_io, tk_imm, tk_bor, x_eTup, x_eLst, imms_nil, imms_im, x_eF, x_call, ixV_C, jk_imm, jk_own, jk_io, jk_bor, flk_int, x_lenV, nk_imm, nk_own, nk_io, nk_bor, x_inV, hk_imm, hk_own, hk_io, hk_bor, x_sNx, x_pass, x_cont, x_brk, x_seq, sk_nx, sk_rt, sk_rtO, sk_ct, sk_bk, sk_ite, x_drop, x_sRet, x_sRetO, x_sIf, x_asg, x_asgO, x_gN, x_gO, x_gNil, x_gCons, x_gTt, x_gTl, x_sApp, x_sSet, x_chM, ck_own, ck_io, x_iOf, x_iRg, x_fn, fk_rt, fk_nx, fk_ite, ios_z, ios_s, keep_io, keep_imm, keep_own, keep_bor, keep_no, dSub_i, dAdd_i, dLt_i, dLe_i, dGt_i, dGe_i, dEq_int, dNe_int, ix_lst, ix_scr, ix_tup, atI_0, atI_1, atI_2, atI_3, List.getElem?_cons_zero, List.getElem?_cons_succ, List.set_cons_zero, List.set_cons_succ, List.length_cons, List.length_nil, List.cons_append, List.nil_append, List.replicate_succ, List.replicate_zero, Option.map_some, Option.bind_some, Nat.reduceAdd, Nat.reduceSub, Nat.reduceLT, Nat.reduceLeDiff, if_true, if_false, Bool.false_eq_true, decide_eq_true_eq, reduceIte, ne_eq, not_false_eq_true, Nat.lt_add_left_iff_pos, Nat.zero_lt_succ, x_call1, x_call2, x_call3, x_call4, dk1, dk2, dk3, dk4, ixV_V, Nat.reduceEqDiff, not_false_eq_true, x_isLst, x_isSet, List.map_cons, List.map_nil, Option.map_none, Option.bind_none, ev_all o ap hlen h4, hnil]) ?_))
    rw [x_seq, sIf_t (δ1 := [s0, .own p, .imm (grD cs), .imm (.int F), .imm (grD cs), .imm .non, .imm (.lst []), y7', y8', y9', .no, .no]) (by simp only [x_bind, bk_ok, bk_ite, x_ret, x_lift, lk_some, lk_ite, app_ite, x_eC, x_eV, vk_imm, vk_own, vk_bor, x_give, gk_own, x_bin, x_un, x_ix, x_tru, x_eB, dBl_bl, dTru_bl, dTru_int, dTru_lst, x_and, x_or, x_not, x_eAnd, x_eOr, x_eNot, x_eIf, x_chain, x_aNil, x_aCons, x_aVr, rk_own, rk_io, x_aVb, tk_own, tk_io, tk_imm, tk_bor, x_eTup, x_eLst, imms_nil, imms_im, x_eF, x_call, ixV_C, jk_imm, jk_own, jk_io, jk_bor, flk_int, x_lenV, nk_imm, nk_own, nk_io, nk_bor, x_inV, hk_imm, hk_own, hk_io, hk_bor, x_sNx, x_pass, x_cont, x_brk, x_seq, sk_nx, sk_rt, sk_rtO, sk_ct, sk_bk, sk_ite, x_drop, x_sRet, x_sRetO, x_sIf, x_asg, x_asgO, x_gN, x_gO, x_gNil, x_gCons, x_gTt, x_gTl, x_sApp, x_sSet, x_chM, ck_own, ck_io, x_iOf, x_iRg, x_fn, fk_rt, fk_nx, fk_ite, ios_z, ios_s, keep_io, keep_imm, keep_own, keep_bor, keep_no, dSub_i, dAdd_i, dLt_i, dLe_i, dGt_i, dGe_i, dEq_int, dNe_int, ix_lst, ix_scr, ix_tup, atI_0, atI_1, atI_2, atI_3, List.getElem?_cons_zero, List.getElem?_cons_succ, List.set_cons_zero, List.set_cons_succ, List.length_cons, List.length_nil, List.cons_append, List.nil_append, List.replicate_succ, List.replicate_zero, Option.map_some, Option.bind_some, Nat.reduceAdd, Nat.reduceSub, Nat.reduceLT, Nat.reduceLeDiff, if_true, if_false, Bool.false_eq_true, decide_eq_true_eq, reduceIte, ne_eq, not_false_eq_true, Nat.lt_add_left_iff_pos, Nat.zero_lt_succ, x_call1, x_call2, x_call3, x_call4, dk1, dk2, dk3, dk4, ixV_V, Nat.reduceEqDiff, not_false_eq_true, x_isLst, x_isSet, List.map_cons, List.map_nil, Option.map_none, Option.bind_none]; rfl)]
    have e1 : dIs true .non .non = some (.bl false) := rfl
    rw [ssq (δ1 := [s0, .own p, .imm (grD cs), .imm (.int F), .imm (grD cs), .imm .non, .imm (.lst []), y7', y8', y9', .no, .no]) (by rw [sIf_f (δ1 := [s0, .own p, .imm (grD cs), .imm (.int F), .imm (grD cs), .imm .non, .imm (.lst []), y7', y8', y9', .no, .no]) (by simp only [x_bind, bk_ok, bk_ite, x_ret, x_lift, lk_some, lk_ite, app_ite, x_eC, x_eV, vk_imm, vk_own, vk_bor, x_give, gk_own, x_bin, x_un, x_ix, x_tru, x_eB, dBl_bl, dTru_bl, dTru_int, dTru_lst, x_and, x_or, x_not, x_eAnd, x_eOr, x_eNot, x_eIf, x_chain, x_aNil, x_aCons, x_aVr, rk_own, rk_io, x_aVb, tk_own, tk_io, tk_imm, tk_bor, x_eTup, x_eLst, imms_nil, imms_im, x_eF, x_call, ixV_C, jk_imm, jk_own, jk_io, jk_bor, flk_int, x_lenV, nk_imm, nk_own, nk_io, nk_bor, x_inV, hk_imm, hk_own, hk_io, hk_bor, x_sNx, x_pass, x_cont, x_brk, x_seq, sk_nx, sk_rt, sk_rtO, sk_ct, sk_bk, sk_ite, x_drop, x_sRet, x_sRetO, x_sIf, x_asg, x_asgO, x_gN, x_gO, x_gNil, x_gCons, x_gTt, x_gTl, x_sApp, x_sSet, x_chM, ck_own, ck_io, x_iOf, x_iRg, x_fn, fk_rt, fk_nx, fk_ite, ios_z, ios_s, keep_io, keep_imm, keep_own, keep_bor, keep_no, dSub_i, dAdd_i, dLt_i, dLe_i, dGt_i, dGe_i, dEq_int, dNe_int, ix_lst, ix_scr, ix_tup, atI_0, atI_1, atI_2, atI_3, List.getElem?_cons_zero, List.getElem?_cons_succ, List.set_cons_zero, List.set_cons_succ, List.length_cons, List.length_nil, List.cons_append, List.nil_append, List.replicate_succ, List.replicate_zero, Option.map_some, Option.bind_some, Nat.reduceAdd, Nat.reduceSub, Nat.reduceLT, Nat.reduceLeDiff, if_true, if_false, Bool.false_eq_true, decide_eq_true_eq, reduceIte, ne_eq, not_false_eq_true, Nat.lt_add_left_iff_pos, Nat.zero_lt_succ, x_call1, x_call2, x_call3, x_call4, dk1, dk2, dk3, dk4, ixV_V, Nat.reduceEqDiff, not_false_eq_true, x_isLst, x_isSet, List.map_cons, List.map_nil, Option.map_none, Option.bind_none, e1])]; rfl) rfl]
    rfl
  · have hne : allF tl F cs ≠ [] := fun z => hF (nl.mp z)
    have hL : Lst cs ≤ F := by omega
    obtain ⟨δ', f1, z8, z9, rfl⟩ := sFor_inv (I := (iOf (eF fList' (aCons (eV 2) aNil)))) (T := gN 8) (S := dIn1) (ds := cs.map fun c => kT c.1)
      (δ := E7 p (grD cs) (.int F) (grD cs) (sureD F cs) (foD F cs) (.own (duD F cs [])) y8' y9' .no .no s0) (δ0 := E7 p (grD cs) (.int F) (grD cs) (sureD F cs) (foD F cs) (.own (duD F cs [])) y8' y9' .no .no s0)
      (fun k δ => ∃ z8 z9 : Sl, δ = E7 p (grD cs) (.int F) (grD cs) (sureD F cs) (foD F cs) (.own (duD F cs (cs.take k))) z8 z9 .no .no s0)
      (by simp only [x_bind, bk_ok, bk_ite, x_ret, x_lift, lk_some, lk_ite, app_ite, x_eC, x_eV, vk_imm, vk_own, vk_bor, x_give, gk_own, x_bin, x_un, x_ix, x_tru, x_eB, dBl_bl, dTru_bl, dTru_int, dTru_lst, x_and, x_or, x_not, x_eAnd, x_eOr, x_eNot, x_eIf, x_chain, x_aNil, x_aCons, x_aVr, rk_own, rk_io, x_aVb, tk_own, tk_io, tk_imm, tk_bor, x_eTup, x_eLst, imms_nil, imms_im, x_eF, x_call, ixV_C, jk_imm, jk_own, jk_io, jk_bor, flk_int, x_lenV, nk_imm, nk_own, nk_io, nk_bor, x_inV, hk_imm, hk_own, hk_io, hk_bor, x_sNx, x_pass, x_cont, x_brk, x_seq, sk_nx, sk_rt, sk_rtO, sk_ct, sk_bk, sk_ite, x_drop, x_sRet, x_sRetO, x_sIf, x_asg, x_asgO, x_gN, x_gO, x_gNil, x_gCons, x_gTt, x_gTl, x_sApp, x_sSet, x_chM, ck_own, ck_io, x_iOf, x_iRg, x_fn, fk_rt, fk_nx, fk_ite, ios_z, ios_s, keep_io, keep_imm, keep_own, keep_bor, keep_no, dSub_i, dAdd_i, dLt_i, dLe_i, dGt_i, dGe_i, dEq_int, dNe_int, ix_lst, ix_scr, ix_tup, atI_0, atI_1, atI_2, atI_3, List.getElem?_cons_zero, List.getElem?_cons_succ, List.set_cons_zero, List.set_cons_succ, List.length_cons, List.length_nil, List.cons_append, List.nil_append, List.replicate_succ, List.replicate_zero, Option.map_some, Option.bind_some, Nat.reduceAdd, Nat.reduceSub, Nat.reduceLT, Nat.reduceLeDiff, if_true, if_false, Bool.false_eq_true, decide_eq_true_eq, reduceIte, ne_eq, not_false_eq_true, Nat.lt_add_left_iff_pos, Nat.zero_lt_succ, x_call1, x_call2, x_call3, x_call4, dk1, dk2, dk3, dk4, ixV_V, Nat.reduceEqDiff, not_false_eq_true, x_isLst, x_isSet, List.map_cons, List.map_nil, Option.map_none, Option.bind_none, fList_gr]; rfl) ⟨y8', y9', rfl⟩ (fun k d δ hd hδ => by
        obtain ⟨z8, z9, rfl⟩ := hδ
        obtain ⟨c, hck, rfl⟩ := getmap hd
        obtain ⟨w9, e⟩ := ev_dIn (p := p) (gv := grD cs) (so := sureD F cs) (s0 := s0) (y9 := z9) (y10 := .no) (y11 := .no) o h0 hL hal hck
        exact ⟨_, _, by simp only [x_bind, bk_ok, bk_ite, x_ret, x_lift, lk_some, lk_ite, app_ite, x_eC, x_eV, vk_imm, vk_own, vk_bor, x_give, gk_own, x_bin, x_un, x_ix, x_tru, x_eB, dBl_bl, dTru_bl, dTru_int, dTru_lst, x_and, x_or, x_not, x_eAnd, x_eOr, x_eNot, x_eIf, x_chain, x_aNil, x_aCons, x_aVr, rk_own, rk_io, x_aVb, tk_own, tk_io, tk_imm, tk_bor, x_eTup, x_eLst, imms_nil, imms_im, x_eF, x_call, ixV_C, jk_imm, jk_own, jk_io, jk_bor, flk_int, x_lenV, nk_imm, nk_own, nk_io, nk_bor, x_inV, hk_imm, hk_own, hk_io, hk_bor, x_sNx, x_pass, x_cont, x_brk, x_seq, sk_nx, sk_rt, sk_rtO, sk_ct, sk_bk, sk_ite, x_drop, x_sRet, x_sRetO, x_sIf, x_asg, x_asgO, x_gN, x_gO, x_gNil, x_gCons, x_gTt, x_gTl, x_sApp, x_sSet, x_chM, ck_own, ck_io, x_iOf, x_iRg, x_fn, fk_rt, fk_nx, fk_ite, ios_z, ios_s, keep_io, keep_imm, keep_own, keep_bor, keep_no, dSub_i, dAdd_i, dLt_i, dLe_i, dGt_i, dGe_i, dEq_int, dNe_int, ix_lst, ix_scr, ix_tup, atI_0, atI_1, atI_2, atI_3, List.getElem?_cons_zero, List.getElem?_cons_succ, List.set_cons_zero, List.set_cons_succ, List.length_cons, List.length_nil, List.cons_append, List.nil_append, List.replicate_succ, List.replicate_zero, Option.map_some, Option.bind_some, Nat.reduceAdd, Nat.reduceSub, Nat.reduceLT, Nat.reduceLeDiff, if_true, if_false, Bool.false_eq_true, decide_eq_true_eq, reduceIte, ne_eq, not_false_eq_true, Nat.lt_add_left_iff_pos, Nat.zero_lt_succ, x_call1, x_call2, x_call3, x_call4, dk1, dk2, dk3, dk4, ixV_V, Nat.reduceEqDiff, not_false_eq_true, x_isLst, x_isSet, List.map_cons, List.map_nil, Option.map_none, Option.bind_none], .inl e, _, _, rfl⟩)
    rw [List.length_map, List.take_length, duD_sure] at f1
    refine ⟨.imm (grD cs), .imm (sureD F cs), .imm (foD F cs), .imm (sureD F cs), z8, z9, _, .inl ?_, rfl⟩
    unfold wBody
    refine ssq (δ1 := [s0, .own p, .imm (grD cs), .imm (.int F), .imm (grD cs), y5', y6', y7', y8', y9', .no, .no]) (by simp only [x_bind, bk_ok, bk_ite, x_ret, x_lift, lk_some, lk_ite, app_ite, x_eC, x_eV, vk_imm, vk_own, vk_bor, x_give, gk_own, x_bin, x_un, x_ix, x_tru, x_eB, dBl_bl, dTru_bl, dTru_int, dTru_lst, x_and, x_or, x_not, x_eAnd, x_eOr, x_eNot, x_eIf, x_chain, x_aNil, x_aCons, x_aVr, rk_own, rk_io, x_aVb, tk_own, tk_io, tk_imm, tk_bor, x_eTup, x_eLst, imms_nil, imms_im, x_eF, x_call, ixV_C, jk_imm, jk_own, jk_io, jk_bor, flk_int, x_lenV, nk_imm, nk_own, nk_io, nk_bor, x_inV, hk_imm, hk_own, hk_io, hk_bor, x_sNx, x_pass, x_cont, x_brk, x_seq, sk_nx, sk_rt, sk_rtO, sk_ct, sk_bk, sk_ite, x_drop, x_sRet, x_sRetO, x_sIf, x_asg, x_asgO, x_gN, x_gO, x_gNil, x_gCons, x_gTt, x_gTl, x_sApp, x_sSet, x_chM, ck_own, ck_io, x_iOf, x_iRg, x_fn, fk_rt, fk_nx, fk_ite, ios_z, ios_s, keep_io, keep_imm, keep_own, keep_bor, keep_no, dSub_i, dAdd_i, dLt_i, dLe_i, dGt_i, dGe_i, dEq_int, dNe_int, ix_lst, ix_scr, ix_tup, atI_0, atI_1, atI_2, atI_3, List.getElem?_cons_zero, List.getElem?_cons_succ, List.set_cons_zero, List.set_cons_succ, List.length_cons, List.length_nil, List.cons_append, List.nil_append, List.replicate_succ, List.replicate_zero, Option.map_some, Option.bind_some, Nat.reduceAdd, Nat.reduceSub, Nat.reduceLT, Nat.reduceLeDiff, if_true, if_false, Bool.false_eq_true, decide_eq_true_eq, reduceIte, ne_eq, not_false_eq_true, Nat.lt_add_left_iff_pos, Nat.zero_lt_succ, x_call1, x_call2, x_call3, x_call4, dk1, dk2, dk3, dk4, ixV_V, Nat.reduceEqDiff, not_false_eq_true, x_isLst, x_isSet, List.map_cons, List.map_nil, Option.map_none, Option.bind_none, fd]) (ssq (δ1 := [s0, .own p, .imm (grD cs), .imm (.int F), .imm (grD cs), .imm (sureD F cs), y6', y7', y8', y9', .no, .no]) (by simp only [x_bind, bk_ok, bk_ite, x_ret, x_lift, lk_some, lk_ite, app_ite, x_eC, x_eV, vk_imm, vk_own, vk_bor, x_give, gk_own, x_bin, x_un, x_ix, x_tru, x_eB, dBl_bl, dTru_bl, dTru_int, dTru_lst, x_and, x_or, x_not, x_eAnd, x_eOr, x_eNot, x_eIf, x_chain, x_aNil, x_aCons, x_aVr, rk_own, rk_io, x_aVb, tk_own, tk_io, tk_imm, tk_bor, x_eTup, x_eLst, imms_nil, imms_im, x_eF, x_call, ixV_C, jk_imm, jk_own, jk_io, jk_bor, flk_int, x_lenV, nk_imm, nk_own, nk_io, nk_bor, x_inV, hk_imm, hk_own, hk_io, hk_bor, x_sNx, x_pass, x_cont, x_brk, x_seq, sk_nx, sk_rt, sk_rtO, sk_ct, sk_bk, sk_ite, x_drop, x_sRet, x_sRetO, x_sIf, x_asg, x_asgO, x_gN, x_gO, x_gNil, x_gCons, x_gTt, x_gTl, x_sApp, x_sSet, x_chM, ck_own, ck_io, x_iOf, x_iRg, x_fn, fk_rt, fk_nx, fk_ite, ios_z, ios_s, keep_io, keep_imm, keep_own, keep_bor, keep_no, dSub_i, dAdd_i, dLt_i, dLe_i, dGt_i, dGe_i, dEq_int, dNe_int, ix_lst, ix_scr, ix_tup, atI_0, atI_1, atI_2, atI_3, List.getElem?_cons_zero, List.getElem?_cons_succ, List.set_cons_zero, List.set_cons_succ, List.length_cons, List.length_nil, List.cons_append, List.nil_append, List.replicate_succ, List.replicate_zero, Option.map_some, Option.bind_some, Nat.reduceAdd, Nat.reduceSub, Nat.reduceLT, Nat.reduceLeDiff, if_true, if_false, Bool.false_eq_true, decide_eq_true_eq, reduceIte, ne_eq, not_false_eq_true, Nat.lt_add_left_iff_pos, Nat.zero_lt_succ, x_call1, x_call2, x_call3, x_call4, dk1, dk2, dk3, dk4, ixV_V, Nat.reduceEqDiff, not_false_eq_true, x_isLst, x_isSet, List.map_cons, List.map_nil, Option.map_none, Option.bind_none, ev_sure o, if_neg hF]) (ssq (δ1 := [s0, .own p, .imm (grD cs), .imm (.int F), .imm (grD cs), .imm (sureD F cs), .imm (foD F cs), y7', y8', y9', .no, .no]) (by simp only [x_bind, bk_ok, bk_ite, x_ret, x_lift, lk_some, lk_ite, app_ite, x_eC, x_eV, vk_imm, vk_own, vk_bor, x_give, gk_own, x_bin, x_un, x_ix, x_tru, x_eB, dBl_bl, dTru_bl, dTru_int, dTru_lst, x_and, x_or, x_not, x_eAnd, x_eOr, x_eNot, x_eIf, x_chain, x_aNil, x_aCons, x_aVr, rk_own, rk_io, x_aVb, tk_own, tk_io, tk_imm, tk_bor, x_eTup, x_eLst, imms_nil, imms_im, x_eF, x_call, ixV_C, jk_imm, jk_own, jk_io, jk_bor, flk_int, x_lenV, nk_imm, nk_own, nk_io, nk_bor, x_inV, hk_imm, hk_own, hk_io, hk_bor, x_sNx, x_pass, x_cont, x_brk, x_seq, sk_nx, sk_rt, sk_rtO, sk_ct, sk_bk, sk_ite, x_drop, x_sRet, x_sRetO, x_sIf, x_asg, x_asgO, x_gN, x_gO, x_gNil, x_gCons, x_gTt, x_gTl, x_sApp, x_sSet, x_chM, ck_own, ck_io, x_iOf, x_iRg, x_fn, fk_rt, fk_nx, fk_ite, ios_z, ios_s, keep_io, keep_imm, keep_own, keep_bor, keep_no, dSub_i, dAdd_i, dLt_i, dLe_i, dGt_i, dGe_i, dEq_int, dNe_int, ix_lst, ix_scr, ix_tup, atI_0, atI_1, atI_2, atI_3, List.getElem?_cons_zero, List.getElem?_cons_succ, List.set_cons_zero, List.set_cons_succ, List.length_cons, List.length_nil, List.cons_append, List.nil_append, List.replicate_succ, List.replicate_zero, Option.map_some, Option.bind_some, Nat.reduceAdd, Nat.reduceSub, Nat.reduceLT, Nat.reduceLeDiff, if_true, if_false, Bool.false_eq_true, decide_eq_true_eq, reduceIte, ne_eq, not_false_eq_true, Nat.lt_add_left_iff_pos, Nat.zero_lt_succ, x_call1, x_call2, x_call3, x_call4, dk1, dk2, dk3, dk4, ixV_V, Nat.reduceEqDiff, not_false_eq_true, x_isLst, x_isSet, List.map_cons, List.map_nil, Option.map_none, Option.bind_none, ev_all o ap hlen h4]; rfl) (ssq (δ1 := [s0, .own p, .imm (grD cs), .imm (.int F), .imm (grD cs), .imm (sureD F cs), .imm (foD F cs), y7', y8', y9', .no, .no]) ?_ (ssq (δ1 := E7 p (grD cs) (.int F) (grD cs) (sureD F cs) (foD F cs) (.own (duD F cs [])) y8' y9' .no .no s0) rfl (ssq f1 ?_)))))
    · have e1 : dTru (foD F cs) = some true := by
        obtain ⟨q, qs, e⟩ := List.exists_cons_of_ne_nil hne
        unfold foD
        rw [e]; rfl
      rw [sIf_f (δ1 := [s0, .own p, .imm (grD cs), .imm (.int F), .imm (grD cs), .imm (sureD F cs), .imm (foD F cs), y7', y8', y9', .no, .no]) (by simp only [x_bind, bk_ok, bk_ite, x_ret, x_lift, lk_some, lk_ite, app_ite, x_eC, x_eV, vk_imm, vk_own, vk_bor, x_give, gk_own, x_bin, x_un, x_ix, x_tru, x_eB, dBl_bl, dTru_bl, dTru_int, dTru_lst, x_and, x_or, x_not, x_eAnd, x_eOr, x_eNot, x_eIf, x_chain, x_aNil, x_aCons, x_aVr, rk_own, rk_io, x_aVb, tk_own, tk_io, tk_imm, tk_bor, x_eTup, x_eLst, imms_nil, imms_im, x_eF, x_call, ixV_C, jk_imm, jk_own, jk_io, jk_bor, flk_int, x_lenV, nk_imm, nk_own, nk_io, nk_bor, x_inV, hk_imm, hk_own, hk_io, hk_bor, x_sNx, x_pass, x_cont, x_brk, x_seq, sk_nx, sk_rt, sk_rtO, sk_ct, sk_bk, sk_ite, x_drop, x_sRet, x_sRetO, x_sIf, x_asg, x_asgO, x_gN, x_gO, x_gNil, x_gCons, x_gTt, x_gTl, x_sApp, x_sSet, x_chM, ck_own, ck_io, x_iOf, x_iRg, x_fn, fk_rt, fk_nx, fk_ite, ios_z, ios_s, keep_io, keep_imm, keep_own, keep_bor, keep_no, dSub_i, dAdd_i, dLt_i, dLe_i, dGt_i, dGe_i, dEq_int, dNe_int, ix_lst, ix_scr, ix_tup, atI_0, atI_1, atI_2, atI_3, List.getElem?_cons_zero, List.getElem?_cons_succ, List.set_cons_zero, List.set_cons_succ, List.length_cons, List.length_nil, List.cons_append, List.nil_append, List.replicate_succ, List.replicate_zero, Option.map_some, Option.bind_some, Nat.reduceAdd, Nat.reduceSub, Nat.reduceLT, Nat.reduceLeDiff, if_true, if_false, Bool.false_eq_true, decide_eq_true_eq, reduceIte, ne_eq, not_false_eq_true, Nat.lt_add_left_iff_pos, Nat.zero_lt_succ, x_call1, x_call2, x_call3, x_call4, dk1, dk2, dk3, dk4, ixV_V, Nat.reduceEqDiff, not_false_eq_true, x_isLst, x_isSet, List.map_cons, List.map_nil, Option.map_none, Option.bind_none, e1, Bool.not_true])]
      rfl
    · have kn : ((cs.filter (sureB F cs)).map fun c => (kK c.1, D.int (bst (tl c)))).map (·.1) = (cs.filter (sureB F cs)).map fun c => kK c.1 := by rw [List.map_map]; rfl
      have n1 : dNeX (sureD F cs) (sureD F cs) = some (.bl false) := dNeX_T (by
        rw [kn]
        exact (kk_nodup o).sublist (List.filter_sublist.map _)) fun q hq => by
          obtain ⟨c, _, rfl⟩ := List.mem_map.mp hq
          exact fine_int _
      have n2 : dNeX (grD cs) (grD cs) = some (.bl false) := dNeX_T (by rw [List.map_map]; exact kk_nodup o) fun q hq => by
          obtain ⟨c, hc, rfl⟩ := List.mem_map.mp hq
          exact fine_rows (g.rows c hc).2.2
      rw [sIf_f (δ1 := [s0, .own p, .imm (grD cs), .imm (.int F), .imm (grD cs), .imm (sureD F cs), .imm (foD F cs), .imm (sureD F cs), z8, z9, .no, .no]) (by simp only [x_bind, bk_ok, bk_ite, x_ret, x_lift, lk_some, lk_ite, app_ite, x_eC, x_eV, vk_imm, vk_own, vk_bor, x_give, gk_own, x_bin, x_un, x_ix, x_tru, x_eB, dBl_bl, dTru_bl, dTru_int, dTru_lst, x_and, x_or, x_not, x_eAnd, x_eOr, x_eNot, x_eIf, x_chain, x_aNil, x_aCons, x_aVr, rk_own, rk_io, x_aVb, tk_own, tk_io, tk_imm, tk_bor, x_eTup, x_eLst, imms_nil, imms_im, x_eF, x_call, ixV_C, jk_imm, jk_own, jk_io, jk_bor, flk_int, x_lenV, nk_imm, nk_own, nk_io, nk_bor, x_inV, hk_imm, hk_own, hk_io, hk_bor, x_sNx, x_pass, x_cont, x_brk, x_seq, sk_nx, sk_rt, sk_rtO, sk_ct, sk_bk, sk_ite, x_drop, x_sRet, x_sRetO, x_sIf, x_asg, x_asgO, x_gN, x_gO, x_gNil, x_gCons, x_gTt, x_gTl, x_sApp, x_sSet, x_chM, ck_own, ck_io, x_iOf, x_iRg, x_fn, fk_rt, fk_nx, fk_ite, ios_z, ios_s, keep_io, keep_imm, keep_own, keep_bor, keep_no, dSub_i, dAdd_i, dLt_i, dLe_i, dGt_i, dGe_i, dEq_int, dNe_int, ix_lst, ix_scr, ix_tup, atI_0, atI_1, atI_2, atI_3, List.getElem?_cons_zero, List.getElem?_cons_succ, List.set_cons_zero, List.set_cons_succ, List.length_cons, List.length_nil, List.cons_append, List.nil_append, List.replicate_succ, List.replicate_zero, Option.map_some, Option.bind_some, Nat.reduceAdd, Nat.reduceSub, Nat.reduceLT, Nat.reduceLeDiff, if_true, if_false, Bool.false_eq_true, decide_eq_true_eq, reduceIte, ne_eq, not_false_eq_true, Nat.lt_add_left_iff_pos, Nat.zero_lt_succ, x_call1, x_call2, x_call3, x_call4, dk1, dk2, dk3, dk4, ixV_V, Nat.reduceEqDiff, not_false_eq_true, x_isLst, x_isSet, List.map_cons, List.map_nil, Option.map_none, Option.bind_none, n1, n2, fList_sure, dNeX_l (fine_keys _)])]
      rfl
theorem law_true (ns : List Int) (hl : ns.length ≤ 63) : m_law [.imm (.scr (ns.map D.int))] = some (.ok (.bl true), [.no]) := by
  obtain ⟨d0, p0, i0⟩ := ev_pool (ns := ns)
  obtain ⟨d1, cs, p1, i1, g⟩ := ev_ground (a := 4) (b := 4) i0 (by omega) (by omega) (by omega) (by omega)
  obtain ⟨t1, d2, c2, i2, a2, b2⟩ := ev_tk1 i1 (m := 6) (by omega) (by omega)
  obtain ⟨t2, d3, c3, i3, a3, b3⟩ := ev_tk1 i2 (m := 3) (by omega) (by omega)
  obtain ⟨δ', f1, y3, y4, y5, y6, y7, y8, y9, rfl⟩ := sFor_inv (I := (iOf (eLst (aCons (eCall m__law_take (aVr 1 (aCons (eC (.int 6)) aNil))) (aCons (eCall m__law_take (aVr 1 (aCons (eC (.int 3)) aNil))) aNil))))) (T := gN 3) (S := wBody) (ds := [t1, t2].map D.int)
    (δ := [.imm (.scr (ns.map D.int)), .own d1, .imm (grD cs), .no, .no, .no, .no, .no, .no, .no, .no, .no]) (δ0 := [.imm (.scr (ns.map D.int)), .own d3, .imm (grD cs), .no, .no, .no, .no, .no, .no, .no, .no, .no])
    (fun k δ => ∃ y3 y4 y5 y6 y7 y8 y9 : Sl, δ = [.imm (.scr (ns.map D.int)), .own d3, .imm (grD cs), y3, y4, y5, y6, y7, y8, y9, .no, .no])
    (by simp only [x_bind, bk_ok, bk_ite, x_ret, x_lift, lk_some, lk_ite, app_ite, x_eC, x_eV, vk_imm, vk_own, vk_bor, x_give, gk_own, x_bin, x_un, x_ix, x_tru, x_eB, dBl_bl, dTru_bl, dTru_int, dTru_lst, x_and, x_or, x_not, x_eAnd, x_eOr, x_eNot, x_eIf, x_chain, x_aNil, x_aCons, x_aVr, rk_own, rk_io, x_aVb, tk_own, tk_io, tk_imm, tk_bor, x_eTup, x_eLst, imms_nil, imms_im, x_eF, x_call, ixV_C, jk_imm, jk_own, jk_io, jk_bor, flk_int, x_lenV, nk_imm, nk_own, nk_io, nk_bor, x_inV, hk_imm, hk_own, hk_io, hk_bor, x_sNx, x_pass, x_cont, x_brk, x_seq, sk_nx, sk_rt, sk_rtO, sk_ct, sk_bk, sk_ite, x_drop, x_sRet, x_sRetO, x_sIf, x_asg, x_asgO, x_gN, x_gO, x_gNil, x_gCons, x_gTt, x_gTl, x_sApp, x_sSet, x_chM, ck_own, ck_io, x_iOf, x_iRg, x_fn, fk_rt, fk_nx, fk_ite, ios_z, ios_s, keep_io, keep_imm, keep_own, keep_bor, keep_no, dSub_i, dAdd_i, dLt_i, dLe_i, dGt_i, dGe_i, dEq_int, dNe_int, ix_lst, ix_scr, ix_tup, atI_0, atI_1, atI_2, atI_3, List.getElem?_cons_zero, List.getElem?_cons_succ, List.set_cons_zero, List.set_cons_succ, List.length_cons, List.length_nil, List.cons_append, List.nil_append, List.replicate_succ, List.replicate_zero, Option.map_some, Option.bind_some, Nat.reduceAdd, Nat.reduceSub, Nat.reduceLT, Nat.reduceLeDiff, if_true, if_false, Bool.false_eq_true, decide_eq_true_eq, reduceIte, ne_eq, not_false_eq_true, Nat.lt_add_left_iff_pos, Nat.zero_lt_succ, x_call1, x_call2, x_call3, x_call4, dk1, dk2, dk3, dk4, ixV_V, Nat.reduceEqDiff, not_false_eq_true, x_isLst, x_isSet, List.map_cons, List.map_nil, Option.map_none, Option.bind_none, c2, c3]; rfl) ⟨.no, .no, .no, .no, .no, .no, .no, rfl⟩ (fun k d δ hd hδ => by
      obtain ⟨y3, y4, y5, y6, y7, y8, y9, rfl⟩ := hδ
      obtain ⟨F, hv, rfl⟩ := get_mapI hd
      have h0 : 0 ≤ F := by
        have := List.mem_of_getElem? hv
        rcases List.mem_cons.mp this with rfl | h
        · exact a2
        · rcases List.mem_cons.mp h with rfl | h
          · exact a3
          · simp at h
      obtain ⟨z4, z5, z6, z7, z8, z9, δ', hh, rfl⟩ := ev_wBody (y4' := y4) (y5' := y5) (y6' := y6) (y7' := y7) (y8' := y8) (y9' := y9) (s0 := .imm (.scr (ns.map D.int))) (p := d3) g (by omega) (by omega) h0 (y4 := .no) (y5 := .no) (y6 := .no) (y7 := .no) (y8 := .no) (y9 := .no)
      exact ⟨_, _, by simp only [x_bind, bk_ok, bk_ite, x_ret, x_lift, lk_some, lk_ite, app_ite, x_eC, x_eV, vk_imm, vk_own, vk_bor, x_give, gk_own, x_bin, x_un, x_ix, x_tru, x_eB, dBl_bl, dTru_bl, dTru_int, dTru_lst, x_and, x_or, x_not, x_eAnd, x_eOr, x_eNot, x_eIf, x_chain, x_aNil, x_aCons, x_aVr, rk_own, rk_io, x_aVb, tk_own, tk_io, tk_imm, tk_bor, x_eTup, x_eLst, imms_nil, imms_im, x_eF, x_call, ixV_C, jk_imm, jk_own, jk_io, jk_bor, flk_int, x_lenV, nk_imm, nk_own, nk_io, nk_bor, x_inV, hk_imm, hk_own, hk_io, hk_bor, x_sNx, x_pass, x_cont, x_brk, x_seq, sk_nx, sk_rt, sk_rtO, sk_ct, sk_bk, sk_ite, x_drop, x_sRet, x_sRetO, x_sIf, x_asg, x_asgO, x_gN, x_gO, x_gNil, x_gCons, x_gTt, x_gTl, x_sApp, x_sSet, x_chM, ck_own, ck_io, x_iOf, x_iRg, x_fn, fk_rt, fk_nx, fk_ite, ios_z, ios_s, keep_io, keep_imm, keep_own, keep_bor, keep_no, dSub_i, dAdd_i, dLt_i, dLe_i, dGt_i, dGe_i, dEq_int, dNe_int, ix_lst, ix_scr, ix_tup, atI_0, atI_1, atI_2, atI_3, List.getElem?_cons_zero, List.getElem?_cons_succ, List.set_cons_zero, List.set_cons_succ, List.length_cons, List.length_nil, List.cons_append, List.nil_append, List.replicate_succ, List.replicate_zero, Option.map_some, Option.bind_some, Nat.reduceAdd, Nat.reduceSub, Nat.reduceLT, Nat.reduceLeDiff, if_true, if_false, Bool.false_eq_true, decide_eq_true_eq, reduceIte, ne_eq, not_false_eq_true, Nat.lt_add_left_iff_pos, Nat.zero_lt_succ, x_call1, x_call2, x_call3, x_call4, dk1, dk2, dk3, dk4, ixV_V, Nat.reduceEqDiff, not_false_eq_true, x_isLst, x_isSet, List.map_cons, List.map_nil, Option.map_none, Option.bind_none], hh, _, _, _, _, _, _, _, rfl⟩)
  unfold m_law b_law
  rw [x_fn]
  have e0 : ([.imm (.scr (ns.map D.int))] ++ List.replicate (12 - 1) Sl.no : Env) = [.imm (.scr (ns.map D.int)), .no, .no, .no, .no, .no, .no, .no, .no, .no, .no, .no] := rfl
  rw [e0]
  refine (congrArg (fk 1) (ssq (δ1 := [.imm (.scr (ns.map D.int)), .own d0, .no, .no, .no, .no, .no, .no, .no, .no, .no, .no]) (by simp only [x_bind, bk_ok, bk_ite, x_ret, x_lift, lk_some, lk_ite, app_ite, x_eC, x_eV, vk_imm, vk_own, vk_bor, x_give, gk_own, x_bin, x_un, x_ix, x_tru, x_eB, dBl_bl, dTru_bl, dTru_int, dTru_lst, x_and, x_or, x_not, x_eAnd, x_eOr, x_eNot, x_eIf, x_chain, x_aNil, x_aCons, x_aVr, rk_own, rk_io, x_aVb, tk_own, tk_io, tk_imm, tk_bor, x_eTup, x_eLst, imms_nil, imms_im, x_eF, x_call, ixV_C, jk_imm, jk_own, jk_io, jk_bor, flk_int, x_lenV, nk_imm, nk_own, nk_io, nk_bor, x_inV, hk_imm, hk_own, hk_io, hk_bor, x_sNx, x_pass, x_cont, x_brk, x_seq, sk_nx, sk_rt, sk_rtO, sk_ct, sk_bk, sk_ite, x_drop, x_sRet, x_sRetO, x_sIf, x_asg, x_asgO, x_gN, x_gO, x_gNil, x_gCons, x_gTt, x_gTl, x_sApp, x_sSet, x_chM, ck_own, ck_io, x_iOf, x_iRg, x_fn, fk_rt, fk_nx, fk_ite, ios_z, ios_s, keep_io, keep_imm, keep_own, keep_bor, keep_no, dSub_i, dAdd_i, dLt_i, dLe_i, dGt_i, dGe_i, dEq_int, dNe_int, ix_lst, ix_scr, ix_tup, atI_0, atI_1, atI_2, atI_3, List.getElem?_cons_zero, List.getElem?_cons_succ, List.set_cons_zero, List.set_cons_succ, List.length_cons, List.length_nil, List.cons_append, List.nil_append, List.replicate_succ, List.replicate_zero, Option.map_some, Option.bind_some, Nat.reduceAdd, Nat.reduceSub, Nat.reduceLT, Nat.reduceLeDiff, if_true, if_false, Bool.false_eq_true, decide_eq_true_eq, reduceIte, ne_eq, not_false_eq_true, Nat.lt_add_left_iff_pos, Nat.zero_lt_succ, x_call1, x_call2, x_call3, x_call4, dk1, dk2, dk3, dk4, ixV_V, Nat.reduceEqDiff, not_false_eq_true, x_isLst, x_isSet, List.map_cons, List.map_nil, Option.map_none, Option.bind_none, p0]) (ssq (δ1 := [.imm (.scr (ns.map D.int)), .own d1, .imm (grD cs), .no, .no, .no, .no, .no, .no, .no, .no, .no]) ?_ (ssq f1 rfl)))).trans rfl
  have e1 : callM m__law_ground [.vr 1, .im (.int 4), .im (.int 4)] [.imm (.scr (ns.map D.int)), .own d0, .no, .no, .no, .no, .no, .no, .no, .no, .no, .no] = some (.ok (grD cs), [.imm (.scr (ns.map D.int)), .own d1, .no, .no, .no, .no, .no, .no, .no, .no, .no, .no]) := call_w2 p1
  simp only [x_bind, bk_ok, bk_ite, x_ret, x_lift, lk_some, lk_ite, app_ite, x_eC, x_eV, vk_imm, vk_own, vk_bor, x_give, gk_own, x_bin, x_un, x_ix, x_tru, x_eB, dBl_bl, dTru_bl, dTru_int, dTru_lst, x_and, x_or, x_not, x_eAnd, x_eOr, x_eNot, x_eIf, x_chain, x_aNil, x_aCons, x_aVr, rk_own, rk_io, x_aVb, tk_own, tk_io, tk_imm, tk_bor, x_eTup, x_eLst, imms_nil, imms_im, x_eF, x_call, ixV_C, jk_imm, jk_own, jk_io, jk_bor, flk_int, x_lenV, nk_imm, nk_own, nk_io, nk_bor, x_inV, hk_imm, hk_own, hk_io, hk_bor, x_sNx, x_pass, x_cont, x_brk, x_seq, sk_nx, sk_rt, sk_rtO, sk_ct, sk_bk, sk_ite, x_drop, x_sRet, x_sRetO, x_sIf, x_asg, x_asgO, x_gN, x_gO, x_gNil, x_gCons, x_gTt, x_gTl, x_sApp, x_sSet, x_chM, ck_own, ck_io, x_iOf, x_iRg, x_fn, fk_rt, fk_nx, fk_ite, ios_z, ios_s, keep_io, keep_imm, keep_own, keep_bor, keep_no, dSub_i, dAdd_i, dLt_i, dLe_i, dGt_i, dGe_i, dEq_int, dNe_int, ix_lst, ix_scr, ix_tup, atI_0, atI_1, atI_2, atI_3, List.getElem?_cons_zero, List.getElem?_cons_succ, List.set_cons_zero, List.set_cons_succ, List.length_cons, List.length_nil, List.cons_append, List.nil_append, List.replicate_succ, List.replicate_zero, Option.map_some, Option.bind_some, Nat.reduceAdd, Nat.reduceSub, Nat.reduceLT, Nat.reduceLeDiff, if_true, if_false, Bool.false_eq_true, decide_eq_true_eq, reduceIte, ne_eq, not_false_eq_true, Nat.lt_add_left_iff_pos, Nat.zero_lt_succ, x_call1, x_call2, x_call3, x_call4, dk1, dk2, dk3, dk4, ixV_V, Nat.reduceEqDiff, not_false_eq_true, x_isLst, x_isSet, List.map_cons, List.map_nil, Option.map_none, Option.bind_none, e1]
end M

set_option Elab.async false
set_option linter.all false
set_option maxRecDepth 100000
set_option maxHeartbeats 0
namespace M
open PySem L2 PySem.Spec PyProof.Rows
theorem walk {l : PySem.W.OpenLaw} {q : Program} {loose : List Str} {XP : (Str → Option Value) → Heap → Prop} {YP : World → Heap → Prop} {d : DefRec} {K : Params → PySem.W.Frag} (hz : ∀ p, tabOf (K p) = none) (hn : l.most = some 63) (hdf : d.params.defaults = [])
    (hY : ∀ (w : World) (h : Heap), YP w h → (K w.params).In h)
    (F : ∀ (w : World) (mg : Str → Option Value) (fa : Addr) (h : Heap), (K w.params).In h → h.Ns mainGlobals mg → mg d.name = some (.ref fa) →
      ∃ fd : FuncData, (∀ (s : Shared) (u : Value), BindsTo s fd ⟨[u], []⟩ [("_law_script", u)]) ∧ ∀ base : Heap, (K w.params).In base → base.Ns mainGlobals mg → FnOk l.prog w (K w.params) mg base CX0 6 fa fd ["_law_script"] (spM Wn (K w.params) 1 false m_law)) :
    PySem.W.WalkO q loose XP YP l.row.toRowW d [] (fun f vs => PySem.call f vs) :=
  L2.walk_of (n := 63) (k := 6) (x := "_law_script") (CX := fun _ => CX0) (sp := fun w => spM Wn (K w.params) 1 false m_law) hn (by decide) hdf ⟨rfl, by decide, by decide⟩ hY F (fun _ H a ns hl on hS => law_sp (fun P hP => by rw [hz] at hP; cases hP) hS hl (law_true ns hl)) fun _ _ _ _ _ z => z
end M

open PySem PySem.W PyProof.Rows in
set_option maxRecDepth 100000 in
set_option maxHeartbeats 0 in
theorem PySem.Challenge.cw_laidviews_k16_whole_surely_seen_holds : PySem.Challenge.rw_laidviews_k16_whole_surely_seen.Holds := by
  w_on; o_law; k_head; (case hw => w_witness2)
  k_fill
  refine M.walk (l := PySem.Challenge.rw_laidviews_k16_whole_surely_seen) (fun _ => rfl) rfl rfl (fun w h Y => PySem.W.kIn_of Y) ?F
  case F =>
    intro w mg fa h KX G hmg
    refine' M.all_mk KX G hmg ?a0 ?l0 ?c0 ?k0 ?a1 ?l1 ?c1 ?k1 ?a2 ?l2 ?c2 ?k2 ?a3 ?l3 ?c3 ?k3 ?a4 ?l4 ?c4 ?k4 ?a5 ?l5 ?c5 ?k5 ?a6 ?l6 ?c6 ?k6 ?a7 ?l7 ?c7 ?k7 ?a8 ?l8 ?c8 ?k8 ?a9 ?l9 ?c9 ?k9 ?a10 ?l10 ?c10 ?k10 ?a11 ?l11 ?c11 ?k11 ?a12 ?l12 ?c12 ?k12 ?a13 ?l13 ?c13 ?k13 ?a14 ?l14 ?c14 ?k14 ?a15 ?l15 ?c15 ?k15 ?z_abs ?z_dict ?z_int ?z_len ?z_list ?z_range ?z_sorted ?z_str ?z_sum ?z_tuple
    (case a0 => k_is)
    (case l0 => k_is)
    (case c0 => k_is)
    (case k0 => k_is)
    (case a1 => k_is)
    (case l1 => k_is)
    (case c1 => k_is)
    (case k1 => k_is)
    (case a2 => k_is)
    (case l2 => k_is)
    (case c2 => k_is)
    (case k2 => k_is)
    (case a3 => k_is)
    (case l3 => k_is)
    (case c3 => k_is)
    (case k3 => k_is)
    (case a4 => k_is)
    (case l4 => k_is)
    (case c4 => k_is)
    (case k4 => k_is)
    (case a5 => k_is)
    (case l5 => k_is)
    (case c5 => k_is)
    (case k5 => k_is)
    (case a6 => k_is)
    (case l6 => k_is)
    (case c6 => k_is)
    (case k6 => k_is)
    (case a7 => k_is)
    (case l7 => k_is)
    (case c7 => k_is)
    (case k7 => k_is)
    (case a8 => k_is)
    (case l8 => k_is)
    (case c8 => k_is)
    (case k8 => k_is)
    (case a9 => k_is)
    (case l9 => k_is)
    (case c9 => k_is)
    (case k9 => k_is)
    (case a10 => k_is)
    (case l10 => k_is)
    (case c10 => k_is)
    (case k10 => k_is)
    (case a11 => k_is)
    (case l11 => k_is)
    (case c11 => k_is)
    (case k11 => k_is)
    (case a12 => k_is)
    (case l12 => k_is)
    (case c12 => k_is)
    (case k12 => k_is)
    (case a13 => k_is)
    (case l13 => k_is)
    (case c13 => k_is)
    (case k13 => k_is)
    (case a14 => k_is)
    (case l14 => k_is)
    (case c14 => k_is)
    (case k14 => k_is)
    (case a15 => k_is)
    (case l15 => k_is)
    (case c15 => k_is)
    (case k15 => k_is)
    (case z_abs => k_is)
    (case z_dict => k_is)
    (case z_int => k_is)
    (case z_len => k_is)
    (case z_list => k_is)
    (case z_range => k_is)
    (case z_sorted => k_is)
    (case z_str => k_is)
    (case z_sum => k_is)
    (case z_tuple => k_is)

