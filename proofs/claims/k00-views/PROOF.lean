import PyProof.Rows.All
import Wide.All
import OpenK.AllK
import Wide.FinOn
import HandS.ForMost
import HandS.TupAny
import HandS.TupMul
import HandS.TupLen
import HandS.DictComp
import HandS.SortRule
import HandS.SortInts
import HandS.Deep
import HandS.Flow
import HandS.IsInst
import HandS.Style
import HandS.Conv
import HandS.NoneIn
import HandS.Lambda
import HandS.EndTab
import KE.KDictOf
import KE.KDictKeyed
import HandS.More
import KE.SortData
import HandS.AnyAll
import KE.SortKeyHeap
import HandS.DictEq
import HandS.DeepEq
import HandS.SetFor
import HandS.Strs
import KE.KNestM
import HandS.SetBool
import HandS.Rev
import HandS.RevTup
import HandS.DictTup
import HandS.OwnEq
import KE.KExcSuper
import HandS.ExcInit
import HandS.WordsExc
import HandS.ExcOwn
import KE.KExcIs
import KE.RegKIsAll
import HandS.Defaults
import PyProof.StrOps2
import HandS.Star
import PyProof.DictUpdate
import PySem.Challenge.RW_laidviews_k00_views
set_option Elab.async false
set_option linter.all false
set_option maxRecDepth 100000
namespace M
open PySem L2
abbrev St := L2.St
/-- data, without addresses -/
inductive D where
  | non | bl (b : Bool) | int (i : Int) | str (s : Str)
  | tup (l : List D) | lst (l : List D) | scr (l : List D)
  | dK (l : List (Key × D)) | dT (l : List (List Key × D))
  /-- an album: its views, its links -/
  | alb (vs ls : List D)
  deriving Inhabited
mutual
inductive R (K : PySem.W.Frag) (G : Hp) : V → D → Prop
  | non : R K G .non .non
  | bl (b : Bool) : R K G (.bl b) (.bl b)
  | int (i : Int) : R K G (.int i) (.int i)
  | str (s : Str) : R K G (.str s) (.str s)
  | tup {a : Addr} {xs : List V} {ds : List D} : G a = some (.tup xs) → xs.length ≤ sizeLine → RL K G xs ds → R K G (.ref a) (.tup ds)
  | lst {a : Addr} {xs : List V} {ds : List D} : G a = some (.lst xs) → xs.length ≤ sizeLine → RL K G xs ds → R K G (.ref a) (.lst ds)
  | scr {a : Addr} {xs : List V} {ds : List D} : SqL K G a xs → xs.length ≤ sizeLine → RL K G xs ds → R K G (.ref a) (.scr ds)
  | dK {a : Addr} {kvs : List (Key × V)} {ds : List (Key × D)} : G a = some (.dK kvs) → kvs.length ≤ sizeLine → kvs.map (·.1) = ds.map (·.1) → RL K G (kvs.map (·.2)) (ds.map (·.2)) → R K G (.ref a) (.dK ds)
  | dT {a : Addr} {kvs : List (List Key × V)} {ds : List (List Key × D)} : G a = some (.dT kvs) → kvs.length ≤ sizeLine → kvs.map (·.1) = ds.map (·.1) → RL K G (kvs.map (·.2)) (ds.map (·.2)) → R K G (.ref a) (.dT ds)
  | alb {p av al C dx : Addr} {xs ys : List V} {vs ls : List D} : PySem.W.nsIn K mainGlobals "Album" = some (some (.ref C)) → G p = some (.ins C dx [("_views", .ref av), ("_links", .ref al)]) → G av = some (.lst xs) → G al = some (.lst ys) → xs.length ≤ sizeLine → ys.length ≤ sizeLine → RL K G xs vs → RL K G ys ls → R K G (.ref p) (.alb vs ls)
inductive RL (K : PySem.W.Frag) (G : Hp) : List V → List D → Prop
  | nil : RL K G [] []
  | cons {v : V} {vs : List V} {d : D} {ds : List D} : R K G v d → RL K G vs ds → RL K G (v :: vs) (d :: ds)
end
def Ext (G G' : Hp) : Prop := ∀ a o, G a = some o → G' a = some o
theorem Ext.refl (G : Hp) : Ext G G := fun _ _ h => h
theorem Ext.trans {G G1 G2 : Hp} (a : Ext G G1) (b : Ext G1 G2) : Ext G G2 := fun x o h => b x o (a x o h)
theorem Ext.new {G : Hp} {p : Addr} {o : HO} (h : G p = none) : Ext G (upd G p o) := fun a u e => by
  rw [upd_ne (ne_of_none e h)]; exact e
theorem Ext.sql {K : PySem.W.Frag} {G G' : Hp} {a : Addr} {xs : List V} (e : Ext G G') (h : SqL K G a xs) : SqL K G' a xs := by
  rcases h with (h | ⟨o, h⟩) | h
  · exact .inl (.inl (e _ _ h))
  · exact .inl (.inr ⟨o, e _ _ h⟩)
  · exact .inr h
section
variable {K : PySem.W.Frag} {G G' : Hp}
mutual
theorem R.mono (e : Ext G G') : ∀ {v : V} {d : D}, R K G v d → R K G' v d
  | _, _, .non => .non
  | _, _, .bl b => .bl b
  | _, _, .int i => .int i
  | _, _, .str s => .str s
  | _, _, .tup h l r => .tup (e _ _ h) l (RL.mono e r)
  | _, _, .lst h l r => .lst (e _ _ h) l (RL.mono e r)
  | _, _, .scr h l r => .scr (e.sql h) l (RL.mono e r)
  | _, _, .dK h l k r => .dK (e _ _ h) l k (RL.mono e r)
  | _, _, .dT h l k r => .dT (e _ _ h) l k (RL.mono e r)
  | _, _, .alb c h1 h2 h3 l1 l2 r1 r2 => .alb c (e _ _ h1) (e _ _ h2) (e _ _ h3) l1 l2 (RL.mono e r1) (RL.mono e r2)
theorem RL.mono (e : Ext G G') : ∀ {vs : List V} {ds : List D}, RL K G vs ds → RL K G' vs ds
  | _, _, .nil => .nil
  | _, _, .cons h t => .cons (R.mono e h) (RL.mono e t)
end
theorem RL.length : ∀ {vs : List V} {ds : List D}, RL K G vs ds → vs.length = ds.length
  | _, _, .nil => rfl
  | _, _, .cons _ t => by rw [List.length_cons, List.length_cons, RL.length t]
theorem RL.get : ∀ {vs : List V} {ds : List D} {i : Nat} {d : D}, RL K G vs ds → ds[i]? = some d → ∃ v, vs[i]? = some v ∧ R K G v d
  | _, _, _, _, .nil, e => by simp at e
  | _, _, 0, _, .cons h _, e => by simp at e; subst e; exact ⟨_, rfl, h⟩
  | _, _, i + 1, d, .cons _ t, e => by
    obtain ⟨v, h1, h2⟩ := RL.get (i := i) (d := d) t (by simpa using e)
    exact ⟨v, by simpa using h1, h2⟩
theorem RL.append : ∀ {vs ws : List V} {ds es : List D}, RL K G vs ds → RL K G ws es → RL K G (vs ++ ws) (ds ++ es)
  | _, _, _, _, .nil, s => s
  | _, _, _, _, .cons h t, s => .cons h (RL.append t s)
theorem RL.set : ∀ {vs : List V} {ds : List D} (i : Nat) {v : V} {d : D}, RL K G vs ds → R K G v d → RL K G (vs.set i v) (ds.set i d)
  | _, _, _, _, _, .nil, _ => .nil
  | _, _, 0, _, _, .cons _ t, r => .cons r t
  | _, _, i + 1, _, _, .cons h t, r => .cons h (RL.set i t r)
theorem RL.take : ∀ {vs : List V} {ds : List D} (n : Nat), RL K G vs ds → RL K G (vs.take n) (ds.take n)
  | _, _, 0, _ => .nil
  | _, _, _ + 1, .nil => .nil
  | _, _, n + 1, .cons h t => .cons h (RL.take n t)
theorem RL.drop : ∀ {vs : List V} {ds : List D} (n : Nat), RL K G vs ds → RL K G (vs.drop n) (ds.drop n)
  | _, _, 0, r => r
  | _, _, _ + 1, .nil => .nil
  | _, _, n + 1, .cons _ t => RL.drop n t
theorem RL.reverse {vs : List V} {ds : List D} (h : RL K G vs ds) : RL K G vs.reverse ds.reverse := by
  induction h using RL.rec (motive_1 := fun _ _ _ => True) with
  | nil => exact .nil
  | cons a t _ ih => rw [List.reverse_cons, List.reverse_cons]; exact RL.append ih (.cons a .nil)
  | _ => trivial
theorem RL.rep {vs : List V} {ds : List D} (h : RL K G vs ds) : ∀ k : Nat, RL K G (List.replicate k vs).flatten (List.replicate k ds).flatten
  | 0 => .nil
  | k + 1 => by
    rw [List.replicate_succ, List.replicate_succ, List.flatten_cons, List.flatten_cons]
    exact RL.append h (RL.rep h k)
end
/-- objects that are dicts -/
def isD : HO → Bool
  | .dK _ => true
  | .dT _ => true
  | _ => false
/-- G is a view of H: dicts of it may be locked in H -/
def Vw (G H : Hp) : Prop := ∀ a o, G a = some o → H a = some o ∨ (isD o = true ∧ ∃ x, H a = some (.frz x o))
theorem Vw.there {G H : Hp} (h : Vw G H) {a : Addr} {o : HO} (e : G a = some o) : H a ≠ none := by
  rcases h a o e with h | ⟨_, x, h⟩ <;> rw [h] <;> simp
theorem Vw.none {G H : Hp} (h : Vw G H) {a : Addr} (e : H a = none) : G a = Option.none := by
  cases q : G a with
  | none => rfl
  | some o => exact absurd e (h.there q)
theorem Vw.tup {G H : Hp} (h : Vw G H) {a : Addr} {xs : List V} (e : G a = some (.tup xs)) : H a = some (.tup xs) := by
  rcases h a _ e with h | ⟨h, _⟩
  · exact h
  · cases h
theorem Vw.lst {G H : Hp} (h : Vw G H) {a : Addr} {xs : List V} (e : G a = some (.lst xs)) : H a = some (.lst xs) := by
  rcases h a _ e with h | ⟨h, _⟩
  · exact h
  · cases h
theorem Vw.rd {G H : Hp} (h : Vw G H) {a : Addr} {o : HO} (e : G a = some o) : Rd H a o := by
  rcases h a _ e with h | ⟨_, x, h⟩
  · exact .inl h
  · exact .inr ⟨x, h⟩
theorem Vw.frz {G H : Hp} (h : Vw G H) {a : Addr} {x : Obj} {o : HO} (e : G a = some (.frz x o)) : H a = some (.frz x o) := by
  rcases h a _ e with h | ⟨h, _⟩
  · exact h
  · cases h
theorem Vw.sql {K : PySem.W.Frag} {G H : Hp} (h : Vw G H) {a : Addr} {xs : List V} (e : SqL K G a xs) : SqL K H a xs := by
  rcases e with (e | ⟨o, e⟩) | e
  · exact .inl (.inl (h.lst e))
  · exact .inl (.inr ⟨o, h.frz e⟩)
  · exact .inr e
/-- a slot of a def's frame: nothing known; data that stay; data at an object of the frame's own; at an object that the caller lent to be changed; at one lent to be read -/
inductive Sl where
  | no | imm (d : D) | own (d : D) | io (d : D) | bor (d : D)
  deriving Inhabited
abbrev Env := List Sl
structure Bs where
  H0 : Hp
  G0 : Hp
  Bo : Nat → Hp
  IO : List (Nat × Addr)
inductive Ow (K : PySem.W.Frag) (G H : Hp) (p : Addr) : D → Prop
  | lst {xs : List V} {ds : List D} : H p = some (.lst xs) → xs.length ≤ sizeLine → RL K G xs ds → Ow K G H p (.lst ds)
  | dK {kvs : List (Key × V)} {ds : List (Key × D)} : H p = some (.dK kvs) → kvs.length ≤ sizeLine → kvs.map (·.1) = ds.map (·.1) → RL K G (kvs.map (·.2)) (ds.map (·.2)) → Ow K G H p (.dK ds)
  | dT {kvs : List (List Key × V)} {ds : List (List Key × D)} : H p = some (.dT kvs) → kvs.length ≤ sizeLine → kvs.map (·.1) = ds.map (·.1) → RL K G (kvs.map (·.2)) (ds.map (·.2)) → Ow K G H p (.dT ds)
section
variable {K : PySem.W.Frag} {G G' H H' : Hp} {p : Addr} {d : D}
theorem Ow.mono (e : Ext G G') (h : Ow K G H p d) : Ow K G' H p d := by
  cases h with
  | lst a l r => exact .lst a l (r.mono e)
  | dK a l k r => exact .dK a l k (r.mono e)
  | dT a l k r => exact .dT a l k (r.mono e)
theorem Ow.at' (e : H' p = H p) (h : Ow K G H p d) : Ow K G H' p d := by
  cases h with
  | lst a l r => exact .lst (e.trans a) l r
  | dK a l k r => exact .dK (e.trans a) l k r
  | dT a l k r => exact .dT (e.trans a) l k r
/-- the object there -/
theorem Ow.obj (h : Ow K G H p d) : ∃ o, H p = some o ∧ Mut (some o) ∧ ∀ G', G' p = some o → Ext G G' → R K G' (.ref p) d := by
  cases h with
  | lst a l r => exact ⟨_, a, trivial, fun G' g e => .lst g l (r.mono e)⟩
  | dK a l k r => exact ⟨_, a, trivial, fun G' g e => .dK g l k (r.mono e)⟩
  | dT a l k r => exact ⟨_, a, trivial, fun G' g e => .dT g l k (r.mono e)⟩
end
/-- the slot i holds an object of the frame's own (or lent) at p -/
def OwnAt (δ : Env) (σ : St) (i : Nat) (p : Addr) : Prop := (∃ d, δ[i]? = some (.own d) ∨ δ[i]? = some (.io d)) ∧ σ[i]? = some (some (.ref p))
def SlOk (K : PySem.W.Frag) (B : Bs) (G H : Hp) (i : Nat) (ov : Option V) : Sl → Prop
  | .no => True
  | .imm d => ∃ v, ov = some v ∧ R K G v d
  | .own d => ∃ p, ov = some (.ref p) ∧ G p = none ∧ Ow K G H p d ∧ B.H0 p = none
  | .io d => ∃ p, ov = some (.ref p) ∧ G p = none ∧ Ow K G H p d ∧ (i, p) ∈ B.IO
  | .bor d => ∃ v, ov = some v ∧ R K (B.Bo i) v d
/-- the table of by_rows's code object, by the known objects -/
def codeTab (o : Obj) : Option Addr := match o with
  | ⟨_, _, .fields vs, _⟩ => match vs.toList with
    | _ :: .str n _ :: _ => if (n == ("by_rows" : Str)) = true then (match (vs[11]? : Option Value) with
      | some (Value.ref P) => some P
      | _ => none) else none
    | _ => none
  | _ => none
def tabOf (K : PySem.W.Frag) : Option Addr := K.findSome? fun p => codeTab p.2
abbrev tabQ : Str := "by_rows.<locals>.<lambda>"
/-- neither a tuple nor a table nor a code object -/
structure NT (o : HO) : Prop where
  tup : ∀ xs, o ≠ .tup xs
  tbl : ∀ ps, o ≠ .tbl ps
  code : ∀ c q, o ≠ LamX.CodeO c q
theorem nt_lst {xs : List V} : NT (.lst xs) := ⟨fun _ e => (by cases e), fun _ e => (by cases e), fun _ _ e => (by unfold LamX.CodeO at e; cases e)⟩
theorem nt_dK {xs : List (Key × V)} : NT (.dK xs) := ⟨fun _ e => (by cases e), fun _ e => (by cases e), fun _ _ e => (by unfold LamX.CodeO at e; cases e)⟩
theorem nt_dT {xs : List (List Key × V)} : NT (.dT xs) := ⟨fun _ e => (by cases e), fun _ e => (by cases e), fun _ _ e => (by unfold LamX.CodeO at e; cases e)⟩
theorem tabS_upd {H : Hp} {P p : Addr} {q : Str} {o o' : HO} (t : LamX.TabS H P q) (h : H p = some o) (n : NT o) : LamX.TabS (upd H p o') P q := by
  obtain ⟨ps, h1, h2, h3⟩ := t
  have c1 : P ≠ p := fun c => by subst c; rw [h] at h1; cases h1; exact n.tbl _ rfl
  refine ⟨ps, by rw [upd_ne c1]; exact h1, h2, fun pos cv hc => ?_⟩
  obtain ⟨c, e1, e2⟩ := h3 pos cv hc
  have c2 : c ≠ p := fun z => by subst z; rw [h] at e2; cases e2; exact n.code _ _ rfl
  exact ⟨c, e1, by rw [upd_ne c2]; exact e2⟩
theorem tabS_new {H : Hp} {P p : Addr} {q : Str} {o' : HO} (t : LamX.TabS H P q) (h : H p = none) : LamX.TabS (upd H p o') P q := t.ext fun b o e => by rw [upd_ne (ne_of_none e h)]; exact e
theorem Ow.nt {K : PySem.W.Frag} {G H : Hp} {p : Addr} {d : D} (h : Ow K G H p d) : ∃ o, H p = some o ∧ NT o := by
  cases h with
  | lst a l r => exact ⟨_, a, nt_lst⟩
  | dK a l k r => exact ⟨_, a, nt_dK⟩
  | dT a l k r => exact ⟨_, a, nt_dT⟩
theorem notbl_upd {G : Hp} {p : Addr} {o : HO} (h : ∀ b ps, G b ≠ some (.tbl ps)) (n : ∀ ps, o ≠ .tbl ps) : ∀ b ps, upd G p o b ≠ some (.tbl ps) := fun b ps e => by
  by_cases c : b = p
  · rw [c, upd_same] at e; cases e; exact n _ rfl
  · rw [upd_ne c] at e; exact h b ps e
theorem mut_notbl {o : HO} (h : Mut (some o)) : ∀ ps, o ≠ .tbl ps := fun xs e => by subst e; exact h
structure At (K : PySem.W.Frag) (B : Bs) (G : Hp) (δ : Env) (σ : St) (H : Hp) : Prop where
  vw : Vw G H
  g0 : Ext B.G0 G
  keep : ∀ a o, B.H0 a = some o → (∀ i, (i, a) ∉ B.IO) → H a = some o
  dom : ∀ a, B.H0 a ≠ none → H a ≠ none
  leak : ∀ a o, B.H0 a = some o → (∀ xs, o ≠ .tup xs) → B.G0 a = none → G a = none
  iok : ∀ i a, (i, a) ∈ B.IO → B.G0 a = none ∧ B.H0 a ≠ none ∧ (∀ j, B.Bo j a = none) ∧ ∃ o, H a = some o ∧ Mut (some o)
  bo : ∀ j, Vw (B.Bo j) H
  bod : ∀ j a, B.Bo j a ≠ none → B.H0 a ≠ none
  len : δ.length = σ.length
  sl : ∀ i s, δ[i]? = some s → ∃ ov, σ[i]? = some ov ∧ SlOk K B G H i ov s
  apart : ∀ i j p, OwnAt δ σ i p → OwnAt δ σ j p → i = j
  tb : (∀ P, tabOf K = some P → LamX.TabS H P tabQ) ∧ (∀ b ps, B.H0 b ≠ some (.tbl ps)) ∧ (∀ b ps, G b ≠ some (.tbl ps)) ∧ (∀ j b ps, B.Bo j b ≠ some (.tbl ps)) ∧ ∀ i b xs, (i, b) ∈ B.IO → B.H0 b ≠ some (.tup xs)
section
variable {K : PySem.W.Frag} {B : Bs} {G G' H H' : Hp} {δ : Env} {σ : St} {i : Nat} {p : Addr} {o : HO} {d : D} {v : V}
theorem mut_notup (h : Mut (some o)) : ∀ xs, o ≠ .tup xs := fun xs e => by subst e; exact h
theorem At.imm (h : At K B G δ σ H) (e : δ[i]? = some (.imm d)) : ∃ v, σ[i]? = some (some v) ∧ R K G v d := by
  obtain ⟨ov, h1, v, rfl, r⟩ := h.sl i _ e
  exact ⟨v, h1, r⟩
theorem At.bor (h : At K B G δ σ H) (e : δ[i]? = some (.bor d)) : ∃ v, σ[i]? = some (some v) ∧ R K (B.Bo i) v d := by
  obtain ⟨ov, h1, v, rfl, r⟩ := h.sl i _ e
  exact ⟨v, h1, r⟩
theorem At.own (h : At K B G δ σ H) (e : δ[i]? = some (.own d)) : ∃ p, σ[i]? = some (some (.ref p)) ∧ G p = none ∧ Ow K G H p d ∧ B.H0 p = none := by
  obtain ⟨ov, h1, p, rfl, r⟩ := h.sl i _ e
  exact ⟨p, h1, r⟩
theorem At.io (h : At K B G δ σ H) (e : δ[i]? = some (.io d)) : ∃ p, σ[i]? = some (some (.ref p)) ∧ G p = none ∧ Ow K G H p d ∧ (i, p) ∈ B.IO := by
  obtain ⟨ov, h1, p, rfl, r⟩ := h.sl i _ e
  exact ⟨p, h1, r⟩
/-- own or lent -/
theorem At.ownAt (h : At K B G δ σ H) {j : Nat} (e : OwnAt δ σ j p) : G p = none ∧ ∃ d, Ow K G H p d := by
  obtain ⟨⟨d, e | e⟩, e2⟩ := e
  · obtain ⟨q, h1, h2, h3, _⟩ := h.own e
    rw [h1] at e2; cases e2
    exact ⟨h2, d, h3⟩
  · obtain ⟨q, h1, h2, h3, _⟩ := h.io e
    rw [h1] at e2; cases e2
    exact ⟨h2, d, h3⟩
theorem At.lt (h : At K B G δ σ H) {s : Sl} (e : δ[i]? = some s) : i < σ.length := by
  have := (List.getElem?_eq_some_iff.mp e).1
  rw [← h.len]; exact this
/-- H grows by an object that nobody knows -/
theorem At.alloc (h : At K B G δ σ H) (n : H p = none) : At K B G δ σ (upd H p o) := by
  have ne : ∀ a, H a ≠ none → a ≠ p := fun a q z => q (by rw [z]; exact n)
  have vw : ∀ F, Vw F H → Vw F (upd H p o) := fun F q a u e => by rw [upd_ne (ne a (q.there e))]; exact q a u e
  refine ⟨vw _ h.vw, h.g0, fun a u e z => ?_, fun a e => ?_, h.leak, fun i a e => ?_, fun j => vw _ (h.bo j), h.bod, h.len, fun i s e => ?_, h.apart, ⟨fun P hP => tabS_new (h.tb.1 P hP) n, h.tb.2⟩⟩
  · have q := h.keep a u e z
    rw [upd_ne (ne a (by rw [q]; simp))]; exact q
  · rw [upd_ne (ne a (h.dom a e))]; exact h.dom a e
  · obtain ⟨a1, a2, a3, u, a4, a5⟩ := h.iok i a e
    exact ⟨a1, a2, a3, u, by rw [upd_ne (ne a (by rw [a4]; simp))]; exact a4, a5⟩
  · obtain ⟨ov, h1, h2⟩ := h.sl i s e
    refine ⟨ov, h1, ?_⟩
    cases s with
    | no => trivial
    | imm d => exact h2
    | bor d => exact h2
    | own d =>
      obtain ⟨q, a1, a2, a3, a4⟩ := h2
      obtain ⟨u, b1, _⟩ := a3.obj
      exact ⟨q, a1, a2, a3.at' (upd_ne (ne q (by rw [b1]; simp))), a4⟩
    | io d =>
      obtain ⟨q, a1, a2, a3, a4⟩ := h2
      obtain ⟨u, b1, _⟩ := a3.obj
      exact ⟨q, a1, a2, a3.at' (upd_ne (ne q (by rw [b1]; simp))), a4⟩
theorem At.fresh0 (h : At K B G δ σ H) (n : H p = none) : B.H0 p = none := by
  cases q : B.H0 p with
  | none => rfl
  | some u => exact absurd n (h.dom p (by rw [q]; simp))
theorem At.noOwn (h : At K B G δ σ H) (n : H p = none) : ∀ j, ¬ OwnAt δ σ j p := fun j e => by
  obtain ⟨_, d, w⟩ := h.ownAt e
  obtain ⟨u, b, _⟩ := w.obj
  rw [n] at b; cases b
/-- an object that H has, nobody's own, is told to be fixed -/
theorem At.fix (h : At K B G δ σ H) (e : H p = some o) (g : G p = none) (h0 : B.H0 p = none) (no : ∀ j, ¬ OwnAt δ σ j p) (nt : ∀ ps, o ≠ .tbl ps) : At K B (upd G p o) δ σ H := by
  have ex : Ext G (upd G p o) := Ext.new g
  refine ⟨fun a u q => ?_, h.g0.trans ex, h.keep, h.dom, fun a u q t z => ?_, h.iok, h.bo, h.bod, h.len, fun i s q => ?_, h.apart, ⟨h.tb.1, h.tb.2.1, notbl_upd h.tb.2.2.1 nt, h.tb.2.2.2⟩⟩
  · by_cases c : a = p
    · subst c; rw [upd_same] at q; cases q; exact .inl e
    · rw [upd_ne c] at q; exact h.vw a u q
  · have c : a ≠ p := fun c => by rw [c, h0] at q; cases q
    rw [upd_ne c]; exact h.leak a u q t z
  · obtain ⟨ov, h1, h2⟩ := h.sl i s q
    refine ⟨ov, h1, ?_⟩
    cases s with
    | no => trivial
    | imm d => obtain ⟨v, a, r⟩ := h2; exact ⟨v, a, r.mono ex⟩
    | bor d => exact h2
    | own d =>
      obtain ⟨b, a1, a2, a3, a4⟩ := h2
      subst a1
      have c : b ≠ p := fun c => by subst c; exact no i ⟨⟨d, .inl q⟩, h1⟩
      exact ⟨b, rfl, by rw [upd_ne c]; exact a2, a3.mono ex, a4⟩
    | io d =>
      obtain ⟨b, a1, a2, a3, a4⟩ := h2
      subst a1
      have c : b ≠ p := fun c => by subst c; exact no i ⟨⟨d, .inr q⟩, h1⟩
      exact ⟨b, rfl, by rw [upd_ne c]; exact a2, a3.mono ex, a4⟩
/-- a new object, told to be fixed -/
theorem At.laid (h : At K B G δ σ H) (n : H p = none) (nt : ∀ ps, o ≠ .tbl ps) : At K B (upd G p o) δ σ (upd H p o) :=
  (h.alloc n).fix upd_same (h.vw.none n) (h.fresh0 n) (h.noOwn n) nt
/-- tuples that H has may always be told -/
theorem At.tuple (h : At K B G δ σ H) {xs : List V} (e : H p = some (.tup xs)) : ∃ G', At K B G' δ σ H ∧ Ext G G' ∧ G' p = some (.tup xs) := by
  cases g : G p with
  | some u =>
    have q : u = .tup xs := by
      rcases h.vw p u g with z | ⟨_, x, z⟩
      · rw [e] at z; exact (Option.some.inj z).symm
      · rw [e] at z; cases z
    subst q
    exact ⟨G, h, Ext.refl G, g⟩
  | none =>
    have ex : Ext G (upd G p (.tup xs)) := Ext.new g
    have no : ∀ j, ¬ OwnAt δ σ j p := fun j q => by
      obtain ⟨_, d, w⟩ := h.ownAt q
      obtain ⟨u, b, m, _⟩ := w.obj
      rw [e] at b; cases b; exact m
    refine ⟨upd G p (.tup xs), ⟨fun a u q => ?_, h.g0.trans ex, h.keep, h.dom, fun a u q t z => ?_, h.iok, h.bo, h.bod, h.len, fun i s q => ?_, h.apart, ⟨h.tb.1, h.tb.2.1, notbl_upd h.tb.2.2.1 (fun _ z => by cases z), h.tb.2.2.2⟩⟩, ex, upd_same⟩
    · by_cases c : a = p
      · subst c; rw [upd_same] at q; cases q; exact .inl e
      · rw [upd_ne c] at q; exact h.vw a u q
    · have c : a ≠ p := fun c => by
        subst c
        by_cases io : ∀ i, (i, a) ∉ B.IO
        · have := h.keep a u q io
          rw [e] at this; cases this
          exact t xs rfl
        · have ⟨i, io⟩ : ∃ i, (i, a) ∈ B.IO := Classical.byContradiction fun z => io fun i hi => z ⟨i, hi⟩
          obtain ⟨_, _, _, u', z1, z2⟩ := h.iok i a io
          rw [e] at z1; cases z1; exact z2
      rw [upd_ne c]; exact h.leak a u q t z
    · obtain ⟨ov, h1, h2⟩ := h.sl i s q
      refine ⟨ov, h1, ?_⟩
      cases s with
      | no => trivial
      | imm d => obtain ⟨v, a, r⟩ := h2; exact ⟨v, a, r.mono ex⟩
      | bor d => exact h2
      | own d =>
        obtain ⟨b, a1, a2, a3, a4⟩ := h2
        subst a1
        have c : b ≠ p := fun c => by subst c; exact no i ⟨⟨d, .inl q⟩, h1⟩
        exact ⟨b, rfl, by rw [upd_ne c]; exact a2, a3.mono ex, a4⟩
      | io d =>
        obtain ⟨b, a1, a2, a3, a4⟩ := h2
        subst a1
        have c : b ≠ p := fun c => by subst c; exact no i ⟨⟨d, .inr q⟩, h1⟩
        exact ⟨b, rfl, by rw [upd_ne c]; exact a2, a3.mono ex, a4⟩
theorem get_set {α : Type} {l : List α} {i j : Nat} {x y : α} (h : (l.set i x)[j]? = some y) : (i = j ∧ y = x ∧ i < l.length) ∨ (i ≠ j ∧ l[j]? = some y) := by
  by_cases c : i = j
  · subst c
    by_cases z : i < l.length
    · rw [List.getElem?_set_self z] at h; exact .inl ⟨rfl, (Option.some.inj h).symm, z⟩
    · rw [List.getElem?_eq_none (by rw [List.length_set]; omega)] at h; cases h
  · rw [List.getElem?_set_ne c] at h; exact .inr ⟨c, h⟩
/-- a slot is stored: data that stay -/
theorem At.setImm (h : At K B G δ σ H) (r : R K G v d) (i : Nat) : At K B G (δ.set i (.imm d)) (σ.set i (some v)) H := by
  refine ⟨h.vw, h.g0, h.keep, h.dom, h.leak, h.iok, h.bo, h.bod, by rw [List.length_set, List.length_set]; exact h.len, fun j s e => ?_, fun j k p e1 e2 => ?_, h.tb⟩
  · rcases get_set e with ⟨rfl, rfl, z⟩ | ⟨c, e⟩
    · exact ⟨some v, List.getElem?_set_self (by rw [← h.len]; exact z), v, rfl, r⟩
    · obtain ⟨ov, h1, h2⟩ := h.sl j s e
      exact ⟨ov, by rw [List.getElem?_set_ne c]; exact h1, h2⟩
  · have back : ∀ j, OwnAt (δ.set i (.imm d)) (σ.set i (some v)) j p → OwnAt δ σ j p := fun j e => by
      obtain ⟨⟨d', e | e⟩, e2⟩ := e
      · rcases get_set e with ⟨_, q, _⟩ | ⟨c, e⟩
        · cases q
        · rw [List.getElem?_set_ne c] at e2; exact ⟨⟨d', .inl e⟩, e2⟩
      · rcases get_set e with ⟨_, q, _⟩ | ⟨c, e⟩
        · cases q
        · rw [List.getElem?_set_ne c] at e2; exact ⟨⟨d', .inr e⟩, e2⟩
    exact h.apart j k p (back j e1) (back k e2)
/-- .. an object of its own -/
theorem At.setOwn (h : At K B G δ σ H) (g : G p = none) (w : Ow K G H p d) (h0 : B.H0 p = none) (no : ∀ j, ¬ OwnAt δ σ j p) (i : Nat) : At K B G (δ.set i (.own d)) (σ.set i (some (.ref p))) H := by
  refine ⟨h.vw, h.g0, h.keep, h.dom, h.leak, h.iok, h.bo, h.bod, by rw [List.length_set, List.length_set]; exact h.len, fun j s e => ?_, fun j k q e1 e2 => ?_, h.tb⟩
  · rcases get_set e with ⟨rfl, rfl, z⟩ | ⟨c, e⟩
    · exact ⟨some (.ref p), List.getElem?_set_self (by rw [← h.len]; exact z), p, rfl, g, w, h0⟩
    · obtain ⟨ov, h1, h2⟩ := h.sl j s e
      exact ⟨ov, by rw [List.getElem?_set_ne c]; exact h1, h2⟩
  · have back : ∀ j, OwnAt (δ.set i (.own d)) (σ.set i (some (.ref p))) j q → (i = j ∧ q = p) ∨ (i ≠ j ∧ OwnAt δ σ j q) := fun j e => by
      obtain ⟨⟨d', e⟩, e2⟩ := e
      by_cases c : i = j
      · subst c
        rcases get_set e2 with ⟨_, q2, _⟩ | ⟨c, _⟩
        · cases q2; exact .inl ⟨rfl, rfl⟩
        · exact absurd rfl c
      · rw [List.getElem?_set_ne c] at e2
        refine .inr ⟨c, ⟨d', ?_⟩, e2⟩
        rcases e with e | e
        · rw [List.getElem?_set_ne c] at e; exact .inl e
        · rw [List.getElem?_set_ne c] at e; exact .inr e
    rcases back j e1 with ⟨a1, a2⟩ | ⟨a1, a2⟩ <;> rcases back k e2 with ⟨b1, b2⟩ | ⟨b1, b2⟩
    · omega
    · subst a2; exact absurd b2 (no k)
    · subst b2; exact absurd a2 (no j)
    · exact h.apart j k q a2 b2
/-- forgetting -/
theorem At.forget (h : At K B G δ σ H) {δ' : Env} {σ' : St} (hl : δ'.length = σ'.length) (w : ∀ (i : Nat) (s : Sl), δ'[i]? = some s → s = Sl.no ∨ (δ[i]? = some s ∧ σ'[i]? = σ[i]?)) : At K B G δ' σ' H := by
  refine ⟨h.vw, h.g0, h.keep, h.dom, h.leak, h.iok, h.bo, h.bod, hl, fun j s e => ?_, fun j k q e1 e2 => ?_, h.tb⟩
  · rcases w j s e with rfl | ⟨e1, e2⟩
    · have : j < σ'.length := by rw [← hl]; exact (List.getElem?_eq_some_iff.mp e).1
      exact ⟨σ'[j], List.getElem?_eq_getElem this, trivial⟩
    · obtain ⟨ov, h1, h2⟩ := h.sl j s e1
      exact ⟨ov, e2.trans h1, h2⟩
  · have back : ∀ j, OwnAt δ' σ' j q → OwnAt δ σ j q := fun j e => by
      obtain ⟨⟨d', e | e⟩, e2⟩ := e
      · rcases w j _ e with z | ⟨z1, z2⟩
        · cases z
        · exact ⟨⟨d', .inl z1⟩, z2 ▸ e2⟩
      · rcases w j _ e with z | ⟨z1, z2⟩
        · cases z
        · exact ⟨⟨d', .inr z1⟩, z2 ▸ e2⟩
    exact h.apart j k q (back j e1) (back k e2)
/-- a slot's own object is told to be fixed from now on -/
theorem At.freeze (h : At K B G δ σ H) (e : δ[i]? = some (.own d)) : ∃ G' p, σ[i]? = some (some (.ref p)) ∧ R K G' (.ref p) d ∧ Ext G G' ∧ At K B G' (δ.set i (.imm d)) σ H := by
  obtain ⟨p, h1, h2, h3, h4⟩ := h.own e
  obtain ⟨o, b1, bm, b2⟩ := h3.obj
  have ex : Ext G (upd G p o) := Ext.new h2
  have hf : At K B G (δ.set i .no) σ H := h.forget (by rw [List.length_set]; exact h.len) fun j s q => by
    rcases get_set q with ⟨rfl, rfl, _⟩ | ⟨c, q⟩
    · exact .inl rfl
    · exact .inr ⟨q, rfl⟩
  have hg := hf.fix b1 h2 h4 (fun j q => by
    have c : i ≠ j := fun c => by
      subst c
      obtain ⟨⟨d', z | z⟩, _⟩ := q
      · rcases get_set z with ⟨_, y, _⟩ | ⟨y, _⟩
        · cases y
        · exact y rfl
      · rcases get_set z with ⟨_, y, _⟩ | ⟨y, _⟩
        · cases y
        · exact y rfl
    have q' : OwnAt δ σ j p := by
      obtain ⟨⟨d', z⟩, y⟩ := q
      rw [List.getElem?_set_ne c] at z
      exact ⟨⟨d', z⟩, y⟩
    exact c (h.apart i j p ⟨⟨d, .inl e⟩, h1⟩ q')) (mut_notbl bm)
  have hr : R K (upd G p o) (.ref p) d := b2 _ upd_same ex
  refine ⟨upd G p o, p, h1, hr, ex, ?_⟩
  have hi := hg.setImm hr i
  rw [List.set_set] at hi
  have : σ.set i (some (.ref p)) = σ := by
    apply List.ext_getElem?
    intro j
    by_cases c : i = j
    · subst c
      rw [List.getElem?_set_self (h.lt e)]; exact h1.symm
    · rw [List.getElem?_set_ne c]
  rw [this] at hi
  exact hi
/-- an own (or lent) object is changed -/
theorem At.change (h : At K B G δ σ H) {d' : D} {s s' : Sl} (e : δ[i]? = some s) (hs : (s = .own d ∧ s' = .own d') ∨ (s = .io d ∧ s' = .io d')) (hp : σ[i]? = some (some (.ref p))) (m : Mut (some o)) (w : Ow K G (upd H p o) p d') :
    At K B G (δ.set i s') σ (upd H p o) := by
  have oa : OwnAt δ σ i p := by
    rcases hs with ⟨rfl, _⟩ | ⟨rfl, _⟩
    · exact ⟨⟨d, .inl e⟩, hp⟩
    · exact ⟨⟨d, .inr e⟩, hp⟩
  obtain ⟨gp, dd, w0⟩ := h.ownAt oa
  obtain ⟨o0, hp0, m0, _⟩ := w0.obj
  have back : ∀ j q, OwnAt (δ.set i s') σ j q → OwnAt δ σ j q := fun j q z => by
    by_cases c : i = j
    · subst c
      obtain ⟨_, z2⟩ := z
      rw [hp] at z2; cases z2; exact oa
    · obtain ⟨⟨d', z⟩, y⟩ := z
      rw [List.getElem?_set_ne c] at z
      exact ⟨⟨d', z⟩, y⟩
  have bop : ∀ j, B.Bo j p = none := fun j => by
    rcases hs with ⟨rfl, _⟩ | ⟨rfl, _⟩
    · obtain ⟨q, h1, _, _, h4⟩ := h.own e
      rw [hp] at h1; cases h1
      cases z : B.Bo j p with
      | none => rfl
      | some u => exact absurd h4 (h.bod j p (by rw [z]; simp))
    · obtain ⟨q, h1, _, _, h4⟩ := h.io e
      rw [hp] at h1; cases h1
      exact (h.iok i p h4).2.2.1 j
  refine ⟨fun a u q => ?_, h.g0, fun a u q z => ?_, fun a q => ?_, h.leak, fun j a q => ?_, fun jj a u q => ?_, h.bod, by rw [List.length_set]; exact h.len, fun j t q => ?_, fun j k q e1 e2 => h.apart j k q (back j q e1) (back k q e2), ⟨fun P hP => (by obtain ⟨oo, x1, x2⟩ := w0.nt; exact tabS_upd (h.tb.1 P hP) x1 x2), h.tb.2⟩⟩
  · rw [upd_ne (fun c => by rw [c, gp] at q; cases q)]; exact h.vw a u q
  · have c : a ≠ p := fun c => by
      subst c
      rcases hs with ⟨rfl, _⟩ | ⟨rfl, _⟩
      · obtain ⟨b, h1, _, _, h4⟩ := h.own e
        rw [hp] at h1; cases h1
        rw [h4] at q; cases q
      · obtain ⟨b, h1, _, _, h4⟩ := h.io e
        rw [hp] at h1; cases h1
        exact z i h4
    rw [upd_ne c]; exact h.keep a u q z
  · by_cases c : a = p
    · rw [c, upd_same]; simp
    · rw [upd_ne c]; exact h.dom a q
  · obtain ⟨a1, a2, a3, u, a4, a5⟩ := h.iok j a q
    refine ⟨a1, a2, a3, ?_⟩
    by_cases c : a = p
    · exact ⟨o, by rw [c, upd_same], m⟩
    · exact ⟨u, by rw [upd_ne c]; exact a4, a5⟩
  · rw [upd_ne (fun c => by rw [c, bop] at q; cases q)]; exact h.bo jj a u q
  · rcases get_set q with ⟨rfl, rfl, _⟩ | ⟨c, q⟩
    · refine ⟨some (.ref p), hp, ?_⟩
      rcases hs with ⟨rfl, rfl⟩ | ⟨rfl, rfl⟩
      · obtain ⟨b, h1, _, _, h4⟩ := h.own e
        rw [hp] at h1; cases h1
        exact ⟨p, rfl, gp, w, h4⟩
      · obtain ⟨b, h1, _, _, h4⟩ := h.io e
        rw [hp] at h1; cases h1
        exact ⟨p, rfl, gp, w, h4⟩
    · obtain ⟨ov, h1, h2⟩ := h.sl j t q
      refine ⟨ov, h1, ?_⟩
      cases t with
      | no => trivial
      | imm d => exact h2
      | bor d => exact h2
      | own d =>
        obtain ⟨b, a1, a2, a3, a4⟩ := h2
        subst a1
        have cb : b ≠ p := fun cb => by subst cb; exact c (h.apart i j b oa ⟨⟨d, .inl q⟩, h1⟩)
        exact ⟨b, rfl, a2, a3.at' (upd_ne cb), a4⟩
      | io d =>
        obtain ⟨b, a1, a2, a3, a4⟩ := h2
        subst a1
        have cb : b ≠ p := fun cb => by subst cb; exact c (h.apart i j b oa ⟨⟨d, .inr q⟩, h1⟩)
        exact ⟨b, rfl, a2, a3.at' (upd_ne cb), a4⟩
end
end M
set_option Elab.async false
set_option linter.all false
set_option maxRecDepth 100000
namespace M
open PySem L2 PySem.Spec PyProof.Rows
structure Exn where
  cls : Str
  val : D
abbrev Mo (α : Type) := Env → Option (Except Exn α × Env)
def Mo.ret {α : Type} (a : α) : Mo α := fun δ => some (.ok a, δ)
def Mo.bind {α β : Type} (m : Mo α) (k : α → Mo β) : Mo β := fun δ => match m δ with
  | none => none
  | some (.error x, δ') => some (.error x, δ')
  | some (.ok a, δ') => k a δ'
def Mo.lift {α : Type} (o : Option α) : Mo α := fun δ => match o with
  | none => none
  | some a => some (.ok a, δ)
theorem bind_ok {α β : Type} {m : Mo α} {k : α → Mo β} {δ δ1 : Env} {a : α} (h : m δ = some (.ok a, δ1)) : Mo.bind m k δ = k a δ1 := by unfold Mo.bind; rw [h]
theorem lift_some {α : Type} {o : Option α} {δ : Env} {r : Except Exn α × Env} (h : Mo.lift o δ = some r) : ∃ a, o = some a ∧ r = (.ok a, δ) := by
  unfold Mo.lift at h
  cases o with
  | none => cases h
  | some a => exact ⟨a, rfl, (Option.some.inj h).symm⟩
/-- what is wanted where an exception leaves -/
abbrev WK := Exn → Env → St → Hp → Hp → Prop
def W0 : WK := fun _ _ _ _ _ => False
def Post {α : Type} (K : PySem.W.Frag) (W : WK) (B : Bs) (G : Hp) (σ : St) (r : Except Exn α) (δ' : Env) (ok : α → Hp → Hp → Prop) : Prop := match r with
  | .ok a => ∀ G' H', At K B G' δ' σ H' → Ext G G' → ok a G' H'
  | .error x => ∀ G' σ' H', At K B G' δ' σ' H' → Ext G G' → W x δ' σ' G' H'
theorem Post.mono {α : Type} {K : PySem.W.Frag} {W : WK} {B : Bs} {G G1 : Hp} {σ : St} {r : Except Exn α} {δ' : Env} {ok : α → Hp → Hp → Prop} (h : Post K W B G σ r δ' ok) (e : Ext G G1) : Post K W B G1 σ r δ' ok := by
  cases r with
  | ok a => exact fun G' H' a1 e1 => h G' H' a1 (e.trans e1)
  | error x => exact fun G' σ' H' a1 e1 => h G' σ' H' a1 (e.trans e1)
/-- a result of its own: a new object that nobody else has -/
def Fr1 (K : PySem.W.Frag) (B : Bs) (G : Hp) (δ : Env) (σ : St) (H : Hp) (p : Addr) (d : D) : Prop := G p = none ∧ B.H0 p = none ∧ (∀ j, ¬ OwnAt δ σ j p) ∧ Ow K G H p d
def tE (K : PySem.W.Frag) (W : WK) (E : Mo D) : TE := fun σ H Q => ∃ B G δ r δ', At K B G δ σ H ∧ E δ = some (r, δ') ∧ Post K W B G σ r δ' (fun d G' H' => ∀ v, R K G' v d → Q v H')
def tO (K : PySem.W.Frag) (W : WK) (E : Mo D) : TE := fun σ H Q => ∃ B G δ r δ', At K B G δ σ H ∧ E δ = some (r, δ') ∧ Post K W B G σ r δ' (fun d G' H' => ∀ p, Fr1 K B G' δ' σ H' p d → Q (.ref p) H')
def tT (K : PySem.W.Frag) (W : WK) (T : Mo Bool) : TT := fun σ H Q => ∃ B G δ r δ', At K B G δ σ H ∧ T δ = some (r, δ') ∧ Post K W B G σ r δ' (fun b G' H' => Q b H')
/-- an argument: data; a slot's object to be changed; a slot's object to be read -/
inductive Ag where
  | im (d : D) | vr (i : Nat) | vb (i : Nat)
def AgOk (K : PySem.W.Frag) (G : Hp) (σ : St) (v : V) : Ag → Prop
  | .im d => R K G v d
  | .vr i => σ[i]? = some (some v)
  | .vb i => σ[i]? = some (some v)
abbrev AgsOk (K : PySem.W.Frag) (G : Hp) (σ : St) : List V → List Ag → Prop := Paired (AgOk K G σ)
def tA (K : PySem.W.Frag) (W : WK) (A : Mo (List Ag)) : TA := fun σ H Q => ∃ B G δ r δ', At K B G δ σ H ∧ A δ = some (r, δ') ∧ Post K W B G σ r δ' (fun as G' H' => ∀ vs, AgsOk K G' σ vs as → Q vs H')
section
variable (X : Cx) (W : WK)
def DE (e : Expr) (E : Mo D) : Prop := PE X e (tE X.K W E)
def DO (e : Expr) (E : Mo D) : Prop := PE X e (tO X.K W E)
def DT (e : Expr) (T : Mo Bool) : Prop := PT X e (tT X.K W T)
def DW (e : Expr) (T : Mo Bool) : Prop := PW X e (tT X.K W T)
def DA (es : List Expr) (A : Mo (List Ag)) : Prop := PA X es (tA X.K W A)
end
section
variable {K : PySem.W.Frag} {W : WK} {B : Bs} {G G' H H' : Hp} {δ δ' : Env} {σ : St} {α β : Type} {r : Except Exn β} {ok : β → Hp → Hp → Prop}
theorem tE_bind {E : Mo D} {k : D → Mo β} {Q : VK} (a : At K B G δ σ H) (h : Mo.bind E k δ = some (r, δ')) (post : Post K W B G σ r δ' ok)
    (q : ∀ v H1 G1 δ1 d, At K B G1 δ1 σ H1 → Ext G G1 → R K G1 v d → k d δ1 = some (r, δ') → Post K W B G1 σ r δ' ok → Q v H1) : tE K W E σ H Q := by
  unfold Mo.bind at h
  cases e : E δ with
  | none => rw [e] at h; cases h
  | some z =>
    obtain ⟨x, δ1⟩ := z
    rw [e] at h
    cases x with
    | error x => cases h; exact ⟨B, G, δ, .error x, _, a, e, post⟩
    | ok d => exact ⟨B, G, δ, .ok d, δ1, a, e, fun G1 H1 a1 e1 v rv => q v H1 G1 δ1 d a1 e1 rv h (post.mono e1)⟩
theorem tT_bind {E : Mo Bool} {k : Bool → Mo β} {Q : Bool → Hp → Prop} (a : At K B G δ σ H) (h : Mo.bind E k δ = some (r, δ')) (post : Post K W B G σ r δ' ok)
    (q : ∀ H1 G1 δ1 d, At K B G1 δ1 σ H1 → Ext G G1 → k d δ1 = some (r, δ') → Post K W B G1 σ r δ' ok → Q d H1) : tT K W E σ H Q := by
  unfold Mo.bind at h
  cases e : E δ with
  | none => rw [e] at h; cases h
  | some z =>
    obtain ⟨x, δ1⟩ := z
    rw [e] at h
    cases x with
    | error x => cases h; exact ⟨B, G, δ, .error x, _, a, e, post⟩
    | ok d => exact ⟨B, G, δ, .ok d, δ1, a, e, fun G1 H1 a1 e1 => q H1 G1 δ1 d a1 e1 h (post.mono e1)⟩
theorem tA_bind {E : Mo (List Ag)} {k : List Ag → Mo β} {Q : List V → Hp → Prop} (a : At K B G δ σ H) (h : Mo.bind E k δ = some (r, δ')) (post : Post K W B G σ r δ' ok)
    (q : ∀ vs H1 G1 δ1 d, At K B G1 δ1 σ H1 → Ext G G1 → AgsOk K G1 σ vs d → k d δ1 = some (r, δ') → Post K W B G1 σ r δ' ok → Q vs H1) : tA K W E σ H Q := by
  unfold Mo.bind at h
  cases e : E δ with
  | none => rw [e] at h; cases h
  | some z =>
    obtain ⟨x, δ1⟩ := z
    rw [e] at h
    cases x with
    | error x => cases h; exact ⟨B, G, δ, .error x, _, a, e, post⟩
    | ok d => exact ⟨B, G, δ, .ok d, δ1, a, e, fun G1 H1 a1 e1 v rv => q v H1 G1 δ1 d a1 e1 rv h (post.mono e1)⟩
end
section
variable {X : Cx} {W : WK} {e a b c : Expr} {pos : Pos} {E Ea Eb Ec : Mo D} {T Ta Tb : Mo Bool}
theorem PE.weak {t t' : TE} (h : PE X e t) (w : ∀ σ H Q, t' σ H Q → t σ H Q) : PE X e t' := ⟨fun pins s σ H Q I q => h.run pins s σ H Q I (w σ H Q q)⟩
theorem PT.weak {t t' : TT} (h : PT X e t) (w : ∀ σ H Q, t' σ H Q → t σ H Q) : PT X e t' := ⟨fun pins s σ H Q I q => h.run pins s σ H Q I (w σ H Q q)⟩
theorem PW.weak {t t' : TT} (h : PW X e t) (w : ∀ σ H Q, t' σ H Q → t σ H Q) : PW X e t' := ⟨fun wh pins s σ H Q I q => h.run wh pins s σ H Q I (w σ H Q q)⟩
theorem PA.weak {es : List Expr} {t t' : TA} (h : PA X es t) (w : ∀ σ H Q, t' σ H Q → t σ H Q) : PA X es t' := ⟨fun po pins s σ H Q I q => h.run po pins s σ H Q I (w σ H Q q)⟩
theorem PS.weak {st : Stmt} {t t' : TS} (h : PS X st t) (w : ∀ D σ H, t' D σ H → t D σ H) : PS X st t' := ⟨fun pins s σ H D I q => h.run pins s σ H D I (w D σ H q)⟩
theorem PSs.weak {st : List Stmt} {t t' : TS} (h : PSs X st t) (w : ∀ D σ H, t' D σ H → t D σ H) : PSs X st t' := ⟨fun pins s σ H D I q => h.run pins s σ H D I (w D σ H q)⟩
theorem PE.or {t u : TE} (h : PE X e t) (h' : PE X e u) : PE X e (fun σ H Q => t σ H Q ∨ u σ H Q) := ⟨fun pins s σ H Q I q => q.elim (h.run pins s σ H Q I) (h'.run pins s σ H Q I)⟩
theorem PS.or {st : Stmt} {t u : TS} (h : PS X st t) (h' : PS X st u) : PS X st (fun D σ H => t D σ H ∨ u D σ H) := ⟨fun pins s σ H D I q => q.elim (h.run pins s σ H D I) (h'.run pins s σ H D I)⟩
theorem PI.or {tg it : Expr} {t u : TI} (h : PI X tg it t) (h' : PI X tg it u) : PI X tg it (fun σ H R => t σ H R ∨ u σ H R) := ⟨fun pins s σ H R I q => q.elim (h.run pins s σ H R I) (h'.run pins s σ H R I)⟩
theorem PG.or {tg : Expr} {t u : TG} (h : PG X tg t) (h' : PG X tg u) : PG X tg (fun v σ H Q => t v σ H Q ∨ u v σ H Q) := ⟨fun pins s σ H v uu Q I rv q => q.elim (h.run pins s σ H v uu Q I rv) (h'.run pins s σ H v uu Q I rv)⟩
/-- a new object as data -/
theorem DO.de (h : DO X W e E) : DE X W e E := PE.weak h fun σ H Q ⟨B, G, δ, r, δ', a, e1, post⟩ => by
  refine ⟨B, G, δ, r, δ', a, e1, ?_⟩
  cases r with
  | error x => exact post
  | ok d =>
    refine fun G' H' a' ex p hp => ?_
    obtain ⟨h1, h2, h3, h4⟩ := hp
    obtain ⟨o, q1, qm, q2⟩ := h4.obj
    exact post (upd G' p o) H' (a'.fix q1 h1 h2 h3 (mut_notbl qm)) (ex.trans (Ext.new h1)) (.ref p) (q2 _ upd_same (Ext.new h1))
def eC (d : D) : Mo D := Mo.ret d
theorem de_c {v : V} {d : D} (h : PE X e (tC v)) (hr : ∀ G, R X.K G v d) : DE X W e (eC d) := PE.weak h fun σ H Q ⟨B, G, δ, r, δ', a, e1, post⟩ => by
  cases e1
  exact post G H a (Ext.refl G) v (hr G)
theorem de_int {i j} : DE X W (.Constant (.int i) j pos) (eC (.int i)) := de_c pe_int fun _ => .int i
theorem de_bl {i j} : DE X W (.Constant (.bool i) j pos) (eC (.bl i)) := de_c pe_bl fun _ => .bl i
theorem de_non {j} : DE X W (.Constant .none j pos) (eC .non) := de_c pe_non fun _ => .non
theorem de_str {x j} : DE X W (.Constant (.str x) j pos) (eC (.str x)) := de_c pe_str fun _ => .str x
/-- a name: what a slot holds; an object of its own is fixed by that -/
def flatD : D → Bool
  | .non => true | .bl _ => true | .int _ => true | .str _ => true
  | _ => false
theorem R.flat {K : PySem.W.Frag} {G G' : Hp} {v : V} {d : D} (h : R K G v d) (f : flatD d = true) : R K G' v d := by
  cases h with
  | non => exact .non
  | bl b => exact .bl b
  | int i => exact .int i
  | str s => exact .str s
  | _ => cases f
def eV (i : Nat) : Mo D := fun δ => match δ[i]? with
  | some (.imm d) => some (.ok d, δ)
  | some (.own d) => some (.ok d, δ.set i (.imm d))
  | some (.bor d) => if flatD d then some (.ok d, δ) else none
  | _ => none
theorem de_v {i : Nat} (h : PE X e (tVar i)) : DE X W e (eV i) := PE.weak h fun σ H Q ⟨B, G, δ, r, δ', a, e1, post⟩ => by
  unfold eV at e1
  split at e1
  · rename_i d h
    cases e1
    obtain ⟨v, h1, h2⟩ := a.imm h
    exact ⟨v, h1, post G H a (Ext.refl G) v h2⟩
  · rename_i d h
    cases e1
    obtain ⟨G', p, h1, h2, h3, h4⟩ := a.freeze h
    exact ⟨.ref p, h1, post G' H h4 h3 _ h2⟩
  · rename_i d h
    split at e1
    · rename_i f
      cases e1
      obtain ⟨v, h1, h2⟩ := a.bor h
      exact ⟨v, h1, post G H a (Ext.refl G) v (h2.flat f)⟩
    · cases e1
  · cases e1
/-- a rule by values that gives f -/
def Snd2 (K : PySem.W.Frag) (f : D → D → Option D) (r : R2) : Prop := ∀ (B : Bs) (G H : Hp) (δ : Env) (σ : St) (x y : V) (a b d : D) (Q : VK), At K B G δ σ H → R K G x a → R K G y b → f a b = some d →
  (∀ v G' H', At K B G' δ σ H' → Ext G G' → R K G' v d → Q v H') → r x y H Q
def eBin (f : D → D → Option D) (A B : Mo D) : Mo D := A.bind fun x => B.bind fun y => Mo.lift (f x y)
theorem de_tOp {f : D → D → Option D} {r : R2} (hf : Snd2 X.K f r) (h : PE X e (tOp r (tE X.K W Ea) (tE X.K W Eb))) : DE X W e (eBin f Ea Eb) := PE.weak h fun σ H Q ⟨B, G, δ, r', δ', a, e1, post⟩ => by
  refine tE_bind a e1 post fun v H1 G1 δ1 d a1 x1 r1 e2 post => ?_
  refine tE_bind a1 e2 post fun w H2 G2 δ2 d2 a2 x2 r2 e3 post => ?_
  obtain ⟨z, hz, hr⟩ := lift_some e3
  cases hr
  exact hf B G2 H2 δ' σ v w d d2 z Q a2 (r1.mono x2) r2 hz fun v G' H' a' x' r' => post G' H' a' x' v r'
theorem de_bin {op : Operator} {f : D → D → Option D} {r : R2} (ho : OpR X (binaryOp op) r) (hf : Snd2 X.K f r) (ha : DE X W a Ea) (hb : DE X W b Eb) : DE X W (.BinOp a op b pos) (eBin f Ea Eb) := de_tOp hf (pe_op ho ha hb)
theorem de_cmp {op : CmpOp} {f : D → D → Option D} {r : R2} (ho : OpR X (compareOp op) r) (hf : Snd2 X.K f r) (ha : DE X W a Ea) (hb : DE X W b Eb) (hm : behindInMarks op b = false) : DE X W (.Compare a [op] [b] pos) (eBin f Ea Eb) := de_tOp hf (pe_cmpR ho ha hb hm)
/-- an object just laid -/
theorem At.own1 {K : PySem.W.Frag} {B : Bs} {G H : Hp} {δ : Env} {σ : St} {p : Addr} {o : HO} {d : D} (a : At K B G δ σ H) (n : H p = none) (w : Ow K G (upd H p o) p d) : At K B G δ σ (upd H p o) ∧ Fr1 K B G δ σ (upd H p o) p d :=
  ⟨a.alloc n, a.vw.none n, a.fresh0 n, a.noOwn n, w⟩
def dTru : D → Option Bool
  | .non => some false
  | .bl b => some b
  | .int i => some (i != 0)
  | .str y => if y.length ≤ sizeLine then some ((y.length : Int) != 0) else none
  | .tup l => some (!l.isEmpty)
  | .lst l => some (!l.isEmpty)
  | .scr l => some (!l.isEmpty)
  | .dK l => some (!l.isEmpty)
  | .dT l => some (!l.isEmpty)
  | .alb _ _ => none
def eTru (E : Mo D) : Mo Bool := E.bind fun d => Mo.lift (dTru d)
theorem truthy_dictH {prog : Program} {w : World} {κ : Type} [DecidableEq κ] {knd : HeapKind prog w κ} {A : Around} {s : Shared} {E : Value → Shared → Prop} {d : Addr} {xs : List (κ × Addr × Value)} {Q : Bool → Shared → Prop} (hd : (d == sysModules) = false) (hm : s.heap.DictOfH knd d xs) (hfit : (xs.length : Int) < 2 ^ 63)
    (h : Q (!xs.isEmpty) { s with toks := s.toks + 1 + 1 }) : wpAny (model prog w) A (truthy (.ref d)) Q E s := by
  have hne : ((xs.length : Int) != 0) = !xs.isEmpty := by cases xs <;> simp <;> omega
  have key : wpAny (model prog w) A (runValue (.builtin "len" ⟨[.ref d], []⟩)) (fun r s' => r = .int xs.length (s.toks + 1) ∧ Q (!xs.isEmpty) s') E s := by
    refine wpAny_runValue (codeAny_builtin entry_len ?_)
    rw [Around.under_plainId plain_len _]
    exact wpAny_mono (wpAny_len_body_dictH (Q := fun r s' => r = .int xs.length (s.toks + 1) ∧ Q (!xs.isEmpty) s') hd hm hfit ⟨rfl, h⟩)
      (fun fin s' h' => by obtain ⟨r, rfl, hq⟩ := h'; exact hq) fun _ _ e => e
  unfold truthy
  first
    | refine wpAny_bind (wpAny_callSpecial?_none (name := Str.ofString "__bool__") hm.typeIs noBool_dict ?_)
    | refine wpAny_bind (wpAny_pure (wpAny_bind (wpAny_callSpecial?_none (name := Str.ofString "__bool__") hm.typeIs noBool_dict ?_)))
  first
    | refine wpAny_bind (wpAny_specialOf (name := Str.ofString "__len__") hm.typeIs F.slot_dict_len.lookup ?_)
    | refine wpAny_bind (wpAny_pure (wpAny_bind (wpAny_specialOf (name := Str.ofString "__len__") hm.typeIs F.slot_dict_len.lookup ?_)))
  first
    | exact wpAny_bind (wpAny_mono key (fun r s' h' => by obtain ⟨rfl, hq⟩ := h'; exact wpAny_pure (hne ▸ hq)) fun _ _ e => e)
    | exact wpAny_bind (wpAny_pure (wpAny_bind (wpAny_mono key (fun r s' h' => by obtain ⟨rfl, hq⟩ := h'; exact wpAny_pure (hne ▸ hq)) fun _ _ e => e)))
theorem isEmpty_len {α β : Type} {l : List α} {m : List β} (h : l.length = m.length) : l.isEmpty = m.isEmpty := by
  cases l <;> cases m <;> first | rfl | (simp at h)
theorem tru_all : TruR X (fun x H Q => ∃ B G δ σ d k, At X.K B G δ σ H ∧ R X.K G x d ∧ dTru d = some k ∧ Q k H) := by
  intro pins s σ H x v Q I rx h
  obtain ⟨B, G, δ, σ', d, k, a, r, hk, q⟩ := h
  cases r with
  | non => cases hk; exact tru_ok pins s σ H _ v Q I rx ⟨_, rfl, q⟩
  | bl b => cases hk; exact tru_ok pins s σ H _ v Q I rx ⟨_, rfl, q⟩
  | int i => cases hk; exact tru_ok pins s σ H _ v Q I rx ⟨_, rfl, q⟩
  | str y =>
    have hk : (if y.length ≤ sizeLine then some ((y.length : Int) != 0) else none) = some k := hk
    split at hk
    · rename_i hl
      cases hk; exact tru_ok pins s σ H _ v Q I rx ⟨_, ⟨hl, rfl⟩, q⟩
    · cases hk
  | tup h1 h2 h3 =>
    cases hk
    exact tru_ok pins s σ H _ v Q I rx ⟨_, Or.inr (Or.inl ⟨_, SqT.of (a.vw.tup h1), by rw [isEmpty_len h3.length]⟩), q⟩
  | lst h1 h2 h3 =>
    cases hk
    exact tru_ok pins s σ H _ v Q I rx ⟨_, Or.inl ⟨_, SqL.of (a.vw.lst h1), by rw [isEmpty_len h3.length]⟩, q⟩
  | scr h1 h2 h3 =>
    cases hk
    exact tru_ok pins s σ H _ v Q I rx ⟨_, Or.inl ⟨_, a.vw.sql h1, by rw [isEmpty_len h3.length]⟩, q⟩
  | alb => cases hk
  | dK h1 h2 h3 h4 =>
    cases hk
    cases rx
    have hl := congrArg List.length h3
    rw [List.length_map, List.length_map] at hl
    exact d_truth I (a.vw.rd h1) fun s' I' => ⟨H, I', by rw [isEmpty_len hl]; exact q⟩
  | dT h1 h2 h3 h4 =>
    cases hk
    cases rx
    have hl := congrArg List.length h3
    rw [List.length_map, List.length_map] at hl
    obtain ⟨z, hd, ys, rel, dd⟩ := dt_rd I.hok (a.vw.rd h1)
    have hl2 := Paired.length rel
    refine truthy_dictH hd dd (by rw [← hl2]; rw [sizeLine_eq] at z; omega) ⟨H, I.tok _, ?_⟩
    rw [isEmpty_len (hl2.symm.trans hl)]; exact q
theorem dt_tru (ha : DE X W a Ea) (he : ∀ whole, isTrue a X.env whole = (do let v ← whole; standAt a.pos; holding [v] (truthy v)) := by intro _; rfl) : DT X W a (eTru Ea) := by
  refine PT.weak (t := fun σ H Q => tE X.K W Ea σ H fun x H' => ∃ B G δ σ' d k, At X.K B G δ σ' H' ∧ R X.K G x d ∧ dTru d = some k ∧ Q k H') ⟨fun pins s σ H Q I h => ?_⟩ fun σ H Q ⟨B, G, δ, r', δ', at', e1, post⟩ => ?_
  · exact isTrue_plain (thn (ha.run pins s σ H _ I h) fun v s1 ⟨x, H1, I1, r1, q1⟩ => tru_all pins s1 σ H1 x v Q I1 r1 q1) (he _)
  · refine tE_bind at' e1 post fun v H1 G1 δ1 d a1 x1 r1 e2 post => ?_
    obtain ⟨z, hz, hr⟩ := lift_some e2
    cases hr
    exact ⟨B, G1, δ', σ, d, z, a1, r1, hz, post G1 H1 a1 (Ext.refl _)⟩
def tAndM (A B : Mo Bool) : Mo Bool := A.bind fun a => if a = true then B else Mo.ret false
def tOrM (A B : Mo Bool) : Mo Bool := A.bind fun a => if a = true then Mo.ret true else B
def tNotM (A : Mo Bool) : Mo Bool := A.bind fun a => Mo.ret (!a)
theorem dw_or1 (ha : DT X W a Ta) : DW X W (.BoolOp .Or [a] pos) Ta := pw_or1 ha
theorem tT_of {K : PySem.W.Frag} {B : Bs} {G : Hp} {δ δ' : Env} {σ : St} {H : Hp} {r : Except Exn Bool} {Q : Bool → Hp → Prop} (a : At K B G δ σ H) (e : T δ = some (r, δ')) (post : Post K W B G σ r δ' (fun b G' H' => Q b H')) : tT K W T σ H Q := ⟨B, G, δ, r, δ', a, e, post⟩
theorem tE_of {K : PySem.W.Frag} {B : Bs} {G : Hp} {δ δ' : Env} {σ : St} {H : Hp} {r : Except Exn D} {Q : VK} (a : At K B G δ σ H) (e : E δ = some (r, δ')) (post : Post K W B G σ r δ' (fun d G' H' => ∀ v, R K G' v d → Q v H')) : tE K W E σ H Q := ⟨B, G, δ, r, δ', a, e, post⟩
theorem dw_or {rest : List Expr} (ha : DT X W a Ta) (hb : DW X W (.BoolOp .Or (b :: rest) pos) Tb) : DW X W (.BoolOp .Or (a :: b :: rest) pos) (tOrM Ta Tb) := PW.weak (pw_or ha hb) fun σ H Q ⟨B, G, δ, r', δ', at', e1, post⟩ => by
  refine tT_bind at' e1 post fun H1 G1 δ1 d a1 x1 e2 post => ?_
  cases d with
  | true => rw [if_pos rfl] at e2 ⊢; cases e2; exact post G1 H1 a1 (Ext.refl _)
  | false => rw [if_neg Bool.false_ne_true] at e2 ⊢; exact tT_of a1 e2 post
theorem dw_t (h : DW X W a Ta) : DT X W a Ta := PW.pt h
theorem dt_not (ha : DT X W a Ta) : DT X W (.UnaryOp .Not a pos) (tNotM Ta) := PT.weak (pt_not ha) fun σ H Q ⟨B, G, δ, r', δ', at', e1, post⟩ => by
  refine tT_bind at' e1 post fun H1 G1 δ1 d a1 x1 e2 post => ?_
  cases e2; exact post G1 H1 a1 (Ext.refl _)
/-- a bool as a test, without asking for its truth -/
def dBl : D → Option Bool
  | .bl b => some b
  | _ => none
def eB (E : Mo D) : Mo Bool := E.bind fun d => Mo.lift (dBl d)
theorem dBl_some {d : D} {b : Bool} (h : dBl d = some b) : d = .bl b := by
  cases d <;> first | (cases h; rfl) | cases h
/-- and, or, not of bools as values -/
def eAnd (A B : Mo D) : Mo D := A.bind fun x => (Mo.lift (dBl x)).bind fun b => if b = true then B else Mo.ret (.bl false)
def eOr (A B : Mo D) : Mo D := A.bind fun x => (Mo.lift (dBl x)).bind fun b => if b = true then Mo.ret (.bl true) else B
def eNot (A : Mo D) : Mo D := A.bind fun x => (Mo.lift (dBl x)).bind fun b => Mo.ret (.bl (!b))
theorem liftB {β : Type} {x : D} {k : Bool → Mo β} {δ : Env} {r : Except Exn β × Env} (h : ((Mo.lift (dBl x)).bind k) δ = some r) : ∃ b, x = .bl b ∧ k b δ = some r := by
  unfold Mo.bind Mo.lift at h
  cases e : dBl x with
  | none => rw [e] at h; cases h
  | some b => rw [e] at h; exact ⟨b, dBl_some e, h⟩
theorem de_one {op} (h : DE X W a Ea) : DE X W (.BoolOp op [a] pos) Ea := pe_one h
theorem de_and {rest : List Expr} (ha : DE X W a Ea) (hb : DE X W (.BoolOp .And (b :: rest) pos) Eb) : DE X W (.BoolOp .And (a :: b :: rest) pos) (eAnd Ea Eb) := PE.weak (pe_and ha hb) fun σ H Q ⟨B, G, δ, r', δ', at', e1, post⟩ => by
  refine tE_bind at' e1 post fun v H1 G1 δ1 d a1 x1 r1 e2 post => ?_
  obtain ⟨z, rfl, e3⟩ := liftB e2
  cases r1
  refine ⟨z, rfl, ?_⟩
  cases z with
  | true => rw [if_pos rfl] at e3 ⊢; exact tE_of a1 e3 post
  | false => rw [if_neg Bool.false_ne_true] at e3 ⊢; cases e3; exact post G1 H1 a1 (Ext.refl _) _ (.bl false)
theorem de_or {rest : List Expr} (ha : DE X W a Ea) (hb : DE X W (.BoolOp .Or (b :: rest) pos) Eb) : DE X W (.BoolOp .Or (a :: b :: rest) pos) (eOr Ea Eb) := PE.weak (pe_or ha hb) fun σ H Q ⟨B, G, δ, r', δ', at', e1, post⟩ => by
  refine tE_bind at' e1 post fun v H1 G1 δ1 d a1 x1 r1 e2 post => ?_
  obtain ⟨z, rfl, e3⟩ := liftB e2
  cases r1
  refine ⟨z, rfl, ?_⟩
  cases z with
  | true => rw [if_pos rfl] at e3 ⊢; cases e3; exact post G1 H1 a1 (Ext.refl _) _ (.bl true)
  | false => rw [if_neg Bool.false_ne_true] at e3 ⊢; exact tE_of a1 e3 post
theorem de_not (ha : DE X W a Ea) : DE X W (.UnaryOp .Not a pos) (eNot Ea) := PE.weak (pe_not ha) fun σ H Q ⟨B, G, δ, r', δ', at', e1, post⟩ => by
  refine tE_bind at' e1 post fun v H1 G1 δ1 d a1 x1 r1 e2 post => ?_
  obtain ⟨z, rfl, e3⟩ := liftB e2
  cases r1
  cases e3
  exact ⟨z, rfl, post G1 H1 a1 (Ext.refl _) _ (.bl _)⟩
/-- not e, by the truth of e (a list, a dict ..) -/
def eIf (T : Mo Bool) (A B : Mo D) : Mo D := T.bind fun b => if b = true then A else B
theorem de_if (hc : DT X W c T) (ha : DE X W a Ea) (hb : DE X W b Eb) : DE X W (.IfExp c a b pos) (eIf T Ea Eb) := PE.weak (pe_ifExp hc ha hb) fun σ H Q ⟨B, G, δ, r', δ', at', e1, post⟩ => by
  refine tT_bind at' e1 post fun H1 G1 δ1 d a1 x1 e2 post => ?_
  cases d with
  | true => rw [if_pos rfl] at e2 ⊢; exact tE_of a1 e2 post
  | false => rw [if_neg Bool.false_ne_true] at e2 ⊢; exact tE_of a1 e2 post
end
section
variable {X : Cx} {W : WK} {e : Expr} {es : List Expr} {pos : Pos} {E : Mo D} {A : Mo (List Ag)}
def aNil : Mo (List Ag) := Mo.ret []
def aCons (E : Mo D) (A : Mo (List Ag)) : Mo (List Ag) := E.bind fun d => A.bind fun as => Mo.ret (.im d :: as)
def aVr (i : Nat) (A : Mo (List Ag)) : Mo (List Ag) := fun δ => match δ[i]? with
  | some (.own _) => (A.bind fun as => Mo.ret (.vr i :: as)) δ
  | some (.io _) => (A.bind fun as => Mo.ret (.vr i :: as)) δ
  | _ => none
def aVb (i : Nat) (A : Mo (List Ag)) : Mo (List Ag) := fun δ => match δ[i]? with
  | some (.own _) => (A.bind fun as => Mo.ret (.vb i :: as)) δ
  | some (.io _) => (A.bind fun as => Mo.ret (.vb i :: as)) δ
  | some (.imm _) => (A.bind fun as => Mo.ret (.vb i :: as)) δ
  | some (.bor _) => (A.bind fun as => Mo.ret (.vb i :: as)) δ
  | _ => none
theorem AgOk.mono {K : PySem.W.Frag} {G G' : Hp} {σ : St} (e : Ext G G') : ∀ {v : V} {a : Ag}, AgOk K G σ v a → AgOk K G' σ v a
  | _, .im _, h => R.mono e h
  | _, .vr _, h => h
  | _, .vb _, h => h
theorem AgsOk.mono {K : PySem.W.Frag} {G G' : Hp} {σ : St} (e : Ext G G') {vs : List V} {as : List Ag} (h : AgsOk K G σ vs as) : AgsOk K G' σ vs as := Paired.mapP h fun _ _ => AgOk.mono e
theorem da_nil : DA X W [] aNil := PA.weak pa_nil fun σ H Q ⟨B, G, δ, r, δ', a, e1, post⟩ => by
  cases e1
  exact post G H a (Ext.refl _) _ .nil
theorem da_cons (ha : DE X W e E) (hr : DA X W es A) (hs : starEach (e :: es) X.env = (false, eval e X.env) :: starEach es X.env := by rfl) : DA X W (e :: es) (aCons E A) := PA.weak (pa_cons ha hr hs) fun σ H Q ⟨B, G, δ, r, δ', a, e1, post⟩ => by
  refine tE_bind a e1 post fun v H1 G1 δ1 d a1 x1 r1 e2 post => ?_
  refine tA_bind a1 e2 post fun vs H2 G2 δ2 ds a2 x2 r2 e3 post => ?_
  cases e3
  exact post G2 H2 a2 (Ext.refl _) _ (.cons (R.mono x2 r1) r2)
/-- the argument at slot i: the slot must hold something -/
theorem da_vr {i : Nat} (h : PE X e (tVar i)) (hr : DA X W es A) (hs : starEach (e :: es) X.env = (false, eval e X.env) :: starEach es X.env := by rfl) : DA X W (e :: es) (aVr i A) := PA.weak (pa_cons h hr hs) fun σ H Q ⟨B, G, δ, r, δ', a, e1, post⟩ => by
  unfold aVr at e1
  split at e1
  · rename_i d h
    obtain ⟨p, h1, _⟩ := a.own h
    refine ⟨_, h1, ?_⟩
    refine tA_bind a e1 post fun vs H2 G2 δ2 ds a2 x2 r2 e3 post => ?_
    cases e3
    exact post G2 H2 a2 (Ext.refl _) _ (.cons h1 r2)
  · rename_i d h
    obtain ⟨p, h1, _⟩ := a.io h
    refine ⟨_, h1, ?_⟩
    refine tA_bind a e1 post fun vs H2 G2 δ2 ds a2 x2 r2 e3 post => ?_
    cases e3
    exact post G2 H2 a2 (Ext.refl _) _ (.cons h1 r2)
  · cases e1
/-- arguments that are data -/
def imms : List Ag → Option (List D)
  | [] => some []
  | .im d :: as => (imms as).map (d :: ·)
  | _ :: _ => none
theorem imms_ok {K : PySem.W.Frag} {G : Hp} {σ : St} : ∀ {as : List Ag} {vs : List V} {ds : List D}, AgsOk K G σ vs as → imms as = some ds → RL K G vs ds
  | _, _, _, .nil, e => by cases e; exact .nil
  | .im d :: as, _, _, .cons h t, e => by
    unfold imms at e
    cases q : imms as with
    | none => rw [q] at e; cases e
    | some ds => rw [q] at e; cases e; exact .cons h (imms_ok t q)
  | .vr i :: as, _, _, .cons h t, e => by cases e
  | .vb i :: as, _, _, .cons h t, e => by cases e
def eTup (A : Mo (List Ag)) : Mo D := A.bind fun as => Mo.lift ((imms as).bind fun ds => if ds.length ≤ 1000 then some (.tup ds) else none)
def eLst (A : Mo (List Ag)) : Mo D := A.bind fun as => Mo.lift ((imms as).bind fun ds => if ds.length ≤ 1000 then some (.lst ds) else none)
theorem small_line {n : Nat} (h : n ≤ 1000) : n ≤ sizeLine := Nat.le_of_lt (small1000 h)
theorem de_tup {x1} (h : DA X W es A) : DE X W (.Tuple es x1 pos) (eTup A) := PE.weak (pe_tup h) fun σ H Q ⟨B, G, δ, r, δ', a, e1, post⟩ => by
  refine tA_bind a e1 post fun vs H1 G1 δ1 as a1 x1 r1 e2 post => ?_
  obtain ⟨z, hz, hr⟩ := lift_some e2
  cases hr
  cases q : imms as with
  | none => rw [q] at hz; cases hz
  | some ds =>
    rw [q] at hz
    have r2 := imms_ok r1 q
    rw [Option.bind_some] at hz
    split at hz
    · rename_i hl
      cases hz
      have hv : vs.length ≤ sizeLine := by rw [r2.length]; exact small_line hl
      exact ⟨hv, fun p hp => post (upd G1 p (.tup vs)) _ (a1.laid hp fun _ z => by cases z) (Ext.new (a1.vw.none hp)) _ (.tup upd_same hv (r2.mono (Ext.new (a1.vw.none hp))))⟩
    · cases hz
theorem do_lst (h : DA X W es A) : DO X W (.List es pos) (eLst A) := PE.weak (pe_lst h) fun σ H Q ⟨B, G, δ, r, δ', a, e1, post⟩ => by
  refine tA_bind a e1 post fun vs H1 G1 δ1 as a1 x1 r1 e2 post => ?_
  obtain ⟨z, hz, hr⟩ := lift_some e2
  cases hr
  cases q : imms as with
  | none => rw [q] at hz; cases hz
  | some ds =>
    rw [q] at hz
    have r2 := imms_ok r1 q
    rw [Option.bind_some] at hz
    split at hz
    · rename_i hl
      cases hz
      have hv : vs.length ≤ sizeLine := by rw [r2.length]; exact small_line hl
      refine ⟨hv, fun p hp => ?_⟩
      obtain ⟨b1, b2⟩ := a1.own1 (p := p) (o := .lst vs) hp (Ow.lst upd_same hv r2)
      exact post G1 _ b1 (Ext.refl _) p b2
    · cases hz
end
end M
set_option Elab.async false
set_option linter.all false
set_option maxRecDepth 100000
namespace M
open PySem L2 PySem.Spec PyProof.Rows
inductive Out where
  | nx | bk | ct | rt (d : D) | rtO (d : D)
def PostS (K : PySem.W.Frag) (W : WK) (B : Bs) (G : Hp) (Dn : Ends) (r : Except Exn Out) (δ' : Env) : Prop := match r with
  | .error x => ∀ G' σ' H', At K B G' δ' σ' H' → Ext G G' → W x δ' σ' G' H'
  | .ok .nx => ∀ G' σ' H', At K B G' δ' σ' H' → Ext G G' → Dn.nx σ' H'
  | .ok .bk => ∀ G' σ' H', At K B G' δ' σ' H' → Ext G G' → Dn.bk σ' H'
  | .ok .ct => ∀ G' σ' H', At K B G' δ' σ' H' → Ext G G' → Dn.ct σ' H'
  | .ok (.rt d) => ∀ G' σ' H', At K B G' δ' σ' H' → Ext G G' → ∀ v, R K G' v d → Dn.rt v H'
  | .ok (.rtO d) => ∀ G' σ' H', At K B G' δ' σ' H' → Ext G G' → ∀ p, Fr1 K B G' δ' σ' H' p d → Dn.rt (.ref p) H'
theorem PostS.mono {K : PySem.W.Frag} {W : WK} {B : Bs} {G G1 : Hp} {Dn : Ends} {r : Except Exn Out} {δ' : Env} (h : PostS K W B G Dn r δ') (e : Ext G G1) : PostS K W B G1 Dn r δ' := by
  cases r with
  | error x => exact fun G' σ' H' a1 e1 => h G' σ' H' a1 (e.trans e1)
  | ok o => cases o <;> exact fun G' σ' H' a1 e1 => h G' σ' H' a1 (e.trans e1)
def tS (K : PySem.W.Frag) (W : WK) (S : Mo Out) : TS := fun Dn σ H => ∃ B G δ r δ', At K B G δ σ H ∧ S δ = some (r, δ') ∧ PostS K W B G Dn r δ'
/-- what a target does with data -/
def OnlyAt (sl : List Nat) (σ σ' : St) : Prop := σ'.length = σ.length ∧ ∀ j, j ∉ sl → σ'[j]? = σ[j]?
def tG (K : PySem.W.Frag) (sl : List Nat) (T : D → Mo Unit) : TG := fun v σ H Q => ∃ B G δ d δ', At K B G δ σ H ∧ R K G v d ∧ T d δ = some (.ok (), δ') ∧ ∀ σ', At K B G δ' σ' H → OnlyAt sl σ σ' → Q σ' H
section
variable (X : Cx) (W : WK)
def DS (st : Stmt) (S : Mo Out) : Prop := PS X st (tS X.K W S)
def DSs (st : List Stmt) (S : Mo Out) : Prop := PSs X st (tS X.K W S)
def DG (tg : Expr) (sl : List Nat) (T : D → Mo Unit) : Prop := PG X tg (tG X.K sl T)
end
section
variable {X : Cx} {W : WK} {st : Stmt} {rest : List Stmt} {e c tg : Expr} {pos : Pos} {E : Mo D} {T : Mo Bool} {S S' : Mo Out}
theorem tS_of {K : PySem.W.Frag} {B : Bs} {G : Hp} {δ δ' : Env} {σ : St} {H : Hp} {r : Except Exn Out} {Dn : Ends} (a : At K B G δ σ H) (e : S δ = some (r, δ')) (post : PostS K W B G Dn r δ') : tS K W S Dn σ H := ⟨B, G, δ, r, δ', a, e, post⟩
def sNx : Mo Out := Mo.ret .nx
def sSeq (a b : Mo Out) : Mo Out := fun δ => match a δ with
  | some (.ok .nx, δ') => b δ'
  | r => r
theorem dss_nil : DSs X W [] sNx := PSs.weak pss_nil fun Dn σ H ⟨B, G, δ, r, δ', a, e1, post⟩ => by
  cases e1; exact post G σ H a (Ext.refl _)
theorem dss_one (h : DS X W st S) : DSs X W [st] S := pss_one h
theorem dss_cons (h : DS X W st S) (h' : DSs X W rest S') : DSs X W (st :: rest) (sSeq S S') := PSs.weak (pss_cons h h') fun Dn σ H ⟨B, G, δ, r, δ', a, e1, post⟩ => by
  unfold sSeq at e1
  cases q : S δ with
  | none => rw [q] at e1; cases e1
  | some z =>
    obtain ⟨x, δ1⟩ := z
    rw [q] at e1
    cases x with
    | error x => cases e1; exact ⟨B, G, δ, .error x, _, a, q, post⟩
    | ok o =>
      cases o with
      | nx => exact ⟨B, G, δ, .ok .nx, δ1, a, q, fun G1 σ1 H1 a1 x1 => tS_of a1 e1 (post.mono x1)⟩
      | bk => cases e1; exact ⟨B, G, δ, .ok .bk, _, a, q, post⟩
      | ct => cases e1; exact ⟨B, G, δ, .ok .ct, _, a, q, post⟩
      | rt d => cases e1; exact ⟨B, G, δ, .ok (.rt d), _, a, q, post⟩
      | rtO d => cases e1; exact ⟨B, G, δ, .ok (.rtO d), _, a, q, post⟩
/-- from an expression's ends to a statement's -/
theorem tE_bindS {K : PySem.W.Frag} {B : Bs} {G H : Hp} {δ δ' : Env} {σ : St} {r : Except Exn Out} {Dn : Ends} {k : D → Mo Out} {Q : VK} (a : At K B G δ σ H) (h : Mo.bind E k δ = some (r, δ')) (post : PostS K W B G Dn r δ')
    (q : ∀ v H1 G1 δ1 d, At K B G1 δ1 σ H1 → Ext G G1 → R K G1 v d → k d δ1 = some (r, δ') → PostS K W B G1 Dn r δ' → Q v H1) : tE K W E σ H Q := by
  unfold Mo.bind at h
  cases e : E δ with
  | none => rw [e] at h; cases h
  | some z =>
    obtain ⟨x, δ1⟩ := z
    rw [e] at h
    cases x with
    | error x => cases h; exact ⟨B, G, δ, .error x, _, a, e, post⟩
    | ok d => exact ⟨B, G, δ, .ok d, δ1, a, e, fun G1 H1 a1 e1 v rv => q v H1 G1 δ1 d a1 e1 rv h (post.mono e1)⟩
theorem tO_bindS {K : PySem.W.Frag} {B : Bs} {G H : Hp} {δ δ' : Env} {σ : St} {r : Except Exn Out} {Dn : Ends} {k : D → Mo Out} {Q : VK} (a : At K B G δ σ H) (h : Mo.bind E k δ = some (r, δ')) (post : PostS K W B G Dn r δ')
    (q : ∀ p H1 G1 δ1 d, At K B G1 δ1 σ H1 → Ext G G1 → Fr1 K B G1 δ1 σ H1 p d → k d δ1 = some (r, δ') → PostS K W B G1 Dn r δ' → Q (.ref p) H1) : tO K W E σ H Q := by
  unfold Mo.bind at h
  cases e : E δ with
  | none => rw [e] at h; cases h
  | some z =>
    obtain ⟨x, δ1⟩ := z
    rw [e] at h
    cases x with
    | error x => cases h; exact ⟨B, G, δ, .error x, _, a, e, post⟩
    | ok d => exact ⟨B, G, δ, .ok d, δ1, a, e, fun G1 H1 a1 e1 v rv => q v H1 G1 δ1 d a1 e1 rv h (post.mono e1)⟩
theorem tT_bindS {K : PySem.W.Frag} {B : Bs} {G H : Hp} {δ δ' : Env} {σ : St} {r : Except Exn Out} {Dn : Ends} {k : Bool → Mo Out} {Q : Bool → Hp → Prop} (a : At K B G δ σ H) (h : Mo.bind T k δ = some (r, δ')) (post : PostS K W B G Dn r δ')
    (q : ∀ H1 G1 δ1 d, At K B G1 δ1 σ H1 → Ext G G1 → k d δ1 = some (r, δ') → PostS K W B G1 Dn r δ' → Q d H1) : tT K W T σ H Q := by
  unfold Mo.bind at h
  cases e : T δ with
  | none => rw [e] at h; cases h
  | some z =>
    obtain ⟨x, δ1⟩ := z
    rw [e] at h
    cases x with
    | error x => cases h; exact ⟨B, G, δ, .error x, _, a, e, post⟩
    | ok d => exact ⟨B, G, δ, .ok d, δ1, a, e, fun G1 H1 a1 e1 => q H1 G1 δ1 d a1 e1 h (post.mono e1)⟩
def sPass : Mo Out := Mo.ret .nx
def sBreak : Mo Out := Mo.ret .bk
def sCont : Mo Out := Mo.ret .ct
def sDrop (E : Mo D) : Mo Out := E.bind fun _ => Mo.ret .nx
def sRet (E : Mo D) : Mo Out := E.bind fun d => Mo.ret (.rt d)
def sRetO (E : Mo D) : Mo Out := E.bind fun d => Mo.ret (.rtO d)
theorem ds_ret (he : DE X W e E) : DS X W (.Return (some e) pos) (sRet E) := PS.weak (ps_ret he) fun Dn σ H ⟨B, G, δ, r, δ', a, e1, post⟩ => by
  refine tE_bindS a e1 post fun v H1 G1 δ1 d a1 x1 r1 e2 post => ?_
  cases e2; exact post G1 σ H1 a1 (Ext.refl _) v r1
theorem ds_retO (he : DO X W e E) : DS X W (.Return (some e) pos) (sRetO E) := PS.weak (ps_ret he) fun Dn σ H ⟨B, G, δ, r, δ', a, e1, post⟩ => by
  refine tO_bindS a e1 post fun v H1 G1 δ1 d a1 x1 r1 e2 post => ?_
  cases e2; exact post G1 σ H1 a1 (Ext.refl _) v r1
/-- return of a slot's own object: the slot gives it away -/
def eGive (i : Nat) : Mo D := fun δ => match δ[i]? with
  | some (.own d) => some (.ok d, δ.set i .no)
  | _ => none
def sIf (T : Mo Bool) (a b : Mo Out) : Mo Out := T.bind fun k => if k = true then a else b
theorem ds_if {a b : List Stmt} (hc : DT X W c T) (ha : DSs X W a S) (hb : DSs X W b S') : DS X W (.If c a b pos) (sIf T S S') := PS.weak (ps_if hc ha hb) fun Dn σ H ⟨B, G, δ, r, δ', a, e1, post⟩ => by
  refine tT_bindS a e1 post fun H1 G1 δ1 d a1 x1 e2 post => ?_
  cases d with
  | true => rw [if_pos rfl] at e2 ⊢; exact tS_of a1 e2 post
  | false => rw [if_neg Bool.false_ne_true] at e2 ⊢; exact tS_of a1 e2 post
def gN (i : Nat) (d : D) : Mo Unit := fun δ => if i < δ.length then some (.ok (), δ.set i (.imm d)) else none
theorem dg_name {i : Nat} {x : Str} (hN : X.N.Nodup) (hi : X.N[i]? = some x) (hx : Loc X.env.scope x) (hf : X.fn x = true ∨ X.env.scope.names.lookup x = some .local := by first | exact .inl rfl | exact .inr rfl | assumption) : DG X (.Name x pos) [i] (gN i) :=
  let h := pg_name (X := X) (pos := pos) hN hi hx hf
  ⟨fun pins s σ H v u Q I rv q => h.run pins s σ H v u Q I rv (by
    obtain ⟨B, G, δ, d, δ', a, r, e1, k⟩ := q
    unfold gN at e1
    split at e1
    · cases e1
      exact k _ (a.setImm r i) ⟨List.length_set, fun j hj => List.getElem?_set_ne (fun c => hj (by rw [c]; exact List.mem_singleton_self _))⟩
    · cases e1)⟩
def gNil : List D → Mo Unit
  | [] => Mo.ret ()
  | _ => fun _ => none
def gCons (T : D → Mo Unit) (Ts : List D → Mo Unit) : List D → Mo Unit
  | d :: ds => (T d).bind fun _ => Ts ds
  | [] => fun _ => none
/-- (a, b, ..) = a tuple or a list of that length -/
def gT (n : Nat) (Ts : List D → Mo Unit) : D → Mo Unit
  | .tup ds => if ds.length = n then Ts ds else fun _ => none
  | .lst ds => if ds.length = n then Ts ds else fun _ => none
  | _ => fun _ => none
/-- target = value -/
def sAsg (T : D → Mo Unit) (E : Mo D) : Mo Out := E.bind fun d => (T d).bind fun _ => Mo.ret .nx
theorem unit_bind {T : Mo Unit} {δ δ' : Env} {r : Except Exn Out} (h : Mo.bind T (fun _ => Mo.ret Out.nx) δ = some (r, δ')) : (T δ = some (.ok (), δ') ∧ r = .ok .nx) ∨ ∃ x, T δ = some (.error x, δ') ∧ r = .error x := by
  unfold Mo.bind at h
  cases q : T δ with
  | none => rw [q] at h; cases h
  | some z =>
    obtain ⟨x, δ1⟩ := z
    rw [q] at h
    cases x with
    | error x => cases h; exact .inr ⟨x, rfl, rfl⟩
    | ok x => cases h; exact .inl ⟨rfl, rfl⟩
/-- a target that never raises -/
def Calm (T : D → Mo Unit) : Prop := ∀ d δ x δ', T d δ ≠ some (.error x, δ')
theorem calm_N {i : Nat} : Calm (gN i) := fun d δ x δ' h => by
  unfold gN at h; split at h <;> cases h
theorem ds_set {i : Nat} {x : Str} {pos' : Pos} (hN : X.N.Nodup) (hi : X.N[i]? = some x) (hx : Loc X.env.scope x) (he : DE X W e E) (hs : swapsWith e (some (.Name x pos')) pos.line X.env = pure false := by rfl) (hf : X.fn x = true ∨ X.env.scope.names.lookup x = some .local := by first | exact .inl rfl | exact .inr rfl | assumption) :
    DS X W (.Assign [.Name x pos'] e pos) (sAsg (gN i) E) := PS.weak (ps_set hN hi hx he hs hf) fun Dn σ H ⟨B, G, δ, r, δ', a, e1, post⟩ => by
  refine tE_bindS a e1 post fun v H1 G1 δ1 d a1 x1 r1 e2 post => ?_
  rcases unit_bind e2 with ⟨q, rfl⟩ | ⟨x, q, rfl⟩
  · unfold gN at q
    split at q
    · cases q
      exact post G1 _ H1 (a1.setImm r1 i) (Ext.refl _)
    · cases q
  · exact absurd q (calm_N _ _ _ _)
/-- name = a new object, kept as the frame's own -/
def gO (i : Nat) (d : D) : Mo Unit := fun δ => if i < δ.length then some (.ok (), δ.set i (.own d)) else none
def sAsgO (i : Nat) (E : Mo D) : Mo Out := E.bind fun d => (gO i d).bind fun _ => Mo.ret .nx
theorem ds_setO {i : Nat} {x : Str} {pos' : Pos} (hN : X.N.Nodup) (hi : X.N[i]? = some x) (hx : Loc X.env.scope x) (he : DO X W e E) (hs : swapsWith e (some (.Name x pos')) pos.line X.env = pure false := by rfl) (hf : X.fn x = true ∨ X.env.scope.names.lookup x = some .local := by first | exact .inl rfl | exact .inr rfl | assumption) :
    DS X W (.Assign [.Name x pos'] e pos) (sAsgO i E) := PS.weak (ps_set hN hi hx he hs hf) fun Dn σ H ⟨B, G, δ, r, δ', a, e1, post⟩ => by
  refine tO_bindS a e1 post fun v H1 G1 δ1 d a1 x1 r1 e2 post => ?_
  obtain ⟨w1, w2, w3, w4⟩ := r1
  rcases unit_bind e2 with ⟨q, rfl⟩ | ⟨x, q, rfl⟩
  · unfold gO at q
    split at q
    · cases q
      exact post G1 _ H1 (a1.setOwn w1 w4 w2 w3 i) (Ext.refl _)
    · cases q
  · unfold gO at q; split at q <;> cases q
end
/-- the iterator J yields the data ds, one by one, whatever else is laid meanwhile -/
def BLe (B B' : Bs) : Prop := Ext B.H0 B'.H0 ∧ B'.IO = B.IO
theorem BLe.refl (B : Bs) : BLe B B := ⟨Ext.refl _, rfl⟩
def Yl (K : PySem.W.Frag) (B : Bs) (J : It) (G : Hp) (ds : List D) : Prop := ∀ (B' : Bs) (G2 H : Hp) (δ : Env) (σ : St), BLe B B' → At K B' G2 δ σ H → Ext G G2 → ∀ i : Nat,
  (∀ d, ds[i]? = some d → J.go i H ∧ ∀ x H', J.yld i H x H' → H' = H ∧ ∃ G3, At K B' G3 δ σ H ∧ Ext G2 G3 ∧ R K G3 x d) ∧ (ds.length ≤ i → J.stop i H)
def tI (K : PySem.W.Frag) (W : WK) (I : Mo (List D)) : TI := fun σ H R' => ∃ B G δ r δ', At K B G δ σ H ∧ I δ = some (r, δ') ∧ Post K W B G σ r δ' (fun ds G' H' => ∀ J, Yl K B J G' ds → R' J H')
section
variable (X : Cx) (W : WK)
def DI (tg e : Expr) (I : Mo (List D)) : Prop := PI X tg e (tI X.K W I)
end
section
variable {X : Cx} {W : WK} {e c tg : Expr} {pos : Pos} {E : Mo D} {T : Mo Bool} {S S' : Mo Out}
theorem yl_list {K : PySem.W.Frag} {B : Bs} {G : Hp} {a : Addr} {xs : List V} {ds : List D} (h : SqL K G a xs) (r : RL K G xs ds) : Yl K B (Itl K a) G ds := fun B' G2 H δ σ _ at' ex i => by
  have hq : SqL K H a xs := at'.vw.sql (ex.sql h)
  refine ⟨fun d hd => ?_, fun hl => ⟨xs, hq, by rw [r.length]; exact hl⟩⟩
  obtain ⟨x, h1, h2⟩ := r.get hd
  refine ⟨⟨xs, x, hq, h1⟩, fun y H' ⟨e1, e2⟩ => ⟨e1, G2, at', Ext.refl _, ?_⟩⟩
  have := e2 xs hq
  rw [h1] at this; cases this
  exact h2.mono ex
theorem yl_tup {K : PySem.W.Frag} {B : Bs} {G : Hp} {a : Addr} {xs : List V} {ds : List D} (h : G a = some (.tup xs)) (r : RL K G xs ds) : Yl K B (Itt K a) G ds := fun B' G2 H δ σ _ at' ex i => by
  have hq : SqT K H a xs := SqT.of (at'.vw.tup (ex _ _ h))
  refine ⟨fun d hd => ?_, fun hl => ⟨xs, hq, by rw [r.length]; exact hl⟩⟩
  obtain ⟨x, h1, h2⟩ := r.get hd
  refine ⟨⟨xs, x, hq, h1⟩, fun y H' ⟨e1, e2⟩ => ⟨e1, G2, at', Ext.refl _, ?_⟩⟩
  have := e2 xs hq
  rw [h1] at this; cases this
  exact h2.mono ex
def rgD (lo : Int) (n : Nat) : List D := (List.range n).map fun i => D.int (lo + (i : Nat))
theorem yl_rng {K : PySem.W.Frag} {B : Bs} {G : Hp} {lo : Int} {n : Nat} : Yl K B (Itr lo n) G (rgD lo n) := fun B' G2 H δ σ _ at' ex i => by
  refine ⟨fun d hd => ?_, fun hl => by unfold rgD at hl; rw [List.length_map, List.length_range] at hl; exact hl⟩
  unfold rgD at hd
  rw [List.getElem?_map] at hd
  by_cases c : i < n
  · rw [List.getElem?_range c] at hd
    cases hd
    exact ⟨c, fun y H' ⟨e1, e2⟩ => ⟨e1, G2, at', Ext.refl _, by rw [e2]; exact .int _⟩⟩
  · rw [List.getElem?_eq_none (by rw [List.length_range]; omega)] at hd; cases hd
def stD (x : Str) : List D := x.cps.toList.map fun c => D.str ⟨#[c]⟩
theorem yl_str {K : PySem.W.Frag} {B : Bs} {G : Hp} {x : Str} : Yl K B (Its x) G (stD x) := fun B' G2 H δ σ _ at' ex i => by
  refine ⟨fun d hd => ?_, fun hl => by unfold stD at hl; rw [List.length_map, Array.length_toList] at hl; exact hl⟩
  unfold stD at hd
  rw [List.getElem?_map] at hd
  cases q : x.cps.toList[i]? with
  | none => rw [q] at hd; cases hd
  | some c =>
    rw [q] at hd; cases hd
    have hc := (List.getElem?_eq_some_iff.mp q).1
    rw [Array.length_toList] at hc
    refine ⟨hc, fun y H' ⟨e1, c', e2, e3⟩ => ⟨e1, G2, at', Ext.refl _, ?_⟩⟩
    rw [Array.getElem?_toList] at q
    rw [q] at e2; cases e2
    rw [e3]; exact .str _
/-- over a list, a tuple, a text -/
def itD : D → Option (List D)
  | .lst l => some l
  | .scr l => some l
  | .tup l => some l
  | .str x => some (stD x)
  | _ => none
def iOf (E : Mo D) : Mo (List D) := E.bind fun d => Mo.lift (itD d)
theorem di_of (h : DE X W e E) : DI X W tg e (iOf E) :=
  let h1 := PI.or (PI.or (pi_list (tg := tg) h) (pi_tup (tg := tg) h)) (pi_str (tg := tg) h)
  ⟨fun pins s σ H R' I ⟨B, G, δ, r, δ', a, e1, post⟩ => h1.run pins s σ H R' I (by
    -- which of the three: by what the expression gives
    unfold iOf Mo.bind at e1
    cases q : E δ with
    | none => rw [q] at e1; cases e1
    | some z =>
      obtain ⟨x, δ1⟩ := z
      rw [q] at e1
      cases x with
      | error x => cases e1; exact .inl (.inl ⟨B, G, δ, .error x, _, a, q, post⟩)
      | ok d =>
        obtain ⟨ds, hz, hr⟩ := lift_some e1
        cases hr
        cases d with
        | lst l =>
          cases hz
          refine .inl (.inl ⟨B, G, δ, .ok (.lst _), _, a, q, fun G1 H1 a1 x1 v rv => ?_⟩)
          cases rv with
          | lst g hl rl => exact ⟨_, rfl, ⟨_, SqL.of (a1.vw.lst g)⟩, post G1 H1 a1 x1 _ (yl_list (SqL.of g) rl)⟩
        | scr l =>
          cases hz
          refine .inl (.inl ⟨B, G, δ, .ok (.scr _), _, a, q, fun G1 H1 a1 x1 v rv => ?_⟩)
          cases rv with
          | scr g hl rl => exact ⟨_, rfl, ⟨_, a1.vw.sql g⟩, post G1 H1 a1 x1 _ (yl_list g rl)⟩
        | tup l =>
          cases hz
          refine .inl (.inr ⟨B, G, δ, .ok (.tup _), _, a, q, fun G1 H1 a1 x1 v rv => ?_⟩)
          cases rv with
          | tup g hl rl => exact ⟨_, rfl, ⟨_, SqT.of (a1.vw.tup g)⟩, post G1 H1 a1 x1 _ (yl_tup g rl)⟩
        | str x =>
          cases hz
          refine .inr ⟨B, G, δ, .ok (.str x), _, a, q, fun G1 H1 a1 x1 v rv => ?_⟩
          cases rv with
          | str => exact ⟨_, rfl, post G1 H1 a1 x1 _ yl_str⟩
        | _ => cases hz)⟩
/-- over range(n), range(a, b) -/
def rg1 : List D → Option (List D)
  | [.int j] => if j ≤ 16777216 ∧ -16777216 ≤ j then some (rgD 0 j.toNat) else none
  | _ => none
def iRg (f : List D → Option (List D)) (A : Mo (List Ag)) : Mo (List D) := A.bind fun as => Mo.lift ((imms as).bind f)
theorem di_rg1 {a : Expr} {A : Mo (List Ag)} {p pos : Pos} (hg : Gl X "range") (hm : X.mg "range" = none) (ha : DA X W [a] A) (hs : starEach [a] X.env = [(false, eval a X.env)] := by rfl) : DI X W tg (.Call (.Name "range" p) [a] [] pos) (iRg rg1 A) :=
  let h1 := pi_range1 (tg := tg) (pos := pos) (p := p) hg hm ha hs
  ⟨fun pins s σ H R' I ⟨B, G, δ, r, δ', a, e1, post⟩ => h1.run pins s σ H R' I (by
    refine tA_bind a e1 post fun vs H1 G1 δ1 as a1 x1 r1 e2 post => ?_
    obtain ⟨z, hz, hr⟩ := lift_some e2
    cases hr
    cases q : imms as with
    | none => rw [q] at hz; cases hz
    | some ds =>
      rw [q] at hz
      have r2 := imms_ok r1 q
      unfold rg1 at hz
      rw [Option.bind_some] at hz
      split at hz
      · split at hz
        · rename_i j hj
          cases hz
          cases r2 with
          | cons ra rb =>
            cases ra; cases rb
            exact ⟨j, rfl, by omega, by omega, post G1 H1 a1 (Ext.refl _) _ yl_rng⟩
        · cases hz
      · cases hz)⟩
def forM (T : D → Mo Unit) (S : Mo Out) : List D → Mo Out
  | [] => Mo.ret .nx
  | d :: ds => (T d).bind fun _ => fun δ => match S δ with
    | some (.ok .nx, δ') => forM T S ds δ'
    | some (.ok .ct, δ') => forM T S ds δ'
    | some (.ok .bk, δ') => some (.ok .nx, δ')
    | r => r
def sFor (I : Mo (List D)) (T : D → Mo Unit) (S : Mo Out) : Mo Out := I.bind fun ds => forM T S ds
theorem tI_bindS {K : PySem.W.Frag} {B : Bs} {G H : Hp} {δ δ' : Env} {σ : St} {r : Except Exn Out} {Dn : Ends} {I : Mo (List D)} {k : List D → Mo Out} {Q : It → Hp → Prop} (a : At K B G δ σ H) (h : Mo.bind I k δ = some (r, δ')) (post : PostS K W B G Dn r δ')
    (q : ∀ J H1 G1 δ1 d, At K B G1 δ1 σ H1 → Ext G G1 → Yl K B J G1 d → k d δ1 = some (r, δ') → PostS K W B G1 Dn r δ' → Q J H1) : tI K W I σ H Q := by
  unfold Mo.bind at h
  cases e : I δ with
  | none => rw [e] at h; cases h
  | some z =>
    obtain ⟨x, δ1⟩ := z
    rw [e] at h
    cases x with
    | error x => cases h; exact ⟨B, G, δ, .error x, _, a, e, post⟩
    | ok d => exact ⟨B, G, δ, .ok d, δ1, a, e, fun G1 H1 a1 e1 J rv => q J H1 G1 δ1 d a1 e1 rv h (post.mono e1)⟩
/-- the iterator is J -/
def wiJ (J : It) : TI := fun _ H R => R J H
theorem tFor_at {K : PySem.W.Frag} {B : Bs} {G1 : Hp} {δ1 δ' : Env} {J : It} {ds : List D} {r : Except Exn Out} {sl : List Nat} {T : D → Mo Unit} (hT : Calm T) {Dn : Ends} {σ : St} {H1 : Hp} (a1 : At K B G1 δ1 σ H1) (yl : Yl K B J G1 ds) (e2 : forM T S ds δ1 = some (r, δ')) (post : PostS K W B G1 Dn r δ') : tFor (wiJ J) (tG K sl T) (tS K W S) Dn σ H1 := by
  refine ⟨fun i m σ2 H2 => m + i = ds.length ∧ ∃ G2 δ2, At K B G2 δ2 σ2 H2 ∧ Ext G1 G2 ∧ forM T S (ds.drop i) δ2 = some (r, δ'), ⟨ds.length, by omega, G1, δ1, a1, Ext.refl _, e2⟩, ?_⟩
  rintro i m σ2 H2 ⟨hm, G2, δ2, a2, x2, e3⟩
  obtain ⟨y1, y2⟩ := yl B G2 H2 δ2 σ2 (BLe.refl B) a2 x2 i
  by_cases hi : ds.length ≤ i
  · refine .inl ⟨y2 hi, ?_⟩
    rw [List.drop_eq_nil_of_le hi] at e3
    cases e3
    exact post G2 σ2 H2 a2 x2
  · have hlt : i < ds.length := by omega
    obtain ⟨g1, g2⟩ := y1 ds[i] (List.getElem?_eq_getElem hlt)
    rw [List.drop_eq_getElem_cons hlt] at e3
    refine .inr ⟨g1, fun σ' H' => ∃ m', m' < m ∧ (m' + (i + 1) = ds.length ∧ ∃ G2 δ2, At K B G2 δ2 σ' H' ∧ Ext G1 G2 ∧ forM T S (ds.drop (i + 1)) δ2 = some (r, δ')), fun σ' H' z => z, fun x H' hy => ?_⟩
    obtain ⟨rfl, G3, a3, x3, r3⟩ := g2 x H' hy
    unfold forM Mo.bind at e3
    cases q : T ds[i] δ2 with
    | none => rw [q] at e3; cases e3
    | some z =>
      obtain ⟨u, δ3⟩ := z
      rw [q] at e3
      cases u with
      | error u => exact absurd q (hT _ _ _ _)
      | ok u =>
        refine ⟨B, G3, δ2, ds[i], δ3, a3, r3, q, fun σ4 a4 _ => ?_⟩
        cases q2 : S δ3 with
        | none => simp only [q2] at e3; cases e3
        | some z =>
          obtain ⟨u, δ4⟩ := z
          simp only [q2] at e3
          have x13 := x2.trans x3
          cases u with
          | error u => cases e3; exact ⟨B, G3, δ3, .error u, _, a4, q2, post.mono x13⟩
          | ok o =>
            cases o with
            | nx => exact ⟨B, G3, δ3, .ok .nx, δ4, a4, q2, fun G5 σ5 H5 a5 x5 => ⟨m - 1, by omega, by omega, G5, δ4, a5, x13.trans x5, e3⟩⟩
            | ct => exact ⟨B, G3, δ3, .ok .ct, δ4, a4, q2, fun G5 σ5 H5 a5 x5 => ⟨m - 1, by omega, by omega, G5, δ4, a5, x13.trans x5, e3⟩⟩
            | bk => cases e3; exact ⟨B, G3, δ3, .ok .bk, _, a4, q2, fun G5 σ5 H5 a5 x5 => post G5 σ5 H5 a5 (x13.trans x5)⟩
            | rt d => cases e3; exact ⟨B, G3, δ3, .ok (.rt d), _, a4, q2, post.mono x13⟩
            | rtO d => cases e3; exact ⟨B, G3, δ3, .ok (.rtO d), _, a4, q2, post.mono x13⟩
theorem tFor_ok {K : PySem.W.Frag} {I : Mo (List D)} {sl : List Nat} {T : D → Mo Unit} (hT : Calm T) {Dn : Ends} {σ : St} {H : Hp} (q : tS K W (sFor I T S) Dn σ H) : tFor (tI K W I) (tG K sl T) (tS K W S) Dn σ H := by
  obtain ⟨B, G, δ, r, δ', a, e1, post⟩ := q
  exact tI_bindS a e1 post fun J H1 G1 δ1 ds a1 x1 yl e2 post => tFor_at hT a1 yl e2 post
theorem ds_for {iter : Expr} {body : List Stmt} {I : Mo (List D)} {sl : List Nat} {T : D → Mo Unit} (hp : PassesOwn (model X.prog X.w) X.A X.env X.xe) (hc : X.calm = true) (hT : Calm T) (hi : DI X W tg iter I) (hg : DG X tg sl T) (hb : DSs X W body S)
    (hs : ∀ x, foldedSetIterable iter X.env x = pure x := by intro _; rfl) : DS X W (.For tg iter body [] pos) (sFor I T S) := PS.weak (ps_for hp hc hi hg hb hs) fun Dn σ H q => tFor_ok hT q
end
end M
set_option Elab.async false
set_option linter.all false
set_option maxRecDepth 100000
namespace M
open PySem L2 PySem.Spec PyProof.Rows
def argSl (δ : Env) : Ag → Option Sl
  | .im d => some (.imm d)
  | .vr i => match δ[i]? with
    | some (.own d) => some (.io d)
    | some (.io d) => some (.io d)
    | _ => none
  | .vb i => match δ[i]? with
    | some (.own d) => some (.bor d)
    | some (.io d) => some (.bor d)
    | some (.imm d) => some (.bor d)
    | some (.bor d) => some (.bor d)
    | _ => none
def argSls (δ : Env) : List Ag → Option Env
  | [] => some []
  | a :: as => match argSl δ a with
    | none => none
    | some s => match argSls δ as with
      | none => none
      | some ss => some (s :: ss)
def vrs : List Ag → List Nat
  | [] => []
  | .vr i :: as => i :: vrs as
  | _ :: as => vrs as
def vbs : List Ag → List Nat
  | [] => []
  | .vb i :: as => i :: vbs as
  | _ :: as => vbs as
def backs : List Ag → Env → Env → Option Env
  | [], _, δ => some δ
  | .vr i :: as, .io d :: δc, δ => match δ[i]? with
    | some (.own _) => backs as δc (δ.set i (.own d))
    | some (.io _) => backs as δc (δ.set i (.io d))
    | _ => none
  | .vr _ :: _, _, _ => none
  | .im _ :: as, _ :: δc, δ => backs as δc δ
  | .vb _ :: as, _ :: δc, δ => backs as δc δ
  | _ :: _, [], _ => none
def callM (m : Mo D) (as : List Ag) : Mo D := fun δ => match argSls δ as with
  | none => none
  | some δc => if (vrs as).Nodup ∧ (∀ i ∈ vbs as, i ∉ vrs as) then match m δc with
      | none => none
      | some (r, δc') => match backs as δc' δ with
        | none => none
        | some δ' => some (r, δ')
    else none
theorem argSl_vr {δ : Env} {i : Nat} {s : Sl} (h : argSl δ (.vr i) = some s) : ∃ d, s = .io d ∧ (δ[i]? = some (.own d) ∨ δ[i]? = some (.io d)) := by
  have h : (match δ[i]? with
    | some (.own d) => some (Sl.io d)
    | some (.io d) => some (Sl.io d)
    | _ => none) = some s := h
  split at h
  · rename_i d q; cases h; exact ⟨d, rfl, .inl q⟩
  · rename_i d q; cases h; exact ⟨d, rfl, .inr q⟩
  · cases h
theorem argSl_vb {δ : Env} {i : Nat} {s : Sl} (h : argSl δ (.vb i) = some s) : ∃ d, s = .bor d ∧ (δ[i]? = some (.own d) ∨ δ[i]? = some (.io d) ∨ δ[i]? = some (.imm d) ∨ δ[i]? = some (.bor d)) := by
  have h : (match δ[i]? with
    | some (.own d) => some (Sl.bor d)
    | some (.io d) => some (Sl.bor d)
    | some (.imm d) => some (Sl.bor d)
    | some (.bor d) => some (Sl.bor d)
    | _ => none) = some s := h
  split at h
  · rename_i d q; cases h; exact ⟨d, rfl, .inl q⟩
  · rename_i d q; cases h; exact ⟨d, rfl, .inr (.inl q)⟩
  · rename_i d q; cases h; exact ⟨d, rfl, .inr (.inr (.inl q))⟩
  · rename_i d q; cases h; exact ⟨d, rfl, .inr (.inr (.inr q))⟩
  · cases h
theorem argSls_len {δ : Env} : ∀ {as : List Ag} {δc : Env}, argSls δ as = some δc → δc.length = as.length
  | [], _, h => by cases h; rfl
  | a :: as, δc, h => by
    unfold argSls at h
    cases q : argSl δ a with
    | none => rw [q] at h; cases h
    | some s =>
      rw [q] at h
      cases q2 : argSls δ as with
      | none => simp only [q2] at h; cases h
      | some ss => simp only [q2] at h; cases h; rw [List.length_cons, List.length_cons, argSls_len q2]
theorem argSls_get {δ : Env} : ∀ {as : List Ag} {δc : Env}, argSls δ as = some δc → ∀ {k : Nat} {s : Sl}, δc[k]? = some s → ∃ a, as[k]? = some a ∧ argSl δ a = some s
  | [], _, h, k, s, e => by cases h; simp at e
  | a :: as, δc, h, k, s, e => by
    unfold argSls at h
    cases q : argSl δ a with
    | none => rw [q] at h; cases h
    | some s0 =>
      rw [q] at h
      cases q2 : argSls δ as with
      | none => simp only [q2] at h; cases h
      | some ss =>
        simp only [q2] at h; cases h
        cases k with
        | zero => simp at e; subst e; exact ⟨a, rfl, q⟩
        | succ k =>
          obtain ⟨b, h1, h2⟩ := argSls_get q2 (k := k) (s := s) (by simpa using e)
          exact ⟨b, by simpa using h1, h2⟩
theorem argSls_get' {δ : Env} : ∀ {as : List Ag} {δc : Env}, argSls δ as = some δc → ∀ {k : Nat} {a : Ag}, as[k]? = some a → ∃ s, δc[k]? = some s ∧ argSl δ a = some s := fun {as δc} h k a e => by
  have hl := argSls_len h
  have hk := (List.getElem?_eq_some_iff.mp e).1
  have hk2 : k < δc.length := by omega
  obtain ⟨b, h1, h2⟩ := argSls_get h (List.getElem?_eq_getElem hk2)
  rw [e] at h1; cases h1
  exact ⟨_, List.getElem?_eq_getElem hk2, h2⟩
theorem vrs_mem : ∀ {as : List Ag} {i : Nat}, i ∈ vrs as ↔ ∃ k : Nat, as[k]? = some (.vr i)
  | [], i => by simp [vrs]
  | .vr j :: as, i => by
    unfold vrs
    rw [List.mem_cons, vrs_mem]
    refine ⟨fun h => ?_, fun ⟨k, h⟩ => ?_⟩
    · rcases h with rfl | ⟨k, h⟩
      · exact ⟨0, rfl⟩
      · exact ⟨k + 1, by simpa using h⟩
    · cases k with
      | zero => simp at h; exact .inl h.symm
      | succ k => exact .inr ⟨k, by simpa using h⟩
  | .im d :: as, i => by
    unfold vrs
    rw [vrs_mem]
    refine ⟨fun ⟨k, h⟩ => ⟨k + 1, by simpa using h⟩, fun ⟨k, h⟩ => ?_⟩
    cases k with
    | zero => simp at h
    | succ k => exact ⟨k, by simpa using h⟩
  | .vb j :: as, i => by
    unfold vrs
    rw [vrs_mem]
    refine ⟨fun ⟨k, h⟩ => ⟨k + 1, by simpa using h⟩, fun ⟨k, h⟩ => ?_⟩
    cases k with
    | zero => simp at h
    | succ k => exact ⟨k, by simpa using h⟩
theorem vbs_mem : ∀ {as : List Ag} {i k : Nat}, as[k]? = some (.vb i) → i ∈ vbs as
  | [], i, k, h => by simp at h
  | .vb j :: as, i, k, h => by
    unfold vbs
    cases k with
    | zero => simp at h; rw [h]; exact List.mem_cons_self
    | succ k => exact List.mem_cons_of_mem _ (vbs_mem (k := k) (by simpa using h))
  | .im d :: as, i, k, h => by
    unfold vbs
    cases k with
    | zero => simp at h
    | succ k => exact vbs_mem (k := k) (by simpa using h)
  | .vr j :: as, i, k, h => by
    unfold vbs
    cases k with
    | zero => simp at h
    | succ k => exact vbs_mem (k := k) (by simpa using h)
theorem vrs_inj : ∀ {as : List Ag} {i k l : Nat}, (vrs as).Nodup → as[k]? = some (.vr i) → as[l]? = some (.vr i) → k = l
  | [], i, k, l, _, h, _ => by simp at h
  | a :: as, i, k, l, nd, h1, h2 => by
    have nd' : (vrs as).Nodup := by
      cases a <;> unfold vrs at nd <;> first | exact nd | exact (List.nodup_cons.mp nd).2
    cases k with
    | zero =>
      cases l with
      | zero => rfl
      | succ l =>
        simp at h1; subst h1
        unfold vrs at nd
        exact absurd (vrs_mem.mpr ⟨l, by simpa using h2⟩) (List.nodup_cons.mp nd).1
    | succ k =>
      cases l with
      | zero =>
        simp at h2; subst h2
        unfold vrs at nd
        exact absurd (vrs_mem.mpr ⟨k, by simpa using h1⟩) (List.nodup_cons.mp nd).1
      | succ l =>
        have := vrs_inj (as := as) (i := i) (k := k) (l := l) nd' (by simpa using h1) (by simpa using h2)
        rw [this]
theorem backs_len : ∀ {as : List Ag} {δc δ δ' : Env}, backs as δc δ = some δ' → δ'.length = δ.length
  | [], _, _, _, h => by cases h; rfl
  | .vr i :: as, [], _, _, h => by cases h
  | .vr i :: as, .no :: _, _, _, h => by cases h
  | .vr i :: as, .imm _ :: _, _, _, h => by cases h
  | .vr i :: as, .own _ :: _, _, _, h => by cases h
  | .vr i :: as, .bor _ :: _, _, _, h => by cases h
  | .vr i :: as, .io d :: δc, δ, δ', h => by
    unfold backs at h
    split at h
    · rw [backs_len h, List.length_set]
    · rw [backs_len h, List.length_set]
    · cases h
  | .im _ :: as, [], _, _, h => by cases h
  | .im _ :: as, _ :: δc, δ, δ', h => by unfold backs at h; exact backs_len h
  | .vb _ :: as, [], _, _, h => by cases h
  | .vb _ :: as, _ :: δc, δ, δ', h => by unfold backs at h; exact backs_len h
/-- what a slot is behind the call -/
def BackAt (as : List Ag) (δc δ : Env) (j : Nat) (s : Sl) : Prop := (j ∉ vrs as ∧ δ[j]? = some s) ∨
  ∃ (k : Nat) (d : D), as[k]? = some (.vr j) ∧ δc[k]? = some (.io d) ∧ ((∃ d0, δ[j]? = some (.own d0) ∧ s = .own d) ∨ ∃ d0, δ[j]? = some (.io d0) ∧ s = .io d)
theorem BackAt.step {a : Ag} {as : List Ag} {s0 : Sl} {δc δ : Env} {j : Nat} {s : Sl} (ha : ∀ i, a ≠ .vr i) (h : BackAt as δc δ j s) : BackAt (a :: as) (s0 :: δc) δ j s := by
  rcases h with ⟨h1, h2⟩ | ⟨k, d, h1, h2, h3⟩
  · refine .inl ⟨fun q => ?_, h2⟩
    obtain ⟨k, q⟩ := vrs_mem.mp q
    cases k with
    | zero => simp at q; exact ha _ q
    | succ k => exact h1 (vrs_mem.mpr ⟨k, by simpa using q⟩)
  · exact .inr ⟨k + 1, d, by simpa using h1, by simpa using h2, h3⟩
theorem backs_get : ∀ {as : List Ag} {δc δ δ' : Env}, (vrs as).Nodup → backs as δc δ = some δ' → ∀ {j : Nat} {s : Sl}, δ'[j]? = some s → BackAt as δc δ j s
  | [], _, _, _, _, h, j, s, e => by cases h; exact .inl ⟨by simp [vrs], e⟩
  | .vr i :: as, [], _, _, _, h, _, _, _ => by cases h
  | .vr i :: as, .no :: _, _, _, _, h, _, _, _ => by cases h
  | .vr i :: as, .imm _ :: _, _, _, _, h, _, _, _ => by cases h
  | .vr i :: as, .own _ :: _, _, _, _, h, _, _, _ => by cases h
  | .vr i :: as, .bor _ :: _, _, _, _, h, _, _, _ => by cases h
  | .vr i :: as, .io d :: δc, δ, δ', nd, h, j, s, e => by
    unfold vrs at nd
    obtain ⟨n1, n2⟩ := List.nodup_cons.mp nd
    have go : ∀ s0, (s0 = .own d ∧ (∃ d0, δ[i]? = some (.own d0)) ∨ s0 = .io d ∧ ∃ d0, δ[i]? = some (.io d0)) → backs as δc (δ.set i s0) = some δ' → BackAt (.vr i :: as) (.io d :: δc) δ j s := fun s0 hs0 h => by
      have ih := backs_get n2 h e
      by_cases c : i = j
      · subst c
        rcases ih with ⟨h1, h2⟩ | ⟨k, d', h1, _⟩
        · rcases get_set h2 with ⟨_, rfl, _⟩ | ⟨z, _⟩
          · refine .inr ⟨0, d, rfl, rfl, ?_⟩
            rcases hs0 with ⟨rfl, d0, q⟩ | ⟨rfl, d0, q⟩
            · exact .inl ⟨d0, q, rfl⟩
            · exact .inr ⟨d0, q, rfl⟩
          · exact absurd rfl z
        · exact absurd (vrs_mem.mpr ⟨k, h1⟩) n1
      · rcases ih with ⟨h1, h2⟩ | ⟨k, d', h1, h2, h3⟩
        · rw [List.getElem?_set_ne c] at h2
          refine .inl ⟨fun q => ?_, h2⟩
          unfold vrs at q
          rcases List.mem_cons.mp q with q | q
          · exact c q.symm
          · exact h1 q
        · rw [List.getElem?_set_ne c] at h3
          exact .inr ⟨k + 1, d', by simpa using h1, by simpa using h2, h3⟩
    unfold backs at h
    split at h
    · rename_i d0 q; exact go _ (.inl ⟨rfl, d0, q⟩) h
    · rename_i d0 q; exact go _ (.inr ⟨rfl, d0, q⟩) h
    · cases h
  | .im _ :: as, [], _, _, _, h, _, _, _ => by cases h
  | .im _ :: as, _ :: δc, δ, δ', nd, h, j, s, e => by
    unfold backs at h
    have nd : (vrs as).Nodup := nd
    exact (backs_get (as := as) nd h e).step (fun i q => by cases q)
  | .vb _ :: as, [], _, _, _, h, _, _, _ => by cases h
  | .vb _ :: as, _ :: δc, δ, δ', nd, h, j, s, e => by
    unfold backs at h
    have nd : (vrs as).Nodup := nd
    exact (backs_get (as := as) nd h e).step (fun i q => by cases q)
/-- the lent objects by the argument's place -/
def ioList (as : List Ag) (vs : List V) : List (Nat × Addr) := (List.range as.length).filterMap fun (k : Nat) => match as[k]?, vs[k]? with
  | some (.vr _), some (.ref p) => some (k, p)
  | _, _ => none
theorem ioList_mem {as : List Ag} {vs : List V} {k : Nat} {p : Addr} : (k, p) ∈ ioList as vs ↔ ∃ i, as[k]? = some (.vr i) ∧ vs[k]? = some (.ref p) := by
  unfold ioList
  rw [List.mem_filterMap]
  constructor
  · rintro ⟨m, _, h⟩
    split at h
    · rename_i i q h1 h2
      cases h
      exact ⟨i, h1, h2⟩
    · cases h
  · rintro ⟨i, h1, h2⟩
    refine ⟨k, List.mem_range.mpr (List.getElem?_eq_some_iff.mp h1).1, ?_⟩
    rw [h1, h2]
section
variable {K : PySem.W.Frag} {B : Bs} {G G' H H' : Hp} {δ δ' δc δc' : Env} {σ : St} {as : List Ag} {vs : List V}
theorem ags_get {k : Nat} {a : Ag} (h : AgsOk K G σ vs as) (e : as[k]? = some a) : ∃ v, vs[k]? = some v ∧ AgOk K G σ v a := by
  induction h generalizing k with
  | nil => simp at e
  | cons h t ih =>
    cases k with
    | zero => simp at e; subst e; exact ⟨_, rfl, h⟩
    | succ k => obtain ⟨v, h1, h2⟩ := ih (k := k) (by simpa using e); exact ⟨v, by simpa using h1, h2⟩
theorem ags_len (h : AgsOk K G σ vs as) : vs.length = as.length := Paired.length h
/-- a lent slot -/
theorem vr_own (a : At K B G δ σ H) (hδ : argSls δ as = some δc) {k i : Nat} (e : as[k]? = some (.vr i)) : ∃ p, OwnAt δ σ i p ∧ (∀ j, B.Bo j p = none) ∧ (B.H0 p = none ∨ (i, p) ∈ B.IO) ∧ ∃ d, δc[k]? = some (.io d) ∧ Ow K G H p d ∧ G p = none := by
  obtain ⟨s, h1, h2⟩ := argSls_get' hδ e
  obtain ⟨d, rfl, q | q⟩ := argSl_vr h2
  · obtain ⟨p, q1, q2, q3, q4⟩ := a.own q
    refine ⟨p, ⟨⟨d, .inl q⟩, q1⟩, fun j => ?_, .inl q4, d, h1, q3, q2⟩
    cases z : B.Bo j p with
    | none => rfl
    | some u => exact absurd q4 (a.bod j p (by rw [z]; simp))
  · obtain ⟨p, q1, q2, q3, q4⟩ := a.io q
    exact ⟨p, ⟨⟨d, .inr q⟩, q1⟩, (a.iok i p q4).2.2.1, .inr q4, d, h1, q3, q2⟩
theorem io_slot (a : At K B G δ σ H) (g : AgsOk K G σ vs as) (hδ : argSls δ as = some δc) {k : Nat} {p : Addr} (e : (k, p) ∈ ioList as vs) : ∃ i, as[k]? = some (.vr i) ∧ OwnAt δ σ i p ∧ (∀ j, B.Bo j p = none) ∧ (B.H0 p = none ∨ (i, p) ∈ B.IO) := by
  obtain ⟨i, h1, h2⟩ := ioList_mem.mp e
  obtain ⟨q, h3, h4, h5, d, _⟩ := vr_own a hδ h1
  obtain ⟨v, h6, h7⟩ := ags_get g h1
  have h7 : σ[i]? = some (some v) := h7
  rw [h2] at h6; cases h6
  have := h3.2
  rw [h7] at this; cases this
  exact ⟨i, h1, h3, h4, h5⟩
/-- what a borrowed argument is read by -/
theorem bo_one (a : At K B G δ σ H) (g : AgsOk K G σ vs as) (hδ : argSls δ as = some δc) (nb : ∀ i ∈ vbs as, i ∉ vrs as) (k : Nat) :
    ∃ Bk : Hp, (Vw Bk H ∧ ∀ b ps, Bk b ≠ some (.tbl ps)) ∧ (∀ j p, (j, p) ∈ ioList as vs → Bk p = none) ∧ ∀ d, δc[k]? = some (.bor d) → ∃ v, vs[k]? = some v ∧ R K Bk v d := by
  have ioG : ∀ j p, (j, p) ∈ ioList as vs → G p = none := fun j p e => by
    obtain ⟨i, _, h3, _⟩ := io_slot a g hδ e
    exact (a.ownAt h3).1
  by_cases c : ∃ d, δc[k]? = some (.bor d)
  · obtain ⟨d, hd⟩ := c
    obtain ⟨x, h1, h2⟩ := argSls_get hδ hd
    have key : (∃ v Bk, vs[k]? = some v ∧ (Vw Bk H ∧ ∀ b ps, Bk b ≠ some (.tbl ps)) ∧ (∀ j p, (j, p) ∈ ioList as vs → Bk p = none) ∧ R K Bk v d) → ∃ Bk : Hp, (Vw Bk H ∧ ∀ b ps, Bk b ≠ some (.tbl ps)) ∧ (∀ j p, (j, p) ∈ ioList as vs → Bk p = none) ∧ ∀ d, δc[k]? = some (.bor d) → ∃ v, vs[k]? = some v ∧ R K Bk v d := fun ⟨v, Bk, z1, z2, z3, z4⟩ => ⟨Bk, z2, z3, fun d' e => by rw [hd] at e; cases e; exact ⟨v, z1, z4⟩⟩
    refine key ?_
    cases x with
    | im d' => cases h2
    | vr i => obtain ⟨_, q, _⟩ := argSl_vr h2; cases q
    | vb i =>
      obtain ⟨v, h3, h4⟩ := ags_get g h1
      have h4 : σ[i]? = some (some v) := h4
      have own : ∀ p, v = .ref p → OwnAt δ σ i p → Ow K G H p d → G p = none → ∃ v Bk, vs[k]? = some v ∧ (Vw Bk H ∧ ∀ b ps, Bk b ≠ some (.tbl ps)) ∧ (∀ j p, (j, p) ∈ ioList as vs → Bk p = none) ∧ R K Bk v d := fun p hv ho w gp => by
        obtain ⟨o, b1, bm, b2⟩ := w.obj
        refine ⟨v, upd G p o, h3, ⟨fun b u e => ?_, notbl_upd a.tb.2.2.1 (mut_notbl bm)⟩, fun j q e => ?_, by rw [hv]; exact b2 _ upd_same (Ext.new gp)⟩
        · by_cases z : b = p
          · subst z; rw [upd_same] at e; cases e; exact .inl b1
          · rw [upd_ne z] at e; exact a.vw b u e
        · have z : q ≠ p := fun z => by
            subst z
            obtain ⟨l, y1, y2, _⟩ := io_slot a g hδ e
            have := a.apart i l q ho y2
            subst this
            exact nb i (vbs_mem h1) (vrs_mem.mpr ⟨j, y1⟩)
          rw [upd_ne z]; exact ioG j q e
      obtain ⟨d', q', q⟩ := argSl_vb h2
      cases q'
      rcases q with q | q | q | q
      · obtain ⟨p, q1, q2, q3, _⟩ := a.own q
        have q5 : v = .ref p := by rw [h4] at q1; cases q1; rfl
        exact own p q5 ⟨⟨_, .inl q⟩, q1⟩ q3 q2
      · obtain ⟨p, q1, q2, q3, _⟩ := a.io q
        have q5 : v = .ref p := by rw [h4] at q1; cases q1; rfl
        exact own p q5 ⟨⟨_, .inr q⟩, q1⟩ q3 q2
      · obtain ⟨u, q1, q2⟩ := a.imm q
        rw [h4] at q1; cases q1
        exact ⟨_, G, h3, ⟨a.vw, a.tb.2.2.1⟩, ioG, q2⟩
      · obtain ⟨u, q1, q2⟩ := a.bor q
        rw [h4] at q1; cases q1
        exact ⟨_, B.Bo i, h3, ⟨a.bo i, a.tb.2.2.2.1 i⟩, fun j p e => by
          obtain ⟨l, _, _, y, _⟩ := io_slot a g hδ e
          exact y i, q2⟩
  · exact ⟨fun _ => none, ⟨fun _ _ e => (by cases e), fun _ _ e => (by cases e)⟩, fun _ _ _ => rfl, fun d e => absurd ⟨d, e⟩ c⟩
/-- all but tables -/
def hid (H : Hp) : Hp := fun b => match H b with
  | some (.tbl _) => none
  | o => o
theorem hid_of {b : Addr} {o : HO} (h : hid H b = some o) : H b = some o ∧ ∀ ps, o ≠ .tbl ps := by
  unfold hid at h
  split at h
  · cases h
  · rename_i n
    exact ⟨h, fun ps c => n ps (by rw [h, c])⟩
theorem hid_nt {b : Addr} {o : HO} (h : H b = some o) (n : ∀ ps, o ≠ .tbl ps) : hid H b = some o := by
  unfold hid
  rw [h]
  cases o with
  | tbl ps => exact absurd rfl (n ps)
  | _ => rfl
theorem hid_ne {b : Addr} (h : hid H b ≠ none) : H b ≠ none := fun c => h (by unfold hid; rw [c])
/-- what was there from the start is there, and is no table -/
theorem At.was (a : At K B G δ σ H) {p : Addr} (h : B.H0 p ≠ none) : ∃ o, H p = some o ∧ ∀ ps, o ≠ .tbl ps := by
  cases z : B.H0 p with
  | none => exact absurd z h
  | some o =>
    by_cases io : ∀ i, (i, p) ∉ B.IO
    · exact ⟨o, a.keep p o z io, fun ps c => a.tb.2.1 p ps (by rw [z, c])⟩
    · have ⟨i, io⟩ : ∃ i, (i, p) ∈ B.IO := Classical.byContradiction fun q => io fun i hi => q ⟨i, hi⟩
      obtain ⟨_, _, _, u, z1, z2⟩ := a.iok i p io
      exact ⟨u, z1, mut_notbl z2⟩
theorem At.fresh1 (a : At K B G δ σ H) {p : Addr} (h : ∀ o, H p = some o → ∃ ps, o = .tbl ps) : B.H0 p = none := by
  cases z : B.H0 p with
  | none => rfl
  | some u =>
    obtain ⟨o, q1, q2⟩ := a.was (p := p) (by rw [z]; simp)
    obtain ⟨ps, e⟩ := h o q1
    exact absurd e (q2 ps)
theorem At.noOwn1 (a : At K B G δ σ H) {p : Addr} (h : ∀ o, H p = some o → ∃ ps, o = .tbl ps) : ∀ j, ¬ OwnAt δ σ j p := fun j e => by
  obtain ⟨_, d, w⟩ := a.ownAt e
  obtain ⟨u, b, n⟩ := w.nt
  obtain ⟨ps, e⟩ := h u b
  exact n.tbl ps e
theorem call_enter (a : At K B G δ σ H) (g : AgsOk K G σ vs as) (hδ : argSls δ as = some δc) (nd : (vrs as).Nodup) (nb : ∀ i ∈ vbs as, i ∉ vrs as) :
    ∃ Bc : Bs, Bc.H0 = hid H ∧ Bc.G0 = G ∧ Bc.IO = ioList as vs ∧ At K Bc G δc (vs.map some) H := by
  obtain ⟨Bo, hBo⟩ := Classical.axiomOfChoice (bo_one a g hδ nb)
  refine ⟨⟨hid H, G, Bo, ioList as vs⟩, rfl, rfl, rfl, ⟨a.vw, Ext.refl G, fun _ _ e _ => (hid_of e).1, fun _ e => hid_ne e, fun _ _ _ _ e => e, fun k p e => ?_, fun j => (hBo j).1.1, fun j b e => ?_, ?_, fun k s e => ?_, fun k l p e1 e2 => ?_, ⟨a.tb.1, fun b ps e => (hid_of e).2 ps rfl, a.tb.2.2.1, (fun j => (hBo j).1.2), fun k p xs e z => (by
    obtain ⟨i, h1, h2, h3, h4⟩ := io_slot a g hδ e
    obtain ⟨_, d, w⟩ := a.ownAt h2
    obtain ⟨o, b1, m⟩ := w.nt
    have z2 := (hid_of z).1
    rw [b1] at z2; cases z2; exact m.tup _ rfl)⟩⟩⟩
  · obtain ⟨i, h1, h2, h3, h4⟩ := io_slot a g hδ e
    obtain ⟨g1, d, w⟩ := a.ownAt h2
    obtain ⟨o, b1, m, _⟩ := w.obj
    exact ⟨g1, by show hid H p ≠ none; rw [hid_nt b1 (mut_notbl m)]; simp, fun j => (hBo j).2.1 k p e, o, b1, m⟩
  · cases z : Bo j b with
    | none => exact absurd z e
    | some u =>
      have nu : ∀ ps, u ≠ .tbl ps := fun ps c => (hBo j).1.2 b ps (by rw [z, c])
      show hid H b ≠ none
      rcases (hBo j).1.1 b u z with q | ⟨_, x, q⟩
      · rw [hid_nt q nu]; simp
      · rw [hid_nt q (fun ps c => by cases c)]; simp
  · rw [List.length_map, argSls_len hδ, ags_len g]
  · obtain ⟨x, h1, h2⟩ := argSls_get hδ e
    obtain ⟨v, h3, h4⟩ := ags_get g h1
    refine ⟨some v, by rw [List.getElem?_map, h3]; rfl, ?_⟩
    cases x with
    | im d => cases h2; exact ⟨v, rfl, h4⟩
    | vr i =>
      obtain ⟨p, q1, q2, q3, d, q4, q5, q6⟩ := vr_own a hδ h1
      rw [e] at q4; cases q4
      have h4 : σ[i]? = some (some v) := h4
      have := q1.2
      rw [h4] at this; cases this
      exact ⟨p, rfl, q6, q5, ioList_mem.mpr ⟨i, h1, h3⟩⟩
    | vb i =>
      obtain ⟨d, rfl, _⟩ := argSl_vb h2
      obtain ⟨u, z1, z2⟩ := (hBo k).2.2 d e
      rw [h3] at z1; cases z1
      exact ⟨v, rfl, z2⟩
  · have lent : ∀ k, OwnAt δc (vs.map some) k p → ∃ i, as[k]? = some (.vr i) ∧ OwnAt δ σ i p := fun k z => by
      obtain ⟨⟨d, z1⟩, z2⟩ := z
      have hs : ∃ s, δc[k]? = some s ∧ (s = .own d ∨ s = .io d) := by
        rcases z1 with z1 | z1
        · exact ⟨_, z1, .inl rfl⟩
        · exact ⟨_, z1, .inr rfl⟩
      obtain ⟨s, y1, y2⟩ := hs
      obtain ⟨x, h1, h2⟩ := argSls_get hδ y1
      cases x with
      | im d => cases h2; rcases y2 with y2 | y2 <;> cases y2
      | vb i => obtain ⟨_, rfl, _⟩ := argSl_vb h2; rcases y2 with y2 | y2 <;> cases y2
      | vr i =>
        obtain ⟨q, q1, _⟩ := vr_own a hδ h1
        obtain ⟨v, h3, h4⟩ := ags_get g h1
        have h4 : σ[i]? = some (some v) := h4
        rw [List.getElem?_map, h3] at z2
        have z2 : v = .ref p := Option.some.inj (Option.some.inj z2)
        subst z2
        exact ⟨i, h1, ⟨q1.1, h4⟩⟩
    obtain ⟨i, x1, x2⟩ := lent k e1
    obtain ⟨j, y1, y2⟩ := lent l e2
    have := a.apart i j p x2 y2
    subst this
    exact vrs_inj nd x1 y1
theorem call_leave {Bc : Bs} (a : At K B G δ σ H) (g : AgsOk K G σ vs as) (hδ : argSls δ as = some δc) (nd : (vrs as).Nodup) (e1 : Bc.H0 = hid H) (e2 : Bc.G0 = G) (e3 : Bc.IO = ioList as vs)
    (ac : At K Bc G' δc' (vs.map some) H') (hb : backs as δc' δ = some δ') : At K B G' δ' σ H' := by
  have ex : Ext G G' := by rw [← e2]; exact ac.g0
  have noIO : ∀ p, (∀ j, ¬ OwnAt δ σ j p) → ∀ k, (k, p) ∉ Bc.IO := fun p h k z => by
    rw [e3] at z
    obtain ⟨i, _, h2, _⟩ := io_slot a g hδ z
    exact h i h2
  have kp : ∀ p o, (∀ ps, o ≠ .tbl ps) → H p = some o → (∀ k, (k, p) ∉ Bc.IO) → H' p = some o := fun p o t z n => ac.keep p o (by rw [e1]; exact hid_nt z t) n
  have gNone : ∀ p o, (∀ ps, o ≠ .tbl ps) → H p = some o → (∀ xs, o ≠ .tup xs) → G p = none → G' p = none := fun p o h z t n => ac.leak p o (by rw [e1]; exact hid_nt z h) t (by rw [e2]; exact n)
  have zT : ∀ p o, B.H0 p = some o → ∀ ps, o ≠ .tbl ps := fun p o h ps c => a.tb.2.1 p ps (by rw [h, c])
  have noOf : ∀ p, (B.H0 p ≠ none ∧ ∀ i, (i, p) ∉ B.IO) → ∀ k, (k, p) ∉ Bc.IO := fun p h k z => by
    rw [e3] at z
    obtain ⟨i, _, _, _, h4⟩ := io_slot a g hδ z
    rcases h4 with h4 | h4
    · exact h.1 h4
    · exact h.2 i h4
  refine ⟨ac.vw, a.g0.trans ex, fun p o z n => ?_, fun p z => ?_, fun p o z t n => ?_, fun i p z => ?_, fun j p o z => ?_, a.bod, ?_, fun j s z => ?_, fun i j p z1 z2 => ?_, ⟨ac.tb.1, a.tb.2.1, ac.tb.2.2.1, a.tb.2.2.2⟩⟩
  · exact kp p o (zT p o z) (a.keep p o z n) (noOf p ⟨by rw [z]; simp, n⟩)
  · obtain ⟨o, q1, q2⟩ := a.was z
    exact ac.dom p (by rw [e1, hid_nt q1 q2]; simp)
  · have gp := a.leak p o z t n
    by_cases io : ∀ i, (i, p) ∉ B.IO
    · exact gNone p o (zT p o z) (a.keep p o z io) t gp
    · have ⟨i, io⟩ : ∃ i, (i, p) ∈ B.IO := Classical.byContradiction fun q => io fun i hi => q ⟨i, hi⟩
      obtain ⟨_, _, _, u, z1, z2⟩ := a.iok i p io
      exact gNone p u (mut_notbl z2) z1 (mut_notup z2) gp
  · obtain ⟨a1, a2, a3, u, a4, a5⟩ := a.iok i p z
    refine ⟨a1, a2, a3, ?_⟩
    by_cases io : ∀ k, (k, p) ∉ Bc.IO
    · exact ⟨u, kp p u (mut_notbl a5) a4 io, a5⟩
    · have ⟨k, io⟩ : ∃ i, (i, p) ∈ Bc.IO := Classical.byContradiction fun q => io fun i hi => q ⟨i, hi⟩
      obtain ⟨_, _, _, v, z1, z2⟩ := ac.iok k p io
      exact ⟨v, z1, z2⟩
  · have nio : ∀ k, (k, p) ∉ Bc.IO := fun k y => by
      rw [e3] at y
      obtain ⟨_, _, _, h3, _⟩ := io_slot a g hδ y
      rw [h3 j] at z; cases z
    rcases a.bo j p o z with q | ⟨q1, x, q⟩
    · exact .inl (kp p o (fun ps c => a.tb.2.2.2.1 j p ps (by rw [z, c])) q nio)
    · exact .inr ⟨q1, x, kp p _ (fun ps c => by cases c) q nio⟩
  · rw [backs_len hb]; exact a.len
  · rcases backs_get nd hb z with ⟨h1, h2⟩ | ⟨k, d, h1, h2, h3⟩
    · obtain ⟨ov, q1, q2⟩ := a.sl j s h2
      refine ⟨ov, q1, ?_⟩
      have own : ∀ p, OwnAt δ σ j p → ∀ k, (k, p) ∉ Bc.IO := fun p h k y => by
        rw [e3] at y
        obtain ⟨i, y1, y2, _⟩ := io_slot a g hδ y
        have := a.apart j i p h y2
        subst this
        exact h1 (vrs_mem.mpr ⟨k, y1⟩)
      cases s with
      | no => trivial
      | imm d => obtain ⟨v, r1, r2⟩ := q2; exact ⟨v, r1, r2.mono ex⟩
      | bor d => exact q2
      | own d =>
        obtain ⟨p, r1, r2, r3, r4⟩ := q2
        subst r1
        obtain ⟨o, b1, m, _⟩ := r3.obj
        have hk := kp p o (mut_notbl m) b1 (own p ⟨⟨d, .inl h2⟩, q1⟩)
        exact ⟨p, rfl, gNone p o (mut_notbl m) b1 (mut_notup m) r2, (r3.mono ex).at' (hk.trans b1.symm), r4⟩
      | io d =>
        obtain ⟨p, r1, r2, r3, r4⟩ := q2
        subst r1
        obtain ⟨o, b1, m, _⟩ := r3.obj
        have hk := kp p o (mut_notbl m) b1 (own p ⟨⟨d, .inr h2⟩, q1⟩)
        exact ⟨p, rfl, gNone p o (mut_notbl m) b1 (mut_notup m) r2, (r3.mono ex).at' (hk.trans b1.symm), r4⟩
    · obtain ⟨p, q1, q2, q3, q4⟩ := ac.io h2
      obtain ⟨v, h5, h6⟩ := ags_get g h1
      have h6 : σ[j]? = some (some v) := h6
      rw [List.getElem?_map, h5] at q1
      have q1 : v = .ref p := Option.some.inj (Option.some.inj q1)
      subst q1
      refine ⟨some (.ref p), h6, ?_⟩
      rcases h3 with ⟨d0, y1, rfl⟩ | ⟨d0, y1, rfl⟩
      · obtain ⟨p', r1, _, _, r4⟩ := a.own y1
        rw [h6] at r1; cases r1
        exact ⟨p, rfl, q2, q3, r4⟩
      · obtain ⟨p', r1, _, _, r4⟩ := a.io y1
        rw [h6] at r1; cases r1
        exact ⟨p, rfl, q2, q3, r4⟩
  · have back : ∀ j, OwnAt δ' σ j p → OwnAt δ σ j p := fun j y => by
      obtain ⟨⟨d, y1⟩, y2⟩ := y
      have hs : ∃ s, δ'[j]? = some s ∧ (s = .own d ∨ s = .io d) := by
        rcases y1 with y1 | y1
        · exact ⟨_, y1, .inl rfl⟩
        · exact ⟨_, y1, .inr rfl⟩
      obtain ⟨s, x1, x2⟩ := hs
      rcases backs_get nd hb x1 with ⟨_, h2⟩ | ⟨k, d', _, _, h3⟩
      · rcases x2 with rfl | rfl
        · exact ⟨⟨d, .inl h2⟩, y2⟩
        · exact ⟨⟨d, .inr h2⟩, y2⟩
      · rcases h3 with ⟨d0, y1, _⟩ | ⟨d0, y1, _⟩
        · exact ⟨⟨d0, .inl y1⟩, y2⟩
        · exact ⟨⟨d0, .inr y1⟩, y2⟩
    exact a.apart i j p (back i z1) (back j z2)
end
/-- the table of the own exceptions: class, field -/
abbrev XT := Str → Option (Addr × Str)
/-- an exception on its way: its class, its own dict's one field -/
def WE (tab : XT) (K : PySem.W.Frag) (E : XK) : WK := fun x _ _ G H => ∀ C f v d, tab x.cls = some (C, f) → R K G v x.val → H d = none → E (.ref C) (some d) (upd H d (.xd [(f, v)]))
def PostF (K : PySem.W.Frag) (W : WK) (B : Bs) (G : Hp) (σ : St) (ro : Bool) (r : Except Exn D) (δ' : Env) (Q : VK) : Prop := match r with
  | .ok d => ∀ G' H', At K B G' δ' σ H' → Ext G G' → if ro = true then ∀ p, Fr1 K B G' δ' σ H' p d → Q (.ref p) H' else ∀ v, R K G' v d → Q v H'
  | .error x => ∀ G' H', At K B G' δ' σ H' → Ext G G' → W x δ' σ G' H'
/-- a def's promise: it does what the mirror m does -/
def spM (Wf : XK → WK) (K : PySem.W.Frag) (n : Nat) (ro : Bool) (m : Mo D) : Sp := fun vs H Q E => vs.length = n ∧ ∃ B G δ r δ', (∀ k p, (k, p) ∈ B.IO → vs[k]? = some (.ref p)) ∧ At K B G δ (vs.map some) H ∧ m δ = some (r, δ') ∧ PostF K (Wf E) B G (vs.map some) ro r δ' Q
/-- the lent slots among the parameters -/
def keepIo : Sl → Sl
  | .io d => .io d
  | _ => .no
def ios : Nat → Env → Env
  | 0, _ => []
  | n + 1, s :: δ => keepIo s :: ios n δ
  | n + 1, [] => .no :: ios n []
theorem ios_len : ∀ (n : Nat) (δ : Env), (ios n δ).length = n
  | 0, _ => rfl
  | n + 1, s :: δ => by unfold ios; rw [List.length_cons, ios_len]
  | n + 1, [] => by unfold ios; rw [List.length_cons, ios_len]
theorem ios_get : ∀ {n : Nat} {δ : Env} {j : Nat} {s : Sl}, (ios n δ)[j]? = some s → s = .no ∨ ∃ d, s = .io d ∧ δ[j]? = some (.io d)
  | 0, _, _, _, e => by simp [ios] at e
  | n + 1, s0 :: δ, 0, s, e => by
    unfold ios at e
    simp at e; subst e
    cases s0 with
    | io d => exact .inr ⟨d, rfl, rfl⟩
    | _ => exact .inl rfl
  | n + 1, s0 :: δ, j + 1, s, e => by
    unfold ios at e
    have := ios_get (n := n) (δ := δ) (j := j) (s := s) (by simpa using e)
    simpa using this
  | n + 1, [], 0, s, e => by unfold ios at e; simp at e; exact .inl e.symm
  | n + 1, [], j + 1, s, e => by
    unfold ios at e
    have := ios_get (n := n) (δ := []) (j := j) (s := s) (by simpa using e)
    rcases this with h | ⟨d, _, h⟩
    · exact .inl h
    · simp at h
/-- a def's mirror by its body's: N names, n parameters -/
def fnM (N n : Nat) (body : Mo Out) : Mo D := fun δ => match body (δ ++ List.replicate (N - n) .no) with
  | some (.ok (.rt d), δ') => some (.ok d, ios n δ')
  | some (.ok (.rtO d), δ') => some (.ok d, ios n δ')
  | some (.ok .nx, δ') => some (.ok .non, ios n δ')
  | some (.error x, δ') => some (.error x, ios n δ')
  | _ => none
def fnO (N n : Nat) (body : Mo Out) : Mo D := fun δ => match body (δ ++ List.replicate (N - n) .no) with
  | some (.ok (.rtO d), δ') => some (.ok d, ios n δ')
  | some (.error x, δ') => some (.error x, ios n δ')
  | _ => none
section
variable {K : PySem.W.Frag} {B : Bs} {G G' H H' : Hp} {δ δ' : Env} {σ σ' : St} {vs : List V} {n N : Nat}
theorem At.start (a : At K B G δ (vs.map some) H) (m : Nat) : At K B G (δ ++ List.replicate m .no) (vs.map some ++ List.replicate m none) H := by
  have hl : δ.length = vs.length := by rw [a.len, List.length_map]
  have back : ∀ {j : Nat} {s : Sl}, (δ ++ List.replicate m .no)[j]? = some s → s = .no ∨ (δ[j]? = some s ∧ (vs.map some ++ List.replicate m none)[j]? = (vs.map some)[j]?) := fun {j s} e => by
    by_cases c : j < δ.length
    · rw [List.getElem?_append_left c] at e
      exact .inr ⟨e, List.getElem?_append_left (by rw [List.length_map]; omega)⟩
    · rw [List.getElem?_append_right (by omega)] at e
      have := List.mem_of_getElem? e
      exact .inl (List.eq_of_mem_replicate this)
  exact a.forget (by rw [List.length_append, List.length_append, List.length_replicate, List.length_replicate, List.length_map, hl]) fun j s e => back e
/-- the frame is left: its lent slots, at the values that were handed in -/
theorem ios_slot (hio : ∀ k p, (k, p) ∈ B.IO → vs[k]? = some (.ref p)) (a : At K B G' δ' σ' H') : ∀ (j : Nat) (s : Sl), (ios n δ')[j]? = some s → s = .no ∨ ∃ d, s = .io d ∧ δ'[j]? = some (.io d) ∧ ∃ p, (vs.map some)[j]? = some (some (.ref p)) ∧ σ'[j]? = some (some (.ref p)) := fun j s e => by
  rcases ios_get e with rfl | ⟨d, rfl, q⟩
  · exact .inl rfl
  · obtain ⟨p, q1, _, _, q4⟩ := a.io q
    exact .inr ⟨d, rfl, q, p, by rw [List.getElem?_map, hio j p q4]; rfl, q1⟩
theorem ios_back (hio : ∀ k p, (k, p) ∈ B.IO → vs[k]? = some (.ref p)) (a : At K B G' δ' σ' H') {j : Nat} {p : Addr} (z : OwnAt (ios n δ') (vs.map some) j p) : OwnAt δ' σ' j p := by
  obtain ⟨⟨d, z1⟩, z2⟩ := z
  have hs : ∃ s, (ios n δ')[j]? = some s ∧ (s = .own d ∨ s = .io d) := by
    rcases z1 with z1 | z1
    · exact ⟨_, z1, .inl rfl⟩
    · exact ⟨_, z1, .inr rfl⟩
  obtain ⟨s, y1, y2⟩ := hs
  rcases ios_slot hio a j s y1 with rfl | ⟨d', rfl, q, p', q1, q2⟩
  · rcases y2 with y2 | y2 <;> cases y2
  · rw [q1] at z2; cases z2
    exact ⟨⟨d', .inr q⟩, q2⟩
theorem At.leave (hn : vs.length = n) (hio : ∀ k p, (k, p) ∈ B.IO → vs[k]? = some (.ref p)) (a : At K B G' δ' σ' H') : At K B G' (ios n δ') (vs.map some) H' := by
  refine ⟨a.vw, a.g0, a.keep, a.dom, a.leak, a.iok, a.bo, a.bod, ?_, fun j s e => ?_, fun i j p e1 e2 => a.apart i j p (ios_back hio a e1) (ios_back hio a e2), a.tb⟩
  · rw [ios_len, List.length_map, hn]
  · rcases ios_slot hio a j s e with rfl | ⟨d, rfl, q, p, q1, q2⟩
    · have := (List.getElem?_eq_some_iff.mp e).1
      rw [ios_len] at this
      have hj : j < (vs.map some).length := by rw [List.length_map]; omega
      exact ⟨_, List.getElem?_eq_getElem hj, trivial⟩
    · obtain ⟨p', r1, r2, r3, r4⟩ := a.io q
      rw [q2] at r1; cases r1
      exact ⟨_, q1, p, rfl, r2, r3, r4⟩
end
section
variable {X : Cx} {W : WK} {e : Expr} {es : List Expr} {A : Mo (List Ag)} {CX : CXT} {k n : Nat} {f : Addr} {fd : FuncData} {ps : List Str} {ds : List Value} {x : Str} {p pos : Pos} {m : Mo D}
def eCall (m : Mo D) (A : Mo (List Ag)) : Mo D := A.bind fun as => callM m as
/-- default values: data -/
theorem call_ok {K : PySem.W.Frag} {Wf : XK → WK} {E : XK} {B : Bs} {G : Hp} {δ δ' : Env} {σ : St} {H : Hp} {as : List Ag} {vs : List V} {r : Except Exn D} {ro : Bool} {Q : VK} (hW : Wf E = W) (hW2 : ∀ x δ σ δ2 σ2 G H, W x δ σ G H → W x δ2 σ2 G H) (a : At K B G δ σ H) (g : AgsOk K G σ vs as) (h : callM m as δ = some (r, δ'))
    (post : match r with
      | .ok d => ∀ G' H', At K B G' δ' σ H' → Ext G G' → if ro = true then ∀ p, Fr1 K B G' δ' σ H' p d → Q (.ref p) H' else ∀ v, R K G' v d → Q v H'
      | .error x => ∀ G' H', At K B G' δ' σ H' → Ext G G' → W x δ' σ G' H')
    (hn : as.length = n) : spM Wf K n ro m vs H Q E := by
  unfold callM at h
  cases q : argSls δ as with
  | none => rw [q] at h; cases h
  | some δc =>
    rw [q] at h
    simp only [] at h
    split at h
    · rename_i c
      obtain ⟨nd, nb⟩ := c
      cases q2 : m δc with
      | none => rw [q2] at h; cases h
      | some z =>
        obtain ⟨r', δc'⟩ := z
        rw [q2] at h
        simp only [] at h
        cases q3 : backs as δc' δ with
        | none => rw [q3] at h; cases h
        | some δ2 =>
          rw [q3] at h
          cases h
          obtain ⟨Bc, e1, e2, e3, ac⟩ := call_enter a g q nd nb
          refine ⟨by rw [ags_len g]; exact hn, Bc, G, δc, r, δc', fun k p z => by rw [e3] at z; obtain ⟨_, _, y⟩ := ioList_mem.mp z; exact y, ac, q2, ?_⟩
          have lv : ∀ {G' H'}, At K Bc G' δc' (vs.map some) H' → At K B G' δ' σ H' := fun a' => call_leave a g q nd e1 e2 e3 a' q3
          cases r with
          | error y =>
            intro G' H' a' x'
            rw [hW]
            exact hW2 _ _ _ _ _ _ _ (post G' H' (lv a') x')
          | ok d =>
            intro G' H' a' x'
            have pp := post G' H' (lv a') x'
            cases ro with
            | false => rw [if_neg Bool.false_ne_true] at pp ⊢; exact pp
            | true =>
              rw [if_pos rfl] at pp ⊢
              rintro p ⟨w1, w2, w3, w4⟩
              have hp0 : ∀ o, H p = some o → ∃ ps, o = .tbl ps := fun u z => by
                have w2 : Bc.H0 p = none := w2
                rw [e1] at w2
                cases u with
                | tbl ps => exact ⟨ps, rfl⟩
                | _ => rw [hid_nt z (fun ps c => by cases c)] at w2; cases w2
              refine pp p ⟨w1, a.fresh1 hp0, fun j z => ?_, w4⟩
              -- a slot's own object was there ahead of the call
              have : OwnAt δ σ j p := by
                obtain ⟨⟨d', z1⟩, z2⟩ := z
                have hs : ∃ s, δ'[j]? = some s ∧ (s = .own d' ∨ s = .io d') := by
                  rcases z1 with z1 | z1
                  · exact ⟨_, z1, .inl rfl⟩
                  · exact ⟨_, z1, .inr rfl⟩
                obtain ⟨s, y1, y2⟩ := hs
                rcases backs_get nd q3 y1 with ⟨_, h2⟩ | ⟨k, d'', _, _, h3⟩
                · rcases y2 with rfl | rfl
                  · exact ⟨⟨_, .inl h2⟩, z2⟩
                  · exact ⟨⟨_, .inr h2⟩, z2⟩
                · rcases h3 with ⟨d0, y1, _⟩ | ⟨d0, y1, _⟩
                  · exact ⟨⟨d0, .inl y1⟩, z2⟩
                  · exact ⟨⟨d0, .inr y1⟩, z2⟩
              exact a.noOwn1 hp0 j this
    · cases h
/-- the arguments' number -/
def ALen (A : Mo (List Ag)) (n : Nat) : Prop := ∀ δ as δ', A δ = some (.ok as, δ') → as.length = n
theorem alen_nil : ALen aNil 0 := fun δ as δ' h => by cases h; rfl
theorem bind_okD {α β : Type} {m : Mo α} {k : α → Mo β} {δ δ' : Env} {b : β} (h : Mo.bind m k δ = some (.ok b, δ')) : ∃ a δ1, m δ = some (.ok a, δ1) ∧ k a δ1 = some (.ok b, δ') := by
  unfold Mo.bind at h
  cases q : m δ with
  | none => rw [q] at h; cases h
  | some z =>
    obtain ⟨u, δ1⟩ := z
    rw [q] at h
    cases u with
    | error u => cases h
    | ok u => exact ⟨u, δ1, rfl, h⟩
theorem alen_cons {E : Mo D} (h : ALen A n) : ALen (aCons E A) (n + 1) := fun δ as δ' q => by
  obtain ⟨d, δ1, _, q⟩ := bind_okD q
  obtain ⟨ds, δ2, q1, q⟩ := bind_okD q
  cases q
  rw [List.length_cons, h _ _ _ q1]
theorem alen_vr {i : Nat} (h : ALen A n) : ALen (aVr i A) (n + 1) := fun δ as δ' q => by
  unfold aVr at q
  split at q
  · obtain ⟨ds, δ2, q1, q⟩ := bind_okD q
    cases q
    rw [List.length_cons, h _ _ _ q1]
  · obtain ⟨ds, δ2, q1, q⟩ := bind_okD q
    cases q
    rw [List.length_cons, h _ _ _ q1]
  · cases q
theorem tA_bind' {K : PySem.W.Frag} {B : Bs} {G H : Hp} {δ δ' : Env} {σ : St} {β : Type} {r : Except Exn β} {ok : β → Hp → Hp → Prop} {kk : List Ag → Mo β} {Q : List V → Hp → Prop} (a : At K B G δ σ H) (h : Mo.bind A kk δ = some (r, δ')) (post : Post K W B G σ r δ' ok)
    (q : ∀ vs H1 G1 δ1 d, A δ = some (.ok d, δ1) → At K B G1 δ1 σ H1 → Ext G G1 → AgsOk K G1 σ vs d → kk d δ1 = some (r, δ') → Post K W B G1 σ r δ' ok → Q vs H1) : tA K W A σ H Q := by
  unfold Mo.bind at h
  cases e : A δ with
  | none => rw [e] at h; cases h
  | some z =>
    obtain ⟨x, δ1⟩ := z
    rw [e] at h
    cases x with
    | error x => cases h; exact ⟨B, G, δ, .error x, _, a, e, post⟩
    | ok d => exact ⟨B, G, δ, .ok d, δ1, a, e, fun G1 H1 a1 e1 v rv => q v H1 G1 δ1 d e a1 e1 rv h (post.mono e1)⟩
theorem tCall_ok {K : PySem.W.Frag} {Wf : XK → WK} {E : XK} (hW : Wf E = W) (hW2 : ∀ x δ σ δ2 σ2 G H, W x δ σ G H → W x δ2 σ2 G H) (hl : ALen A n) {σ : St} {H : Hp} {Q : VK} (q : tE K W (eCall m A) σ H Q) : tCall (spM Wf K n false m) [] E (tA K W A) σ H Q := by
  obtain ⟨B, G, δ, r, δ', a, e1, post⟩ := q
  refine tA_bind' a e1 post fun vs H1 G1 δ1 as ea a1 x1 r1 e2 post => ?_
  show spM Wf K n false m (vs ++ []) H1 Q E
  rw [List.append_nil]
  refine call_ok hW hW2 a1 r1 e2 ?_ (hl _ _ _ ea)
  cases r with
  | ok d => exact fun G' H' a' x' => by rw [if_neg Bool.false_ne_true]; exact fun v rv => post G' H' a' x' v rv
  | error x => exact fun G' H' a' x' => post G' σ H' a' x'
theorem tCallO_ok {K : PySem.W.Frag} {Wf : XK → WK} {E : XK} (hW : Wf E = W) (hW2 : ∀ x δ σ δ2 σ2 G H, W x δ σ G H → W x δ2 σ2 G H) (hl : ALen A n) {σ : St} {H : Hp} {Q : VK} (q : tO K W (eCall m A) σ H Q) : tCall (spM Wf K n true m) [] E (tA K W A) σ H Q := by
  obtain ⟨B, G, δ, r, δ', a, e1, post⟩ := q
  refine tA_bind' a e1 post fun vs H1 G1 δ1 as ea a1 x1 r1 e2 post => ?_
  show spM Wf K n true m (vs ++ []) H1 Q E
  rw [List.append_nil]
  refine call_ok hW hW2 a1 r1 e2 ?_ (hl _ _ _ ea)
  cases r with
  | ok d => exact fun G' H' a' x' => by rw [if_pos rfl]; exact fun v rv => post G' H' a' x' v rv
  | error x => exact fun G' H' a' x' => post G' σ H' a' x'
/-- no exception: the promise's fourth letter does not matter -/
def Wn : XK → WK := fun _ => W0
theorem de_call (F : FnOk X.prog X.w X.K X.mg X.base CX0 k f fd ps (spM Wn X.K n false m)) (hr : Room k X.A) (hg : Gl X x) (hm : X.mg x = some (.ref f)) (hk : PySem.W.keepIn X.K (.ref f) = true) (hb : Binds X.K fd ps []) (hl : ALen A n)
    (ha : DA X W0 (e :: es) A) (hdb : (x == ("__debug__" : Str)) = false := by decide) (he : starEach (e :: es) X.env = (false, eval e X.env) :: starEach es X.env := by rfl) (hpl : (backTo pos (starEach es X.env)).any (·.1) = false := by rfl) :
    DE X W0 (.Call (.Name x p) (e :: es) [] pos) (eCall m A) := PE.weak (pe_call (E := E0) F hr hg hm hk hb .nil pass0 ha hdb he hpl) fun σ H Q q => tCall_ok rfl (fun _ _ _ _ _ _ _ h => h) hl q
theorem do_call (F : FnOk X.prog X.w X.K X.mg X.base CX0 k f fd ps (spM Wn X.K n true m)) (hr : Room k X.A) (hg : Gl X x) (hm : X.mg x = some (.ref f)) (hk : PySem.W.keepIn X.K (.ref f) = true) (hb : Binds X.K fd ps []) (hl : ALen A n)
    (ha : DA X W0 (e :: es) A) (hdb : (x == ("__debug__" : Str)) = false := by decide) (he : starEach (e :: es) X.env = (false, eval e X.env) :: starEach es X.env := by rfl) (hpl : (backTo pos (starEach es X.env)).any (·.1) = false := by rfl) :
    DO X W0 (.Call (.Name x p) (e :: es) [] pos) (eCall m A) := PE.weak (pe_call (E := E0) F hr hg hm hk hb .nil pass0 ha hdb he hpl) fun σ H Q q => tCallO_ok rfl (fun _ _ _ _ _ _ _ h => h) hl q
end
theorem fn_len {Wf : XK → WK} {K : PySem.W.Frag} {n : Nat} {ro : Bool} {m : Mo D} {ps : List Str} (hn : ps.length = n) : ∀ vs H Q E, spM Wf K n ro m vs H Q E → vs.length = ps.length := fun _ _ _ _ h => h.1.trans hn.symm
theorem body_ok {Wf : XK → WK} {K : PySem.W.Frag} {n : Nat} {N : List Str} {body : Mo Out} {vs : List V} {H : Hp} {Q : VK} {E : XK} (hW2 : ∀ x δ σ δ2 σ2 G H, Wf E x δ σ G H → Wf E x δ2 σ2 G H) (h : spM Wf K n false (fnM N.length n body) vs H Q E) :
    tS K (Wf E) body { nx := fun _ H' => Q .non H', rt := Q } (L2.start N vs) H := by
  obtain ⟨hl, B, G, δ, r, δ', hio, a, hm, post⟩ := h
  unfold fnM at hm
  have a1 := a.start (N.length - n)
  have hs : L2.start N vs = vs.map some ++ List.replicate (N.length - n) none := by unfold L2.start; rw [hl]
  rw [hs]
  cases q : body (δ ++ List.replicate (N.length - n) .no) with
  | none => simp only [q] at hm; cases hm
  | some z =>
    obtain ⟨u, δ0⟩ := z
    simp only [q] at hm
    refine ⟨B, G, _, u, δ0, a1, q, ?_⟩
    cases u with
    | error x =>
      cases hm
      exact fun G' σ' H' a' x' => hW2 _ _ _ _ _ _ _ (post G' H' (a'.leave hl hio) x')
    | ok o =>
      cases o with
      | nx =>
        cases hm
        exact fun G' σ' H' a' x' => by
          have p := post G' H' (a'.leave hl hio) x'
          rw [if_neg Bool.false_ne_true] at p
          exact p _ .non
      | bk => cases hm
      | ct => cases hm
      | rt d =>
        cases hm
        exact fun G' σ' H' a' x' v rv => by
          have p := post G' H' (a'.leave hl hio) x'
          rw [if_neg Bool.false_ne_true] at p
          exact p v rv
      | rtO d =>
        cases hm
        refine fun G' σ' H' a' x' p hp => ?_
        obtain ⟨h1, h2, h3, h4⟩ := hp
        obtain ⟨ob, q1, qm, q2⟩ := h4.obj
        have pp := post (upd G' p ob) H' ((a'.fix q1 h1 h2 h3 (mut_notbl qm)).leave hl hio) (x'.trans (Ext.new h1))
        rw [if_neg Bool.false_ne_true] at pp
        exact pp _ (q2 _ upd_same (Ext.new h1))
theorem body_okO {Wf : XK → WK} {K : PySem.W.Frag} {n : Nat} {N : List Str} {body : Mo Out} {vs : List V} {H : Hp} {Q : VK} {E : XK} (hW2 : ∀ x δ σ δ2 σ2 G H, Wf E x δ σ G H → Wf E x δ2 σ2 G H) (h : spM Wf K n true (fnO N.length n body) vs H Q E) :
    tS K (Wf E) body { nx := fun _ H' => Q .non H', rt := Q } (L2.start N vs) H := by
  obtain ⟨hl, B, G, δ, r, δ', hio, a, hm, post⟩ := h
  unfold fnO at hm
  have a1 := a.start (N.length - n)
  have hs : L2.start N vs = vs.map some ++ List.replicate (N.length - n) none := by unfold L2.start; rw [hl]
  rw [hs]
  cases q : body (δ ++ List.replicate (N.length - n) .no) with
  | none => simp only [q] at hm; cases hm
  | some z =>
    obtain ⟨u, δ0⟩ := z
    simp only [q] at hm
    refine ⟨B, G, _, u, δ0, a1, q, ?_⟩
    cases u with
    | error x =>
      cases hm
      exact fun G' σ' H' a' x' => hW2 _ _ _ _ _ _ _ (post G' H' (a'.leave hl hio) x')
    | ok o =>
      cases o with
      | nx => cases hm
      | bk => cases hm
      | ct => cases hm
      | rt d => cases hm
      | rtO d =>
        cases hm
        refine fun G' σ' H' a' x' p hp => ?_
        have pp := post G' H' (a'.leave hl hio) x'
        rw [if_pos rfl] at pp
        exact pp p ⟨hp.1, hp.2.1, fun j z => hp.2.2.1 j (ios_back hio a' z), hp.2.2.2⟩
section
variable {P : Program} {w : World} {K : PySem.W.Frag} {mg : Str → Option Value} {base : Heap} {x qual : Str} {st : Stmt} {f : Addr} {fd : FuncData} {N ps : List Str} {k n : Nat} {body : Mo Out}
theorem fn_ok (F : Fun K x qual st f fd) (S : FnScope N ps (defScope st)) (hn : ps.length = n)
    (hb : ∀ (cdv : Value) (A : Around) (outer : List PySem.Env) (s : Shared) (H : Hp) (E : XK), Room k (A.deeper (envOfC qual (defScope st) s.heap.objs.size f cdv)) → DSs (cxOf CX0 P w K mg base N qual (defScope st) f cdv A outer s H E).nox W0 (defBody st) body) :
    FnOk P w K mg base CX0 (k + 1) f fd ps (spM Wn K n false (fnM N.length n body)) :=
  F.ok S (fn_len hn) fun cdv A outer s H vs Q E hr h => ⟨tS K W0 body, hb cdv A outer s H E hr, body_ok (E := E) (fun _ _ _ _ _ _ _ h => h) h⟩
theorem fn_okO (F : Fun K x qual st f fd) (S : FnScope N ps (defScope st)) (hn : ps.length = n)
    (hb : ∀ (cdv : Value) (A : Around) (outer : List PySem.Env) (s : Shared) (H : Hp) (E : XK), Room k (A.deeper (envOfC qual (defScope st) s.heap.objs.size f cdv)) → DSs (cxOf CX0 P w K mg base N qual (defScope st) f cdv A outer s H E).nox W0 (defBody st) body) :
    FnOk P w K mg base CX0 (k + 1) f fd ps (spM Wn K n true (fnO N.length n body)) :=
  F.ok S (fn_len hn) fun cdv A outer s H vs Q E hr h => ⟨tS K W0 body, hb cdv A outer s H E hr, body_okO (E := E) (fun _ _ _ _ _ _ _ h => h) h⟩
/-- the law: from the script to True -/
theorem sql_hid {H : Hp} {a : Addr} {xs : List V} (h : SqL K H a xs) : SqL K (hid H) a xs := by
  rcases h with (h | ⟨o, h⟩) | h
  · exact .inl (.inl (hid_nt h fun _ e => by cases e))
  · exact .inl (.inr ⟨o, hid_nt h fun _ e => by cases e⟩)
  · exact .inr h
theorem law_sp {m : Mo D} {H : Hp} {a : Addr} {ns : List Int} (tbs : ∀ P, tabOf K = some P → LamX.TabS H P tabQ) (hS : SqL K H a (ns.map V.int)) (hl : ns.length ≤ 63) (h : m [.imm (.scr (ns.map D.int))] = some (.ok (.bl true), [.no])) : spM Wn K 1 false m [.ref a] H (fun v _ => v = .bl true) fun _ _ _ => False := by
  have hS2 := sql_hid hS
  refine ⟨rfl, ⟨hid H, hid H, fun _ _ => none, []⟩, hid H, [.imm (.scr (ns.map D.int))], .ok (.bl true), [.no], (fun k p z => by cases z), ⟨fun b o e => .inl (hid_of e).1, Ext.refl _, fun _ _ e _ => (hid_of e).1, fun _ e => hid_ne e, fun _ _ _ _ e => e, fun _ _ e => (by cases e), fun _ _ _ e => (by cases e), fun _ _ e => absurd rfl e, rfl, fun i s e => ?_, fun i j p e1 _ => ?_, ⟨tbs, fun b ps e => (hid_of e).2 ps rfl, fun b ps e => (hid_of e).2 ps rfl, (fun _ _ _ e => (by cases e)), fun _ _ _ e => (by cases e)⟩⟩, h, fun G' H' a' x' => ?_⟩
  · cases i with
    | zero =>
      simp at e; subst e
      refine ⟨some (.ref a), rfl, .ref a, rfl, .scr hS2 ?_ ?_⟩
      · rw [List.length_map]; exact Nat.le_trans hl (by decide)
      · clear hS2 hS h hl
        induction ns with
        | nil => exact .nil
        | cons n ns ih => exact .cons (.int n) ih
    | succ i => simp at e
  · obtain ⟨⟨d, e | e⟩, _⟩ := e1
    · cases i with
      | zero => simp at e
      | succ i => simp at e
    · cases i with
      | zero => simp at e
      | succ i => simp at e
  · rw [if_neg Bool.false_ne_true]
    intro v rv
    cases rv
    rfl
end
end M
set_option Elab.async false
set_option linter.all false
set_option maxRecDepth 100000
namespace M
open PySem L2 PySem.Spec PyProof.Rows
section
variable {κ α : Type} [DecidableEq κ]
def lookA (l : List (κ × α)) (k : κ) : Option α := (l.find? fun kv => decide (kv.1 = k)).map (·.2)
def putA (l : List (κ × α)) (k : κ) (v : α) : List (κ × α) := if (l.any fun kv => decide (kv.1 = k)) = true then l.map (fun kv => if kv.1 = k then (kv.1, v) else kv) else l ++ [(k, v)]
variable {K : PySem.W.Frag} {G G' : Hp}
abbrev KVP (K : PySem.W.Frag) (G : Hp) : List (κ × V) → List (κ × D) → Prop := Paired fun p q => p.1 = q.1 ∧ R K G p.2 q.2
theorem kvp_of : ∀ {kvs : List (κ × V)} {ds : List (κ × D)}, kvs.map (·.1) = ds.map (·.1) → RL K G (kvs.map (·.2)) (ds.map (·.2)) → KVP K G kvs ds
  | [], [], _, _ => .nil
  | [], _ :: _, h, _ => by cases h
  | _ :: _, [], h, _ => by cases h
  | p :: kvs, q :: ds, h, r => by
    cases r with
    | cons r0 r1 =>
      have h1 : p.1 = q.1 := (List.cons.inj h).1
      exact .cons ⟨h1, r0⟩ (kvp_of (List.cons.inj h).2 r1)
theorem kvp_keys {kvs : List (κ × V)} {ds : List (κ × D)} (h : KVP K G kvs ds) : kvs.map (·.1) = ds.map (·.1) := by
  induction h with
  | nil => rfl
  | cons h _ ih => rw [List.map_cons, List.map_cons, h.1, ih]
theorem kvp_vals {kvs : List (κ × V)} {ds : List (κ × D)} (h : KVP K G kvs ds) : RL K G (kvs.map (·.2)) (ds.map (·.2)) := by
  induction h with
  | nil => exact .nil
  | cons h _ ih => exact .cons h.2 ih
theorem kvp_any {kvs : List (κ × V)} {ds : List (κ × D)} (h : KVP K G kvs ds) (k : κ) : (kvs.any fun kv => decide (kv.1 = k)) = (ds.any fun kv => decide (kv.1 = k)) := by
  induction h with
  | nil => rfl
  | cons h _ ih => rw [List.any_cons, List.any_cons, h.1, ih]
theorem kvp_look {kvs : List (κ × V)} {ds : List (κ × D)} (h : KVP K G kvs ds) (k : κ) : (∃ v d, valV kvs k = some v ∧ lookA ds k = some d ∧ R K G v d) ∨ (valV kvs k = none ∧ lookA ds k = none) := by
  induction h with
  | nil => exact .inr ⟨rfl, rfl⟩
  | cons h t ih =>
    rename_i p q kvs ds
    unfold valV lookA at ih ⊢
    rw [List.find?_cons, List.find?_cons, h.1]
    by_cases c : q.1 = k
    · rw [decide_eq_true c]
      exact .inl ⟨_, _, rfl, rfl, h.2⟩
    · rw [decide_eq_false c]
      exact ih
theorem kvp_map {f : κ × V → κ × V} {g : κ × D → κ × D} {kvs : List (κ × V)} {ds : List (κ × D)} (h : KVP K G kvs ds) (hf : ∀ p q, p.1 = q.1 → R K G p.2 q.2 → (f p).1 = (g q).1 ∧ R K G (f p).2 (g q).2) : KVP K G (kvs.map f) (ds.map g) := by
  induction h with
  | nil => exact .nil
  | cons h _ ih => exact .cons (hf _ _ h.1 h.2) ih
theorem kvp_append {kvs kvs' : List (κ × V)} {ds ds' : List (κ × D)} (h : KVP K G kvs ds) (h' : KVP K G kvs' ds') : KVP K G (kvs ++ kvs') (ds ++ ds') := by
  induction h with
  | nil => exact h'
  | cons h _ ih => exact .cons h ih
theorem kvp_put {kvs : List (κ × V)} {ds : List (κ × D)} (h : KVP K G kvs ds) (k : κ) {v : V} {d : D} (r : R K G v d) : KVP K G (putK kvs k v) (putA ds k d) := by
  unfold putK putA
  rw [kvp_any h k]
  split
  · refine kvp_map h fun p q e r' => ?_
    rw [e]
    split
    · exact ⟨rfl, r⟩
    · exact ⟨e, r'⟩
  · exact kvp_append h (.cons ⟨rfl, r⟩ .nil)
end
def keyK : D → Option Key
  | .int i => some (.inl i)
  | .str s => some (.inr s)
  | _ => none
def keysK : List D → Option (List Key)
  | [] => some []
  | d :: ds => match keyK d with
    | none => none
    | some k => match keysK ds with
      | none => none
      | some ks => some (k :: ks)
section
variable {K : PySem.W.Frag} {G G' H : Hp}
theorem keyK_ok {v : V} {d : D} {k : Key} (r : R K G v d) (h : keyK d = some k) : v = kV k := by
  cases r <;> cases h <;> rfl
theorem keysK_ok : ∀ {vs : List V} {ds : List D} {k : List Key}, RL K G vs ds → keysK ds = some k → vs = k.map kV
  | _, _, _, .nil, h => by cases h; rfl
  | _, d :: ds, _, .cons r t, h => by
    unfold keysK at h
    cases q : keyK d with
    | none => rw [q] at h; cases h
    | some k =>
      rw [q] at h
      simp only [] at h
      cases q2 : keysK ds with
      | none => rw [q2] at h; cases h
      | some ks => rw [q2] at h; cases h; rw [keyK_ok r q, keysK_ok t q2, List.map_cons]
/-- a key as data -/
def kD : Key → D
  | .inl i => .int i
  | .inr s => .str s
theorem kD_ok (k : Key) : R K G (kV k) (kD k) := by cases k <;> constructor
theorem kDs_ok : ∀ ks : List Key, RL K G (ks.map kV) (ks.map kD)
  | [] => .nil
  | k :: ks => .cons (kD_ok k) (kDs_ok ks)
end
/-- what a dict holds at a key; the key no key: none -/
def dGet : D → D → Option (Option D)
  | .dK l, k => (keyK k).map fun k => lookA l k
  | .dT l, .tup ks => (keysK ks).map fun k => lookA l k
  | _, _ => none
def dPut : D → D → D → Option D
  | .dK l, k, v => (keyK k).bind fun k => if l.length < sizeLine then some (.dK (putA l k v)) else none
  | .dT l, .tup ks, v => (keysK ks).bind fun k => if l.length < sizeLine then some (.dT (putA l k v)) else none
  | _, _, _ => none
section
variable {K : PySem.W.Frag} {B : Bs} {G H : Hp} {δ : Env} {σ : St}
/-- the own object p is stored into -/
theorem dPut_ok {p : Addr} {y v : V} {d k e d' : D} (vw : Vw G H) (w : Ow K G H p d) (ry : R K G y k) (rv : R K G v e) (h : dPut d k e = some d') : ∃ o, DPut H p y v (upd H p o) ∧ Mut (some o) ∧ Ow K G (upd H p o) p d' := by
  cases w with
  | lst => cases h
  | dK hp l hk r =>
    rename_i kvs ds
    have h : ((keyK k).bind fun k => if ds.length < sizeLine then some (D.dK (putA ds k e)) else none) = some d' := h
    cases q : keyK k with
    | none => rw [q] at h; cases h
    | some kk =>
      rw [q, Option.bind_some] at h
      split at h
      · rename_i hl
        cases h
        have kp := kvp_put (kvp_of hk r) kk rv
        have hlen := congrArg List.length hk
        rw [List.length_map, List.length_map] at hlen
        have := length_putK kvs kk v
        exact ⟨.dK (putK kvs kk v), .inl ⟨kvs, kk, hp, keyK_ok ry q, by omega, rfl⟩, trivial, .dK upd_same (by omega) (kvp_keys kp) (kvp_vals kp)⟩
      · cases h
  | dT hp l hk r =>
    rename_i kvs ds
    cases ry with
    | tup g2 l2 r2 =>
      rename_i b xs ks
      have h : ((keysK ks).bind fun k => if ds.length < sizeLine then some (D.dT (putA ds k e)) else none) = some d' := h
      cases q : keysK ks with
      | none => rw [q] at h; cases h
      | some kk =>
        rw [q, Option.bind_some] at h
        split at h
        · rename_i hl
          cases h
          have hx := keysK_ok r2 q
          subst hx
          have kp := kvp_put (kvp_of hk r) kk rv
          have hlen := congrArg List.length hk
          rw [List.length_map, List.length_map] at hlen
          have := length_putK kvs kk v
          exact ⟨.dT (putK kvs kk v), .inr ⟨kvs, kk, b, hp, rfl, vw.tup g2, by omega, rfl⟩, trivial, .dT upd_same (by omega) (kvp_keys kp) (kvp_vals kp)⟩
        · cases h
    | _ => cases h
end
def Bs.add (B : Bs) (D : Addr) (o : HO) : Bs := { B with H0 := upd B.H0 D o }
def Out1 (B : Bs) (D : Addr) : Prop := B.H0 D = none ∧ B.G0 D = none ∧ (∀ j, B.Bo j D = none) ∧ ∀ i, (i, D) ∉ B.IO
section
variable {K : PySem.W.Frag} {B : Bs} {G G' H H' : Hp} {δ δ' : Env} {σ σ' : St} {D1 : Addr} {o o' : HO}
theorem At.out1 (a : At K B G δ σ H) (h0 : B.H0 D1 = none) (g : G D1 = none) : Out1 B D1 := by
  refine ⟨h0, ?_, fun j => ?_, fun i e => (a.iok i D1 e).2.1 h0⟩
  · cases z : B.G0 D1 with
    | none => rfl
    | some u => rw [a.g0 D1 u z] at g; cases g
  · cases z : B.Bo j D1 with
    | none => rfl
    | some u => exact absurd h0 (a.bod j D1 (by rw [z]; simp))
theorem At.add (a : At K B G δ σ H) (nt : NT o) (h : H D1 = some o) (g : G D1 = none) (no : ∀ j, ¬ OwnAt δ σ j D1) : At K (B.add D1 o) G δ σ H := by
  refine ⟨a.vw, a.g0, fun b u e z => ?_, fun b e => ?_, fun b u e t z => ?_, fun i b e => ?_, a.bo, fun j b e => ?_, a.len, fun i s e => ?_, a.apart, ⟨a.tb.1, notbl_upd a.tb.2.1 nt.tbl, a.tb.2.2.1, a.tb.2.2.2.1, fun i b xs e z => (by
    have z : upd B.H0 D1 o b = some (.tup xs) := z
    by_cases c : b = D1
    · rw [c, upd_same] at z; cases z; exact nt.tup _ rfl
    · rw [upd_ne c] at z; exact a.tb.2.2.2.2 i b xs e z)⟩⟩
  · by_cases c : b = D1
    · subst c; have e : upd B.H0 b o b = some u := e; rw [upd_same] at e; cases e; exact h
    · have e : upd B.H0 D1 o b = some u := e; rw [upd_ne c] at e; exact a.keep b u e z
  · by_cases c : b = D1
    · rw [c, h]; simp
    · have e : upd B.H0 D1 o b ≠ none := e; rw [upd_ne c] at e; exact a.dom b e
  · by_cases c : b = D1
    · rw [c]; exact g
    · have e : upd B.H0 D1 o b = some u := e; rw [upd_ne c] at e; exact a.leak b u e t z
  · obtain ⟨a1, a2, a3, a4⟩ := a.iok i b e
    refine ⟨a1, ?_, a3, a4⟩
    show upd B.H0 D1 o b ≠ none
    by_cases c : b = D1
    · rw [c, upd_same]; simp
    · rw [upd_ne c]; exact a2
  · show upd B.H0 D1 o b ≠ none
    by_cases c : b = D1
    · rw [c, upd_same]; simp
    · rw [upd_ne c]; exact a.bod j b e
  · obtain ⟨ov, h1, h2⟩ := a.sl i s e
    refine ⟨ov, h1, ?_⟩
    cases s with
    | own d =>
      obtain ⟨p, q1, q2, q3, q4⟩ := h2
      subst q1
      have c : p ≠ D1 := fun c => by subst c; exact no i ⟨⟨d, .inl e⟩, h1⟩
      exact ⟨p, rfl, q2, q3, by show upd B.H0 D1 o p = none; rw [upd_ne c]; exact q4⟩
    | _ => exact h2
theorem At.drop (a : At K (B.add D1 o) G δ σ H) (b : Out1 B D1) (t : NT o) : H D1 = some o ∧ G D1 = none ∧ (∀ j, ¬ OwnAt δ σ j D1) ∧ ∀ o', At K B G δ σ (upd H D1 o') := by
  obtain ⟨b1, b2, b3, b4⟩ := b
  have hD : H D1 = some o := a.keep D1 o upd_same b4
  have gD : G D1 = none := a.leak D1 o upd_same t.tup b2
  have no : ∀ j, ¬ OwnAt δ σ j D1 := fun j z => by
    obtain ⟨⟨d, e | e⟩, z2⟩ := z
    · obtain ⟨p, q1, _, _, q4⟩ := a.own e
      rw [q1] at z2; cases z2
      have q4 : upd B.H0 D1 o D1 = none := q4
      rw [upd_same] at q4; cases q4
    · obtain ⟨p, q1, _, _, q4⟩ := a.io e
      rw [q1] at z2; cases z2
      exact b4 j q4
  refine ⟨hD, gD, no, fun o' => ⟨fun c u e => ?_, a.g0, fun c u e z => ?_, fun c e => ?_, fun c u e t z => ?_, fun i c e => ?_, fun j c u e => ?_, fun j c e => ?_, a.len, fun i s e => ?_, a.apart, ⟨fun P hP => tabS_upd (a.tb.1 P hP) hD t, fun b ps e => (by
    by_cases n : b = D1
    · rw [n, b1] at e; cases e
    · exact a.tb.2.1 b ps (by show upd B.H0 D1 o b = _; rw [upd_ne n]; exact e)), a.tb.2.2.1, a.tb.2.2.2.1, fun i b xs e z => (by
    by_cases n : b = D1
    · rw [n, b1] at z; cases z
    · exact a.tb.2.2.2.2 i b xs e (by show upd B.H0 D1 o b = _; rw [upd_ne n]; exact z))⟩⟩⟩
  · rw [upd_ne (fun q => by rw [q, gD] at e; cases e)]; exact a.vw c u e
  · have n : c ≠ D1 := fun q => by rw [q, b1] at e; cases e
    rw [upd_ne n]; exact a.keep c u (by show upd B.H0 D1 o c = some u; rw [upd_ne n]; exact e) z
  · by_cases n : c = D1
    · rw [n, upd_same]; simp
    · rw [upd_ne n]; exact a.dom c (by show upd B.H0 D1 o c ≠ none; rw [upd_ne n]; exact e)
  · have n : c ≠ D1 := fun q => by rw [q, b1] at e; cases e
    exact a.leak c u (by show upd B.H0 D1 o c = some u; rw [upd_ne n]; exact e) t z
  · obtain ⟨a1, a2, a3, u, a4, a5⟩ := a.iok i c e
    have n : c ≠ D1 := fun q => by rw [q] at e; exact b4 i e
    have a2 : upd B.H0 D1 o c ≠ none := a2
    rw [upd_ne n] at a2
    exact ⟨a1, a2, a3, u, by rw [upd_ne n]; exact a4, a5⟩
  · have n : c ≠ D1 := fun q => by rw [q, b3 j] at e; cases e
    rw [upd_ne n]; exact a.bo j c u e
  · have n : c ≠ D1 := fun q => by rw [q] at e; exact e (b3 j)
    have := a.bod j c e
    have this : upd B.H0 D1 o c ≠ none := this
    rw [upd_ne n] at this; exact this
  · obtain ⟨ov, h1, h2⟩ := a.sl i s e
    refine ⟨ov, h1, ?_⟩
    cases s with
    | no => trivial
    | imm d => exact h2
    | bor d => exact h2
    | own d =>
      obtain ⟨p, q1, q2, q3, q4⟩ := h2
      subst q1
      have c : p ≠ D1 := fun c => by subst c; exact no i ⟨⟨d, .inl e⟩, h1⟩
      have q4 : upd B.H0 D1 o p = none := q4
      rw [upd_ne c] at q4
      exact ⟨p, rfl, q2, q3.at' (upd_ne c), q4⟩
    | io d =>
      obtain ⟨p, q1, q2, q3, q4⟩ := h2
      subst q1
      have c : p ≠ D1 := fun c => by subst c; exact no i ⟨⟨d, .inr e⟩, h1⟩
      exact ⟨p, rfl, q2, q3.at' (upd_ne c), q4⟩
theorem BLe.add (h : B.H0 D1 = none) : BLe B (B.add D1 o) := ⟨Ext.new h, rfl⟩
/-- own slots of a comprehension are forgotten -/
def wipeE (δ : Env) : List Nat → Env
  | [] => δ
  | v :: vs => (wipeE δ vs).set v .no
theorem wipeE_len (δ : Env) : ∀ vs, (wipeE δ vs).length = δ.length
  | [] => rfl
  | v :: vs => by unfold wipeE; rw [List.length_set, wipeE_len]
theorem wipeE_get : ∀ {vs : List Nat} {j : Nat} {s : Sl}, (wipeE δ vs)[j]? = some s → s = .no ∨ (j ∉ vs ∧ δ[j]? = some s)
  | [], j, s, e => .inr ⟨by simp, e⟩
  | v :: vs, j, s, e => by
    unfold wipeE at e
    rcases get_set e with ⟨_, rfl, _⟩ | ⟨c, e⟩
    · exact .inl rfl
    · rcases wipeE_get e with h | ⟨h1, h2⟩
      · exact .inl h
      · exact .inr ⟨fun q => (List.mem_cons.mp q).elim (fun q => c q.symm) h1, h2⟩
theorem wipe_at : ∀ {vs : List Nat} (j : Nat), (wipe σ vs)[j]? = if j ∈ vs ∧ j < σ.length then some none else σ[j]?
  | [], j => by rw [if_neg (fun h => by cases h.1)]; rfl
  | v :: vs, j => by
    unfold wipe
    by_cases c : v = j
    · subst c
      by_cases z : v < σ.length
      · rw [List.getElem?_set_self (by rw [wipe_length]; exact z), if_pos ⟨List.mem_cons_self, z⟩]
      · rw [List.getElem?_eq_none (by rw [List.length_set, wipe_length]; omega), if_neg (fun h => z h.2), List.getElem?_eq_none (by omega)]
    · rw [List.getElem?_set_ne c, wipe_at j]
      have : (j ∈ v :: vs ∧ j < σ.length) ↔ (j ∈ vs ∧ j < σ.length) := by
        rw [List.mem_cons]
        exact ⟨fun ⟨h, z⟩ => ⟨h.elim (fun q => absurd q.symm c) id, z⟩, fun ⟨h, z⟩ => ⟨.inr h, z⟩⟩
      by_cases z : j ∈ vs ∧ j < σ.length
      · rw [if_pos z, if_pos (this.mpr z)]
      · rw [if_neg z, if_neg (fun q => z (this.mp q))]
theorem wipe_out {vs : List Nat} {j : Nat} (h : j ∉ vs) : (wipe σ vs)[j]? = σ[j]? := by rw [wipe_at, if_neg (fun q => h q.1)]
theorem wipe_eq {vs : List Nat} (hl : σ'.length = σ.length) (h : ∀ j, j ∉ vs → σ'[j]? = (wipe σ vs)[j]?) : wipe σ' vs = wipe σ vs := by
  apply List.ext_getElem?
  intro j
  by_cases c : j ∈ vs
  · rw [wipe_at, wipe_at, hl]
    by_cases z : j < σ.length
    · rw [if_pos ⟨c, z⟩, if_pos ⟨c, z⟩]
    · rw [if_neg (fun q => z q.2), if_neg (fun q => z q.2), List.getElem?_eq_none (by omega), List.getElem?_eq_none (by omega)]
  · rw [wipe_out c, h j c]
theorem At.wipe (a : At K B G δ σ H) (vs : List Nat) : At K B G (wipeE δ vs) (L2.wipe σ vs) H := a.forget (by rw [wipeE_len, wipe_length]; exact a.len) fun j s e => by
  rcases wipeE_get e with h | ⟨h1, h2⟩
  · exact .inl h
  · exact .inr ⟨h2, wipe_out h1⟩
/-- behind a turn: the slots of the comprehension's own names forgotten again -/
theorem At.wipe' {vs : List Nat} (a : At K B G δ σ' H) (hw : L2.wipe σ' vs = L2.wipe σ vs) : At K B G (wipeE δ vs) (L2.wipe σ vs) H := by rw [← hw]; exact a.wipe vs
theorem At.unwipe {vs : List Nat} (a : At K B G δ (L2.wipe σ vs) H) (hn : ∀ j ∈ vs, ∀ s, δ[j]? = some s → s = .no) : At K B G δ σ H := a.forget (by rw [a.len, wipe_length]) fun j s e => by
  by_cases c : j ∈ vs
  · exact .inl (hn j c s e)
  · exact .inr ⟨e, (wipe_out c).symm⟩
theorem wipeE_no {vs : List Nat} : ∀ j ∈ vs, ∀ s, (wipeE δ vs)[j]? = some s → s = .no := fun j hj s e => by
  rcases wipeE_get e with h | ⟨h, _⟩
  · exact h
  · exact absurd hj h
end
def lcM (T : D → Mo Unit) (C : Mo Bool) (E : Mo D) (vs : List Nat) : List D → List D → Mo D
  | [], acc => fun δ => some (.ok (.lst acc), δ)
  | d :: ds, acc => fun δ => match T d δ with
    | some (.ok (), δ1) => match C δ1 with
      | some (.ok true, δ2) => match E δ2 with
        | some (.ok x, δ3) => lcM T C E vs ds (acc ++ [x]) (wipeE δ3 vs)
        | _ => none
      | some (.ok false, δ2) => lcM T C E vs ds acc (wipeE δ2 vs)
      | _ => none
    | _ => none
def eLc (I : Mo (List D)) (T : D → Mo Unit) (C : Mo Bool) (E : Mo D) (vs : List Nat) : Mo D := I.bind fun ds => fun δ => if ds.length ≤ sizeLine then lcM T C E vs ds [] (wipeE δ vs) else none
section
variable {K : PySem.W.Frag} {W : WK} {B : Bs} {G H : Hp} {δ δ' : Env} {σ : St} {β : Type} {r : Except Exn β} {ok : β → Hp → Hp → Prop}
theorem tI_bind {E : Mo (List D)} {k : List D → Mo β} {Q : It → Hp → Prop} (a : At K B G δ σ H) (h : Mo.bind E k δ = some (r, δ')) (post : Post K W B G σ r δ' ok)
    (q : ∀ J H1 G1 δ1 d, At K B G1 δ1 σ H1 → Ext G G1 → Yl K B J G1 d → k d δ1 = some (r, δ') → Post K W B G1 σ r δ' ok → Q J H1) : tI K W E σ H Q := by
  unfold Mo.bind at h
  cases e : E δ with
  | none => rw [e] at h; cases h
  | some z =>
    obtain ⟨x, δ1⟩ := z
    rw [e] at h
    cases x with
    | error x => cases h; exact ⟨B, G, δ, .error x, _, a, e, post⟩
    | ok d => exact ⟨B, G, δ, .ok d, δ1, a, e, fun G1 H1 a1 e1 v rv => q v H1 G1 δ1 d a1 e1 rv h (post.mono e1)⟩
end
section
variable {K : PySem.W.Frag} {W : WK} {I : Mo (List D)} {sl vs : List Nat} {T : D → Mo Unit} {C : Mo Bool} {E Ek : Mo D} {σ : St} {H : Hp} {Q : VK}
theorem tLc_at {B : Bs} {G1 H1 : Hp} {δ1 δ' : Env} {J : It} {ds : List D} {r : Except Exn D} (hsl : ∀ j ∈ sl, j ∈ vs) (a1 : At K B G1 δ1 σ H1) (yl : Yl K B J G1 ds) (e2 : (if ds.length ≤ sizeLine then lcM T C E vs ds [] (wipeE δ1 vs) else none) = some (r, δ')) (post : Post K W B G1 σ r δ' (fun d G' H' => ∀ p, Fr1 K B G' δ' σ H' p d → Q (.ref p) H')) : tLc (wiJ J) (tG K sl T) (tT K W0 C) (tE K W0 E) vs σ H1 Q := by
  intro D1 hD
  split at e2
  · rename_i hlen
    have b0 := a1.fresh0 hD
    have ot := a1.out1 b0 (a1.vw.none hD)
    refine ⟨fun i m H2 => m + i = ds.length ∧ ∃ G2 δ2 acc xs, At K B G2 δ2 (wipe σ vs) H2 ∧ Ext G1 G2 ∧ H2 D1 = some (.lst xs) ∧ RL K G2 xs acc ∧ xs.length ≤ i ∧ G2 D1 = none ∧ (∀ j, ¬ OwnAt δ2 (wipe σ vs) j D1) ∧ (∀ j ∈ vs, ∀ s, δ2[j]? = some s → s = .no) ∧ lcM T C E vs (ds.drop i) acc δ2 = some (r, δ'),
      ⟨ds.length, by omega, G1, wipeE δ1 vs, [], [], (a1.alloc hD).wipe vs, Ext.refl _, upd_same, .nil, Nat.zero_le _, a1.vw.none hD, (a1.wipe vs).noOwn hD, wipeE_no, e2⟩, ?_⟩
    rintro i m H2 ⟨hm, G2, δ2, acc, xs, a2, x2, hx, rx, hxl, g2, no2, hno, e3⟩
    by_cases hi : ds.length ≤ i
    · refine .inl ⟨(yl B G2 H2 δ2 _ (BLe.refl B) a2 x2 i).2 hi, ?_⟩
      rw [List.drop_eq_nil_of_le hi] at e3
      cases e3
      have a3 := a2.unwipe hno
      refine post G2 H2 a3 x2 D1 ⟨g2, b0, fun j z => ?_, .lst hx (by omega) rx⟩
      obtain ⟨⟨d, z1⟩, z2⟩ := z
      by_cases c : j ∈ vs
      · rcases z1 with z1 | z1
        · cases hno j c _ z1
        · cases hno j c _ z1
      · exact no2 j ⟨⟨d, z1⟩, by rw [wipe_out c]; exact z2⟩
    · have hlt : i < ds.length := by omega
      have a2' := a2.add nt_lst hx g2 no2
      obtain ⟨y1, _⟩ := yl (B.add D1 (.lst xs)) G2 H2 δ2 _ (BLe.add b0) a2' x2 i
      obtain ⟨gg1, gg2⟩ := y1 ds[i] (List.getElem?_eq_getElem hlt)
      rw [List.drop_eq_getElem_cons hlt] at e3
      refine .inr ⟨gg1, fun H' => ∃ m', m' < m ∧ (m' + (i + 1) = ds.length ∧ ∃ G2 δ2 acc xs, At K B G2 δ2 (wipe σ vs) H' ∧ Ext G1 G2 ∧ H' D1 = some (.lst xs) ∧ RL K G2 xs acc ∧ xs.length ≤ i + 1 ∧ G2 D1 = none ∧ (∀ j, ¬ OwnAt δ2 (wipe σ vs) j D1) ∧ (∀ j ∈ vs, ∀ s, δ2[j]? = some s → s = .no) ∧ lcM T C E vs (ds.drop (i + 1)) acc δ2 = some (r, δ')), fun H' z => z, fun x H' hy => ?_⟩
      obtain ⟨rfl, G3, a3, x3, r3⟩ := gg2 x H' hy
      unfold lcM at e3
      cases q : T ds[i] δ2 with
      | none => simp only [q] at e3; cases e3
      | some z =>
        obtain ⟨u, δ3⟩ := z
        cases u with
        | error u => simp only [q] at e3; cases e3
        | ok u =>
          simp only [q] at e3
          refine ⟨B.add D1 (.lst xs), G3, δ2, ds[i], δ3, a3, r3, q, fun σ4 a4 oa => ?_⟩
          have hw : wipe σ4 vs = wipe σ vs := wipe_eq (oa.1.trans (wipe_length _ _)) fun j hj => oa.2 j fun c => hj (hsl j c)
          refine ⟨hw, ?_⟩
          -- the turn's end
          have fin : ∀ {G5 H5 δ5 ys acc'}, At K (B.add D1 (.lst xs)) G5 δ5 σ4 H5 → Ext G3 G5 → RL K G5 ys acc' → ys.length ≤ i + 1 → lcM T C E vs (ds.drop (i + 1)) acc' (wipeE δ5 vs) = some (r, δ') → ∃ m', m' < m ∧ (m' + (i + 1) = ds.length ∧ ∃ G2 δ2 acc xs, At K B G2 δ2 (wipe σ vs) (upd H5 D1 (.lst ys)) ∧ Ext G1 G2 ∧ (upd H5 D1 (.lst ys)) D1 = some (.lst xs) ∧ RL K G2 xs acc ∧ xs.length ≤ i + 1 ∧ G2 D1 = none ∧ (∀ j, ¬ OwnAt δ2 (wipe σ vs) j D1) ∧ (∀ j ∈ vs, ∀ s, δ2[j]? = some s → s = .no) ∧ lcM T C E vs (ds.drop (i + 1)) acc δ2 = some (r, δ')) := fun {G5 H5 δ5 ys acc'} a5 x5 r5 l5 e5 => by
            obtain ⟨h1, h2, h3, h4⟩ := (a5.wipe' hw).drop ot nt_lst
            exact ⟨m - 1, by omega, by omega, G5, wipeE δ5 vs, acc', ys, h4 _, (x2.trans x3).trans x5, upd_same, r5, l5, h2, h3, wipeE_no, e5⟩
          cases qc : C δ3 with
          | none => simp only [qc] at e3; cases e3
          | some z =>
            obtain ⟨u, δ4⟩ := z
            cases u with
            | error u => simp only [qc] at e3; cases e3
            | ok b =>
              refine ⟨_, G3, δ3, .ok b, δ4, a4, qc, fun G4 H4 a5 x5 => ?_⟩
              cases b with
              | false =>
                simp only [qc] at e3
                rw [if_neg Bool.false_ne_true]
                have f := fin a5 x5 (rx.mono ((x3).trans x5)) (by omega) e3
                have hk := (a5.drop ot nt_lst).1
                have : upd H4 D1 (.lst xs) = H4 := by
                  funext b; by_cases c : b = D1
                  · subst c; rw [upd_same, hk]
                  · rw [upd_ne c]
                rw [this] at f; exact f
              | true =>
                simp only [qc] at e3
                rw [if_pos rfl]
                cases qe : E δ4 with
                | none => simp only [qe] at e3; cases e3
                | some z =>
                  obtain ⟨u, δ5⟩ := z
                  cases u with
                  | error u => simp only [qe] at e3; cases e3
                  | ok xd =>
                    simp only [qe] at e3
                    refine ⟨_, G4, δ4, .ok xd, δ5, a5, qe, fun G6 H6 a6 x6 v rv => ?_⟩
                    refine ⟨xs, (a6.drop ot nt_lst).1, by omega, ?_⟩
                    exact fin a6 (x5.trans x6) (.append (rx.mono ((x3.trans x5).trans x6)) (.cons rv .nil)) (by rw [List.length_append]; show xs.length + 1 ≤ i + 1; omega) e3
  · cases e2
theorem tLc_ok (hsl : ∀ j ∈ sl, j ∈ vs) (q : tO K W (eLc I T C E vs) σ H Q) : tLc (tI K W I) (tG K sl T) (tT K W0 C) (tE K W0 E) vs σ H Q := by
  obtain ⟨B, G, δ, r, δ', a, e1, post⟩ := q
  exact tI_bind a e1 post fun J H1 G1 δ1 ds a1 x1 yl e2 post => tLc_at hsl a1 yl e2 post
end
section
variable {X : Cx} {W : WK} {elt tg iter : Expr} {ifs : List Expr} {scope : Scope} {own : List (Str × Nat)} {pos : Pos} {I : Mo (List D)} {sl : List Nat} {T : D → Mo Unit} {C : Mo Bool} {E : Mo D}
def DTs (X : Cx) (W : WK) (ifs : List Expr) (C : Mo Bool) : Prop := PTs X ifs (tT X.K W C)
def tYesM : Mo Bool := Mo.ret true
theorem dts_nil {X : Cx} {W : WK} : DTs X W [] tYesM := ⟨fun pins s σ H Q I ⟨B, G, δ, r, δ', a, e1, post⟩ => pts_nil.run pins s σ H Q I (by cases e1; exact post G H a (Ext.refl _))⟩
theorem dts_one {X : Cx} {W : WK} {c : Expr} {C : Mo Bool} (h : DT X W c C) : DTs X W [c] C := pts_one h
theorem do_lc (hc : X.calm = true) (hN : X.N.Nodup) (hi : DI X W tg iter I) (ok : BlkOk X.N X.env.scope scope own) (hsl : ∀ j ∈ sl, j ∈ own.map (·.2))
    (hg : ∀ (s : Shared) (H : Hp) (Ca : Addr) (cl : List (Str × Addr)) (fp : List Addr), DG (X.blk s H scope (compEnvC scope cl Ca X.env) fp) tg sl T) (ht : ∀ (s : Shared) (H : Hp) (Ca : Addr) (cl : List (Str × Addr)) (fp : List Addr), DTs (X.blk s H scope (compEnvC scope cl Ca X.env) fp) W0 ifs C)
    (he : ∀ (s : Shared) (H : Hp) (Ca : Addr) (cl : List (Str × Addr)) (fp : List Addr), DE (X.blk s H scope (compEnvC scope cl Ca X.env) fp) W0 elt E) (hs : ∀ x, foldedSetIterable iter X.env x = pure x := by intro _; rfl) :
    DO X W (.ListComp elt [⟨tg, iter, ifs, 0⟩] scope pos) (eLc I T C E (own.map (·.2))) := PE.weak (pe_lc (g := tG X.K sl T) (tt := tT X.K W0 C) (te := tE X.K W0 E) hc hN hi ok hg ht he hs) fun σ H Q q => tLc_ok hsl q
theorem tAsgO_ok {K : PySem.W.Frag} {t : TE} {i : Nat} {Dn : Ends} {σ : St} {H : Hp} (ht : ∀ Q, tO K W E σ H Q → t σ H Q) (q : tS K W (sAsgO i E) Dn σ H) : tAsg t (gName i) Dn σ H := by
  obtain ⟨B, G, δ, r, δ', a, e1, post⟩ := q
  refine ht _ (tO_bindS a e1 post fun v H1 G1 δ1 d a1 x1 r1 e2 post => ?_)
  obtain ⟨w1, w2, w3, w4⟩ := r1
  rcases unit_bind e2 with ⟨q, rfl⟩ | ⟨x, q, rfl⟩
  · unfold gO at q
    split at q
    · cases q
      exact post G1 _ H1 (a1.setOwn w1 w4 w2 w3 i) (Ext.refl _)
    · cases q
  · unfold gO at q; split at q <;> cases q
theorem ds_setLcO {i : Nat} {y : Str} {py spos : Pos} (hc : X.calm = true) (hN : X.N.Nodup) (hy : X.N[i]? = some y) (hyl : X.env.scope.names.lookup y = some .local)
    (hsw : swapsWith (.ListComp elt [⟨tg, iter, ifs, 0⟩] scope pos) (some (.Name y py)) spos.line X.env = pure true) (hi : DI X W tg iter I) (ok : BlkOk X.N X.env.scope scope own) (hsl : ∀ j ∈ sl, j ∈ own.map (·.2))
    (hg : ∀ (s : Shared) (H : Hp) (Ca : Addr) (cl : List (Str × Addr)) (fp : List Addr), DG (X.blk s H scope (compEnvC scope cl Ca X.env) fp) tg sl T) (ht : ∀ (s : Shared) (H : Hp) (Ca : Addr) (cl : List (Str × Addr)) (fp : List Addr), DTs (X.blk s H scope (compEnvC scope cl Ca X.env) fp) W0 ifs C)
    (he : ∀ (s : Shared) (H : Hp) (Ca : Addr) (cl : List (Str × Addr)) (fp : List Addr), DE (X.blk s H scope (compEnvC scope cl Ca X.env) fp) W0 elt E) (hs : ∀ x, foldedSetIterable iter X.env x = pure x := by intro _; rfl) :
    DS X W (.Assign [.Name y py] (.ListComp elt [⟨tg, iter, ifs, 0⟩] scope pos) spos) (sAsgO i (eLc I T C E (own.map (·.2)))) := PS.weak (ps_setLc (g := tG X.K sl T) (tt := tT X.K W0 C) (te := tE X.K W0 E) hc hN hy hyl hsw hi ok hg ht he hs) fun Dn σ H q => tAsgO_ok (fun Q z => tLc_ok hsl z) q
end
end M
set_option Elab.async false
set_option linter.all false
set_option maxRecDepth 100000
namespace M
open PySem L2 PySem.Spec PyProof.Rows
section
variable {X : Cx} {W : WK} {e a b c : Expr} {pos : Pos} {E Ea Eb Ec : Mo D}
def dAdd : D → D → Option D
  | .int i, .int j => some (.int (i + j))
  | .str x, .str y => if x.length + y.length ≤ sizeLine then some (.str (x ++ y)) else none
  | .lst x, .lst y => if x.length + y.length ≤ sizeLine then some (.lst (x ++ y)) else none
  | .tup x, .tup y => if x.length + y.length ≤ sizeLine then some (.tup (x ++ y)) else none
  | _, _ => none
abbrev rAddA (K : PySem.W.Frag) : R2 := fun x y H Q => (rI0 (fun i j => .int (i + j)) x y H Q ∨ (∃ i j, x = .str i ∧ y = .str j ∧ i.length + j.length ≤ sizeLine ∧ Q (.str (i ++ j)) H)) ∨ (rCat x y H Q ∨ rCatA K x y H Q)
theorem op_addA : OpR X (binaryOp .Add) (rAddA X.K) := OpR.or (OpR.or op_add op_add_str) (OpR.or op_cat op_catA)
theorem snd_add : Snd2 X.K dAdd (rAddA X.K) := fun B G H δ σ x y a b d Q at' rx ry h k => by
  cases rx with
  | int i =>
    cases ry with
    | int j => cases h; exact .inl (.inl ⟨i, j, rfl, rfl, k _ G H at' (Ext.refl _) (.int _)⟩)
    | _ => cases h
  | str i =>
    cases ry with
    | str j =>
      have h : (if i.length + j.length ≤ sizeLine then some (D.str (i ++ j)) else none) = some d := h
      split at h
      · rename_i hl; cases h; exact .inl (.inr ⟨i, j, rfl, rfl, hl, k _ G H at' (Ext.refl _) (.str _)⟩)
      · cases h
    | _ => cases h
  | lst g l r =>
    cases ry with
    | lst g2 l2 r2 =>
      rename_i p xs ds q ys es
      have h : (if ds.length + es.length ≤ sizeLine then some (D.lst (ds ++ es)) else none) = some d := h
      split at h
      · rename_i hl
        cases h
        rw [← r.length, ← r2.length] at hl
        refine .inr (.inl ⟨p, q, xs, ys, rfl, rfl, at'.vw.lst g, at'.vw.lst g2, hl, fun z hz => ?_⟩)
        have ex := Ext.new (o := .lst (xs ++ ys)) (at'.vw.none hz)
        exact k _ _ _ (at'.laid hz fun _ z => by cases z) ex (.lst upd_same (by rw [List.length_append]; exact hl) ((r.append r2).mono ex))
      · cases h
    | _ => cases h
  | tup g l r =>
    cases ry with
    | tup g2 l2 r2 =>
      rename_i p xs ds q ys es
      have h : (if ds.length + es.length ≤ sizeLine then some (D.tup (ds ++ es)) else none) = some d := h
      split at h
      · rename_i hl
        cases h
        rw [← r.length, ← r2.length] at hl
        refine .inr (.inr ⟨p, q, xs, ys, rfl, rfl, SqT.of (at'.vw.tup g), SqT.of (at'.vw.tup g2), hl, fun hx => ?_, fun hx hy => ?_, fun hx hy z hz => ?_⟩)
        · subst hx
          cases r
          exact k _ G H at' (Ext.refl _) (.tup g2 l2 r2)
        · subst hy
          cases r2
          exact k _ G H at' (Ext.refl _) (by rw [List.append_nil]; exact .tup g l r)
        · have ex := Ext.new (o := .tup (xs ++ ys)) (at'.vw.none hz)
          exact k _ _ _ (at'.laid hz fun _ z => by cases z) ex (.tup upd_same (by rw [List.length_append]; exact hl) ((r.append r2).mono ex))
      · cases h
    | _ => cases h
  | _ => cases h
theorem de_add (ha : DE X W a Ea) (hb : DE X W b Eb) : DE X W (.BinOp a .Add b pos) (eBin dAdd Ea Eb) := de_bin op_addA snd_add ha hb
/-- two ints under a condition -/
def dInt (C : Int → Int → Bool) (f : Int → Int → Int) : D → D → Option D
  | .int i, .int j => if C i j = true then some (.int (f i j)) else none
  | _, _ => none
theorem snd_int {C : Int → Int → Bool} {P : Int → Int → Prop} {f g : Int → Int → Int} (hC : ∀ i j, C i j = true → P i j ∧ g i j = f i j) : Snd2 X.K (dInt C f) (rI P fun i j => .int (g i j)) := fun B G H δ σ x y a b d Q at' rx ry h k => by
  cases rx with
  | int i =>
    cases ry with
    | int j =>
      have h : (if C i j = true then some (D.int (f i j)) else none) = some d := h
      split at h
      · rename_i hl; cases h
        obtain ⟨h1, h2⟩ := hC i j hl
        exact ⟨i, j, rfl, rfl, h1, by show Q (V.int (g i j)) H; rw [h2]; exact k _ G H at' (Ext.refl _) (.int _)⟩
      · cases h
    | _ => cases h
  | _ => cases h
def dSub : D → D → Option D
  | .int i, .int j => some (.int (i - j))
  | _, _ => none
theorem snd_sub : Snd2 X.K dSub (rI0 fun i j => .int (i - j)) := fun B G H δ σ x y a b d Q at' rx ry h k => by
  cases rx with
  | int i =>
    cases ry with
    | int j => cases h; exact ⟨i, j, rfl, rfl, k _ G H at' (Ext.refl _) (.int _)⟩
    | _ => cases h
  | _ => cases h
theorem de_sub (ha : DE X W a Ea) (hb : DE X W b Eb) : DE X W (.BinOp a .Sub b pos) (eBin dSub Ea Eb) := de_bin op_sub snd_sub ha hb
def cMul (i j : Int) : Bool := (decide (-18446744073709551616 < i) && decide (i < 18446744073709551616)) || (decide (-18446744073709551616 < j) && decide (j < 18446744073709551616))
def dMulI : D → D → Option D := dInt cMul (· * ·)
theorem cMul_ok (i j : Int) (h : cMul i j = true) : CMul i j := by
  unfold cMul at h
  unfold CMul
  simp only [Bool.or_eq_true, Bool.and_eq_true, decide_eq_true_eq] at h
  omega
def cMod (_ j : Int) : Bool := decide (0 < j)
def dMod : D → D → Option D := dInt cMod (· % ·)
theorem de_mod (ha : DE X W a Ea) (hb : DE X W b Eb) : DE X W (.BinOp a .Mod b pos) (eBin dMod Ea Eb) := de_bin op_mod (snd_int (C := cMod) fun i j h => ⟨of_decide_eq_true h, rfl⟩) ha hb
def cDiv (_ j : Int) : Bool := decide (0 < j) && decide (j < 1073741824)
def dDiv : D → D → Option D := dInt cDiv (· / ·)
theorem de_div (ha : DE X W a Ea) (hb : DE X W b Eb) : DE X W (.BinOp a .FloorDiv b pos) (eBin dDiv Ea Eb) := de_bin op_fdiv (snd_int (C := cDiv) fun i j h => ⟨by unfold cDiv at h; simp only [Bool.and_eq_true, decide_eq_true_eq] at h; exact h, rfl⟩) ha hb
/-- a product: ints; a list or a tuple, some times -/
def dMul : D → D → Option D
  | .int i, .int j => dMulI (.int i) (.int j)
  | .lst x, .int k => if 0 ≤ k ∧ k ≤ 16777216 ∧ x.length * k.toNat ≤ sizeLine then some (.lst (List.replicate k.toNat x).flatten) else none
  | .tup x, .int k => if x ≠ [] ∧ 2 ≤ k ∧ k ≤ 1000 ∧ x.length ≤ 1000 then some (.tup (List.replicate k.toNat x).flatten) else none
  | _, _ => none
theorem flat_len {α : Type} (k : Nat) (x : List α) : (List.replicate k x).flatten.length = x.length * k := by
  rw [List.length_flatten, List.map_replicate, List.sum_replicate_nat, Nat.mul_comm]
theorem snd_mul : Snd2 X.K dMul (fun x y H Q => rI CMul (fun i j => .int (i * j)) x y H Q ∨ (rRep x y H Q ∨ rRepT X.K x y H Q)) := fun B G H δ σ x y a b d Q at' rx ry h k => by
  cases ry with
  | int j =>
    cases rx with
    | int i => exact .inl (snd_int (X := X) (C := cMul) (P := CMul) (f := (· * ·)) (g := (· * ·)) (fun i j h => ⟨cMul_ok i j h, rfl⟩) B G H δ σ _ _ _ _ d Q at' (.int i) (.int j) h k)
    | lst g l r =>
      rename_i p xs ds
      have h : (if 0 ≤ j ∧ j ≤ 16777216 ∧ ds.length * j.toNat ≤ sizeLine then some (D.lst (List.replicate j.toNat ds).flatten) else none) = some d := h
      split at h
      · rename_i hl
        cases h
        obtain ⟨h1, h2, h3⟩ := hl
        rw [← r.length] at h3
        refine .inr (.inl ⟨p, j, xs, rfl, rfl, at'.vw.lst g, by omega, by omega, h3, fun z hz => ?_⟩)
        have ex := Ext.new (o := .lst (List.replicate j.toNat xs).flatten) (at'.vw.none hz)
        exact k _ _ _ (at'.laid hz fun _ z => by cases z) ex (.lst upd_same (by rw [flat_len]; exact h3) ((r.rep _).mono ex))
      · cases h
    | tup g l r =>
      rename_i p xs ds
      have h : (if ds ≠ [] ∧ 2 ≤ j ∧ j ≤ 1000 ∧ ds.length ≤ 1000 then some (D.tup (List.replicate j.toNat ds).flatten) else none) = some d := h
      split at h
      · rename_i hl
        cases h
        obtain ⟨h0, h1, h2, h3⟩ := hl
        rw [← r.length] at h3
        have hne : xs ≠ [] := fun z => by subst z; cases r; exact h0 rfl
        have hz : xs.length * j.toNat ≤ 1000 * 1000 := Nat.mul_le_mul h3 (by omega)
        refine .inr (.inr ⟨p, j, xs, rfl, rfl, SqT.of (at'.vw.tup g), hne, h1, h2, h3, fun z hz' => ?_⟩)
        have ex := Ext.new (o := .tup (List.replicate j.toNat xs).flatten) (at'.vw.none hz')
        exact k _ _ _ (at'.laid hz' fun _ z => by cases z) ex (.tup upd_same (by rw [flat_len, sizeLine_eq]; omega) ((r.rep _).mono ex))
      · cases h
    | _ => cases h
  | _ => cases rx <;> cases h
theorem de_mul (ha : DE X W a Ea) (hb : DE X W b Eb) : DE X W (.BinOp a .Mult b pos) (eBin dMul Ea Eb) := de_bin (OpR.or op_mul (OpR.or op_rep op_repT)) snd_mul ha hb
/-- one-place operations -/
def eUn (f : D → Option D) (A : Mo D) : Mo D := A.bind fun x => Mo.lift (f x)
def dNeg : D → Option D
  | .int i => some (.int (-i))
  | _ => none
theorem de_neg (ha : DE X W a Ea) : DE X W (.UnaryOp .USub a pos) (eUn dNeg Ea) := PE.weak (pe_un un_neg ha) fun σ H Q ⟨B, G, δ, r, δ', at', e1, post⟩ => by
  refine tE_bind at' e1 post fun v H1 G1 δ1 d a1 x1 r1 e2 post => ?_
  obtain ⟨z, hz, hr⟩ := lift_some e2
  cases hr
  cases r1 with
  | int i => cases hz; exact ⟨i, rfl, post G1 H1 a1 (Ext.refl _) _ (.int _)⟩
  | _ => cases hz
def dCmp (pI : Int → Int → Bool) (pS : List Nat → List Nat → Bool) : D → D → Option D
  | .int i, .int j => some (.bl (pI i j))
  | .str i, .str j => some (.bl (pS i.cps.toList j.cps.toList))
  | _, _ => none
theorem snd_cmp {pI : Int → Int → Bool} {pS : List Nat → List Nat → Bool} {r : R2} (h1 : ∀ i j H Q, Q (.bl (pI i j)) H → r (.int i) (.int j) H Q) (h2 : ∀ i j H Q, Q (.bl (pS i.cps.toList j.cps.toList)) H → r (.str i) (.str j) H Q) : Snd2 X.K (dCmp pI pS) r := fun B G H δ σ x y a b d Q at' rx ry h k => by
  cases rx with
  | int i =>
    cases ry with
    | int j => cases h; exact h1 _ _ _ _ (k _ G H at' (Ext.refl _) (.bl _))
    | _ => cases h
  | str i =>
    cases ry with
    | str j => cases h; exact h2 _ _ _ _ (k _ G H at' (Ext.refl _) (.bl _))
    | _ => cases h
  | _ => cases h
abbrev rCmp (pI : Int → Int → Bool) (pS : List Nat → List Nat → Bool) : R2 := fun x y H Q => rI0 (fun i j => .bl (pI i j)) x y H Q ∨ ∃ i j, x = .str i ∧ y = .str j ∧ Q (.bl (pS i.cps.toList j.cps.toList)) H
theorem snd_cmp' {pI : Int → Int → Bool} {pS : List Nat → List Nat → Bool} : Snd2 X.K (dCmp pI pS) (rCmp pI pS) := snd_cmp (fun i j H Q q => .inl ⟨i, j, rfl, rfl, q⟩) (fun i j H Q q => .inr ⟨i, j, rfl, rfl, q⟩)
def dLt := dCmp (fun i j => decide (i < j)) (fun i j => decide (i < j))
def dLe := dCmp (fun i j => decide (i ≤ j)) (fun i j => !decide (j < i))
def dGt := dCmp (fun i j => decide (j < i)) (fun i j => decide (j < i))
def dGe := dCmp (fun i j => decide (j ≤ i)) (fun i j => !decide (i < j))
theorem opc_lt : OpR X (compareOp .Lt) (rCmp (fun i j => decide (i < j)) (fun i j => decide (i < j))) := OpR.or op_lt op_lt_str
theorem opc_le : OpR X (compareOp .LtE) (rCmp (fun i j => decide (i ≤ j)) (fun i j => !decide (j < i))) := OpR.or op_le op_le_str
theorem opc_gt : OpR X (compareOp .Gt) (rCmp (fun i j => decide (j < i)) (fun i j => decide (j < i))) := OpR.or op_gt op_gt_str
theorem opc_ge : OpR X (compareOp .GtE) (rCmp (fun i j => decide (j ≤ i)) (fun i j => !decide (i < j))) := OpR.or op_ge op_ge_str
/-- a op b op' c -/
def eChain (f g : D → D → Option D) (A B C : Mo D) : Mo D := A.bind fun x => B.bind fun y => (Mo.lift ((f x y).bind dBl)).bind fun k => if k = true then C.bind fun z => Mo.lift (g y z) else Mo.ret (.bl false)
theorem de_chain {op op' : CmpOp} {f g : D → D → Option D} {r r' : R2} (ho : OpR X (compareOp op) r) (ho' : OpR X (compareOp op') r') (hf : Snd2 X.K f r) (hg : Snd2 X.K g r') (ha : DE X W a Ea) (hb : DE X W b Eb) (hc : DE X W c Ec)
    (hm : lastMarks [op, op'] [b, c] = false := by with_unfolding_all rfl) : DE X W (.Compare a [op, op'] [b, c] pos) (eChain f g Ea Eb Ec) := PE.weak (pe_chain ho ho' ha hb hc hm) fun σ H Q ⟨B, G, δ, r1, δ', at', e1, post⟩ => by
  refine tE_bind at' e1 post fun v H1 G1 δ1 d a1 x1 r1 e2 post => ?_
  refine tE_bind a1 e2 post fun w H2 G2 δ2 d2 a2 x2 r2 e3 post => ?_
  unfold Mo.bind Mo.lift at e3
  cases q : (f d d2).bind dBl with
  | none => rw [q] at e3; cases e3
  | some k =>
    rw [q] at e3
    simp only [] at e3
    cases q2 : f d d2 with
    | none => rw [q2] at q; cases q
    | some z =>
      rw [q2, Option.bind_some] at q
      obtain rfl := dBl_some q
      refine hf B G2 H2 δ2 σ v w d d2 _ _ a2 (r1.mono x2) r2 q2 fun v3 G3 H3 a3 x3 r3 => ?_
      cases r3
      refine ⟨k, rfl, ?_⟩
      cases k with
      | false => rw [if_neg Bool.false_ne_true] at e3 ⊢; cases e3; exact (post.mono x3) G3 H3 a3 (Ext.refl _) _ (.bl _)
      | true =>
        rw [if_pos rfl] at e3 ⊢
        refine tE_bind (k := fun z => Mo.lift (g d2 z)) a3 e3 (post.mono x3) fun u H4 G4 δ4 d4 a4 x4 r4 e4 post => ?_
        obtain ⟨z, hz, hr⟩ := lift_some e4
        cases hr
        exact hg B G4 H4 δ' σ w u d2 d4 z Q a4 (r2.mono (x3.trans x4)) r4 hz fun v G' H' a' x' r' => post G' H' a' x' v r'
end
inductive Sh (K : PySem.W.Frag) (G H : Hp) : V → D → Prop
  | lst {a : Addr} {xs : List V} {ds : List D} : H a = some (.lst xs) → xs.length ≤ sizeLine → RL K G xs ds → Sh K G H (.ref a) (.lst ds)
  | scr {a : Addr} {xs : List V} {ds : List D} : SqL K H a xs → xs.length ≤ sizeLine → RL K G xs ds → Sh K G H (.ref a) (.scr ds)
  | tup {a : Addr} {xs : List V} {ds : List D} : H a = some (.tup xs) → xs.length ≤ sizeLine → RL K G xs ds → Sh K G H (.ref a) (.tup ds)
  | dK {a : Addr} {kvs : List (Key × V)} {ds : List (Key × D)} : Rd H a (.dK kvs) → kvs.length ≤ sizeLine → KVP K G kvs ds → Sh K G H (.ref a) (.dK ds)
  | dT {a : Addr} {kvs : List (List Key × V)} {ds : List (List Key × D)} : Rd H a (.dT kvs) → kvs.length ≤ sizeLine → KVP K G kvs ds → Sh K G H (.ref a) (.dT ds)
  | flat {v : V} {d : D} : R K G v d → flatD d = true → Sh K G H v d
  | alb {p av al C dx : Addr} {xs ys : List V} {vs ls : List D} : PySem.W.nsIn K mainGlobals "Album" = some (some (.ref C)) → H p = some (.ins C dx [("_views", .ref av), ("_links", .ref al)]) → H av = some (.lst xs) → H al = some (.lst ys) → xs.length ≤ sizeLine → ys.length ≤ sizeLine → RL K G xs vs → RL K G ys ls → Sh K G H (.ref p) (.alb vs ls)
theorem Vw.ins {G H : Hp} (h : Vw G H) {a C dx : Addr} {fs : List (Str × V)} (e : G a = some (.ins C dx fs)) : H a = some (.ins C dx fs) := by
  rcases h a _ e with h | ⟨h, _⟩
  · exact h
  · cases h
section
variable {K : PySem.W.Frag} {B : Bs} {G G' H : Hp} {δ : Env} {σ : St} {i : Nat}
theorem R.sh (vw : Vw G H) {v : V} {d : D} (r : R K G v d) : Sh K G H v d := by
  cases r with
  | tup g l r => exact .tup (vw.tup g) l r
  | lst g l r => exact .lst (vw.lst g) l r
  | scr g l r => exact .scr (vw.sql g) l r
  | dK g l k r => exact .dK (vw.rd g) l (kvp_of k r)
  | dT g l k r => exact .dT (vw.rd g) l (kvp_of k r)
  | non => exact .flat .non rfl
  | bl b => exact .flat (.bl b) rfl
  | int i => exact .flat (.int i) rfl
  | str s => exact .flat (.str s) rfl
  | alb c h1 h2 h3 l1 l2 r1 r2 => exact .alb c (vw.ins h1) (vw.lst h2) (vw.lst h3) l1 l2 r1 r2
theorem Ow.sh {p : Addr} {d : D} (w : Ow K G H p d) : Sh K G H (.ref p) d := by
  cases w with
  | lst g l r => exact .lst g l r
  | dK g l k r => exact .dK (.inl g) l (kvp_of k r)
  | dT g l k r => exact .dT (.inl g) l (kvp_of k r)
/-- a slot's content, seen -/
def slD : Sl → Option D
  | .imm d => some d
  | .own d => some d
  | .io d => some d
  | .bor d => some d
  | .no => none
def isBor : Sl → Bool
  | .bor _ => true
  | _ => false
theorem At.see (a : At K B G δ σ H) {s : Sl} {d : D} (e : δ[i]? = some s) (hd : slD s = some d) : ∃ v Gc, σ[i]? = some (some v) ∧ Sh K Gc H v d ∧ Vw Gc H ∧ (isBor s = false → Gc = G) := by
  cases s with
  | no => cases hd
  | imm d' => cases hd; obtain ⟨v, h1, h2⟩ := a.imm e; exact ⟨v, G, h1, h2.sh a.vw, a.vw, fun _ => rfl⟩
  | own d' => cases hd; obtain ⟨p, h1, _, h2, _⟩ := a.own e; exact ⟨_, G, h1, h2.sh, a.vw, fun _ => rfl⟩
  | io d' => cases hd; obtain ⟨p, h1, _, h2, _⟩ := a.io e; exact ⟨_, G, h1, h2.sh, a.vw, fun _ => rfl⟩
  | bor d' => cases hd; obtain ⟨v, h1, h2⟩ := a.bor e; exact ⟨v, _, h1, h2.sh (a.bo i), a.bo i, fun h => by cases h⟩
end
def dIx : D → D → Option D
  | .lst l, .int i => atI l i
  | .scr l, .int i => atI l i
  | .tup l, .int i => atI l i
  | .str s, .int i => if s.length ≤ sizeLine then (atI s.cps.toList i).map fun c => .str ⟨#[c]⟩ else none
  | .dK l, k => (dGet (.dK l) k).bind id
  | .dT l, k => (dGet (.dT l) k).bind id
  | _, _ => none
def isDct : D → Bool
  | .dK _ => true
  | .dT _ => true
  | _ => false
section
variable {K : PySem.W.Frag} {B : Bs} {G G' H : Hp} {δ : Env} {σ : St} {i : Nat}
theorem atI_rl {xs : List V} {ds : List D} {i : Int} {d : D} (r : RL K G xs ds) (h : atI ds i = some d) : ∃ v, atI xs i = some v ∧ R K G v d := by
  unfold atI at h ⊢
  rw [r.length]
  cases q : ixN ds.length i with
  | none => rw [q] at h; cases h
  | some j => rw [q] at h; exact r.get h
/-- look-up in a dict that is seen -/
theorem sh_get {x y : V} {d k : D} {o : Option D} {G2 : Hp} (vw : Vw G2 H) (rx : Sh K G H x d) (ry : R K G2 y k) (h : dGet d k = some o) : ∃ a o', x = .ref a ∧ IsD H a ∧ DGet H a y o' ∧ ((∃ v d, o' = some v ∧ o = some d ∧ R K G v d) ∨ (o' = none ∧ o = none)) := by
  cases rx with
  | dK g l kp =>
    rename_i a kvs ds
    have h : (keyK k).map (fun k => lookA ds k) = some o := h
    cases q : keyK k with
    | none => rw [q] at h; cases h
    | some kk =>
      rw [q] at h; cases h
      refine ⟨a, valV kvs kk, rfl, .inl ⟨kvs, g⟩, .inl ⟨kvs, kk, g, keyK_ok ry q, rfl⟩, ?_⟩
      rcases kvp_look kp kk with ⟨v, d, h1, h2, h3⟩ | ⟨h1, h2⟩
      · exact .inl ⟨v, d, h1, h2, h3⟩
      · exact .inr ⟨h1, h2⟩
  | dT g l kp =>
    rename_i a kvs ds
    cases ry with
    | tup g2 l2 r2 =>
      rename_i b xs ks
      have h : (keysK ks).map (fun k => lookA ds k) = some o := h
      cases q : keysK ks with
      | none => rw [q] at h; cases h
      | some kk =>
        rw [q] at h; cases h
        have hx := keysK_ok r2 q
        subst hx
        refine ⟨a, valV kvs kk, rfl, .inr ⟨kvs, g⟩, .inr ⟨kvs, kk, b, g, rfl, vw.tup g2, rfl⟩, ?_⟩
        rcases kvp_look kp kk with ⟨v, d, h1, h2, h3⟩ | ⟨h1, h2⟩
        · exact .inl ⟨v, d, h1, h2, h3⟩
        · exact .inr ⟨h1, h2⟩
    | _ => cases h
  | flat r f => cases r <;> first | cases h | cases f
  | _ => cases h
theorem join_some {o : Option (Option D)} {d : D} (h : o.bind id = some d) : o = some (some d) := by
  cases o with
  | none => cases h
  | some o => cases o <;> cases h; rfl
/-- the rule for a subscript -/
theorem sh_ix {x y : V} {d k z : D} {G2 : Hp} {Q : VK} (vw : Vw G2 H) (rx : Sh K G H x d) (ry : R K G2 y k) (h : dIx d k = some z) (q : ∀ v, R K G v z → Q v H) :
    (isDct d = false → rIx K x y H Q) ∧ (isDct d = true → ∃ a v, x = .ref a ∧ DGet H a y (some v) ∧ Q v H) := by
  have dct : isDct d = true → ∃ a v, x = .ref a ∧ DGet H a y (some v) ∧ Q v H := fun hd => by
    have h' : (dGet d k).bind id = some z := by cases d <;> first | exact h | cases hd
    obtain ⟨a, o', e1, _, e2, e3⟩ := sh_get vw rx ry (join_some h')
    rcases e3 with ⟨v, d, rfl, e, r⟩ | ⟨_, e⟩
    · cases e; exact ⟨a, v, e1, e2, q v r⟩
    · cases e
  refine ⟨fun hd => ?_, dct⟩
  cases rx with
  | lst g l r =>
    cases ry with
    | int i => obtain ⟨v, h1, h2⟩ := atI_rl r h; exact .inl ⟨_, _, i, v, rfl, rfl, SqL.of g, h1, q v h2⟩
    | _ => cases h
  | scr g l r =>
    cases ry with
    | int i => obtain ⟨v, h1, h2⟩ := atI_rl r h; exact .inl ⟨_, _, i, v, rfl, rfl, g, h1, q v h2⟩
    | _ => cases h
  | tup g l r =>
    cases ry with
    | int i => obtain ⟨v, h1, h2⟩ := atI_rl r h; exact .inr (.inl ⟨_, _, i, v, rfl, rfl, SqT.of g, h1, q v h2⟩)
    | _ => cases h
  | dK => cases hd
  | dT => cases hd
  | alb => cases h
  | flat r f =>
    cases r with
    | str s =>
      cases ry with
      | int i =>
        have h : (if s.length ≤ sizeLine then (atI s.cps.toList i).map fun c => D.str ⟨#[c]⟩ else none) = some z := h
        split at h
        · rename_i hl
          cases q2 : atI s.cps.toList i with
          | none => rw [q2] at h; cases h
          | some c => rw [q2] at h; cases h; exact .inr (.inr ⟨s, i, c, rfl, rfl, hl, q2, q _ (.str _)⟩)
        · cases h
      | _ => cases h
    | _ => first | (cases f; done) | (cases h; done)
end
def eIx (A B : Mo D) : Mo D := A.bind fun x => B.bind fun y => Mo.lift (dIx x y)
def slotDct (δ : Env) (i : Nat) : Option Bool := match δ[i]? with
  | some s => (slD s).map isDct
  | none => none
/-- x[e], x a slot: what stands there behind e -/
def ixSl (i : Nat) (k : Bool) (y : D) : Mo D := fun δ => match δ[i]? with
    | some (.imm d) => if isDct d = k then Mo.lift (dIx d y) δ else none
    | some (.own d) => if isDct d = k then Mo.lift (dIx d y) δ else none
    | some (.io d) => if isDct d = k then Mo.lift (dIx d y) δ else none
    | some (.bor d) => if isDct d = k then (match dIx d y with
      | some z => if flatD z = true then some (.ok z, δ) else none
      | none => none) else none
    | _ => none
def eIxV (i : Nat) (B : Mo D) : Mo D := fun δ => match slotDct δ i with
  | some k => (B.bind fun y => ixSl i k y) δ
  | none => none
section
variable {X : Cx} {W : WK} {e a b : Expr} {pos : Pos} {E Ea Eb : Mo D}
theorem slotDct_ok {K : PySem.W.Frag} {B : Bs} {G H : Hp} {δ : Env} {σ : St} {i : Nat} {k : Bool} (at' : At K B G δ σ H) (h : slotDct δ i = some k) : ∃ v, σ[i]? = some (some v) := by
  unfold slotDct at h
  cases q : δ[i]? with
  | none => rw [q] at h; cases h
  | some s =>
    rw [q] at h
    cases q2 : slD s with
    | none => simp only [q2] at h; cases h
    | some d => obtain ⟨v, _, h1, _⟩ := at'.see q q2; exact ⟨v, h1⟩
theorem bind_error {α β : Type} {m : Mo α} {k : α → Mo β} {δ δ1 : Env} {x : Exn} (h : m δ = some (.error x, δ1)) : Mo.bind m k δ = some (.error x, δ1) := by unfold Mo.bind; rw [h]
theorem de_ix (hu : X.A.units + 1 < cLine) (ha : DE X W a Ea) (hb : DE X W b Eb) (h1 : PlainIx b := by intro _ _; rfl) (h2 : NoSl b := by intro _ _; rfl) : DE X W (.Subscript a b pos) (eIx Ea Eb) :=
  PE.weak (PE.or (pe_ix ix_seq ha hb h1) (pe_dget hu ha hb h2)) fun σ H Q ⟨B, G, δ, r, δ', at', e1, post⟩ => by
  unfold eIx at e1
  cases q : Ea δ with
  | none => unfold Mo.bind at e1; rw [q] at e1; cases e1
  | some z =>
    obtain ⟨x, δ1⟩ := z
    cases x with
    | error x => rw [bind_error q] at e1; cases e1; exact .inl ⟨B, G, δ, .error x, _, at', q, post⟩
    | ok d =>
      rw [bind_ok q] at e1
      cases hd : isDct d with
      | false =>
        refine .inl ⟨B, G, δ, .ok d, δ1, at', q, fun G1 H1 a1 x1 v rv => ?_⟩
        refine tE_bind a1 e1 (post.mono x1) fun w H2 G2 δ2 d2 a2 x2 r2 e3 post => ?_
        obtain ⟨z, hz, hr⟩ := lift_some e3
        cases hr
        exact (sh_ix a2.vw ((rv.mono x2).sh a2.vw) r2 hz fun v rv => post G2 H2 a2 (Ext.refl _) v rv).1 hd
      | true =>
        refine .inr ⟨B, G, δ, .ok d, δ1, at', q, fun G1 H1 a1 x1 v rv => ?_⟩
        refine tE_bind a1 e1 (post.mono x1) fun w H2 G2 δ2 d2 a2 x2 r2 e3 post => ?_
        obtain ⟨z, hz, hr⟩ := lift_some e3
        cases hr
        exact (sh_ix a2.vw ((rv.mono x2).sh a2.vw) r2 hz fun v rv => post G2 H2 a2 (Ext.refl _) v rv).2 hd
/-- behind the index, the slot's content -/
theorem ixV_ok {K : PySem.W.Frag} {B : Bs} {G H : Hp} {δ δ' : Env} {σ : St} {i : Nat} {y : V} {k : D} {kb : Bool} {r : Except Exn D} {Q : VK} (at' : At K B G δ σ H) (ry : R K G y k)
    (h : ixSl i kb k δ = some (r, δ')) (post : Post K W B G σ r δ' (fun d G' H' => ∀ v, R K G' v d → Q v H')) :
    ∃ v, σ[i]? = some (some v) ∧ (kb = false → rIx K v y H Q) ∧ (kb = true → ∃ a u, v = .ref a ∧ DGet H a y (some u) ∧ Q u H) := by
  have go : ∀ (s : Sl) (d : D), δ[i]? = some s → slD s = some d → isBor s = false → (if isDct d = kb then Mo.lift (dIx d k) δ else none) = some (r, δ') → ∃ v, σ[i]? = some (some v) ∧ (kb = false → rIx K v y H Q) ∧ (kb = true → ∃ a u, v = .ref a ∧ DGet H a y (some u) ∧ Q u H) := fun s d e1 e2 e3 e4 => by
    obtain ⟨v, Gc, h1, h2, h3, h4⟩ := at'.see e1 e2
    obtain rfl := h4 e3
    split at e4
    · rename_i c
      subst c
      obtain ⟨z, hz, hr⟩ := lift_some e4
      cases hr
      exact ⟨v, h1, sh_ix (Q := Q) at'.vw h2 ry hz fun v rv => post _ H at' (Ext.refl _) v rv⟩
    · cases e4
  unfold ixSl at h
  split at h
  · rename_i d q; exact go _ d q rfl rfl h
  · rename_i d q; exact go _ d q rfl rfl h
  · rename_i d q; exact go _ d q rfl rfl h
  · rename_i d q
    obtain ⟨v, Gc, h1, h2, h3, _⟩ := at'.see q rfl
    split at h
    · rename_i c
      subst c
      cases q2 : dIx d k with
      | none => rw [q2] at h; cases h
      | some z =>
        rw [q2] at h
        simp only [] at h
        split at h
        · rename_i f
          cases h
          exact ⟨v, h1, sh_ix (Q := Q) at'.vw h2 ry q2 fun v rv => post G H at' (Ext.refl _) v (rv.flat f)⟩
        · cases h
    · cases h
  · cases h
theorem de_ixV {i : Nat} (hu : X.A.units + 1 < cLine) (ha : PE X a (tVar i)) (hb : DE X W b Eb) (h1 : PlainIx b := by intro _ _; rfl) (h2 : NoSl b := by intro _ _; rfl) : DE X W (.Subscript a b pos) (eIxV i Eb) :=
  PE.weak (PE.or (pe_ix ix_seq ha hb h1) (pe_dget hu ha hb h2)) fun σ H Q ⟨B, G, δ, r, δ', at', e1, post⟩ => by
  unfold eIxV at e1
  split at e1
  · rename_i kb hs
    obtain ⟨v, hv⟩ := slotDct_ok at' hs
    cases kb with
    | false =>
      refine .inl ⟨v, hv, ?_⟩
      refine tE_bind at' e1 post fun w H2 G2 δ2 d2 a2 x2 r2 e3 post => ?_
      obtain ⟨v', k1, k2, _⟩ := ixV_ok a2 r2 e3 post
      rw [hv] at k1; cases k1
      exact k2 rfl
    | true =>
      refine .inr ⟨v, hv, ?_⟩
      refine tE_bind at' e1 post fun w H2 G2 δ2 d2 a2 x2 r2 e3 post => ?_
      obtain ⟨v', k1, _, k2⟩ := ixV_ok a2 r2 e3 post
      rw [hv] at k1; cases k1
      exact k2 rfl
  · cases e1
def dLen : D → Option D
  | .lst l => some (.int l.length)
  | .scr l => some (.int l.length)
  | .tup l => some (.int l.length)
  | .dK l => some (.int l.length)
  | .dT l => some (.int l.length)
  | .str s => if s.length ≤ sizeLine then some (.int s.length) else none
  | _ => none
theorem sh_len {K : PySem.W.Frag} {G H : Hp} {x : V} {d z : D} (rx : Sh K G H x d) (h : dLen d = some z) : ∃ n : Nat, z = .int n ∧ (LenV K x H n ∨ (∃ a kvs, x = .ref a ∧ Rd H a (.dK kvs) ∧ n = kvs.length) ∨ ∃ a kvs, x = .ref a ∧ Rd H a (.dT kvs) ∧ n = kvs.length) := by
  cases rx with
  | lst g l r => cases h; exact ⟨_, rfl, .inl (.inl ⟨_, SqL.of g, r.length.symm⟩)⟩
  | scr g l r => cases h; exact ⟨_, rfl, .inl (.inl ⟨_, g, r.length.symm⟩)⟩
  | tup g l r => cases h; exact ⟨_, rfl, .inl (.inr ⟨_, SqT.of g, r.length.symm⟩)⟩
  | dK g l r => cases h; exact ⟨_, rfl, .inr (.inl ⟨_, _, rfl, g, (Paired.length r).symm⟩)⟩
  | dT g l r => cases h; exact ⟨_, rfl, .inr (.inr ⟨_, _, rfl, g, (Paired.length r).symm⟩)⟩
  | alb => cases h
  | flat r f =>
    cases r with
    | str s =>
      have h : (if s.length ≤ sizeLine then some (D.int s.length) else none) = some z := h
      split at h
      · rename_i hl; cases h; exact ⟨_, rfl, .inl ⟨hl, rfl⟩⟩
      · cases h
    | _ => first | (cases f; done) | (cases h; done)
def rLenA (K : PySem.W.Frag) : List V → Hp → VK → Prop := fun xs H Q => ∃ x n, xs = [x] ∧ (LenV K x H n ∨ (∃ a kvs, x = .ref a ∧ Rd H a (.dK kvs) ∧ n = kvs.length) ∨ ∃ a kvs, x = .ref a ∧ Rd H a (.dT kvs) ∧ n = kvs.length) ∧ Q (.int (n : Nat)) H
theorem call_lenA : CallR X (.builtin "len") (rLenA X.K) := by
  intro pins s σ H xs us Q I rv h
  obtain ⟨x, n, rfl, h, q⟩ := h
  rcases h with h | ⟨a, kvs, rfl, h, rfl⟩ | ⟨a, kvs, rfl, h, rfl⟩
  · exact call_len pins s σ H _ us Q I rv ⟨x, n, rfl, h, q⟩
  · obtain ⟨u, rfl, rx⟩ := vals1 rv
    obtain rfl : u = .ref a := rx
    exact d_len I h fun t s' I' => ⟨.int kvs.length, H, I', ⟨t, rfl⟩, q⟩
  · obtain ⟨u, rfl, rx⟩ := vals1 rv
    obtain rfl : u = .ref a := rx
    obtain ⟨z, hd, ys, rel, dd⟩ := dt_rd I.hok h
    have hl : kvs.length = ys.length := Paired.length rel
    refine call_len_dictH hd dd (by rw [← hl]; rw [sizeLine_eq] at z; omega) ?_
    rw [← hl]
    exact ⟨.int ((kvs.length : Nat) : Int), H, I.tok _, ⟨_, rfl⟩, q⟩
end
section
variable {X : Cx} {W : WK} {e a b : Expr} {pos p : Pos} {x : Str} {es : List Expr} {E Ea Eb : Mo D} {A : Mo (List Ag)}
/-- a built-in function of data -/
def eF (f : List D → Option D) (A : Mo (List Ag)) : Mo D := A.bind fun as => Mo.lift ((imms as).bind f)
def SndF (K : PySem.W.Frag) (f : List D → Option D) (r : List V → Hp → VK → Prop) : Prop := ∀ (B : Bs) (G H : Hp) (δ : Env) (σ : St) (xs : List V) (as : List D) (d : D) (Q : VK), At K B G δ σ H → RL K G xs as → f as = some d →
  (∀ v G' H', At K B G' δ σ H' → Ext G G' → R K G' v d → Q v H') → r xs H Q
def SndFO (K : PySem.W.Frag) (f : List D → Option D) (r : List V → Hp → VK → Prop) : Prop := ∀ (B : Bs) (G H : Hp) (δ : Env) (σ : St) (xs : List V) (as : List D) (d : D) (Q : VK), At K B G δ σ H → RL K G xs as → f as = some d →
  (∀ p G' H', At K B G' δ σ H' → Ext G G' → Fr1 K B G' δ σ H' p d → Q (.ref p) H') → r xs H Q
theorem eF_some {f : List D → Option D} {as : List Ag} {δ δ' : Env} {r : Except Exn D} (h : Mo.lift ((imms as).bind f) δ = some (r, δ')) : ∃ ds d, imms as = some ds ∧ f ds = some d ∧ r = .ok d ∧ δ' = δ := by
  obtain ⟨z, hz, hr⟩ := lift_some h
  cases hr
  cases q : imms as with
  | none => rw [q] at hz; cases hz
  | some ds => rw [q] at hz; exact ⟨ds, z, rfl, hz, rfl, rfl⟩
theorem de_tCB {f : List D → Option D} {r : List V → Hp → VK → Prop} (hf : SndF X.K f r) (h : PE X e (tCB r (tA X.K W A))) : DE X W e (eF f A) := PE.weak h fun σ H Q ⟨B, G, δ, r', δ', at', e1, post⟩ => by
  refine tA_bind at' e1 post fun vs H1 G1 δ1 as a1 x1 r1 e2 post => ?_
  obtain ⟨ds, d, h1, h2, rfl, rfl⟩ := eF_some e2
  exact hf B G1 H1 δ' σ vs ds d Q a1 (imms_ok r1 h1) h2 fun v G' H' a' x' rv => post G' H' a' x' v rv
theorem do_tCB {f : List D → Option D} {r : List V → Hp → VK → Prop} (hf : SndFO X.K f r) (h : PE X e (tCB r (tA X.K W A))) : DO X W e (eF f A) := PE.weak h fun σ H Q ⟨B, G, δ, r', δ', at', e1, post⟩ => by
  refine tA_bind at' e1 post fun vs H1 G1 δ1 as a1 x1 r1 e2 post => ?_
  obtain ⟨ds, d, h1, h2, rfl, rfl⟩ := eF_some e2
  exact hf B G1 H1 δ' σ vs ds d Q a1 (imms_ok r1 h1) h2 fun v G' H' a' x' rv => post G' H' a' x' v rv
def fLen : List D → Option D
  | [d] => dLen d
  | _ => none
theorem snd_len : SndF X.K fLen (rLenA X.K) := fun B G H δ σ xs as d Q at' rx h k => by
  cases rx with
  | nil => cases h
  | cons r0 r1 =>
    cases r1 with
    | cons _ _ => cases h
    | nil =>
      obtain ⟨n, rfl, h2⟩ := sh_len (r0.sh at'.vw) h
      exact ⟨_, n, rfl, h2, k _ G H at' (Ext.refl _) (.int _)⟩
theorem de_len (hg : Gl X x) (hm : X.mg x = none) (hv : bootBuiltins x = some (.builtin "len")) (ha : DA X W (e :: es) A) (hn : x ≠ "__name__" := by decide) (hdb : (x == ("__debug__" : Str)) = false := by decide)
    (he : starEach (e :: es) X.env = (false, eval e X.env) :: starEach es X.env := by rfl) (hpl : (backTo pos (starEach es X.env)).any (·.1) = false := by rfl) : DE X W (.Call (.Name x p) (e :: es) [] pos) (eF fLen A) :=
  de_tCB snd_len (pe_callB call_lenA hg hm hv ha hn hdb he hpl)
/-- len(x), x a slot that keeps its object -/
def eLenV (i : Nat) : Mo D := fun δ => match δ[i]? with
  | some s => (slD s).bind dLen |>.map fun d => (.ok d, δ)
  | none => none
end
end M
set_option Elab.async false
set_option linter.all false
set_option maxRecDepth 100000
namespace M
open PySem L2 PySem.Spec PyProof.Rows
mutual
def toPy : D → PyData
  | .non => .none
  | .bl b => .bool b
  | .int i => .int i
  | .str s => .str s
  | .tup l => .tuple (toPys l)
  | .lst l => .list (toPys l)
  | .scr l => .list (toPys l)
  | .dK _ => .dict []
  | .dT _ => .dict []
  | .alb _ _ => .dict []
def toPys : List D → List PyData
  | [] => []
  | d :: ds => toPy d :: toPys ds
end
section
variable {K : PySem.W.Frag} {G H : Hp}
mutual
theorem R.dp (vw : Vw G H) : ∀ {v : V} {d : D}, R K G v d → (toPy d).canLay0 = true → Dp K H v (toPy d)
  | _, _, .non, _ => .non
  | _, _, .bl b, _ => .bl b
  | _, _, .int i, _ => .int i
  | _, _, .str s, _ => .str s
  | _, _, .tup g l r, h => .tup (SqT.of (vw.tup g)) (RL.dp vw r (by simpa [toPy, PyData.canLay0] using h))
  | _, _, .lst g l r, h => .lst (SqL.of (vw.lst g)) (RL.dp vw r (by simpa [toPy, PyData.canLay0] using h))
  | _, _, .scr g l r, h => .lst (vw.sql g) (RL.dp vw r (by simpa [toPy, PyData.canLay0] using h))
  | _, _, .dK _ _ _ _, h => by simp [toPy, PyData.canLay0] at h
  | _, _, .dT _ _ _ _, h => by simp [toPy, PyData.canLay0] at h
  | _, _, .alb _ _ _ _ _ _ _ _, h => by simp [toPy, PyData.canLay0] at h
theorem RL.dp (vw : Vw G H) : ∀ {vs : List V} {ds : List D}, RL K G vs ds → PyData.canLayAll0 (toPys ds) = true → DpAll K H vs (toPys ds)
  | _, _, .nil, _ => .nil
  | _, _, .cons r t, h => by
    simp only [toPys, PyData.canLayAll0, Bool.and_eq_true] at h
    exact .cons (R.dp vw r h.1) (RL.dp vw t h.2)
end
end
def shp (d : D) : Bool := SeqAt.shaped (toPy d)
theorem shp_dp {K : PySem.W.Frag} {G H : Hp} (vw : Vw G H) {v : V} {d : D} (r : R K G v d) (h : shp d = true) : Dp K H v (toPy d) := r.dp vw (SeqAt.canLay_of_shaped h)
/-- == where neither is a dict -/
def dEq (a b : D) : Option D := if shp a = true ∧ shp b = true then some (.bl (PyData.eqv (toPy a) (toPy b))) else none
def dNe (a b : D) : Option D := if shp a = true ∧ shp b = true then some (.bl (!PyData.eqv (toPy a) (toPy b))) else none
section
variable {X : Cx} {W : WK} {e a b c : Expr} {pos : Pos} {E Ea Eb Ec : Mo D}
theorem snd_eq : Snd2 X.K dEq (rEqD X.K) := fun B G H δ σ x y a b d Q at' rx ry h k => by
  unfold dEq at h
  split at h
  · rename_i q; cases h
    exact ⟨_, _, shp_dp at'.vw rx q.1, shp_dp at'.vw ry q.2, q.1, q.2, k _ G H at' (Ext.refl _) (.bl _)⟩
  · cases h
theorem snd_ne : Snd2 X.K dNe (rNeD X.K) := fun B G H δ σ x y a b d Q at' rx ry h k => by
  unfold dNe at h
  split at h
  · rename_i q; cases h
    exact ⟨_, _, shp_dp at'.vw rx q.1, shp_dp at'.vw ry q.2, q.1, q.2, k _ G H at' (Ext.refl _) (.bl _)⟩
  · cases h
theorem de_eq (hu : X.A.units + 64 < cLine) (ha : DE X W a Ea) (hb : DE X W b Eb) : DE X W (.Compare a [.Eq] [b] pos) (eBin dEq Ea Eb) := de_cmp (op_eqD hu) snd_eq ha hb (nomark _)
def hasPy (x : D) (l : List D) : Bool := (toPys l).any fun z => PyData.eqv z (toPy x)
/-- == of flat data -/
def eqF : D → D → Bool
  | .non, .non => true
  | .bl a, .bl b => a == b
  | .bl a, .int b => (if a then 1 else 0) == b
  | .int a, .bl b => a == (if b then 1 else 0)
  | .int a, .int b => a == b
  | .str a, .str b => a == b
  | _, _ => false
def hasF (x : D) (l : List D) : Bool := l.any fun y => eqF y x
def dIn (neg : Bool) : D → D → Option D
  | x, .lst l => if shp x = true ∧ shp (.lst l) = true then some (.bl (if neg then !hasPy x l else hasPy x l)) else none
  | x, .scr l => if shp x = true ∧ shp (.scr l) = true then some (.bl (if neg then !hasPy x l else hasPy x l)) else none
  | x, .tup l => if flatD x = true ∧ l.all flatD = true then some (.bl (if neg then !hasF x l else hasF x l)) else none
  | .non, .dK _ => some (.bl neg)
  | x, .dK l => (dGet (.dK l) x).map fun o => .bl (if neg then !o.isSome else o.isSome)
  | x, .dT l => (dGet (.dT l) x).map fun o => .bl (if neg then !o.isSome else o.isSome)
  | _, _ => none
/-- e in x, x a slot that keeps its object -/
def eInV (neg : Bool) (A : Mo D) (i : Nat) : Mo D := A.bind fun x => fun δ => match δ[i]? with
  | some s => ((slD s).bind fun c => dIn neg x c).map fun d => (.ok d, δ)
  | none => none
def dIs (neg : Bool) : D → D → Option D
  | .non, .non => some (.bl (!neg))
  | _, .non => some (.bl neg)
  | _, _ => none
def rIsN (neg : Bool) : R2 := fun x y H Q => y = .non ∧ Q (.bl (if neg then !decide (x = .non) else decide (x = .non))) H
theorem snd_is {neg : Bool} : Snd2 X.K (dIs neg) (rIsN neg) := fun B G H δ σ x y a b d Q at' rx ry h k => by
  cases ry with
  | non =>
    refine ⟨rfl, ?_⟩
    cases rx with
    | non => cases h; have := k (.bl (!neg)) G H at' (Ext.refl _) (.bl _); cases neg <;> exact this
    | _ => cases h; have := k (.bl neg) G H at' (Ext.refl _) (.bl _); cases neg <;> exact this
  | _ => cases rx <;> cases h
theorem de_isN (ha : DE X W a Ea) (hb : DE X W b Eb) : DE X W (.Compare a [.Is] [b] pos) (eBin (dIs false) Ea Eb) := de_cmp (r := rIsN false) op_isN snd_is ha hb (nomark _)
end
def chM (i : Nat) (f : D → Option D) : Mo Unit := fun δ => match δ[i]? with
  | some (.own d) => (f d).map fun d' => (.ok (), δ.set i (.own d'))
  | some (.io d) => (f d).map fun d' => (.ok (), δ.set i (.io d'))
  | _ => none
theorem chM_ok {K : PySem.W.Frag} {B : Bs} {G H : Hp} {δ δ' : Env} {σ : St} {i : Nat} {f : D → Option D} {u : Except Exn Unit} (a : At K B G δ σ H) (h : chM i f δ = some (u, δ')) :
    u = .ok () ∧ ∃ p d d', σ[i]? = some (some (.ref p)) ∧ Ow K G H p d ∧ f d = some d' ∧ ∀ o, Mut (some o) → Ow K G (upd H p o) p d' → At K B G δ' σ (upd H p o) := by
  unfold chM at h
  split at h
  · rename_i d q
    cases q2 : f d with
    | none => rw [q2] at h; cases h
    | some d' =>
      rw [q2] at h; cases h
      obtain ⟨p, h1, h2, h3, h4⟩ := a.own q
      exact ⟨rfl, p, d, d', h1, h3, q2, fun o m w => a.change q (.inl ⟨rfl, rfl⟩) h1 m w⟩
  · rename_i d q
    cases q2 : f d with
    | none => rw [q2] at h; cases h
    | some d' =>
      rw [q2] at h; cases h
      obtain ⟨p, h1, h2, h3, h4⟩ := a.io q
      exact ⟨rfl, p, d, d', h1, h3, q2, fun o m w => a.change q (.inr ⟨rfl, rfl⟩) h1 m w⟩
  · cases h
def isSet (δ : Env) (i : Nat) : Bool := match δ[i]? with
  | some (.own _) => true
  | some (.io _) => true
  | _ => false
theorem isSet_ok {K : PySem.W.Frag} {B : Bs} {G H : Hp} {δ : Env} {σ : St} {i : Nat} (a : At K B G δ σ H) (h : isSet δ i = true) : ∃ p d, σ[i]? = some (some (.ref p)) ∧ Ow K G H p d := by
  unfold isSet at h
  split at h
  · rename_i d q; obtain ⟨p, h1, _, h3, _⟩ := a.own q; exact ⟨p, d, h1, h3⟩
  · rename_i d q; obtain ⟨p, h1, _, h3, _⟩ := a.io q; exact ⟨p, d, h1, h3⟩
  · cases h
def dAppend (x : D) : D → Option D
  | .lst l => if l.length < sizeLine then some (.lst (l ++ [x])) else none
  | _ => none
/-- x.append(e) -/
def isLst (δ : Env) (i : Nat) : Bool := match δ[i]? with
  | some (.own (.lst _)) => true
  | some (.io (.lst _)) => true
  | _ => false
def sApp (i : Nat) (E : Mo D) : Mo Out := fun δ => if isLst δ i = true then (E.bind fun x => (chM i (dAppend x)).bind fun _ => Mo.ret .nx) δ else none
section
variable {X : Cx} {W : WK} {o e a b c : Expr} {pos apos cpos : Pos} {E Ea Eb Ec : Mo D}
/-- o[e] = v -/
def dSet (k v : D) : D → Option D
  | .lst l => match k with
    | .int i => (ixN l.length i).map fun j => .lst (l.set j v)
    | _ => none
  | .dK l => dPut (.dK l) k v
  | .dT l => dPut (.dT l) k v
  | _ => none
def sSet (i : Nat) (Ek Ev : Mo D) : Mo Out := Ev.bind fun v => fun δ => if isSet δ i = true then (Ek.bind fun k => (chM i (dSet k v)).bind fun _ => Mo.ret .nx) δ else none
abbrev rSetA : TSet := fun o i v H Q => rSetL o i v H Q ∨ ∃ a H', o = .ref a ∧ DPut H a i v H' ∧ Q H'
theorem set_all (hu : X.A.units + 1 < cLine) : PSet X rSetA := fun pins s σ H o i v ov iv u Q I ro ri rv h => by
  rcases h with h | ⟨a, H', rfl, g, q⟩
  · exact set_list pins s σ H o i v ov iv u Q I ro ri rv h
  · cases ro
    exact d_setItem hu I g ri rv fun s' I' => ⟨H', I', q⟩
theorem ds_sub {i : Nat} {pos' : Pos} (hu : X.A.units + 1 < cLine) (ho : PE X o (tVar i)) (hk : DE X W a Ea) (hv : DE X W b Eb) (hs : swapsWithSole [.Subscript o a pos'] b pos.line X.env = pure false := by rfl) (hw : swappedStores [.Subscript o a pos'] b X.env = pure none := by rfl)
    (h1 : (assignEach [.Subscript o a pos'] X.env).map (·.2) = [assign (.Subscript o a pos') X.env] := by rfl)
    (ha : ∀ v, assign (.Subscript o a pos') X.env v = (do
      let ov ← holding [v] (eval o X.env)
      let iv ← holding [v, ov] (eval a X.env)
      standAt pos'
      holding [v, ov, iv] (setItem ov iv v)
      release [v, ov, iv] []) := by intro _; rfl) :
    DS X W (.Assign [.Subscript o a pos'] b pos) (sSet i Ea Eb) := PS.weak (ps_asg hv (pg_sub ho hk (set_all hu) ha) hs hw h1) fun Dn σ H ⟨B, G, δ, r, δ', at', e1, post⟩ => by
  refine tE_bindS at' e1 post fun v H1 G1 δ1 vd a1 x1 r1 e2 post => ?_
  split at e2
  · rename_i hi
    obtain ⟨p, d0, hp, _⟩ := isSet_ok a1 hi
    refine ⟨_, hp, ?_⟩
    refine tE_bindS a1 e2 post fun y H2 G2 δ2 kd a2 x2 r2 e3 post => ?_
    rcases unit_bind e3 with ⟨q, rfl⟩ | ⟨x, q, rfl⟩
    · obtain ⟨_, p', dd, d', h1, h2, h3, h4⟩ := chM_ok a2 q
      rw [hp] at h1; cases h1
      have rv := r1.mono x2
      have dct : dPut dd kd vd = some d' → rSetA (.ref p) y v H2 fun H3 => Dn.nx σ H3 := fun hh => by
        obtain ⟨o1, g1, g2, g3⟩ := dPut_ok a2.vw h2 r2 rv hh
        exact .inr ⟨p, _, rfl, g1, post G2 σ _ (h4 o1 g2 g3) (Ext.refl _)⟩
      cases h2 with
      | lst g l rl =>
        rename_i ys ds
        cases r2 with
        | int j =>
          have h3 : (ixN ds.length j).map (fun m => D.lst (ds.set m vd)) = some d' := h3
          cases q2 : ixN ds.length j with
          | none => rw [q2] at h3; cases h3
          | some m =>
            rw [q2] at h3; cases h3
            refine .inl ⟨p, ys, j, m, rfl, rfl, g, by rw [rl.length]; exact q2, ?_⟩
            exact post G2 σ _ (h4 (.lst (ys.set m v)) trivial (.lst upd_same (by rw [List.length_set]; exact l) (rl.set m rv))) (Ext.refl _)
        | _ => cases h3
      | dK => exact dct h3
      | dT => exact dct h3
    · have := (chM_ok a2 q).1; cases this
  · cases e2
end
section
variable {X : Cx} {W : WK} {e a b c : Expr} {pos p : Pos} {x : Str} {es : List Expr} {E Ea Eb Ec : Mo D} {A : Mo (List Ag)}
def fAbs : List D → Option D
  | [.int i] => some (.int (if i < 0 then -i else i))
  | _ => none
theorem rl1 {K : PySem.W.Frag} {G : Hp} {xs : List V} {d : D} (h : RL K G xs [d]) : ∃ v, xs = [v] ∧ R K G v d := by
  cases h with
  | cons r t => cases t; exact ⟨_, rfl, r⟩
theorem r_int {K : PySem.W.Frag} {G : Hp} {v : V} {i : Int} (h : R K G v (.int i)) : v = .int i := by cases h; rfl
theorem r_bl {K : PySem.W.Frag} {G : Hp} {v : V} {i : Bool} (h : R K G v (.bl i)) : v = .bl i := by cases h; rfl
theorem snd_abs : SndF X.K fAbs (fun xs H Q => ∃ i, xs = [.int i] ∧ Q (.int (if i < 0 then -i else i)) H) := fun B G H δ σ xs as d Q at' rx h k => by
  unfold fAbs at h
  split at h
  · cases h
    obtain ⟨v, rfl, r⟩ := rl1 rx
    rw [r_int r]
    exact ⟨_, rfl, k _ G H at' (Ext.refl _) (.int _)⟩
  · cases h
theorem de_abs (hg : Gl X x) (hm : X.mg x = none) (hv : bootBuiltins x = some (.builtin "abs")) (ha : DA X W (e :: es) A) (hn : x ≠ "__name__" := by decide) (hdb : (x == ("__debug__" : Str)) = false := by decide)
    (he : starEach (e :: es) X.env = (false, eval e X.env) :: starEach es X.env := by rfl) (hpl : (backTo pos (starEach es X.env)).any (·.1) = false := by rfl) : DE X W (.Call (.Name x p) (e :: es) [] pos) (eF fAbs A) :=
  de_tCB snd_abs (pe_callB call_abs hg hm hv ha hn hdb he hpl)
def fInt : List D → Option D
  | [.int i] => some (.int i)
  | [.bl k] => some (.int (if k then 1 else 0))
  | _ => none
theorem snd_fint : SndF X.K fInt (fun xs H Q => (∃ i, xs = [.int i] ∧ Q (.int i) H) ∨ ∃ k, xs = [.bl k] ∧ Q (.int (if k then 1 else 0)) H) := fun B G H δ σ xs as d Q at' rx h k => by
  unfold fInt at h
  split at h
  · cases h
    obtain ⟨v, rfl, r⟩ := rl1 rx
    rw [r_int r]
    exact .inl ⟨_, rfl, k _ G H at' (Ext.refl _) (.int _)⟩
  · cases h
    obtain ⟨v, rfl, r⟩ := rl1 rx
    rw [r_bl r]
    exact .inr ⟨_, rfl, k _ G H at' (Ext.refl _) (.int _)⟩
  · cases h
theorem de_int1 (hg : Gl X x) (hm : X.mg x = none) (hv : bootBuiltins x = some (.type "int")) (ha : DA X W (e :: es) A) (hn : x ≠ "__name__" := by decide) (hdb : (x == ("__debug__" : Str)) = false := by decide)
    (he : starEach (e :: es) X.env = (false, eval e X.env) :: starEach es X.env := by rfl) (hpl : (backTo pos (starEach es X.env)).any (·.1) = false := by rfl) : DE X W (.Call (.Name x p) (e :: es) [] pos) (eF fInt A) :=
  de_tCB snd_fint (pe_callTy call_int1 hg hm hv ha hn hdb he hpl)
end
end M
set_option Elab.async false
set_option linter.all false
set_option maxRecDepth 100000
namespace M
open PySem L2 PySem.Spec PyProof.Rows
def ikHash (ks : List Key) : Int := reduceHash (Builtin.Tuple.tupleHashOf (ks.map fun k => match k with
  | .inl i => hashInt i
  | .inr _ => 0))
def intKey (ks : List Key) : Bool := ks.all fun k => match k with
  | .inl _ => true
  | .inr _ => false
/-- the keys' hashes differ: what a copy of such a dict asks -/
def apart (ks : List (List Key)) : Prop := (∀ k ∈ ks, intKey k = true) ∧ (ks.map ikHash).Nodup
section
variable {X : Cx} {W : WK} {e a b c : Expr} {pos p : Pos} {x : Str} {es : List Expr} {E Ea Eb Ec : Mo D} {A : Mo (List Ag)}
def fList : List D → Option D
  | [.lst l] => some (.lst l)
  | [.scr l] => some (.lst l)
  | [.tup l] => some (.lst l)
  | _ => none
def rListA (K : PySem.W.Frag) : List V → Hp → VK → Prop := fun xs H Q => (∃ p ys, xs = [.ref p] ∧ (SqL K H p ys ∨ SqT K H p ys) ∧ ∀ l, H l = none → Q (.ref l) (upd H l (.lst ys))) ∨
  ∃ d kvs, xs = [V.ref d] ∧ Rd H d (.dT kvs) ∧ ∀ p bs, H p = none → IsKeys H kvs bs → Q (.ref p) (upd H p (.lst (bs.map V.ref)))
theorem call_listA (hc : X.calm = true) : CallR X (.type "list") (rListA X.K) := fun pins s σ H xs us Q I rv h => by
  rcases h with h | h
  · exact call_list_of pins s σ H xs us Q I rv h
  · exact call_list_dT hc pins s σ H xs us Q I rv h
theorem keys_rl {K : PySem.W.Frag} {B : Bs} {H : Hp} {δ : Env} {σ : St} : ∀ {kvs : List (List Key × V)} {bs : List Addr}, IsKeys H kvs bs → kvs.length ≤ sizeLine → (∀ p ∈ kvs, p.1.length ≤ sizeLine) → ∀ {G : Hp}, At K B G δ σ H → ∃ G', At K B G' δ σ H ∧ Ext G G' ∧ RL K G' (bs.map V.ref) (kvs.map fun p => .tup (p.1.map kD))
  | _, _, .nil, _, _, G, a => ⟨G, a, Ext.refl _, .nil⟩
  | p :: kvs, b :: bs, .cons h t, hl, hk, G, a => by
    obtain ⟨G1, a1, x1, g1⟩ := a.tuple h
    obtain ⟨G2, a2, x2, r2⟩ := keys_rl t (by rw [List.length_cons] at hl; omega) (fun q hq => hk q (List.mem_cons_of_mem _ hq)) a1
    refine ⟨G2, a2, x1.trans x2, ?_⟩
    rw [List.map_cons, List.map_cons]
    exact .cons (.tup (x2 _ _ g1) (by rw [List.length_map]; exact hk p List.mem_cons_self) (kDs_ok _)) r2
/-- keys are short -/
def shortK (ks : List (List Key)) : Bool := ks.all fun k => decide (k.length ≤ 1000)
def fList' : List D → Option D
  | [.dT l] => if shortK (l.map (·.1)) = true then some (.lst (l.map fun p => .tup (p.1.map kD))) else none
  | as => fList as
theorem snd_list : SndFO X.K fList' (rListA X.K) := fun B G H δ σ xs as d Q at' rx h k => by
  have seq : ∀ v l, (∃ a ys, v = V.ref a ∧ (SqL X.K H a ys ∨ SqT X.K H a ys) ∧ ys.length ≤ sizeLine ∧ RL X.K G ys l) → d = .lst l → xs = [v] → rListA X.K xs H Q := fun v l hh hd hx => by
    obtain ⟨a, ys, rfl, h1, h2, h3⟩ := hh
    subst hd hx
    refine .inl ⟨a, ys, rfl, h1, fun q hq => ?_⟩
    obtain ⟨b1, b2⟩ := at'.own1 (p := q) (o := .lst _) hq (.lst upd_same h2 h3)
    exact k q _ _ b1 (Ext.refl _) b2
  unfold fList' at h
  split at h
  · rename_i l
    split at h
    · rename_i hs
      cases h
      obtain ⟨v, rfl, r⟩ := rl1 rx
      cases r with
      | dT g hl hk r =>
        rename_i a kvs
        refine .inr ⟨a, kvs, rfl, at'.vw.rd g, fun q bs hq hb => ?_⟩
        have hlen := congrArg List.length hk
        rw [List.length_map, List.length_map] at hlen
        obtain ⟨G2, a2, x2, r2⟩ := keys_rl hb hl (fun p hp => by
          have : p.1 ∈ l.map (·.1) := by rw [← hk]; exact List.mem_map.mpr ⟨p, hp, rfl⟩
          exact small_line (of_decide_eq_true (List.all_eq_true.mp hs p.1 this))) at'
        have e : (kvs.map fun p => D.tup (p.1.map kD)) = l.map fun p => D.tup (p.1.map kD) := by
          have : ∀ m : List (List Key × V), (m.map fun p => D.tup (p.1.map kD)) = (m.map (·.1)).map fun k => D.tup (k.map kD) := fun m => by rw [List.map_map]; rfl
          rw [this, hk, List.map_map]; rfl
        rw [e] at r2
        obtain ⟨b1, b2⟩ := a2.own1 (p := q) (o := .lst (bs.map V.ref)) hq (.lst upd_same (by rw [r2.length, List.length_map]; omega) r2)
        exact k q _ _ b1 x2 b2
    · cases h
  · unfold fList at h
    split at h
    · cases h
      obtain ⟨v, rfl, r⟩ := rl1 rx
      cases r with
      | lst g l r => exact seq _ _ ⟨_, _, rfl, .inl (SqL.of (at'.vw.lst g)), l, r⟩ rfl rfl
    · cases h
      obtain ⟨v, rfl, r⟩ := rl1 rx
      cases r with
      | scr g l r => exact seq _ _ ⟨_, _, rfl, .inl (at'.vw.sql g), l, r⟩ rfl rfl
    · cases h
      obtain ⟨v, rfl, r⟩ := rl1 rx
      cases r with
      | tup g l r => exact seq _ _ ⟨_, _, rfl, .inr (SqT.of (at'.vw.tup g)), l, r⟩ rfl rfl
    · cases h
theorem do_list (hc : X.calm = true) (hg : Gl X x) (hm : X.mg x = none) (hv : bootBuiltins x = some (.type "list")) (ha : DA X W (e :: es) A) (hn : x ≠ "__name__" := by decide) (hdb : (x == ("__debug__" : Str)) = false := by decide)
    (he : starEach (e :: es) X.env = (false, eval e X.env) :: starEach es X.env := by rfl) (hpl : (backTo pos (starEach es X.env)).any (·.1) = false := by rfl) : DO X W (.Call (.Name x p) (e :: es) [] pos) (eF fList' A) :=
  do_tCB snd_list (pe_callTy (call_listA hc) hg hm hv ha hn hdb he hpl)
def fTuple : List D → Option D
  | [.lst l] => some (.tup l)
  | [.tup l] => some (.tup l)
  | _ => none
theorem snd_tuple : SndF X.K fTuple (fun xs H Q => ∃ p ys, xs = [.ref p] ∧ ((SqL X.K H p ys ∧ ∀ l, H l = none → Q (.ref l) (upd H l (.tup ys))) ∨ (SqT X.K H p ys ∧ Q (.ref p) H))) := fun B G H δ σ xs as d Q at' rx h k => by
  unfold fTuple at h
  split at h
  · cases h
    obtain ⟨v, rfl, r⟩ := rl1 rx
    cases r with
    | lst g l r =>
      rename_i a xs
      refine ⟨_, _, rfl, .inl ⟨SqL.of (at'.vw.lst g), fun q hq => ?_⟩⟩
      have ex := Ext.new (o := .tup xs) (at'.vw.none hq)
      exact k _ _ _ (at'.laid hq fun _ z => by cases z) ex (.tup upd_same l (r.mono ex))
  · cases h
    obtain ⟨v, rfl, r⟩ := rl1 rx
    cases r with
    | tup g l r => exact ⟨_, _, rfl, .inr ⟨SqT.of (at'.vw.tup g), k _ G H at' (Ext.refl _) (.tup g l r)⟩⟩
  · cases h
theorem de_tuple (hg : Gl X x) (hm : X.mg x = none) (hv : bootBuiltins x = some (.type "tuple")) (ha : DA X W (e :: es) A) (hn : x ≠ "__name__" := by decide) (hdb : (x == ("__debug__" : Str)) = false := by decide)
    (he : starEach (e :: es) X.env = (false, eval e X.env) :: starEach es X.env := by rfl) (hpl : (backTo pos (starEach es X.env)).any (·.1) = false := by rfl) : DE X W (.Call (.Name x p) (e :: es) [] pos) (eF fTuple A) :=
  de_tCB snd_tuple (pe_callTy call_tuple_of hg hm hv ha hn hdb he hpl)
end
end M
set_option Elab.async false
set_option linter.all false
set_option maxRecDepth 100000
theorem L2.Room.u1 {k : Nat} {A : PySem.Around} (r : L2.Room k A) : A.units + 1 < PySem.cLine := by have := r.un; omega
namespace M
open PySem L2 PySem.Spec PyProof.Rows
theorem bt_len : bootBuiltins "len" = some (.builtin "len") := by decide +kernel
theorem bt_abs : bootBuiltins "abs" = some (.builtin "abs") := by decide +kernel
theorem bt_all : bootBuiltins "all" = some (.builtin "all") := by decide +kernel
theorem bt_isinstance : bootBuiltins "isinstance" = some (.builtin "isinstance") := by decide +kernel
theorem bt_int : bootBuiltins "int" = some (.type "int") := by decide +kernel
theorem bt_list : bootBuiltins "list" = some (.type "list") := by decide +kernel
theorem bt_tuple : bootBuiltins "tuple" = some (.type "tuple") := by decide +kernel
theorem bt_str : bootBuiltins "str" = some (.type "str") := by decide +kernel
/-- a def that may be called by its name -/
structure CalM (P : Program) (w : World) (K : PySem.W.Frag) (mg : Str → Option Value) (base : Heap) (k : Nat) (x : Str) (n : Nat) (ro : Bool) (m : Mo D) : Prop where
  ex : ∃ (f : Addr) (fd : FuncData) (ps : List Str), FnOk P w K mg base CX0 k f fd ps (spM Wn K n ro m) ∧ mg x = some (.ref f) ∧ PySem.W.keepIn K (.ref f) = true ∧ Binds K fd ps []
section
variable {X : Cx} {W : WK} {e : Expr} {es : List Expr} {A : Mo (List Ag)} {k n : Nat} {x : Str} {p pos : Pos} {m : Mo D} {st : Stmt}
theorem de_callC (C : CalM X.prog X.w X.K X.mg X.base k x n false m) (hr : Room k X.A) (hg : Gl X x) (hl : ALen A n) (ha : DA X W0 (e :: es) A) (hdb : (x == ("__debug__" : Str)) = false := by decide)
    (he : starEach (e :: es) X.env = (false, eval e X.env) :: starEach es X.env := by rfl) (hpl : (backTo pos (starEach es X.env)).any (·.1) = false := by rfl) : DE X W0 (.Call (.Name x p) (e :: es) [] pos) (eCall m A) := by
  obtain ⟨f, fd, ps, F, hm, hk, hb⟩ := C.ex
  exact de_call F hr hg hm hk hb hl ha hdb he hpl
theorem do_callC (C : CalM X.prog X.w X.K X.mg X.base k x n true m) (hr : Room k X.A) (hg : Gl X x) (hl : ALen A n) (ha : DA X W0 (e :: es) A) (hdb : (x == ("__debug__" : Str)) = false := by decide)
    (he : starEach (e :: es) X.env = (false, eval e X.env) :: starEach es X.env := by rfl) (hpl : (backTo pos (starEach es X.env)).any (·.1) = false := by rfl) : DO X W0 (.Call (.Name x p) (e :: es) [] pos) (eCall m A) := by
  obtain ⟨f, fd, ps, F, hm, hk, hb⟩ := C.ex
  exact do_call F hr hg hm hk hb hl ha hdb he hpl
end
section
variable {X : Cx} {W : WK} {a b c : Expr} {pos : Pos} {Ea Eb Ec : Mo D}
theorem tOp_ok {K : PySem.W.Frag} {f : D → D → Option D} {r : R2} (hf : Snd2 K f r) {σ : St} {H : Hp} {Q : VK} (q : tE K W (eBin f Ea Eb) σ H Q) : tOp r (tE K W Ea) (tE K W Eb) σ H Q := by
  obtain ⟨B, G, δ, r', δ', a, e1, post⟩ := q
  refine tE_bind a e1 post fun v H1 G1 δ1 d a1 x1 r1 e2 post => ?_
  refine tE_bind a1 e2 post fun w H2 G2 δ2 d2 a2 x2 r2 e3 post => ?_
  obtain ⟨z, hz, hr⟩ := lift_some e3
  cases hr
  exact hf B G2 H2 δ' σ v w d d2 z Q a2 (r1.mono x2) r2 hz fun v G' H' a' x' r' => post G' H' a' x' v r'
theorem tTest_ok {K : PySem.W.Frag} {E : Mo D} {t : TE} (h : ∀ σ H Q, tE K W E σ H Q → t σ H Q) {σ : St} {H : Hp} {Q : Bool → Hp → Prop} (q : tT K W (eB E) σ H Q) : tTest t σ H Q := by
  obtain ⟨B, G, δ, r', δ', a, e1, post⟩ := q
  refine h _ _ _ (tE_bind a e1 post fun v H1 G1 δ1 d a1 x1 r1 e2 post => ?_)
  obtain ⟨z, hz, hr⟩ := lift_some e2
  cases hr
  obtain rfl := dBl_some hz
  cases r1
  exact ⟨z, rfl, post G1 H1 a1 (Ext.refl _)⟩
theorem dt_cmp {op : CmpOp} {f : D → D → Option D} {r : R2} (ho : OpR X (compareOp op) r) (hf : Snd2 X.K f r) (ha : DE X W a Ea) (hb : DE X W b Eb) (hm : behindInMarks op b = false) : DT X W (.Compare a [op] [b] pos) (eB (eBin f Ea Eb)) :=
  PT.weak (pt_cmpR ho ha hb hm) fun σ H Q q => tTest_ok (fun _ _ _ z => tOp_ok hf z) q
theorem dt_lt (ha : DE X W a Ea) (hb : DE X W b Eb) : DT X W (.Compare a [.Lt] [b] pos) (eB (eBin dLt Ea Eb)) := dt_cmp opc_lt snd_cmp' ha hb (nomark _)
theorem dt_gt (ha : DE X W a Ea) (hb : DE X W b Eb) : DT X W (.Compare a [.Gt] [b] pos) (eB (eBin dGt Ea Eb)) := dt_cmp opc_gt snd_cmp' ha hb (nomark _)
theorem dt_ge (ha : DE X W a Ea) (hb : DE X W b Eb) : DT X W (.Compare a [.GtE] [b] pos) (eB (eBin dGe Ea Eb)) := dt_cmp opc_ge snd_cmp' ha hb (nomark _)
theorem dt_eq (hu : X.A.units + 64 < cLine) (ha : DE X W a Ea) (hb : DE X W b Eb) : DT X W (.Compare a [.Eq] [b] pos) (eB (eBin dEq Ea Eb)) := dt_cmp (op_eqD hu) snd_eq ha hb (nomark _)
theorem dt_ne (hu : X.A.units + 64 < cLine) (ha : DE X W a Ea) (hb : DE X W b Eb) : DT X W (.Compare a [.NotEq] [b] pos) (eB (eBin dNe Ea Eb)) := dt_cmp (op_neD hu) snd_ne ha hb (nomark _)
theorem dt_isN (ha : DE X W a Ea) (hb : DE X W b Eb) : DT X W (.Compare a [.Is] [b] pos) (eB (eBin (dIs false) Ea Eb)) := dt_cmp (r := rIsN false) op_isN snd_is ha hb (nomark _)
theorem dt_notN (ha : DE X W a Ea) (hb : DE X W b Eb) : DT X W (.Compare a [.IsNot] [b] pos) (eB (eBin (dIs true) Ea Eb)) := dt_cmp (r := rIsN true) op_notN snd_is ha hb (nomark _)
theorem tChain_ok {K : PySem.W.Frag} {f g : D → D → Option D} {r r' : R2} (hf : Snd2 K f r) (hg : Snd2 K g r') {σ : St} {H : Hp} {Q : VK} (q : tE K W (eChain f g Ea Eb Ec) σ H Q) : tChain r r' (tE K W Ea) (tE K W Eb) (tE K W Ec) σ H Q := by
  obtain ⟨B, G, δ, r1, δ', at', e1, post⟩ := q
  refine tE_bind at' e1 post fun v H1 G1 δ1 d a1 x1 r1 e2 post => ?_
  refine tE_bind a1 e2 post fun w H2 G2 δ2 d2 a2 x2 r2 e3 post => ?_
  unfold Mo.bind Mo.lift at e3
  cases q : (f d d2).bind dBl with
  | none => rw [q] at e3; cases e3
  | some k =>
    rw [q] at e3
    simp only [] at e3
    cases q2 : f d d2 with
    | none => rw [q2] at q; cases q
    | some z =>
      rw [q2, Option.bind_some] at q
      obtain rfl := dBl_some q
      refine hf B G2 H2 δ2 σ v w d d2 _ _ a2 (r1.mono x2) r2 q2 fun v3 G3 H3 a3 x3 r3 => ?_
      cases r3
      refine ⟨k, rfl, ?_⟩
      cases k with
      | false => rw [if_neg Bool.false_ne_true] at e3 ⊢; cases e3; exact (post.mono x3) G3 H3 a3 (Ext.refl _) _ (.bl _)
      | true =>
        rw [if_pos rfl] at e3 ⊢
        refine tE_bind (k := fun z => Mo.lift (g d2 z)) a3 e3 (post.mono x3) fun u H4 G4 δ4 d4 a4 x4 r4 e4 post => ?_
        obtain ⟨z, hz, hr⟩ := lift_some e4
        cases hr
        exact hg B G4 H4 δ' σ w u d2 d4 z Q a4 (r2.mono (x3.trans x4)) r4 hz fun v G' H' a' x' r' => post G' H' a' x' v r'
theorem dt_chain {op op' : CmpOp} {f g : D → D → Option D} {r r' : R2} (ho : OpR X (compareOp op) r) (ho' : OpR X (compareOp op') r') (hf : Snd2 X.K f r) (hg : Snd2 X.K g r') (ha : DE X W a Ea) (hb : DE X W b Eb) (hc : DE X W c Ec)
    (hm : lastMarks [op, op'] [b, c] = false := by with_unfolding_all rfl) : DT X W (.Compare a [op, op'] [b, c] pos) (eB (eChain f g Ea Eb Ec)) := PT.weak (pt_chain ho ho' ha hb hc hm) fun σ H Q q => tTest_ok (fun _ _ _ z => tChain_ok hf hg z) q
end
end M
set_option Elab.async false
set_option linter.all false
set_option maxRecDepth 100000
namespace M
open PySem L2 PySem.Spec PyProof.Rows
theorem nodup_inj {α : Type} : ∀ {l : List α} {i j : Nat} {x : α}, l.Nodup → l[i]? = some x → l[j]? = some x → i = j
  | [], i, j, x, _, h, _ => by simp at h
  | y :: l, 0, 0, x, _, _, _ => rfl
  | y :: l, 0, j + 1, x, n, h1, h2 => by
    simp at h1 h2; subst h1
    exact absurd (List.mem_of_getElem? h2) (List.nodup_cons.mp n).1
  | y :: l, i + 1, 0, x, n, h1, h2 => by
    simp at h1 h2; subst h2
    exact absurd (List.mem_of_getElem? h1) (List.nodup_cons.mp n).1
  | y :: l, i + 1, j + 1, x, n, h1, h2 => by
    have := nodup_inj (i := i) (j := j) (x := x) (List.nodup_cons.mp n).2 (by simpa using h1) (by simpa using h2)
    rw [this]
def addAt (ls : List (List Int)) (i : Nat) (x : Int) : List (List Int) := ls.set i (ls.getD i [] ++ [x])
/-- the lists under construction -/
structure TL (H0 H : Hp) (D : Addr) (ps : List Addr) (ls : List (List Int)) : Prop where
  len : ps.length = ls.length
  d : H D = some (.lst (ps.map V.ref))
  nd : (D :: ps).Nodup
  el : ∀ (i : Nat) p l, ps[i]? = some p → ls[i]? = some l → H p = some (.lst (l.map V.int))
  fr : ∀ p ∈ D :: ps, H0 p = none
  out : ∀ p, p ∉ D :: ps → H p = H0 p
theorem TL.start {H0 : Hp} {D : Addr} (h : H0 D = none) : TL H0 (upd H0 D (.lst [])) D [] [] := by
  refine ⟨rfl, upd_same, by simp, fun i p l e => by simp at e, fun p hp => ?_, fun p hp => upd_ne fun c => hp (by rw [c]; simp)⟩
  simp at hp; rw [hp]; exact h
theorem TL.there {H0 H : Hp} {D : Addr} {ps : List Addr} {ls : List (List Int)} (t : TL H0 H D ps ls) {p : Addr} (h : p ∈ D :: ps) : H p ≠ none := by
  rcases List.mem_cons.mp h with rfl | h
  · rw [t.d]; simp
  · obtain ⟨i, hi, e⟩ := List.mem_iff_getElem.mp h
    have e2 : ps[i]? = some p := by rw [List.getElem?_eq_getElem hi, e]
    rw [t.el i p _ e2 (List.getElem?_eq_getElem (by rw [← t.len]; exact hi))]; simp
theorem TL.push {H0 H : Hp} {D : Addr} {ps : List Addr} {ls : List (List Int)} (t : TL H0 H D ps ls) {p : Addr} (hp : H p = none) : TL H0 (upd (upd H p (.lst [])) D (.lst (ps.map V.ref ++ [V.ref p]))) D (ps ++ [p]) (ls ++ [[]]) := by
  have nm : p ∉ D :: ps := fun m => t.there m hp
  have h0 : H0 p = none := by rw [← t.out p nm]; exact hp
  have nD : p ≠ D := fun c => nm (by rw [c]; simp)
  have nps : p ∉ ps := fun m => nm (List.mem_cons_of_mem _ m)
  obtain ⟨n1, n2⟩ := List.nodup_cons.mp t.nd
  refine ⟨by rw [List.length_append, List.length_append, t.len]; rfl, by rw [upd_same, List.map_append]; rfl, ?_, fun i q l e1 e2 => ?_, fun q hq => ?_, fun q hq => ?_⟩
  · refine List.nodup_cons.mpr ⟨fun m => ?_, ?_⟩
    · rcases List.mem_append.mp m with m | m
      · exact n1 m
      · simp at m; exact nD m.symm
    · refine List.nodup_append.mpr ⟨n2, by simp, fun x hx y hy => ?_⟩
      simp at hy; subst hy
      intro c; subst c; exact nps hx
  · have qD : q ≠ D := fun c => by
      have : q ∈ ps ++ [p] := List.mem_of_getElem? e1
      rcases List.mem_append.mp this with m | m
      · exact n1 (c ▸ m)
      · simp at m; exact nD (m ▸ c)
    rw [upd_ne qD]
    by_cases hi : i < ps.length
    · rw [List.getElem?_append_left hi] at e1
      rw [List.getElem?_append_left (by rw [← t.len]; exact hi)] at e2
      have qp : q ≠ p := fun c => nps (c ▸ List.mem_of_getElem? e1)
      rw [upd_ne qp]; exact t.el i q l e1 e2
    · rw [List.getElem?_append_right (by omega)] at e1
      rw [List.getElem?_append_right (by rw [← t.len]; omega), ← t.len] at e2
      cases hz : i - ps.length with
      | zero => rw [hz] at e1 e2; simp at e1 e2; subst e1 e2; rw [upd_same]; rfl
      | succ m => rw [hz] at e1; simp at e1
  · rcases List.mem_cons.mp hq with rfl | hq
    · exact t.fr _ List.mem_cons_self
    · rcases List.mem_append.mp hq with m | m
      · exact t.fr _ (List.mem_cons_of_mem _ m)
      · simp at m; subst m; exact h0
  · have a1 : q ≠ D := fun c => hq (by rw [c]; exact List.mem_cons_self)
    have a2 : q ∉ ps := fun m => hq (List.mem_cons_of_mem _ (List.mem_append_left _ m))
    have a3 : q ≠ p := fun c => hq (List.mem_cons_of_mem _ (List.mem_append_right _ (by rw [c]; simp)))
    rw [upd_ne a1, upd_ne a3]
    exact t.out q fun m => (List.mem_cons.mp m).elim a1 a2
theorem TL.add {H0 H : Hp} {D : Addr} {ps : List Addr} {ls : List (List Int)} (t : TL H0 H D ps ls) {i : Nat} {p : Addr} (x : Int) (hp : ps[i]? = some p) : TL H0 (upd H p (.lst ((ls.getD i []).map V.int ++ [V.int x]))) D ps (addAt ls i x) := by
  obtain ⟨n1, n2⟩ := List.nodup_cons.mp t.nd
  have hm := List.mem_of_getElem? hp
  have pD : p ≠ D := fun c => n1 (c ▸ hm)
  have hi : i < ps.length := (List.getElem?_eq_some_iff.mp hp).1
  have hil : i < ls.length := by rw [← t.len]; exact hi
  refine ⟨by unfold addAt; rw [List.length_set]; exact t.len, by rw [upd_ne pD.symm]; exact t.d, t.nd, fun j q l e1 e2 => ?_, t.fr, fun q hq => ?_⟩
  · unfold addAt at e2
    by_cases c : i = j
    · subst c
      rw [hp] at e1; cases e1
      rw [List.getElem?_set_self hil] at e2; cases e2
      rw [upd_same, List.map_append]; rfl
    · rw [List.getElem?_set_ne c] at e2
      have qp : q ≠ p := fun z => by
        subst z
        exact c (nodup_inj n2 hp e1)
      rw [upd_ne qp]; exact t.el j q l e1 e2
  · rw [upd_ne fun c => hq (by rw [c]; exact List.mem_cons_of_mem _ hm)]; exact t.out q hq
theorem atI_nat {α : Type} {l : List α} {n : Nat} {x : α} (h : l[n]? = some x) : atI l ((n : Nat) : Int) = some x := by
  have hn := (List.getElem?_eq_some_iff.mp h).1
  unfold atI ixN
  rw [if_pos (Int.natCast_nonneg n), if_pos (by omega)]
  simpa using h
end M
set_option Elab.async false
set_option linter.all false
set_option maxRecDepth 100000
namespace M
open PySem L2 PySem.Spec PyProof.Rows
def eP0 : Mo (Option Int) := Mo.ret none
def dPart : D → Option (Option Int)
  | .int i => some (some i)
  | _ => none
def eP1 (E : Mo D) : Mo (Option Int) := E.bind fun d => Mo.lift (dPart d)
def tP (K : PySem.W.Frag) (W : WK) (P : Mo (Option Int)) : TO := fun σ H Q => ∃ B G δ r δ', At K B G δ σ H ∧ P δ = some (r, δ') ∧ Post K W B G σ r δ' (fun o G' H' => Q o H')
def DP (X : Cx) (W : WK) (e : Option Expr) (P : Mo (Option Int)) : Prop := PO X e (tP X.K W P)
section
variable {X : Cx} {W : WK} {e : Expr} {E : Mo D} {P : Mo (Option Int)}
theorem PO.weak {e : Option Expr} {t t' : TO} (h : PO X e t) (w : ∀ σ H Q, t' σ H Q → t σ H Q) : PO X e t' := ⟨fun pins s σ H Q I q => h.run pins s σ H Q I (w σ H Q q)⟩
theorem dp_none : DP X W none eP0 := PO.weak po_none fun σ H Q ⟨B, G, δ, r, δ', a, e1, post⟩ => by
  cases e1; exact post G H a (Ext.refl _)
theorem dp_some (h : DE X W e E) : DP X W (some e) (eP1 E) := PO.weak (po_some h) fun σ H Q ⟨B, G, δ, r, δ', a, e1, post⟩ => by
  refine tE_bind a e1 post fun v H1 G1 δ1 d a1 x1 r1 e2 post => ?_
  obtain ⟨z, hz, hr⟩ := lift_some e2
  cases hr
  cases r1 with
  | int i => cases hz; exact ⟨i, rfl, post G1 H1 a1 (Ext.refl _)⟩
  | _ => cases hz
def cutD {α : Type} (xs : List α) (lo hi : Option Int) : List α := (xs.drop (HT.sIx xs.length 0 lo)).take (HT.sIx xs.length xs.length hi - HT.sIx xs.length 0 lo)
def dSl : D → Option Int → Option Int → Option D
  | .tup l, lo, hi => some (.tup (cutD l lo hi))
  | .str s, lo, hi => if s.length ≤ sizeLine then some (.str (cutS s lo hi)) else none
  | _, _, _ => none
def eSl (f : D → Option Int → Option Int → Option D) (E : Mo D) (L U : Mo (Option Int)) : Mo D := E.bind fun d => L.bind fun l => U.bind fun u => Mo.lift (f d l u)
theorem tP_bind {K : PySem.W.Frag} {B : Bs} {G H : Hp} {δ δ' : Env} {σ : St} {β : Type} {r : Except Exn β} {ok : β → Hp → Hp → Prop} {k : Option Int → Mo β} {Q : Option Int → Hp → Prop} (a : At K B G δ σ H) (h : Mo.bind P k δ = some (r, δ')) (post : Post K W B G σ r δ' ok)
    (q : ∀ H1 G1 δ1 d, At K B G1 δ1 σ H1 → Ext G G1 → k d δ1 = some (r, δ') → Post K W B G1 σ r δ' ok → Q d H1) : tP K W P σ H Q := by
  unfold Mo.bind at h
  cases e : P δ with
  | none => rw [e] at h; cases h
  | some z =>
    obtain ⟨x, δ1⟩ := z
    rw [e] at h
    cases x with
    | error x => cases h; exact ⟨B, G, δ, .error x, _, a, e, post⟩
    | ok d => exact ⟨B, G, δ, .ok d, δ1, a, e, fun G1 H1 a1 e1 => q H1 G1 δ1 d a1 e1 h (post.mono e1)⟩
theorem rl_cut {K : PySem.W.Frag} {G : Hp} {xs : List V} {ds : List D} (r : RL K G xs ds) (lo hi : Option Int) : RL K G (cutV xs lo hi) (cutD ds lo hi) := by
  unfold cutV cutD
  rw [r.length]
  exact (r.drop _).take _
theorem SlR.or2 {r r' : V → Option Int → Option Int → Hp → VK → Prop} (h : SlR X r) (h' : SlR X r') : SlR X (fun x lo hi H Q => r x lo hi H Q ∨ r' x lo hi H Q) := SlR.or h h'
theorem cut_all {α : Type} {xs : List α} {lo hi : Option Int} (h : HT.sIx xs.length 0 lo = 0 ∧ HT.sIx xs.length xs.length hi = xs.length) : cutD xs lo hi = xs := by
  unfold cutD; rw [h.1, h.2, List.drop_zero, Nat.sub_zero, List.take_length]
theorem de_sl {a : Expr} {lo hi : Option Expr} {p2 pos : Pos} {L U : Mo (Option Int)} (ha : DE X W a E) (hl : DP X W lo L) (hu : DP X W hi U) : DE X W (.Subscript a (.Slice lo hi none p2) pos) (eSl dSl E L U) :=
  PE.weak (pe_slice (SlR.or2 sl_tupA sl_str) ha hl hu) fun σ H Q ⟨B, G, δ, r, δ', at', e1, post⟩ => by
  refine tE_bind at' e1 post fun v H1 G1 δ1 d a1 x1 r1 e2 post => ?_
  refine tP_bind a1 e2 post fun H2 G2 δ2 l a2 x2 e3 post => ?_
  refine tP_bind a2 e3 post fun H3 G3 δ3 u a3 x3 e4 post => ?_
  obtain ⟨z, hz, hr⟩ := lift_some e4
  cases hr
  have r3 := r1.mono (x2.trans x3)
  cases r3 with
  | tup g hl rl =>
    rename_i p xs ds
    cases hz
    refine .inl ⟨p, xs, rfl, SqT.of (a3.vw.tup g), fun hh => ?_, fun _ q hq => ?_⟩
    · have hh2 : HT.sIx ds.length 0 l = 0 ∧ HT.sIx ds.length ds.length u = ds.length := by rw [← rl.length]; exact hh
      rw [cut_all hh2] at post
      exact post G3 H3 a3 (Ext.refl _) _ (.tup g hl rl)
    · have ex := Ext.new (o := .tup (cutV xs l u)) (a3.vw.none hq)
      exact post _ _ (a3.laid hq fun _ z => by cases z) ex _ (.tup upd_same (Nat.le_trans (cutV_length xs l u) hl) ((rl_cut rl l u).mono ex))
  | str s =>
    have hz : (if s.length ≤ sizeLine then some (D.str (cutS s l u)) else none) = some z := hz
    split at hz
    · rename_i hs
      cases hz
      exact .inr ⟨s, rfl, hs, post G3 H3 a3 (Ext.refl _) _ (.str _)⟩
    · cases hz
  | _ => cases hz
end
def blsD : List D → Option (List Bool)
  | [] => some []
  | .bl b :: l => (blsD l).map (b :: ·)
  | _ => none
theorem blsD_ok {K : PySem.W.Frag} {G : Hp} : ∀ {xs : List V} {l : List D} {bs : List Bool}, RL K G xs l → blsD l = some bs → xs = bs.map V.bl
  | _, _, _, .nil, h => by cases h; rfl
  | _, d :: l, _, .cons r t, h => by
    cases r with
    | bl i =>
      unfold blsD at h
      cases q : blsD l with
      | none => rw [q] at h; cases h
      | some ns => rw [q] at h; cases h; rw [blsD_ok t q]; rfl
    | _ => cases h
section
variable {X : Cx} {W : WK} {e a b c : Expr} {es : List Expr} {x : Str} {p pos : Pos} {E Ea Eb : Mo D} {A : Mo (List Ag)}
def tyN : D → String
  | .non => "NoneType" | .bl _ => "bool" | .int _ => "int" | .str _ => "str" | .tup _ => "tuple" | .lst _ => "list" | .scr _ => "list" | .dK _ => "dict" | .dT _ => "dict" | .alb _ _ => "object"
theorem ty_of {K : PySem.W.Frag} {G H : Hp} {v : V} {d : D} (vw : Vw G H) (r : R K G v d) (hk : isDct d = false) (hs : ∀ l, d ≠ .scr l) (hA : ∀ a b, d ≠ .alb a b) : TyX K H v (.type (tyN d)) := by
  cases r with
  | non => exact .base .non
  | bl b => exact .base (.bl b)
  | int i => exact .base (.int i)
  | str s => exact .base (.str s)
  | tup g => exact .base (.tup (vw.tup g))
  | lst g => exact .base (.lst (vw.lst g))
  | scr => exact absurd rfl (hs _)
  | dK => cases hk
  | dT => cases hk
  | alb => exact absurd rfl (hA _ _)
def dIsB (neg : Bool) : D → D → Option D
  | .bl a, .bl b => some (.bl (if neg then !decide (a = b) else decide (a = b)))
  | _, _ => none
theorem snd_isB {K : PySem.W.Frag} {neg : Bool} : Snd2 K (dIsB neg) (if neg then rNotB else rIsB) := fun B G H δ σ x y a b d Q at' rx ry h k => by
  cases rx with
  | bl i =>
    cases ry with
    | bl j =>
      cases h
      cases neg
      · exact ⟨i, j, rfl, rfl, k _ G H at' (Ext.refl _) (.bl _)⟩
      · exact ⟨i, j, rfl, rfl, k _ G H at' (Ext.refl _) (.bl _)⟩
    | _ => cases h
  | _ => cases h
theorem de_isB (ha : DE X W a Ea) (hb : DE X W b Eb) : DE X W (.Compare a [.Is] [b] pos) (eBin (dIsB false) Ea Eb) := de_cmp (r := rIsB) op_isBl (snd_isB (neg := false)) ha hb (nomark _)
theorem dt_notB (ha : DE X W a Ea) (hb : DE X W b Eb) : DT X W (.Compare a [.IsNot] [b] pos) (eB (eBin (dIsB true) Ea Eb)) := dt_cmp (r := rNotB) op_notBl (snd_isB (neg := true)) ha hb (nomark _)
end
end M
set_option Elab.async false
set_option linter.all false
set_option maxRecDepth 100000
set_option Elab.async false
set_option linter.all false
set_option maxRecDepth 100000
set_option maxHeartbeats 1000000
namespace M
open PySem L2 PySem.Spec PyProof.Rows
def pD (p : Int × Int) : D := .tup [.int p.1, .int p.2]
end M
set_option Elab.async false
set_option linter.all false
set_option maxRecDepth 100000
set_option maxHeartbeats 1000000
set_option Elab.async false
set_option linter.all false
set_option maxRecDepth 100000
set_option maxHeartbeats 1000000
namespace M
open PySem L2 PySem.Spec PyProof.Rows
/-- the dict at a is locked as od -/
def Bs.lock (B : Bs) (a : Addr) (od : Obj) (u : HO) : Bs := { B with H0 := upd B.H0 a (.frz od u), G0 := upd B.G0 a u }
theorem isD_nt {u : HO} (h : isD u = true) : NT u := by
  cases u with
  | dK l => exact nt_dK
  | dT l => exact nt_dT
  | _ => cases h
theorem nt_frz {od : Obj} {u : HO} : NT (.frz od u) := ⟨fun _ e => (by cases e), fun _ e => (by cases e), fun _ _ e => (by unfold LamX.CodeO at e; cases e)⟩
theorem tabS_same {H H2 : Hp} {P a : Addr} {q : Str} {o : HO} (t : LamX.TabS H P q) (h : H a = some o) (n : NT o) (h1 : ∀ b, b ≠ a → H2 b = H b) : LamX.TabS H2 P q := by
  obtain ⟨ps, e1, e2, e3⟩ := t
  have c1 : P ≠ a := fun c => by subst c; rw [h] at e1; cases e1; exact n.tbl _ rfl
  refine ⟨ps, by rw [h1 P c1]; exact e1, e2, fun pos cv hc => ?_⟩
  obtain ⟨c, x1, x2⟩ := e3 pos cv hc
  have c2 : c ≠ a := fun z => by subst z; rw [h] at x2; cases x2; exact n.code _ _ rfl
  exact ⟨c, x1, by rw [h1 c c2]; exact x2⟩
section
variable {K : PySem.W.Frag} {B : Bs} {G G' H H' Hl H2 : Hp} {δ δ' : Env} {σ σ' : St} {a : Addr} {od : Obj} {u : HO}
theorem At.noIO (a0 : At K B G δ σ H) (g : G a = some u) : ∀ i, (i, a) ∉ B.IO := fun i io => by
  obtain ⟨b1, b2, _⟩ := a0.iok i a io
  cases z : B.H0 a with
  | none => exact b2 z
  | some o =>
    have := a0.leak a o z (fun xs c => a0.tb.2.2.2.2 i a xs io (by rw [z, c])) b1
    rw [g] at this; cases this
theorem At.lock (a0 : At K B G δ σ H) (g : G a = some u) (hd : isD u = true) (h3 : H a = some u ∨ H a = some (.frz od u)) (h1 : ∀ b, b ≠ a → Hl b = H b) (h2 : Hl a = some (.frz od u)) : At K (B.lock a od u) G δ σ Hl := by
  have nio := a0.noIO g
  have hnt : ∃ o, H a = some o ∧ NT o := by
    rcases h3 with h | h
    · exact ⟨_, h, isD_nt hd⟩
    · exact ⟨_, h, nt_frz⟩
  obtain ⟨o, ho, no⟩ := hnt
  have vw : ∀ F : Hp, Vw F H → Vw F Hl := fun F v b x e => by
    by_cases cb : b = a
    · subst cb
      rcases h3 with h | h
      · rcases v b x e with q | ⟨_, y, q⟩
        · rw [h] at q; cases q; exact .inr ⟨hd, od, h2⟩
        · rw [h] at q; cases q; cases hd
      · rw [h2, ← h]; exact v b x e
    · rw [h1 b cb]; exact v b x e
  have neA : ∀ b x, H b = some x → Mut (some x) → (∀ j, ¬ OwnAt δ σ j b) ∨ b ≠ a := fun b x e m => by
    by_cases c : b = a
    · left
      intro j z
      have := (a0.ownAt z).1
      rw [c, g] at this; cases this
    · exact .inr c
  refine ⟨vw G a0.vw, fun b x e => ?_, fun b x e z => ?_, fun b e => ?_, fun b x e t z => ?_, fun i b e => ?_, fun j => vw _ (a0.bo j), fun j b e => ?_, a0.len, fun i s e => ?_, a0.apart, ⟨fun P hP => tabS_same (a0.tb.1 P hP) ho no h1, fun b ps e => ?_, a0.tb.2.2.1, a0.tb.2.2.2.1, fun i b xs e z => ?_⟩⟩
  · have e : upd B.G0 a u b = some x := e
    by_cases c : b = a
    · rw [c, upd_same] at e; cases e; rw [c]; exact g
    · rw [upd_ne c] at e; exact a0.g0 b x e
  · have e : upd B.H0 a (.frz od u) b = some x := e
    by_cases c : b = a
    · rw [c, upd_same] at e; cases e; rw [c]; exact h2
    · rw [upd_ne c] at e; rw [h1 b c]; exact a0.keep b x e z
  · have e : upd B.H0 a (.frz od u) b ≠ none := e
    by_cases c : b = a
    · rw [c, h2]; simp
    · rw [upd_ne c] at e; rw [h1 b c]; exact a0.dom b e
  · have e : upd B.H0 a (.frz od u) b = some x := e
    have z : upd B.G0 a u b = none := z
    by_cases c : b = a
    · rw [c, upd_same] at z; cases z
    · rw [upd_ne c] at e z; exact a0.leak b x e t z
  · obtain ⟨b1, b2, b3, x, b4, b5⟩ := a0.iok i b e
    have c : b ≠ a := fun c => nio i (by rw [← c]; exact e)
    exact ⟨by show upd B.G0 a u b = none; rw [upd_ne c]; exact b1, by show upd B.H0 a (.frz od u) b ≠ none; rw [upd_ne c]; exact b2, b3, x, by rw [h1 b c]; exact b4, b5⟩
  · show upd B.H0 a (.frz od u) b ≠ none
    by_cases c : b = a
    · rw [c, upd_same]; simp
    · rw [upd_ne c]; exact a0.bod j b e
  · obtain ⟨ov, q1, q2⟩ := a0.sl i s e
    refine ⟨ov, q1, ?_⟩
    cases s with
    | no => trivial
    | imm d => exact q2
    | bor d => exact q2
    | own d =>
      obtain ⟨p, r1, r2, r3, r4⟩ := q2
      have c : p ≠ a := fun c => by rw [c, g] at r2; cases r2
      exact ⟨p, r1, r2, r3.at' (h1 p c), by show upd B.H0 a (.frz od u) p = none; rw [upd_ne c]; exact r4⟩
    | io d =>
      obtain ⟨p, r1, r2, r3, r4⟩ := q2
      have c : p ≠ a := fun c => by rw [c, g] at r2; cases r2
      exact ⟨p, r1, r2, r3.at' (h1 p c), r4⟩
  · have e : upd B.H0 a (.frz od u) b = some (.tbl ps) := e
    by_cases c : b = a
    · rw [c, upd_same] at e; cases e
    · rw [upd_ne c] at e; exact a0.tb.2.1 b ps e
  · have z : upd B.H0 a (.frz od u) b = some (.tup xs) := z
    by_cases c : b = a
    · rw [c, upd_same] at z; cases z
    · rw [upd_ne c] at z; exact a0.tb.2.2.2.2 i b xs e z
theorem yl_keys {kvs : List (Key × V)} {ds : List (Key × D)} (h : ∀ (B' : Bs) (G2 H : Hp) (δ : Env) (σ : St), BLe B B' → At K B' G2 δ σ H → H a = some (.frz od (.dK kvs))) (hk : kvs.map (·.1) = ds.map (·.1)) : Yl K B (Itk a od kvs) G (ds.map fun p => kD p.1) := fun B' G2 H2 δ2 σ2 le at' ex i => by
  have hq := h B' G2 H2 δ2 σ2 le at'
  have hl : kvs.length = ds.length := by have := congrArg List.length hk; rw [List.length_map, List.length_map] at this; exact this
  refine ⟨fun d hd => ⟨⟨hq, ?_⟩, ?_⟩, fun hs => ⟨hq, by rw [List.length_map] at hs; omega⟩⟩
  · have := (List.getElem?_eq_some_iff.mp hd).1
    rw [List.length_map] at this; omega
  · rintro x H3 ⟨rfl, k, v, e1, rfl⟩
    refine ⟨rfl, G2, at', Ext.refl _, ?_⟩
    rw [List.getElem?_map] at hd
    cases z : ds[i]? with
    | none => rw [z] at hd; cases hd
    | some p =>
      rw [z] at hd; cases hd
      have e2 : (kvs.map (·.1))[i]? = (ds.map (·.1))[i]? := by rw [hk]
      rw [List.getElem?_map, List.getElem?_map, e1, z] at e2
      have e2 : k = p.1 := Option.some.inj e2
      rw [e2]; exact kD_ok _
theorem yl_keysT {kvs : List (List Key × V)} {ds : List (List Key × D)} (h : ∀ (B' : Bs) (G2 H : Hp) (δ : Env) (σ : St), BLe B B' → At K B' G2 δ σ H → H a = some (.frz od (.dT kvs))) (hk : kvs.map (·.1) = ds.map (·.1)) (sk : shortK (ds.map (·.1)) = true) : Yl K B (Itkt a od kvs) G (ds.map fun p => .tup (p.1.map kD)) := fun B' G2 H2 δ2 σ2 le at' ex i => by
  have hq := h B' G2 H2 δ2 σ2 le at'
  have hl : kvs.length = ds.length := by have := congrArg List.length hk; rw [List.length_map, List.length_map] at this; exact this
  refine ⟨fun d hd => ⟨⟨hq, ?_⟩, ?_⟩, fun hs => ⟨hq, by rw [List.length_map] at hs; omega⟩⟩
  · have := (List.getElem?_eq_some_iff.mp hd).1
    rw [List.length_map] at this; omega
  · rintro x H3 ⟨rfl, k, v, q, e1, rfl, e3⟩
    obtain ⟨G3, a3, x3, g3⟩ := at'.tuple e3
    refine ⟨rfl, G3, a3, x3, ?_⟩
    rw [List.getElem?_map] at hd
    cases z : ds[i]? with
    | none => rw [z] at hd; cases hd
    | some p =>
      rw [z] at hd; cases hd
      have e2 : (kvs.map (·.1))[i]? = (ds.map (·.1))[i]? := by rw [hk]
      rw [List.getElem?_map, List.getElem?_map, e1, z] at e2
      have e2 : k = p.1 := Option.some.inj e2
      subst e2
      refine .tup g3 ?_ (kDs_ok _)
      rw [List.length_map]
      have := List.all_eq_true.mp sk p.1 (List.mem_map.mpr ⟨p, List.mem_of_getElem? z, rfl⟩)
      exact small_line (of_decide_eq_true this)
end
section
variable {K : PySem.W.Frag} {B : Bs} {G H : Hp} {δ : Env} {σ : St}
/-- what a locked dict's walk needs -/
structure LockAt (K : PySem.W.Frag) (B : Bs) (G : Hp) (δ : Env) (σ : St) (H : Hp) (i : Nat) (ks : List D) (a : Addr) (u : HO) : Prop where
  at_ : At K B G δ σ H
  slot : σ[i]? = some (some (.ref a))
  g : G a = some u
  hd : isD u = true
  keys : (∃ (kvs : List (Key × V)) (ds : List (Key × D)), u = .dK kvs ∧ kvs.map (·.1) = ds.map (·.1) ∧ ks = ds.map fun p : Key × D => kD p.1) ∨ ∃ (kvs : List (List Key × V)) (ds : List (List Key × D)), u = .dT kvs ∧ kvs.map (·.1) = ds.map (·.1) ∧ shortK (ds.map (·.1)) = true ∧ ks = ds.map fun p : List Key × D => .tup (p.1.map kD)
/-- the walk over the locked dict: J, its reading -/
theorem LockAt.walk {i : Nat} {ks : List D} {a : Addr} {u : HO} {od : Obj} {Hl : Hp} {R' : It → Hp → Prop} (L : LockAt K B G δ σ H i ks a u) (h2 : Hl a = some (.frz od u)) (q : ∀ J, Yl K (B.lock a od u) J G ks → R' J Hl) : iKeys (tVar i) σ Hl R' := by
  have nio := L.at_.noIO L.g
  have held : ∀ (B' : Bs) (G2 H : Hp) (δ : Env) (σ : St), BLe (B.lock a od u) B' → At K B' G2 δ σ H → H a = some (.frz od u) := fun B' G2 H δ σ le at' =>
    at'.keep a _ (le.1 a _ upd_same) fun j z => nio j (by rw [← show B'.IO = B.IO from le.2]; exact z)
  refine ⟨.ref a, L.slot, a, od, rfl, ?_⟩
  rcases L.keys with ⟨kvs, ds, rfl, k, rfl⟩ | ⟨kvs, ds, rfl, k, sk, rfl⟩
  · exact .inl ⟨kvs, h2, q _ (yl_keys held k)⟩
  · exact .inr ⟨kvs, h2, q _ (yl_keysT held k sk)⟩
end
end M
set_option Elab.async false
set_option linter.all false
set_option maxRecDepth 100000
set_option maxHeartbeats 1000000
set_option Elab.async false
set_option linter.all false
set_option maxRecDepth 100000
set_option maxHeartbeats 4000000
namespace M
open PySem L2 PySem.Spec PyProof.Rows
section
variable {X : Cx} {W : WK} {e : Expr} {x y : Str} {p p2 pos pos2 : Pos} {A : Mo (List Ag)}
def rSetL (K : PySem.W.Frag) (w : World) : List V → Hp → VK → Prop := fun xs H Q => ∃ (a : Addr) (ns : List Int), xs = [V.ref a] ∧ SqL K H a (ns.map V.int) ∧ ns.length ≤ 1000 ∧ ∀ (q : Addr) (c : Nat), H q = none → c ≤ ns.length → Q (.ref q) (upd H q (SetO w q (fun j => decide (j ∈ ns)) c))
end
end M
set_option Elab.async false
set_option linter.all false
set_option maxRecDepth 100000
set_option maxHeartbeats 1000000
set_option Elab.async false
set_option linter.all false
set_option maxRecDepth 100000
set_option maxHeartbeats 1000000
namespace M
open PySem L2 PySem.Spec PyProof.Rows PpSet
section
variable {X : Cx} {W : WK} {o e f : Expr} {apos cpos : Pos} {Ea Eb Ec : Mo D}
theorem isd_of {K : PySem.W.Frag} {B : Bs} {G H : Hp} {δ : Env} {σ : St} {v : V} {d : D} (a : At K B G δ σ H) (r : R K G v d) (h : isDct d = true) : ∃ p, v = .ref p ∧ IsD H p := by
  cases r with
  | dK g l k r => exact ⟨_, rfl, .inl ⟨_, a.vw.rd g⟩⟩
  | dT g l k r => exact ⟨_, rfl, .inr ⟨_, a.vw.rd g⟩⟩
  | _ => cases h
end
end M
set_option Elab.async false
set_option linter.all false
set_option maxRecDepth 100000
set_option maxHeartbeats 4000000
set_option Elab.async false
set_option linter.all false
set_option maxRecDepth 100000
set_option maxHeartbeats 4000000
namespace M
open PySem L2 PySem.Spec PyProof.Rows RT
theorem bt_bool : bootBuiltins "bool" = some (.type "bool") := by decide +kernel
section
variable {X : Cx} {W : WK} {e : Expr} {x y : Str} {p py pos : Pos} {E : Mo D}
def rIsiD : List V → Hp → VK → Prop := fun xs H Q => ∃ a T b, xs = [.ref a, .ty T] ∧ IsD H a ∧ kitB "dict" T = some b ∧ Q (.bl b) H
theorem call_isiD : CallR X (.builtin "isinstance") (fun xs H Q => rIsi X.K xs H Q ∨ rIsiD xs H Q) := by
  intro pins s σ H xs us Q I r h
  rcases h with h | ⟨a, T, b, rfl, hd, hk, q⟩
  · exact call_isi pins s σ H xs us Q I r h
  · obtain ⟨u1, u2, rfl, r1, r2⟩ := vals2 r
    cases (show u1 = Value.ref a from r1)
    cases (show u2 = Value.type T from r2)
    obtain ⟨⟨o, ho, hc⟩, _⟩ := isD_at I hd
    exact PySem.W.kia_one PySem.W.kitx_dict I.kIn ⟨o, ho, hc⟩ (kit_ty hk) (fun z => nomatch z) fun tk => ⟨.bl b, H, I.tok tk, rfl, q⟩
def notScr : D → Bool
  | .alb _ _ => false
  | .scr _ => false
  | _ => true
def eIsi2 (T : String) (E : Mo D) : Mo D := E.bind fun d => Mo.lift (if notScr d = true then (kitB (tyN d) T).map D.bl else none)
theorem de_isi2 {T : String} (hg : Gl X x) (hm : X.mg x = none) (hv : bootBuiltins x = some (.builtin "isinstance")) (hg2 : Gl X y) (hm2 : X.mg y = none) (hv2 : bootBuiltins y = some (.type T)) (ha : DE X W e E)
    (hn : x ≠ "__name__" := by decide) (hdb : (x == ("__debug__" : Str)) = false := by decide) (hn2 : y ≠ "__name__" := by decide) (hdb2 : (y == ("__debug__" : Str)) = false := by decide)
    (he : starEach [e, .Name y py] X.env = (false, eval e X.env) :: starEach [.Name y py] X.env := by rfl) (hpl : (backTo pos (starEach [.Name y py] X.env)).any (·.1) = false := by rfl) :
    DE X W (.Call (.Name x p) [e, .Name y py] [] pos) (eIsi2 T E) := PE.weak (pe_callB call_isiD hg hm hv (pa_cons ha (pa_cons (pe_bltn (v := .ty T) hg2 hm2 hv2 rfl hn2 hdb2) pa_nil) he) hn hdb he hpl) fun σ H Q ⟨B, G, δ, r, δ', at', e1, post⟩ => by
  refine tE_bind at' e1 post fun v H1 G1 δ1 d a1 x1 r1 e2 post => ?_
  obtain ⟨z, hz, hr⟩ := lift_some e2
  cases hr
  split at hz
  · rename_i hs
    cases q : kitB (tyN d) T with
    | none => rw [q] at hz; cases hz
    | some b =>
      rw [q] at hz; cases hz
      by_cases hd : isDct d = true
      · obtain ⟨a, rfl, h⟩ := isd_of a1 r1 hd
        have hq : kitB "dict" T = some b := by
          cases d <;> first | exact q | cases hd
        exact .inr ⟨a, T, b, rfl, h, hq, post G1 H1 a1 (Ext.refl _) _ (.bl b)⟩
      · have hd : isDct d = false := by cases h : isDct d <;> first | rfl | exact absurd h hd
        exact .inl ⟨v, .ty T, .type (tyN d), .type T, b, rfl, .ty T, ty_of a1.vw r1 hd (fun l c => by subst c; cases hs) (fun a b c => by subst c; cases hs), kit_ty q, post G1 H1 a1 (Ext.refl _) _ (.bl b)⟩
  · cases hz
end
end M
set_option Elab.async false
set_option linter.all false
set_option maxRecDepth 100000
set_option maxHeartbeats 1000000
set_option Elab.async false
set_option linter.all false
set_option maxRecDepth 100000
set_option maxHeartbeats 1000000
set_option Elab.async false
set_option linter.all false
set_option maxRecDepth 100000
set_option maxHeartbeats 4000000
namespace Mis
open PySem PySem.W PySem.Calls PyProof.Rows PySem.HandSPX
def iA : Arguments := { posonlyargs := [], args := [{ arg := "self", annotation := none, pos := ⟨11, 17, 11, 21⟩ }, { arg := "why", annotation := none, pos := ⟨11, 23, 11, 26⟩ }], vararg := none, kwonlyargs := [], kw_defaults := [], kwarg := none, defaults := [] }
def iS1 : Stmt := .Expr (.Call (.Attribute (.Call (.Name "super" ⟨12, 8, 12, 13⟩) [] [] ⟨12, 8, 12, 15⟩) "__init__" ⟨12, 8, 12, 24⟩) [.Call (.Name "str" ⟨12, 25, 12, 28⟩) [.Name "why" ⟨12, 29, 12, 32⟩] [] ⟨12, 25, 12, 33⟩] [] ⟨12, 8, 12, 34⟩) ⟨12, 8, 12, 34⟩
def iS2 : Stmt := .Assign [.Attribute (.Name "self" ⟨13, 8, 13, 12⟩) "why" ⟨13, 8, 13, 16⟩] (.Name "why" ⟨13, 19, 13, 22⟩) ⟨13, 8, 13, 22⟩
def iB : List Stmt := [iS1, iS2]
def iS : Scope := { kind := .function, names := [(PySem.Str.ofString "self", .local), (PySem.Str.ofString "why", .local), (PySem.Str.ofString "__class__", .free), (PySem.Str.ofString "super", .globalImplicit), (PySem.Str.ofString "str", .globalImplicit)], isGenerator := false, isCoroutine := false, more := [] }
theorem scCell : ∀ x ∈ iS.names, x.2 ≠ .cell := by decide +kernel
abbrev veMro : List Value := [.type "ValueError", .type "Exception", .type "BaseException", .type "object"]
/-- what the written part says of Misused, at C, and of its __init__, at fI -/
structure Txt (P : Program) (K : Frag) (mg : Str → Option Value) (C fI : Addr) : Prop where
  gC : mg "Misused" = some (.ref C)
  cls : ∃ nm q N bs bm sn sub ab col dd k0 k1 k2 k3 k5, K.lookup C = some (excClassObj nm q C N bs bm true sn sub ab col dd k0 k1 k2 k3 k5 "ValueError.__new__") ∧ refsVE bm = true
  sa : findIn K (.ref C) "__setattr__" = some (some (.builtin "object.__setattr__"))
  ga : findIn K (.ref C) "__getattribute__" = some (some (.builtin "BaseException.__getattribute__"))
  gg : findIn K (.ref C) "__getattr__" = some none
  noN : findIn K (.ref C) "why" = some none
  iC : findIn K (.ref C) "__init__" = some (some (.ref fI))
  tC : typeIn K (.ref fI) = some (.type "function")
  kC : keepIn K (.ref C) = true
  exC : subIn K (.ref C) (.type "BaseException") = some true
  tyC : typeIn K (.ref C) = some (.type "type")
  hdC : hasDictIn K C = true
  te : exmOne K (.ref C) (.ref C) = some true
  sup : ks_superIn K C C "__init__" = some (some (.builtin "ValueError.__init__"))
  sB : subIn K (.ref C) (.type "ValueError") = some true
  mC : mroIn K C (.ref C) = some true
  ei : excInitIn K C veMro "ValueError.__new__" = true
  any : nsIn K cStatics "thirdparty.any" = some none
  gS : mg "super" = none
  gT : mg "str" = none
  top : (P.main.scope.names.lookup ("super" : Str)).isSome = false
  fn : ∃ (oc : Value) (od : Option Addr) (doc pm : Value) (an : Option Addr) (cda cc : Addr) (ct : Value) (osl : Array (Option Value)), K.lookup fI = some ⟨oc, od, .func (ksFn "__init__" "Misused.__init__" iA iB iS .none .none doc pm an (.ref cda) ct cc), osl⟩ ∧ codeIn K (.ref cda) "Misused.__init__" = true ∧
    (∃ (cl : Value) (cld : Option Addr) (csl : Array (Option Value)), K.lookup cc = some ⟨cl, cld, .cell (some (.ref C)), csl⟩) ∧
    ∃ (ccl : Value) (cdd : Option Addr) (vs : Array Value) (ccs : Array (Option Value)) (file : Str) (tf : Tok), K.lookup cda = some ⟨ccl, cdd, .fields vs, ccs⟩ ∧ vs[2]? = some (.str file tf) ∧ ((P.main.file : Str) == file) = true
/-- what __init__ leaves of a fresh exception at x -/
structure Done (h h' : Heap) (x C dx t1 : Addr) (v : Value) : Prop where
  keep : ∀ b o, b ≠ x → h.get? b = some o → h'.get? b = some o
  obj : h'.get? x = some { cls := .ref C, dict := some dx, data := .fields #[.ref t1, .none, .none, .none, .bool false, .none] }
  dbig : h.objs.size ≤ dx
  dne : dx ≠ x
  ns : h'.Ns1 dx (fun y => if y = "why" then some v else none)
theorem one_size (v : Value) : [v].length ≤ sizeLine := by
  rw [sizeLine_eq]; exact (by decide : 1 ≤ 16777216)
section
variable {prog : Program} {w : World} {A : Around} {E : Value → Shared → Prop} {R : Result → Shared → Prop} {s : Shared} {K : Frag} {mg mb : Str → Option Value} {C fI : Addr}
theorem init_run (T : Txt prog K mg C fI) {x t0 : Addr} {a : Str} {tv : Tok} (X : K.In s.heap) (hG : s.heap.Ns mainGlobals mg) (hB : s.heap.Ns builtinsNs mb) (hb : ∀ y : Str, y ≠ "__name__" → mb y = bootBuiltins y) (hlim : s.heap.NoLimit) (hx : s.heap.get? x = some (excO C t0)) (hnx : K.lookup x = none) (hroom : A.depth < recursionLimit)
    (hq : ∀ h' tk dx t1, Done s.heap h' x C dx t1 (.str a tv) → R (.ok (.ret .none)) { s with heap := h', toks := tk }) :
    codeAny (model prog w) A (.call (.ref fI) ⟨[.ref x, .str a tv], []⟩) R s := by
  obtain ⟨hp, g, d, t, os⟩ := s
  obtain ⟨oc, od, doc, pm, an, cda, cc, ct, osl, ho, hcd, ⟨cl, cld, csl, hcell⟩, ccl, cdd, vs, ccs, file, tf, hcode, hvs, hfile⟩ := T.fn
  obtain ⟨nm, q, N, bs, bm, sn, sub, ab, col, dd, k0, k1, k2, k3, k5, hC, hbm⟩ := T.cls
  have hcl : clsIn K C = some { name := nm, bases := bs, mro := .ref C :: bm, ns := N, qualname := q, hasDict := true, slotNames := sn, subclasses := sub, abstract := ab, collection := col, hasDel := false } := by unfold clsIn; rw [hC] <;> rfl
  refine ks_codeAny_call_defAt (fd := ksFn "__init__" "Misused.__init__" iA iB iS .none .none doc pm an (.ref cda) ct cc) (body := iB) (binds := [("self", .ref x), ("why", .str a tv)]) hroom (X _ _ ho) rfl hlim (codeRec_of X hcd) rfl (BindsTo.of_eq (by first | rfl | with_unfolding_all rfl)) scCell (fun p hp => by
    rcases List.mem_cons.mp hp with rfl | hp
    · rfl
    · rw [List.mem_singleton.mp hp]; rfl) (fun h0 hns hk => ?_)
  have X0 : K.In h0 := X.keeps hk
  have hx0 := hk _ _ hx
  have vself : (fun y : Str => ([("self", Value.ref x), ("why", Value.str a tv)] : List (Str × Value)).reverse.lookup y) "self" = some (.ref x) := rfl
  have vwhy : (fun y : Str => ([("self", Value.ref x), ("why", Value.str a tv)] : List (Str × Value)).reverse.lookup y) "why" = some (.str a tv) := rfl
  obtain ⟨cdD, hD⟩ : ∃ cdD, clsIn K C = some cdD := ⟨_, hcl⟩
  have hxC : x ≠ C := by
    rintro rfl
    have := X _ _ hC
    rw [hx] at this
    cases this
  show _root_.PySem.wpAt _ _ _ (execs (iS1 :: [iS2]) _) _ _ _
  refine ks_wpAt_execs_cons ?_
  unfold iS1
  refine ks_wpAt_Expr_any (ks_wpAt_MethodCall ?_)
  refine ks_wpAt_super_base (env := ksEnv "Misused.__init__" iS hp.objs.size fI (.ref cda) cc) rfl rfl rfl rfl (X0 _ _ ho) rfl (ar := { arg := "self", annotation := none, pos := ⟨11, 17, 11, 21⟩ }) rfl rfl (X0 _ _ hcode) rfl hvs hfile T.top ?_
  refine ks_loadName_global rfl rfl (loadGlobal_builtin (env := ksEnv "Misused.__init__" iS hp.objs.size fI (.ref cda) cc) (hG.keeps hk) T.gS (hB.keeps hk) ((hb _ (by decide)).trans (show bootBuiltins "super" = some (.type "super") by decide +kernel)) ⟨rfl, ?_⟩)
  refine wpAny_loadName_free rfl rfl rfl ⟨_, X0 _ _ hcell, rfl⟩ (wpAny_loadName_local rfl rfl hns vself ?_)
  refine ks_wpAny_isType_cls (X0 _ _ hC) (cd := { name := nm, bases := bs, mro := .ref C :: bm, ns := N, qualname := q, hasDict := true, slotNames := sn, subclasses := sub, abstract := ab, collection := col, hasDel := false }) rfl ⟨rfl, ?_⟩
  refine ks_wpAny_call_super (C := C) (X0 _ _ hC) (cdD := { name := nm, bases := bs, mro := .ref C :: bm, ns := N, qualname := q, hasDict := true, slotNames := sn, subclasses := sub, abstract := ab, collection := col, hasDel := false }) rfl hx0 rfl (fun c z => nomatch z) (looks_mroIn X0 T.mC) (fun h1 e1 k1 => ?_)
  have X1 : K.In h1 := X0.keeps k1
  have hx1 := k1 _ _ hx0
  have I1 : InstAt h1 x (excO C t0) C none := ⟨hx1, rfl, rfl, trivial⟩
  have al : alongIn K "__init__" (((Value.ref C :: bm).dropWhile (· != .ref C)).drop 1) = some (some (.builtin "ValueError.__init__")) := by
    have := T.sup
    unfold ks_superIn at this
    rw [hcl] at this
    exact this
  refine kxs_getMethod kxs_ValueError e1 (looks_opaque X1 T.any) (l₀ := .ref C :: bm) (fun A Q E s k q => wpAny_bind ((looks_clsIn X1 hcl) A _ E s k (wpAny_pure q))) rfl X1 al (I1.type.andThen (looks_subIn X1 T.sB)) hxC rfl ?_
  have k2 : ∀ b o, h1.get? b = some o → (h1.push (kxs_mw "ValueError.__init__" x)).get? b = some o := fun b o e => Heap.get?_push_of_some _ e
  have X2 : K.In (h1.push (kxs_mw "ValueError.__init__" x)) := X1.keeps k2
  have hx2 := k2 _ _ hx1
  have hu2 : (h1.push (kxs_mw "ValueError.__init__" x)).get? h1.objs.size = some (kxs_mw "ValueError.__init__" x) := Heap.get?_push_at rfl rfl
  have kk : ∀ b o, hp.get? b = some o → (h1.push (kxs_mw "ValueError.__init__" x)).get? b = some o := fun b o e => k2 b o (k1 b o (hk b o e))
  have hns2 := (hns.keeps k1).keeps k2
  refine kxs_callWith (i := "ValueError.__init__") (x := x) rfl (evalArgs_plain (spliced_cons (PyProof.Rows.Call_ (Calls.Name_function_global rfl rfl (Calls.loadGlobal_builtin (hG.keeps kk) T.gT (hB.keeps kk) ((hb _ (by decide)).trans (show bootBuiltins "str" = some (.type "str") by decide +kernel)) (PyProof.Rows.callWith_type1 (args_cons (wpAny_Name (wpAny_loadName_local rfl rfl hns2 vwhy (args_nil (PySem.P.str_of_str (spliced_nil ⟨hu2, ?_⟩)))) (by decide)))) ) (by decide)))))
  have big : hp.objs.size < h0.objs.size := hns.lt
  have xlt : x < hp.objs.size := Heap.lt_size hx
  have call : ∀ {A' : Around} {E' : Value → Shared → Prop} {Q' : Value → Shared → Prop} {tk' : Nat}, (∀ h' t1, (∀ b o, b ≠ x → (h1.push (kxs_mw "ValueError.__init__" x)).get? b = some o → h'.get? b = some o) → h'.get? x = some (excO C t1) → Q' .none ⟨h', g, d, tk', os⟩) → wpAny (model prog w) A' (call (.ref h1.objs.size) [.str a tv]) Q' E' ⟨h1.push (kxs_mw "ValueError.__init__" x), g, d, tk', os⟩ := fun {A' E' Q' tk'} fin => by
    have FB := PySem.F.excBase_ValueError
    have hCu := X2 _ _ hC
    refine wpAny_call (codeAny_of_tree ?_)
    show wpAny _ A'.in1 (callAny (.ref h1.objs.size) ⟨[.str a tv], []⟩) _ _ _
    simp only [callAny]
    refine wpAny_bind (wpAny_load hu2 ?_)
    simp only [kxs_mw, show (Value.type "method-wrapper" == Value.type "method" || Value.type "method-wrapper" == Value.type "builtin_function_or_method" || Value.type "method-wrapper" == Value.type "method-wrapper") = true by decide, if_true]
    refine KFB.if_so (by decide) (wpAny_bind (check_bound_init FB.toExcCallFacts hCu hx2 rfl (wpAny_bind (wpAny_pure (wpAny_pure ?_)))))
    refine ⟨plainId_quiet FB.init.plain _, codeAny_builtin FB.initEntry ?_⟩
    exact exc_init_tree (cls := .ref C) (t0 := t0) (dv := none) (c2 := .none) (c3 := .none) (b4 := .bool false) hx2 (one_size _) fun h' k' e' t' => fin h' _ k' e'
  refine call fun h3 t1 k3 hx3 => ?_
  have keep3 : ∀ b o, b ≠ x → h0.get? b = some o → h3.get? b = some o := fun b o ne e => k3 b o ne (k2 b o (k1 b o e))
  have X3 : K.In h3 := fun b o e => k3 b o (fun z => by rw [z, hnx] at e; cases e) (X2 _ _ e)
  have hL : hp.objs.size ≠ x := Nat.ne_of_gt xlt
  have hns3 : h3.Ns hp.objs.size fun y => ([("self", Value.ref x), ("why", Value.str a tv)] : List (Str × Value)).reverse.lookup y := by
    obtain ⟨oL, es, ep, z1, z2⟩ := hns
    exact ⟨oL, es, ep, keep3 _ _ hL z1, z2⟩
  refine wpAt_of_wpAny (wpAny_execs_cons ?_)
  unfold iS2
  refine plainObj_wpAny_Assign_Attribute (wpAny_Name (wpAny_loadName_local rfl rfl hns3 vwhy (wpAny_Name (wpAny_loadName_local rfl rfl hns3 vself ?_) (by decide))) (by decide))
  refine set_plain X3 (ox := excO C t1) (od := none) ⟨hx3, rfl, rfl, trivial⟩ T.sa ?_
  refine HandSPX.exc_osa X3 hx3 hcl (show refsVE (.ref C :: bm) = true from hbm) rfl T.noN fun h4 tk4 dx k4 dn dne hx4 hn4 => ?_
  have sz3 : hp.objs.size ≤ h3.objs.size := by
    obtain ⟨oL, es, ep, z1, z2⟩ := hns3
    exact Nat.le_of_lt (Heap.lt_size z1)
  exact wpAny_execs_nil (hq h4 tk4 dx t1 ⟨fun b o ne e => k4 b o ne (keep3 b o ne (hk b o e)), hx4, Nat.le_trans sz3 dn, dne, hn4⟩)
/-- a made Misused -/
structure Made (h h' : Heap) (e C d : Addr) (v : Value) : Prop where
  keep : ∀ b o, h.get? b = some o → h'.get? b = some o
  new : h.objs.size ≤ e
  obj : ∃ oe vs, h'.get? e = some oe ∧ oe.cls = .ref C ∧ oe.dict = some d ∧ oe.data = .fields vs ∧ vs[1]? = some .none
  dbig : h.objs.size ≤ d
  dne : d ≠ e
  ns : h'.Ns1 d (fun y => if y = "why" then some v else none)
theorem made (T : Txt prog K mg C fI) {a : Str} {tv : Tok} (X : K.In s.heap) (hG : s.heap.Ns mainGlobals mg) (hB : s.heap.Ns builtinsNs mb) (hb : ∀ y : Str, y ≠ "__name__" → mb y = bootBuiltins y) (hlim : s.heap.NoLimit) (hroom : A.depth + 1 < recursionLimit)
    (hq : ∀ h' tk e d, Made s.heap h' e C d (.str a tv) → R (.ok (.ret (.ref e))) { s with heap := h', toks := tk }) : codeAny (model prog w) A (.call (.ref C) ⟨[.str a tv], []⟩) R s := by
  obtain ⟨nm, q, N, bs, bm, sn, sub, ab, col, dd, k0, k1, k2, k3, k5, hC, hbm⟩ := T.cls
  obtain ⟨hp, g, dr, tk, os⟩ := s
  have k : ∀ b o, hp.get? b = some o → ((hp.push (kdv_tup [.str a tv])).push (excO C hp.objs.size)).get? b = some o := fun b o e => Heap.get?_push_of_some _ (Heap.get?_push_of_some _ e)
  have there : ((hp.push (kdv_tup [.str a tv])).push (excO C hp.objs.size)).get? (hp.objs.size + 1) = some (excO C hp.objs.size) := by heap_get
  have hnx : K.lookup (hp.objs.size + 1) = none := by
    cases e : K.lookup (hp.objs.size + 1) with
    | none => rfl
    | some o =>
      have z : hp.get? (hp.objs.size + 1) = some o := X _ _ e
      exact absurd (Nat.lt_of_succ_lt (Heap.lt_size z)) (Nat.lt_irrefl _)
  refine call_own F.excBase_ValueError (fun X => refsVE_contains X bm hbm) (X _ _ hC) (looks_findIn X T.iC) (fun self => bind_fn X self T.tC) (one_size _) ?_
  refine init_run (s := ⟨(hp.push (kdv_tup [.str a tv])).push (excO C hp.objs.size), g, dr, tk, os⟩) T (X.keeps k) (hG.keeps k) (hB.keeps k) hb (hlim.keeps k) there hnx ?_ fun h' tk' dx t1 ⟨k', hx, dn, dne, hns⟩ => ?_
  · show A.depth + 1 < recursionLimit
    exact hroom
  · have old : ∀ b o, hp.get? b = some o → h'.get? b = some o := fun b o e => k' b o (Nat.ne_of_lt (Nat.lt_succ_of_lt (Heap.lt_size e))) (k b o e)
    have z : hp.objs.size + 1 + 1 ≤ dx := by
      first
        | (simpa only [Heap.size_push] using dn)
        | (have q := dn; rw [Heap.size_push, Heap.size_push] at q; exact q)
    exact ⟨rfl, hq h' tk' (hp.objs.size + 1) dx ⟨old, Nat.le_succ _, ⟨_, _, hx, rfl, rfl, rfl, rfl⟩, Nat.le_trans (Nat.le_trans (Nat.le_succ _) (Nat.le_succ _)) z, dne, hns⟩⟩
end
end Mis
namespace M
open PySem L2 PySem.Spec PyProof.Rows
theorem relO_why {v : V} {v' : Value} (r : RelV v v') (f : Str) : RelO (List.lookup f [(("why" : Str), v)]) (if f = "why" then some v' else none) := by
  by_cases hw : f = "why"
  · subst hw
    rw [if_pos rfl, show List.lookup ("why" : Str) [(("why" : Str), v)] = some v by simp [List.lookup]]
    exact r
  · have qw : (f == ("why" : Str)) = false := by simpa using hw
    rw [if_neg hw, show List.lookup f [(("why" : Str), v)] = none by simp [List.lookup, qw]]
    trivial
section
variable {X : Cx} {C fI : Addr}
/-- Misused(e), e a text -/
def tMkMis (C : Addr) (te : TE) : St → Hp → XK → Prop := fun σ H Q => te σ H fun v H1 => ∃ a, v = .str a ∧ ∀ d, H1 d = none → Q (.ref C) (some d) (upd H1 d (.xd [(("why" : Str), .str a)]))
theorem pmk_mis {e : Expr} {te : TE} {p pos : Pos} {k : Nat} (T : Mis.Txt X.prog X.K X.mg C fI) (hr : Room k X.A) (he : PE X e te) (hg : Gl X "Misused" := by rfl)
    (hs : starEach (e :: []) X.env = (false, eval e X.env) :: starEach [] X.env := by rfl) (hpl : (backTo pos (starEach [] X.env)).any (·.1) = false := by rfl) :
    PMk X (.Call (.Name "Misused" p) [e] [] pos) (tMkMis C te) := by
  intro pins s σ H Q I h
  refine wpAny_Call_Name_kw (ld_glob I hg T.gC ?_)
  refine PySem.W.callWith_K (h₀ := X.base) I.ok.mod.kin T.kC ?_ hs hpl
  refine args_cons (thn (he.run pins s σ H _ I h) fun u s1 hh => args_nil ?_) hs
  obtain ⟨v, H1, I1, r1, a, rfl, q1⟩ := hh
  obtain ⟨tv, rfl⟩ : ∃ tv, u = Value.str a tv := r1
  refine ⟨I1.kIn, ?_⟩
  show wpAny _ _ (call (.ref C) [.str a tv]) _ _ _
  obtain ⟨mb, hB, hb⟩ := I1.mod.blt
  have hG := I1.mod.glob.keeps I1.bk
  have hB := hB.keeps I1.bk
  have hlim := I1.nolimit
  obtain ⟨hp, g, dr, tk, os⟩ := s1
  refine wpAny_call (Mis.made T I1.kIn hG hB hb hlim (by have := hr.dp; omega) fun h' tk' e d D => ?_)
  show MkP X pins σ Q (.ref e) ⟨h', g, dr, tk', os⟩
  obtain ⟨oe, fv, hoe, hc, hd, hdat, h1⟩ := D.obj
  have hns := D.ns
  obtain ⟨G', g1, g2⟩ := restrict h' fun b => decide (b ≠ e)
  have gk : ∀ b, b ≠ e → G'.get? b = h'.get? b := fun b hb => g1 b (decide_eq_true hb)
  have ge : G'.get? e = none := g2 e (by simp)
  have old : ∀ b o, hp.get? b = some o → G'.get? b = some o := fun b o q => (gk b (Nat.ne_of_lt (Nat.lt_of_lt_of_le (Heap.lt_size q) D.new))).trans (D.keep b o q)
  have rv : RelV (V.str a) (Value.str a tv) := ⟨tv, rfl⟩
  have ob : ObjOk X.prog X.w (upd H1 d (.xd [(("why" : Str), .str a)])) G' d (.xd [(("why" : Str), .str a)]) := ⟨_, hns.at (fun o q => (gk d D.dne).trans q), fun f => relO_why rv f⟩
  have J : Inv X pins σ (upd H1 d (.xd [(("why" : Str), .str a)])) ⟨G', g, dr, tk', os⟩ := I1.laid (t' := tk') old D.dbig ob
  refine ⟨e, oe, fv, ⟨G', g, dr, tk', os⟩, _, .ref C, some d, rfl, J, fun b o q => ?_, ge, hoe, ⟨hc, hd⟩, hdat, h1, ?_, rfl, I1.bare, raises_own T.exC T.tyC, q1 d (I1.hok.fresh D.dbig)⟩
  · by_cases hb : b = e
    · have q' : G'.get? b = some o := q
      rw [hb, ge] at q'; cases q'
    · exact (gk b hb).symm.trans q
  · rw [upd_ne (Ne.symm D.dne)]; exact I1.hok.fresh D.new
end
end M
set_option Elab.async false
set_option linter.all false
set_option maxRecDepth 100000
set_option maxHeartbeats 1000000
namespace M
open PySem L2 PySem.Spec PyProof.Rows
/-- the table of the own exceptions: Misused alone -/
def xtM (C : Addr) : XT := fun x => if x = ("Misused" : Str) then some (C, "why") else none
def WKx (tab : XT) (K : PySem.W.Frag) (Wx : WX) : WK := fun x _ σ G H => ∀ C f v d, tab x.cls = some (C, f) → R K G v x.val → H d = none → Wx (.ref C) (some d) σ (upd H d (.xd [(f, v)]))
def sRaise (E : Mo D) : Mo Out := E.bind fun d => fun δ => match d with
  | .str s => some (.error ⟨"Misused", .str s⟩, δ)
  | _ => none
def callN (m : Mo D) (as : List Ag) : Mo D := fun δ => match callM m as δ with
  | some (.ok d, δ') => some (.ok d, δ')
  | _ => none
def eCallN (m : Mo D) (A : Mo (List Ag)) : Mo D := A.bind fun as => callN m as
theorem callN_ok {m : Mo D} {as : List Ag} {δ δ' : Env} {r : Except Exn D} (h : callN m as δ = some (r, δ')) : ∃ d, r = .ok d ∧ callM m as δ = some (.ok d, δ') := by
  unfold callN at h
  split at h
  · rename_i d δ2 q
    cases h; exact ⟨d, rfl, q⟩
  · cases h
section
variable {X : Cx} {W : WK} {Wx : WX} {e : Expr} {es : List Expr} {A : Mo (List Ag)} {E : Mo D} {k n : Nat} {C fI : Addr} {x : Str} {p pos pos2 : Pos} {m : Mo D}
theorem ds_raise {k : Nat} (hc : X.calm = true) (tk : Takes X Wx) (T : Mis.Txt X.prog X.K X.mg C fI) (hr : Room k X.A) (he : DE X (WKx (xtM C) X.K Wx) e E) (hg : Gl X "Misused" := by rfl)
    (hs : starEach (e :: []) X.env = (false, eval e X.env) :: starEach [] X.env := by rfl) (hpl : (backTo pos (starEach [] X.env)).any (·.1) = false := by rfl) :
    DS X (WKx (xtM C) X.K Wx) (.Raise (some (.Call (.Name "Misused" p) [e] [] pos)) none pos2) (sRaise E) :=
  PS.weak (ps_raise hc tk (pmk_mis T hr he hg hs hpl)) fun Dn σ H ⟨B, G, δ, r, δ', at', e1, post⟩ => by
  refine tE_bindS at' e1 post fun v H1 G1 δ1 d a1 x1 r1 e2 post => ?_
  cases d with
  | str s =>
    cases e2
    cases r1
    exact ⟨s, rfl, fun dd hd => post G1 σ H1 a1 (Ext.refl _) C "why" (.str s) dd (by unfold xtM; rw [if_pos rfl]) (.str s) hd⟩
  | _ => cases e2
theorem tCallS_ok {K : PySem.W.Frag} {tab : XT} (hl : ALen A n) {σ : St} {H : Hp} {Q : VK} (q : tE K (WKx tab K Wx) (eCall m A) σ H Q) : tCallS (spM (WE tab K) K n false m) (L2.WE Wx) (tA K (WKx tab K Wx) A) σ H Q := by
  obtain ⟨B, G, δ, r, δ', a, e1, post⟩ := q
  refine tA_bind' a e1 post fun vs H1 G1 δ1 as ea a1 x1 r1 e2 post => call_ok (Wf := WE tab K) (E := L2.WE Wx σ) (W := WE tab K (L2.WE Wx σ)) rfl (fun _ _ _ _ _ _ _ h => h) a1 r1 e2 ?_ (hl _ _ _ ea)
  cases r with
  | ok d => exact fun G' H' a' x' => by rw [if_neg Bool.false_ne_true]; exact fun v rv => post G' H' a' x' v rv
  | error x => exact fun G' H' a' x' => post G' σ H' a' x'
theorem tCallN_ok {K : PySem.W.Frag} {Wf : XK → WK} {EX : XK} (hW2 : ∀ x δ σ δ2 σ2 G H, Wf EX x δ σ G H → Wf EX x δ2 σ2 G H) (hl : ALen A n) {σ : St} {H : Hp} {Q : VK} (q : tE K W (eCallN m A) σ H Q) : tCall (spM Wf K n false m) [] EX (tA K W A) σ H Q := by
  obtain ⟨B, G, δ, r, δ', a, e1, post⟩ := q
  refine tA_bind' a e1 post fun vs H1 G1 δ1 as ea a1 x1 r1 e2 post => ?_
  obtain ⟨d, rfl, e3⟩ := callN_ok e2
  show spM Wf K n false m (vs ++ []) H1 Q EX
  rw [List.append_nil]
  exact call_ok (Wf := Wf) (E := EX) (W := Wf EX) rfl hW2 a1 r1 e3 (fun G' H' a' x' => by rw [if_neg Bool.false_ne_true]; exact fun v rv => post G' H' a' x' v rv) (hl _ _ _ ea)
/-- a def that may raise, called by its name -/
structure CalX (P : Program) (w : World) (K : PySem.W.Frag) (mg : Str → Option Value) (base : Heap) (C : Addr) (k : Nat) (x : Str) (n : Nat) (ro : Bool) (m : Mo D) : Prop where
  ex : ∃ (f : Addr) (fd : FuncData) (ps : List Str), FnOk P w K mg base (L2.CX P w) k f fd ps (spM (WE (xtM C) K) K n ro m) ∧ mg x = some (.ref f) ∧ PySem.W.keepIn K (.ref f) = true ∧ Binds K fd ps []
end
section
variable {X : Cx} {W : WK} {Wx : WX} {e : Expr} {es : List Expr} {A : Mo (List Ag)} {k n : Nat} {C : Addr} {x : Str} {p pos : Pos} {m : Mo D}
theorem de_callX (F : CalX X.prog X.w X.K X.mg X.base C k x n false m) (tk : Takes X Wx) (hr : Room k X.A) (hg : Gl X x) (hl : ALen A n) (ha : DA X (WKx (xtM C) X.K Wx) (e :: es) A) (hdb : (x == ("__debug__" : Str)) = false := by decide)
    (he : starEach (e :: es) X.env = (false, eval e X.env) :: starEach es X.env := by rfl) (hpl : (backTo pos (starEach es X.env)).any (·.1) = false := by rfl) : DE X (WKx (xtM C) X.K Wx) (.Call (.Name x p) (e :: es) [] pos) (eCall m A) := by
  obtain ⟨f, fd, ps, F, hm, hk, hb⟩ := F.ex
  exact PE.weak (pe_callS F hr hg hm hk hb (fun σ => passAt tk σ) ha hdb he hpl) fun σ H Q q => tCallS_ok hl q
theorem de_callN (F : CalM X.prog X.w X.K X.mg X.base k x n false m) (hr : Room k X.A) (hg : Gl X x) (hl : ALen A n) (ha : DA X W (e :: es) A) (hdb : (x == ("__debug__" : Str)) = false := by decide)
    (he : starEach (e :: es) X.env = (false, eval e X.env) :: starEach es X.env := by rfl) (hpl : (backTo pos (starEach es X.env)).any (·.1) = false := by rfl) : DE X W (.Call (.Name x p) (e :: es) [] pos) (eCallN m A) := by
  obtain ⟨f, fd, ps, F, hm, hk, hb⟩ := F.ex
  exact PE.weak (pe_call (E := E0) F hr hg hm hk hb .nil pass0 ha hdb he hpl) fun σ H Q q => tCallN_ok (fun _ _ _ _ _ _ _ h => h) hl q
end
abbrev WRs (C : Addr) (K : PySem.W.Frag) (E : XK) : WK := WKx (xtM C) K fun cls d _ H => E cls d H
section
variable {P : Program} {w : World} {K : PySem.W.Frag} {mg : Str → Option Value} {base : Heap} {x qual : Str} {st : Stmt} {f C : Addr} {fd : FuncData} {N ps : List Str} {k n : Nat} {body : Mo Out}
theorem fn_okX (F : Fun K x qual st f fd) (S : FnScope N ps (defScope st)) (hn : ps.length = n)
    (hb : ∀ (cdv : Value) (A : Around) (outer : List PySem.Env) (s : Shared) (H : Hp) (E : XK), Room k (A.deeper (envOfC qual (defScope st) s.heap.objs.size f cdv)) → DSs (cxOf (L2.CX P w) P w K mg base N qual (defScope st) f cdv A outer s H E) (WRs C K E) (defBody st) body) :
    FnOk P w K mg base (L2.CX P w) (k + 1) f fd ps (spM (WE (xtM C) K) K n false (fnM N.length n body)) :=
  F.okX S (fn_len hn) fun cdv A outer s H vs Q E hr h => ⟨tS K (WRs C K E) body, hb cdv A outer s H E hr, body_ok (Wf := WE (xtM C) K) (E := E) (fun _ _ _ _ _ _ _ h => h) h⟩
end
section
variable {X : Cx} {C fI : Addr} {i : Nat} {n : Str} {body suite : List Stmt} {b₀ : Stmt} {np pos pos' : Pos} {Bm : Mo Out}
/-- what the suite finds: the text at why; it returns it -/
def tWhy (C : Addr) (i : Nat) : Addr → Value → Option Addr → TS := fun a cls d D σ H => cls = .ref C ∧ ∃ dd v, d = some dd ∧ H dd = some (.xd [(("why" : Str), v)]) ∧ σ[i]? = some (some (.ref a)) ∧ D.rt v H
def sTryWhy (i : Nat) (Bm : Mo Out) : Mo Out := fun δ => match Bm δ with
  | some (.error x, δ') => if x.cls = ("Misused" : Str) ∧ i < δ'.length then some (.ok (.rt x.val), δ'.set i .no) else none
  | r => r
theorem ds_tryWhy (hs : X.stack = X.env :: X.outer) (hf : X.env.frame = some X.env.locals) (hN : X.N.Nodup) (hi : X.N[i]? = some n) (hln : X.env.kindOf n = some .local) (T : Mis.Txt X.prog X.K X.mg C fI) (hg : Gl X "Misused")
    (hb : ∀ (Wx : WX) (pn : List (Addr × Obj)) (xe : Value → Shared → Prop), Takes (X.tr pn xe) Wx → DSs (X.tr pn xe) (WKx (xtM C) X.K Wx) body Bm)
    (hsu : ∀ (a : Addr) (oe : Obj) (cls : Value) (d : Option Addr) (pn : List (Addr × Obj)), Zc cls d oe → (∃ vs, oe.data = .fields vs) → PSs (X.suite a ((a, oe) :: pn)) (b₀ :: suite) (tWhy C i a cls d)) :
    DS X W0 (.Try body [.ExceptHandler (some (.Name "Misused" np)) (some n) (b₀ :: suite) pos'] [] [] pos) (sTryWhy i Bm) :=
  PS.weak (ps_try_as (c := .ref C) (tb := fun Wx => tS X.K (WKx (xtM C) X.K Wx) Bm) (ts := tWhy C i) (Wout := fun _ _ _ _ => False) hs hf hN hi hln ⟨hg, by decide, .inl T.gC⟩ takes0 (fun Wx pn xe tk _ => hb Wx pn xe tk) hsu) fun Dn σ H ⟨B, G, δ, r, δ', at', e1, post⟩ => by
  unfold sTryWhy at e1
  cases q : Bm δ with
  | none => rw [q] at e1; cases e1
  | some z =>
    obtain ⟨z, δ1⟩ := z
    rw [q] at e1
    cases z with
    | error x =>
      simp only [] at e1
      split at e1
      · rename_i c
        obtain ⟨c1, c2⟩ := c
        cases e1
        refine ⟨B, G, δ, .error x, δ1, at', q, fun G' σ' H' a' x' => ?_⟩
        intro C' f v d ht rv hd
        unfold xtM at ht
        rw [if_pos c1] at ht
        cases ht
        refine ⟨true, T.te, fun _ a _ => ⟨rfl, d, v, rfl, upd_same, List.getElem?_set_self (by rw [← a'.len]; exact c2), ?_⟩, fun z => nomatch z⟩
        refine post G' σ' _ ((a'.alloc hd).forget (by rw [List.length_set]; exact a'.len) fun j s e => ?_) x' v rv
        rcases get_set e with ⟨_, rfl, _⟩ | ⟨_, e⟩
        · exact .inl rfl
        · exact .inr ⟨e, rfl⟩
      · cases e1
    | ok o =>
      cases e1
      refine ⟨B, G, δ, .ok o, _, at', q, ?_⟩
      cases o <;> exact post
/-- e.why, e the exception that the suite holds -/
def tByWhy (C : Addr) (a : Addr) (cls : Value) (d : Option Addr) (te : TE) : TE := fun σ H Q => te σ H fun x H1 => x = .ref a ∧ cls = .ref C ∧ ∃ (dd : Addr) (v : V), d = some dd ∧ H1 dd = some (.xd [(("why" : Str), v)]) ∧ Q v H1
theorem pe_byWhy {a : Addr} {oe : Obj} {cls : Value} {d : Option Addr} {pn : List (Addr × Obj)} {e : Expr} {te : TE} {pos : Pos} (T : Mis.Txt X.prog X.K X.mg C fI) (hz : Zc cls d oe) (hf : ∃ vs, oe.data = .fields vs) (he : PE (X.suite a ((a, oe) :: pn)) e te)
    (hb : attributeBase e "why" X.env (eval e X.env) = eval e X.env := by rfl) : PE (X.suite a ((a, oe) :: pn)) (.Attribute e "why" pos) (tByWhy C a cls d te) := by
  refine ⟨fun pins s σ H Q I h => attr_of hb (thn (he.run pins s σ H _ I h) fun u s1 ⟨x, H1, I1, rx, ex, ec, dd, v, ed, ea, q⟩ => ?_)⟩
  subst ex
  obtain rfl : u = Value.ref a := rx
  subst ec
  subst ed
  obtain ⟨ha, _⟩ := I1.pin (a, oe) (List.mem_append_left _ List.mem_cons_self)
  obtain ⟨vs, hd⟩ := hf
  have hx : ObjOk X.prog X.w H1 s1.heap dd (.xd [(("why" : Str), v)]) := I1.hok dd _ ea
  obtain ⟨mA, hns, hr⟩ := hx
  obtain ⟨od, ho, hl⟩ := lookIn_ns hns
  have l : List.lookup ("why" : Str) [(("why" : Str), v)] = some v := by simp [List.lookup]
  obtain ⟨u, hu, ru⟩ := RelO.some_of (v := v) (o := mA "why") (by rw [← l]; exact hr "why")
  have J : PySem.W.InstAt s1.heap a oe C (some od) := ⟨ha, hz.1, by unfold PySem.W.notCls; rw [hd] <;> rfl, by rw [hz.2]; exact ho⟩
  exact HandSPX.exc_get I1.kIn J T.ga T.gg T.exC (PySem.W.findObj_own T.hdC T.noN rfl (by rw [hl, hu])) (handed_of ru) ⟨v, H1, I1.tok _, ru, q⟩
end
/-- an error of the class at S is what «except S» names -/
theorem exm_own {K : PySem.W.Frag} {S : Addr} (h1 : PySem.W.subIn K (.ref S) (.type "BaseException") = some true) (h2 : PySem.W.isClsIn K S = true) (h3 : PySem.W.typeIn K (.ref S) = some (.type "type")) (h4 : PySem.W.subIn K (.ref S) (.ref S) = some true) :
    PySem.W.exmOne K (.ref S) (.ref S) = some true := by
  have e1 : (PySem.W.subIn K (.ref S) (.type "BaseException") == some true) = true := by rw [h1] <;> rfl
  have e2 : ((PySem.W.clsIn K S).isSome && PySem.W.typeIn K (.ref S) == some (.type "type")) = true := by
    rw [show (PySem.W.clsIn K S).isSome = true from h2, h3] <;> rfl
  show (if (PySem.W.subIn K (.ref S) (.type "BaseException") == some true) = true then (if ((PySem.W.clsIn K S).isSome && PySem.W.typeIn K (.ref S) == some (.type "type")) = true then PySem.W.subIn K (.ref S) (.ref S) else none) else none) = some true
  rw [if_pos e1, if_pos e2]; exact h4
end M
set_option Elab.async false
set_option linter.all false
set_option maxRecDepth 100000
set_option maxHeartbeats 1000000
namespace M
open PySem L2 PySem.Spec PyProof.Rows
structure MisI (K : PySem.W.Frag) (mg : Str → Option Value) (C : Addr) : Prop where
  hcl : (PySem.W.clsIn K C).isSome = true
  cc : PySem.W.findIn K (.ref C) "__class__" = some (some (.builtin "object.__class__"))
  sn : PySem.W.specialIn K (.builtin "object.__class__") "__get__" = some (some (.builtin "getset_descriptor.__get__"))
  tk : PySem.W.takesIn K (.builtin "object.__class__") = some true
  mo : PySem.W.mroIn K C (.type "object") = some true
  no : ∃ Cl, mg "Clashing" = some (.ref Cl) ∧ PySem.W.kitOne K (.ref C) (.ref Cl) = some false
section
variable {X : Cx} {C fI : Addr} {i : Nat} {a : Addr} {oe : Obj} {cls : Value} {d : Option Addr} {pn : List (Addr × Obj)} {e : Expr}
def rNoC (C Cl a : Addr) (cls : Value) (d : Option Addr) : List V → Hp → VK → Prop := fun xs H Q => xs = [.ref a, .ref Cl] ∧ cls = .ref C ∧ (∃ dd v, d = some dd ∧ H dd = some (.xd [(("why" : Str), v)])) ∧ Q (.bl false) H
theorem cr_noC {Cl : Addr} (T : Mis.Txt X.prog X.K X.mg C fI) (TI : MisI X.K X.mg C) (no : PySem.W.kitOne X.K (.ref C) (.ref Cl) = some false) (hz : Zc cls d oe) (hf : ∃ vs, oe.data = .fields vs) : CallR (X.suite a ((a, oe) :: pn)) (.builtin "isinstance") (rNoC C Cl a cls d) := by
  intro pins s σ H xs us Q I r h
  obtain ⟨rfl, ec, ⟨dd, v, ed, ea⟩, q⟩ := h
  obtain ⟨u1, u2, rfl, r1, r2⟩ := vals2 r
  cases (show u1 = Value.ref a from r1)
  cases (show u2 = Value.ref Cl from r2)
  subst ec
  subst ed
  obtain ⟨ha, _⟩ := I.pin (a, oe) (List.mem_append_left _ List.mem_cons_self)
  obtain ⟨vs, hd⟩ := hf
  have hx : ObjOk X.prog X.w H s.heap dd (.xd [(("why" : Str), v)]) := I.hok dd _ ea
  obtain ⟨mA, hns, hr⟩ := hx
  obtain ⟨od, ho, hl⟩ := lookIn_ns hns
  have J : PySem.W.InstAt s.heap a oe C (some od) := ⟨ha, hz.1, by unfold PySem.W.notCls; rw [hd] <;> rfl, by rw [hz.2]; exact ho⟩
  exact PySem.W.kia_one (PySem.W.kitx_exc TI.hcl T.ga T.gg T.exC TI.cc TI.sn TI.tk TI.mo) I.kIn J no (fun z => nomatch z) fun tk => ⟨.bl false, H, I.tok tk, rfl, q⟩
theorem su_isWhy {e2 : Expr} {p1 p2 p3 p4 pos2 pos3 : Pos} {body : List Stmt} {tb : TS} (T : Mis.Txt X.prog X.K X.mg C fI) (TI : MisI X.K X.mg C) (hm : X.mg "isinstance" = none) (hg : Gl X "isinstance") (hg2 : Gl X "Clashing") (hz : Zc cls d oe) (hf : ∃ vs, oe.data = .fields vs) (he : PE (X.suite a ((a, oe) :: pn)) e (tVar i)) (he2 : PE (X.suite a ((a, oe) :: pn)) e2 (tVar i))
    (hbd : PSs (X.suite a ((a, oe) :: pn)) body tb) (hb : attributeBase e2 "why" X.env (eval e2 X.env) = eval e2 X.env := by rfl)
    (hs : starEach [e, .Name "Clashing" p2] X.env = (false, eval e X.env) :: starEach [.Name "Clashing" p2] X.env := by rfl)
    (ht : ∀ whole, isTrue (.Call (.Name "isinstance" p1) [e, .Name "Clashing" p2] [] p3) X.env whole = (do let v ← whole; standAt (Expr.Call (.Name "isinstance" p1) [e, .Name "Clashing" p2] [] p3).pos; holding [v] (truthy v)) := by intro _; rfl) :
    PSs (X.suite a ((a, oe) :: pn)) [.If (.Call (.Name "isinstance" p1) [e, .Name "Clashing" p2] [] p3) body [] p4, .Return (some (.Attribute e2 "why" pos2)) pos3] (tWhy C i a cls d) := by
  obtain ⟨Cl, gCl, no⟩ := TI.no
  have t1 : PE (X.suite a ((a, oe) :: pn)) (.Call (.Name "isinstance" p1) [e, .Name "Clashing" p2] [] p3) _ := pe_callB (cr_noC T TI no hz hf) hg hm bt_isinstance (pa_cons he (pa_cons (pe_glob (v := .ref Cl) hg2 gCl rfl) pa_nil) hs) (he := hs)
  have base := pss_cons (ps_if (pos := p4) (pt_val t1 ht) hbd pss_nil) (pss_one (ps_ret (pos := pos3) (pe_byWhy (pos := pos2) T hz hf he2 hb)))
  exact PSs.weak base fun Dn σ H ⟨c, dd, v, e1, e2, e3, e4⟩ => by
    refine ⟨_, e3, rfl, c, ⟨dd, v, e1, e2⟩, false, rfl, ?_⟩
    show if false = true then _ else _
    rw [if_neg Bool.false_ne_true]
    exact ⟨_, e3, rfl, c, dd, v, e1, e2, e4⟩
end
end M
set_option Elab.async false
set_option linter.all false
set_option maxRecDepth 100000
set_option maxHeartbeats 1000000
namespace M
open PySem L2 PySem.Spec PyProof.Rows
section
variable {X : Cx} {W : WK} {Wx : WX} {e : Expr} {es : List Expr} {kws : List Keyword} {A B : Mo (List Ag)} {E : Mo D} {k n : Nat} {ks : List Str} {C fI : Addr} {x : Str} {p pos pos2 : Pos} {m : Mo D} {nm : Option Str}
theorem PK.weak {t t' : TA} (h : PK X kws t) (w : ∀ σ H Q, t' σ H Q → t σ H Q) : PK X kws t' := ⟨fun po pins s σ H Q I q => h.run po pins s σ H Q I (w σ H Q q)⟩
/-- an integer constant of the module -/
theorem de_gC {i : Int} (hg : Gl X x) (hm : ∃ t, X.mg x = some (.int i t)) (hd : (x == ("__debug__" : Str)) = false := by decide) : DE X W (.Name x pos) (eC (.int i)) := by
  obtain ⟨t, hm⟩ := hm
  exact de_c (pe_glob (v := .int i) hg hm ⟨t, rfl⟩ hd) fun _ => .int i
end
end M
set_option Elab.async false
set_option linter.all false
set_option maxRecDepth 100000
set_option maxHeartbeats 1000000
namespace M
open PySem L2 PySem.Spec PyProof.Rows
/-- all of a list of bools -/
def fAll : List D → Option D
  | [.lst l] => match blsD l with
    | some bs => some (.bl (bs.all id))
    | none => none
  | _ => none
theorem snd_all {K : PySem.W.Frag} : SndF K fAll (fun vs H Q => rAll K vs H Q) := fun B G H δ σ xs as d Q at' rx h k => by
  unfold fAll at h
  split at h
  · rename_i l
    obtain ⟨v, rfl, r⟩ := rl1 rx
    cases r with
    | lst g hl r =>
      split at h
      · rename_i bs hb
        cases h
        have := blsD_ok r hb
        subst this
        exact ⟨_, bs, rfl, SqL.of (at'.vw.lst g), k _ G H at' (Ext.refl _) (.bl _)⟩
      · cases h
  · cases h
section
variable {X : Cx} {W : WK} {e a b c : Expr} {es : List Expr} {x : Str} {p pos : Pos} {E Ea Eb : Mo D} {A : Mo (List Ag)}
theorem de_all (hc : X.calm = true) (hg : Gl X x) (hm : X.mg x = none) (hv : bootBuiltins x = some (.builtin "all")) (ha : DA X W (e :: es) A) (hn : x ≠ "__name__" := by decide) (hdb : (x == ("__debug__" : Str)) = false := by decide)
    (he : starEach (e :: es) X.env = (false, eval e X.env) :: starEach es X.env := by rfl) (hpl : (backTo pos (starEach es X.env)).any (·.1) = false := by rfl) : DE X W (.Call (.Name x p) (e :: es) [] pos) (eF fAll A) :=
  de_tCB snd_all (pe_callB (cr_all hc) hg hm hv ha hn hdb he hpl)
end
def strRep (x : Str) (k : Nat) : Str := ⟨(List.replicate k x.cps).foldl (· ++ ·) #[]⟩
def rRepS : R2 := fun x y H Q => ∃ a k, x = .str a ∧ y = .int k ∧ 2 ≤ k ∧ k ≤ 1000 ∧ 0 < a.length ∧ a.length ≤ 1000 ∧ (strRep a k.toNat).length ≤ sizeLine ∧ Q (.str (strRep a k.toNat)) H
theorem op_repS {X : Cx} : OpR X (binaryOp .Mult) rRepS := by
  intro pins s σ H x y v u Q I rx ry h
  obtain ⟨a, k, rfl, rfl, h1, h2, h3, h4, h5, q⟩ := h
  obtain ⟨t, rfl⟩ := rx
  obtain ⟨t', rfl⟩ := ry
  refine P.mul_str ?_ ?_ ?_ ?_
  · rw [decide_eq_false (by omega), decide_eq_false (by omega)]; rfl
  · intro _ _ hz
    have : (1000 : Int) ≤ (2 ^ 63 - 1) / k := (Int.le_ediv_iff_mul_le (by omega)).mpr (by omega)
    omega
  · intro _ _
    unfold Builtin.Str.tooLong
    rw [sizeLine_eq]
    have := Nat.mul_le_mul h4 (show k.toNat ≤ 1000 by omega)
    exact decide_eq_false (by omega)
  · rw [if_neg (by omega), if_neg]
    · exact ⟨h5, .str _, H, I.tok _, ⟨_, rfl⟩, q⟩
    · rw [Bool.not_eq_true, Bool.or_eq_false_iff]
      exact ⟨beq_eq_false_iff_ne.mpr (by omega), beq_eq_false_iff_ne.mpr (by omega)⟩
theorem tuple_mul1 (l : Addr) (items : Array Value) (n : Nat) (dd : Option Addr) (sl : Array (Option Value)) (u : Tok) :
    Meets (Builtin.«tuple.__mul__» ⟨[.ref l, .int 1 u], []⟩) (fun _ R s => s.heap.get? l = some { cls := .type "tuple", dict := dd, data := .seq items n, slots := sl } ∧
      R (.ok (.ret (Value.ref l))) s) :=
  .of_wp fun prog w A R s h => by
    obtain ⟨hp, g, d, tk, os⟩ := s
    obtain ⟨hl, h⟩ := h
    have f1 := AutoSeq1.idx_int
    have c0 : (decide ((1 : Int) < -(2 ^ 63)) || decide ((1 : Int) ≥ 2 ^ 63)) = false := by decide
    have c1 : (items.isEmpty || (1 : Int) == 1) = true := by simp
    wp_walk using wpAny_loadPart' hl
    repeat (first
      | (refine wpAny_ite_false (decide_eq_false (by rw [c0]; exact Bool.false_ne_true)) ?_; wp_walk using wpAny_loadPart' hl)
      | (refine wpAny_ite_true (decide_eq_true c1) ?_; wp_walk using wpAny_loadPart' hl))
    all_goals exact ⟨_, rfl, h⟩
def rRepT1 (K : PySem.W.Frag) : R2 := fun x y H Q => ∃ l xs, x = .ref l ∧ y = .int 1 ∧ SqT K H l xs ∧ Q (.ref l) H
theorem op_repT1 {X : Cx} : OpR X (binaryOp .Mult) (rRepT1 X.K) := by
  intro pins s σ H x y v u Q I rx ry h
  obtain ⟨l, xs, rfl, rfl, hT, q⟩ := h
  cases rx
  obtain ⟨t, rfl⟩ := ry
  obtain ⟨its, r, ⟨⟨cls, dd, data, sl⟩, ho, hc, n, hd⟩, hs⟩ := I.tuple hT
  simp only at hc hd
  subst hc hd
  refine wpAny_binaryOp_repeat_ref (T := "tuple") (U := "int") (by decide) ⟨_, ho, rfl⟩ (fun s' => typeIs_int s' 1 t) noFill_tuple_mul F.fills_int_mul F.slot_int_rmul repeat_tuple F.slot_int_index.lookup
    (call_meets F.slot_int_rmul (typeIs_int s 1 t) F.entry_int_rmul (F.args_int_rmul_2 _ _) (int_rmul_tuple 1 t l its.toArray n dd sl)
      ⟨ho, rfl, ⟨_, ho, rfl⟩, call_meets F.slot_tuple_mul ⟨_, ho, rfl⟩ F.entry_tuple_mul (F.args_tuple_mul_2 _ _) (tuple_mul1 l its.toArray n dd sl t) ⟨ho, ?_⟩⟩)
  exact ⟨.ref l, _, I, rfl, q⟩
/-- a product of a tuple or a str -/
def dMulX : D → D → Option D
  | .str x, .int k => if 2 ≤ k ∧ k ≤ 1000 ∧ 0 < x.length ∧ x.length ≤ 1000 ∧ (strRep x k.toNat).length ≤ sizeLine then some (.str (strRep x k.toNat)) else none
  | .tup x, .int k => if k = 1 then some (.tup x) else if x ≠ [] ∧ 2 ≤ k ∧ k ≤ 1000 ∧ x.length ≤ 1000 then some (.tup (List.replicate k.toNat x).flatten) else none
  | _, _ => none
theorem snd_mulX {X : Cx} : Snd2 X.K dMulX (fun x y H Q => rRepS x y H Q ∨ (rRepT1 X.K x y H Q ∨ rRepT X.K x y H Q)) := fun B G H δ σ x y a b d Q at' rx ry h k => by
  cases ry with
  | int j =>
    cases rx with
    | str i =>
      have h : (if 2 ≤ j ∧ j ≤ 1000 ∧ 0 < i.length ∧ i.length ≤ 1000 ∧ (strRep i j.toNat).length ≤ sizeLine then some (D.str (strRep i j.toNat)) else none) = some d := h
      split at h
      · rename_i c
        obtain ⟨c1, c2, c3, c4, c5⟩ := c
        cases h
        exact .inl ⟨i, j, rfl, rfl, c1, c2, c3, c4, c5, k _ G H at' (Ext.refl _) (.str _)⟩
      · cases h
    | tup g l r =>
      rename_i p xs ds
      have h : (if j = 1 then some (D.tup ds) else if ds ≠ [] ∧ 2 ≤ j ∧ j ≤ 1000 ∧ ds.length ≤ 1000 then some (D.tup (List.replicate j.toNat ds).flatten) else none) = some d := h
      split at h
      · rename_i hj
        cases h
        subst hj
        exact .inr (.inl ⟨_, xs, rfl, rfl, SqT.of (at'.vw.tup g), k _ G H at' (Ext.refl _) (.tup g l r)⟩)
      · split at h
        · rename_i hl
          cases h
          obtain ⟨h0, h1, h2, h3⟩ := hl
          rw [← r.length] at h3
          have hne : xs ≠ [] := fun z => by subst z; cases r; exact h0 rfl
          have hz : xs.length * j.toNat ≤ 1000 * 1000 := Nat.mul_le_mul h3 (by omega)
          refine .inr (.inr ⟨p, j, xs, rfl, rfl, SqT.of (at'.vw.tup g), hne, h1, h2, h3, fun z hz' => ?_⟩)
          have ex := Ext.new (o := .tup (List.replicate j.toNat xs).flatten) (at'.vw.none hz')
          exact k _ _ _ (at'.laid hz' fun _ z => by cases z) ex (.tup upd_same (by rw [flat_len, sizeLine_eq]; omega) ((r.rep _).mono ex))
        · cases h
    | _ => cases h
  | _ => cases rx <;> cases h
section
variable {X : Cx} {W : WK} {o e a b : Expr} {p : Nat} {pp pos apos cpos : Pos} {E Ea Eb : Mo D}
theorem de_mulX (ha : DE X W a Ea) (hb : DE X W b Eb) : DE X W (.BinOp a .Mult b pos) (eBin dMulX Ea Eb) := de_bin (OpR.or op_repS (OpR.or op_repT1 op_repT)) snd_mulX ha hb
def lstAt (δ : Env) (i : Nat) : List D := match δ[i]? with
  | some (.own (.lst l)) => l
  | some (.io (.lst l)) => l
  | _ => []
def dTail : D → Option D
  | .lst (_ :: l) => some (.lst l)
  | _ => none
def ePopZ (i : Nat) : Mo D := fun δ => match lstAt δ i with
  | d :: _ => ((chM i dTail).bind fun _ => Mo.ret d) δ
  | [] => none
theorem de_popZ {i : Nat} (ho : PE X o (tVar i))
    (hs : starEach [.Constant (.int 0) p pp] X.env = (false, eval (.Constant (.int 0) p pp) X.env) :: starEach [] X.env := by rfl)
    (hbase : attributeBase o "pop" X.env (eval o X.env) = eval o X.env := by rfl)
    (hfew : ((backTo cpos (starEach [.Constant (.int 0) p pp] X.env)).all (fun x => !x.1) && (backToKw cpos (keywordEach [] X.env)).all (fun x => x.1.isSome)
      && decide (([.Constant (.int 0) p pp] : List Expr).length + ([] : List Keyword).length + (if ([] : List Keyword).isEmpty then 0 else 1) < 30)) = true := by rfl)
    (hline : (apos.endLine == cpos.line) = true := by rfl) (hplain : (backTo cpos (starEach [] X.env)).any (·.1) = false := by rfl) :
    DE X W (.Call (.Attribute o "pop" apos) [.Constant (.int 0) p pp] [] cpos) (ePopZ i) :=
  PE.weak (pe_bm PySem.F.plainAttrs_list PySem.F.slot_list_pop PySem.F.type_list_pop mt_popAt ho (pa_cons pe_int pa_nil hs) hbase hfew hline hs hplain) fun σ H Q ⟨B, G, δ, r, δ', at', e1, post⟩ => by
  unfold ePopZ at e1
  split at e1
  · rename_i dd dl hd
    have key : ∃ pa, σ[i]? = some (some (.ref pa)) ∧ Ow X.K G H pa (.lst (dd :: dl)) ∧ r = .ok dd ∧ ∀ o, Mut (some o) → Ow X.K G (upd H pa o) pa (.lst dl) → At X.K B G δ' σ (upd H pa o) := by
      unfold lstAt at hd
      unfold Mo.bind chM at e1
      split at hd
      · rename_i l q
        subst hd
        rw [q] at e1
        cases e1
        obtain ⟨pa, h1, h2, h3, h4⟩ := at'.own q
        exact ⟨pa, h1, h3, rfl, fun o m w => at'.change q (.inl ⟨rfl, rfl⟩) h1 m w⟩
      · rename_i l q
        subst hd
        rw [q] at e1
        cases e1
        obtain ⟨pa, h1, h2, h3, h4⟩ := at'.io q
        exact ⟨pa, h1, h3, rfl, fun o m w => at'.change q (.inr ⟨rfl, rfl⟩) h1 m w⟩
      · cases hd
    obtain ⟨pa, hp, ow, rfl, k⟩ := key
    cases ow with
    | lst g l rl =>
      cases rl with
      | cons r1 rl =>
        rename_i x xs
        refine ⟨_, hp, .inl ⟨rfl, _, SqL.of g⟩, pa, _, 0, 0, x, rfl, rfl, g, by decide, by decide, ?_, rfl, ?_⟩
        · show seqIndex? 0 (x :: xs).length = some 0
          unfold seqIndex?
          rw [List.length_cons]
          simp
        · exact post G _ (k (.lst xs) trivial (.lst upd_same (by rw [List.length_cons] at l; omega) rl)) (Ext.refl _) _ r1
  · cases e1
end
end M
set_option Elab.async false
set_option linter.all false
set_option maxRecDepth 100000
set_option maxHeartbeats 1000000
namespace M
open PySem L2 PySem.Spec PyProof.Rows
mutual
/-- data without lists and dicts -/
def pureD : D → Bool
  | .non => true
  | .bl _ => true
  | .int _ => true
  | .str _ => true
  | .tup l => pureDs l
  | _ => false
def pureDs : List D → Bool
  | [] => true
  | d :: ds => pureD d && pureDs ds
end
def fldL : Bool → List D → List D → List D
  | true, vs, _ => vs
  | false, _, ls => ls
end M
set_option Elab.async false
set_option linter.all false
set_option maxRecDepth 100000
set_option maxHeartbeats 1000000
namespace M
open PySem L2 PySem.Spec PyProof.Rows
section
variable {K : PySem.W.Frag} {G G' : Hp}
mutual
/-- data of tuples alone, in another view of the same tuples -/
theorem R.tups (h : ∀ a xs, G a = some (.tup xs) → G' a = some (.tup xs)) : ∀ {v : V} {d : D}, R K G v d → pureD d = true → R K G' v d
  | _, _, .non, _ => .non
  | _, _, .bl b, _ => .bl b
  | _, _, .int i, _ => .int i
  | _, _, .str s, _ => .str s
  | _, _, .tup g l r, q => .tup (h _ _ g) l (RL.tups h r (by unfold pureD at q; exact q))
  | _, _, .lst _ _ _, q => by unfold pureD at q; cases q
  | _, _, .scr _ _ _, q => by unfold pureD at q; cases q
  | _, _, .dK _ _ _ _, q => by unfold pureD at q; cases q
  | _, _, .dT _ _ _ _, q => by unfold pureD at q; cases q
  | _, _, .alb _ _ _ _ _ _ _ _, q => by unfold pureD at q; cases q
theorem RL.tups (h : ∀ a xs, G a = some (.tup xs) → G' a = some (.tup xs)) : ∀ {vs : List V} {ds : List D}, RL K G vs ds → pureDs ds = true → RL K G' vs ds
  | _, _, .nil, _ => .nil
  | _, _, .cons r t, q => by
    unfold pureDs at q
    rw [Bool.and_eq_true] at q
    exact .cons (R.tups h r q.1) (RL.tups h t q.2)
end
end
/-- the album's objects: the instance, its class, its dict, its lists and what they hold -/
structure AlbR where
  p : Addr
  C : Addr
  dx : Addr
  av : Addr
  al : Addr
  xs : List V
  ys : List V
def AlbR.ins (r : AlbR) : HO := .ins r.C r.dx [("_views", .ref r.av), ("_links", .ref r.al)]
end M
set_option Elab.async false
set_option linter.all false
set_option maxRecDepth 100000
set_option maxHeartbeats 1000000
namespace M
open PySem L2 PySem.Spec PyProof.Rows
/-- what is held beside the frame: a relation between what the frame leaves as it was and what it leaves as it was for now -/
abbrev Kd := Bs → Bs → Hp → Prop
def PostR (K : PySem.W.Frag) (κ : Kd) (B : Bs) (i : Nat) (G : Hp) (Dn : Ends) (r : Except Exn Out) (δ' : Env) : Prop := match r with
  | .error _ => False
  | .ok .nx => ∀ B1 G' σ' H', κ B B1 G' → At K B1 G' δ' σ' H' → Ext G G' → Dn.nx σ' H'
  | .ok .bk => ∀ B1 G' σ' H', κ B B1 G' → At K B1 G' δ' σ' H' → Ext G G' → Dn.bk σ' H'
  | .ok .ct => ∀ B1 G' σ' H', κ B B1 G' → At K B1 G' δ' σ' H' → Ext G G' → Dn.ct σ' H'
  | .ok (.rt d) => ∀ G' σ' H', At K B G' (δ'.set i .no) σ' H' → Ext G G' → ∀ v, R K G' v d → Dn.rt v H'
  | .ok (.rtO d) => ∀ G' σ' H', At K B G' (δ'.set i .no) σ' H' → Ext G G' → ∀ p, Fr1 K B G' (δ'.set i .no) σ' H' p d → Dn.rt (.ref p) H'
theorem PostR.mono {K : PySem.W.Frag} {κ : Kd} {B : Bs} {i : Nat} {G G1 : Hp} {Dn : Ends} {r : Except Exn Out} {δ' : Env} (h : PostR K κ B i G Dn r δ') (e : Ext G G1) : PostR K κ B i G1 Dn r δ' := by
  cases r with
  | error x => exact h
  | ok o => cases o with
    | nx => exact fun B1 G' σ' H' n a1 e1 => h B1 G' σ' H' n a1 (e.trans e1)
    | bk => exact fun B1 G' σ' H' n a1 e1 => h B1 G' σ' H' n a1 (e.trans e1)
    | ct => exact fun B1 G' σ' H' n a1 e1 => h B1 G' σ' H' n a1 (e.trans e1)
    | rt d => exact fun G' σ' H' a1 e1 => h G' σ' H' a1 (e.trans e1)
    | rtO d => exact fun G' σ' H' a1 e1 => h G' σ' H' a1 (e.trans e1)
end M
set_option Elab.async false
set_option linter.all false
set_option maxRecDepth 100000
set_option maxHeartbeats 1000000
namespace M
open PySem L2 PySem.Spec PyProof.Rows
def fldX (b : Bool) (x y : List V) : List V := match b with | true => x | false => y
def fldA (b : Bool) (x y : Addr) : Addr := match b with | true => x | false => y
/-- behind the tests: the value is hung on -/
def AddK (K : PySem.W.Frag) (B : Bs) (b : Bool) (G : Hp) (δ1 : Env) (d0 : D) (Q : St → Hp → Prop) : Prop := ∀ G' σ' H' p av al dx C xs ys v, At K B G' δ1 σ' H' → Ext G G' → B.Bo 0 p = some (.ins C dx [("_views", .ref av), ("_links", .ref al)]) → B.Bo 0 av = some (.lst xs) → B.Bo 0 al = some (.lst ys) → R K G' v d0 →
  Q σ' (upd H' (fldA b av al) (.lst (fldX b xs ys ++ [v])))
end M
set_option Elab.async false
set_option linter.all false
set_option maxRecDepth 100000
set_option maxHeartbeats 1000000
namespace M
open PySem L2 PySem.Spec PyProof.Rows
/-- the promise of a method that adds: n slots beside self and its argument -/
def spAdd (K : PySem.W.Frag) (b : Bool) (Pm : Mo Out) (n : Nat) : Sp := fun vs H Q _ => vs.length = 2 ∧ ∃ B G δ δ1 vw ls d0, At K B G δ (vs.map some) H ∧ Pm (δ ++ List.replicate n .no) = some (.ok .nx, δ1) ∧ δ1[0]? = some (.bor (.alb vw ls)) ∧ δ1[1]? = some (.imm d0) ∧ (fldL b vw ls).length < sizeLine ∧ AddK K B b G δ1 d0 fun _ H' => Q .non H'
end M
set_option Elab.async false
set_option linter.all false
set_option maxRecDepth 100000
set_option maxHeartbeats 1000000
set_option Elab.async false
set_option linter.all false
set_option maxRecDepth 100000
set_option maxHeartbeats 1000000
namespace M
open PySem L2 PySem.Spec PyProof.Rows
abbrev NE := Str × Addr × List V
abbrev NL := Str × List D
def nKV (es : List NE) : List (Key × V) := es.map fun e => (.inr e.1, .ref e.2.1)
abbrev NestOk (K : PySem.W.Frag) (G : Hp) : List NE → List NL → Prop := Paired fun e l => e.1 = l.1 ∧ e.2.2.length ≤ sizeLine ∧ RL K G e.2.2 l.2 ∧ pureDs l.2 = true
def NoD (p : Addr) (es : List NE) : Prop := (p :: es.map fun e => e.2.1).Nodup
section
variable {K : PySem.W.Frag} {B B1 : Bs} {G G' H H' : Hp} {δ : Env} {σ : St} {i : Nat} {p : Addr} {es : List NE} {ls : List NL}
theorem NestOk.mono (x : Ext G G') (h : NestOk K G es ls) : NestOk K G' es ls := Paired.mapP h fun _ _ ⟨a, b, c, d⟩ => ⟨a, b, c.mono x, d⟩
end
end M
set_option Elab.async false
set_option linter.all false
set_option maxRecDepth 100000
set_option maxHeartbeats 1000000
namespace M
open PySem L2 PySem.Spec PyProof.Rows
/-- the dict and its lists so far -/
structure NS (H1 H2 : Hp) (D : Addr) (es : List NE) : Prop where
  d : H2 D = some (.dK (nKV es))
  el : ∀ e ∈ es, H2 e.2.1 = some (.lst []) ∧ e.2.2 = []
  nd : NoD D es
  fr : ∀ p ∈ D :: es.map (fun e => e.2.1), H1 p = none
  out : ∀ p, p ∉ D :: es.map (fun e => e.2.1) → H2 p = H1 p
theorem NS.start {H1 : Hp} {D : Addr} (h : H1 D = none) : NS H1 (upd H1 D (.dK [])) D [] := ⟨upd_same, fun e m => (by cases m), (by unfold NoD; simp), fun p hp => (by simp at hp; rw [hp]; exact h), fun p hp => upd_ne fun c => hp (by rw [c]; simp)⟩
theorem NS.ext {H1 H2 : Hp} {D : Addr} {es : List NE} (t : NS H1 H2 D es) : Ext H1 H2 := fun a o e => by
  rw [t.out a fun m => by rw [t.fr a m] at e; cases e]; exact e
theorem NS.there {H1 H2 : Hp} {D : Addr} {es : List NE} (t : NS H1 H2 D es) {p : Addr} (h : p ∈ D :: es.map (fun e => e.2.1)) : H2 p ≠ none := by
  rcases List.mem_cons.mp h with rfl | h
  · rw [t.d]; simp
  · obtain ⟨e, he, rfl⟩ := List.mem_map.mp h
    rw [(t.el e he).1]; simp
theorem NS.push {H1 H2 : Hp} {D : Addr} {es : List NE} (t : NS H1 H2 D es) {q : Addr} {s : Str} (hq : H2 q = none) : NS H1 (upd (upd H2 q (.lst [])) D (.dK (nKV (es ++ [(s, q, [])])))) D (es ++ [(s, q, [])]) := by
  have nm : q ∉ D :: es.map (fun e => e.2.1) := fun m => t.there m hq
  have h0 : H1 q = none := by rw [← t.out q nm]; exact hq
  have nD : q ≠ D := fun c => nm (by rw [c]; simp)
  have nq : q ∉ es.map (fun e => e.2.1) := fun m => nm (List.mem_cons_of_mem _ m)
  obtain ⟨n1, n2⟩ := List.nodup_cons.mp t.nd
  refine ⟨upd_same, fun e m => ?_, ?_, fun p hp => ?_, fun p hp => ?_⟩
  · rcases List.mem_append.mp m with m | m
    · have c1 : e.2.1 ≠ D := fun c => n1 (c ▸ List.mem_map.mpr ⟨e, m, rfl⟩)
      have c2 : e.2.1 ≠ q := fun c => nq (c ▸ List.mem_map.mpr ⟨e, m, rfl⟩)
      exact ⟨by rw [upd_ne c1, upd_ne c2]; exact (t.el e m).1, (t.el e m).2⟩
    · simp at m; subst m
      exact ⟨by rw [upd_ne nD, upd_same], rfl⟩
  · unfold NoD
    rw [List.map_append, List.map_cons, List.map_nil]
    refine List.nodup_cons.mpr ⟨fun m => ?_, List.nodup_append.mpr ⟨n2, by simp, fun x hx y hy => ?_⟩⟩
    · rcases List.mem_append.mp m with m | m
      · exact n1 m
      · simp at m; exact nD m.symm
    · simp at hy; subst hy
      intro c; subst c; exact nq hx
  · rw [List.map_append, List.map_cons, List.map_nil] at hp
    rcases List.mem_cons.mp hp with rfl | hp
    · exact t.fr _ List.mem_cons_self
    · rcases List.mem_append.mp hp with m | m
      · exact t.fr _ (List.mem_cons_of_mem _ m)
      · simp at m; subst m; exact h0
  · rw [List.map_append, List.map_cons, List.map_nil] at hp
    have a1 : p ≠ D := fun c => hp (by rw [c]; exact List.mem_cons_self)
    have a2 : p ∉ es.map (fun e => e.2.1) := fun m => hp (List.mem_cons_of_mem _ (List.mem_append_left _ m))
    have a3 : p ≠ q := fun c => hp (List.mem_cons_of_mem _ (List.mem_append_right _ (by rw [c]; simp)))
    rw [upd_ne a1, upd_ne a3]
    exact t.out p fun m => (List.mem_cons.mp m).elim a1 a2
end M
set_option Elab.async false
set_option linter.all false
set_option maxRecDepth 100000
set_option maxHeartbeats 1000000
namespace M
open PySem L2 PySem.Spec PyProof.Rows
/-- a method of Album that adds -/
def CalD (P : Program) (w : World) (K : PySem.W.Frag) (mg : Str → Option Value) (base : Heap) (C : Addr) (k : Nat) (m : Str) (b : Bool) (Pm : Mo Out) (n : Nat) : Prop := ∃ fa fd ps, FnOk P w K mg base CX0 k fa fd ps (spAdd K b Pm n) ∧ Meth K C m fa ∧ Binds K fd ps []
theorem CalD.mono {P : Program} {w : World} {K : PySem.W.Frag} {mg : Str → Option Value} {base : Heap} {C : Addr} {k : Nat} {m : Str} {b : Bool} {Pm : Mo Out} {n : Nat} (h : CalD P w K mg base C k m b Pm n) : ∃ fa fd ps, FnOk P w K mg base CX0 k fa fd ps (spAdd K b Pm n) ∧ Meth K C m fa ∧ Binds K fd ps [] := h
end M
set_option Elab.async false
set_option linter.all false
set_option maxRecDepth 100000
set_option maxHeartbeats 1000000
set_option Elab.async false
set_option linter.all false
set_option maxRecDepth 100000
set_option maxHeartbeats 1000000
set_option Elab.async false
set_option linter.all false
set_option maxRecDepth 100000
set_option maxHeartbeats 1000000
set_option Elab.async false
set_option linter.all false
set_option maxRecDepth 100000
set_option maxHeartbeats 2000000
namespace M
open PySem L2 PySem.Spec PyProof.Rows
/-- an exception in the air over the frame at L -/
def XEL (X : Cx) (L : Addr) (W : WX) (u : Value) (s' : Shared) : Prop :=
  ∃ (a : Addr) (B : Heap) (sI : Shared) (pins : List (Addr × Obj)) (σ : St) (H : Hp) (cls : Value) (d : Option Addr),
    u = .ref a ∧ Inv X pins σ H sI ∧ (∀ b o, sI.heap.get? b = some o → b ∉ frs X.stack → B.get? b = some o) ∧ sI.heap.UpToSlots s'.heap ∧
      Sky B X.stack a (Zc cls d) L s'.heap ∧ H a = none ∧ s'.os = sI.os ∧ AllBare s'.gens ∧ W cls d σ H
def TakesL (X : Cx) (L : Addr) (W : WX) : Prop := ∀ u s', XEL X L W u s' → X.xe u s'
theorem takesL_of {X : Cx} {W : WX} (tk : Takes X W) : TakesL X X.env.locals W := tk
theorem frm_note {e : Value} {env env' : PySem.Env} (h : env.frame = env'.frame) : noteFrame e env = noteFrame e env' := by
  unfold noteFrame PySem.frameOf
  rw [h]
theorem frm_pass {α : Type} {w : String} {e : Value} {env env' : PySem.Env} (h : env.frame = env'.frame) : (PySem.passOn w e env : Sem α) = PySem.passOn w e env' := by
  unfold PySem.passOn
  rw [h]
section
variable {M : Model} {A : Around} {E : Value → Shared → Prop} {s : Shared} {B : Heap} {env : PySem.Env} {outer : List PySem.Env} {l : List PySem.Env} {L a : Addr} {Z : Obj → Prop}
theorem note_sky {Q : Unit → Shared → Prop} (hZ : HandSPX.Steady Z) (hfr : A.frames = some (env :: outer)) (hf : env.frame = some L)
    (x : Sky B (env :: outer) a Z L s.heap) (hQ : ∀ h', HandSPX.HeldZ B (env :: outer) a Z L h' → s.heap.UpToSlots h' → Q () { s with heap := h' }) : wpAny M A (noteFrame (.ref a) env) Q E s := by
  rcases x with ⟨hB, hn, hl, oe, vs, he, hz, hd, h1⟩ | fl | hh
  · exact HandSPX.look_newZ hZ hfr hl hf he hB hn hd h1 hz hQ
  · exact HandSPX.looks_onZ hZ hfr hf fl hQ
  · exact HandSPX.againZ hf hh.2.2.2 (hQ s.heap hh (Heap.UpToSlots.refl _))
theorem pass_held {α : Type} {w : String} {Q : α → Shared → Prop} (hf : env.frame = some L) (hh : HandSPX.HeldZ B l a Z L s.heap)
    (hQ : ∀ h', HandSPX.HeldZ B l a Z L h' → s.heap.UpToSlots h' → E (.ref a) { s with heap := h' }) : wpAny M A (PySem.passOn w (.ref a) env : Sem α) Q E s := by
  obtain ⟨f1, f2, f3, f4⟩ := hh
  obtain ⟨oe, vs, T, oT, ts, he, hz, hd, h1, hnT, hTe, hT, hdT, h3⟩ := f4
  unfold PySem.passOn
  refine wpAny_bind (wpAny_field he hd h1 ?_)
  rw [if_neg (show ¬ ((Value.ref T == Value.none) = true) from by simp), hf]
  refine wpAny_bind (HandSPX.setFlight_anyZ f1 f3 ⟨oe, vs, T, oT, ts, he, hz, hd, h1, hnT, hTe, hT, hdT, h3⟩ fun h' k1 k2 k3 k4 => ?_)
  exact wpAny_throw (hQ h' ⟨k1, f2, k2, k3⟩ k4)
end
/-- behind a comprehension's block -/
def compPostX (M : Model) (A : Around) (E : Value → Shared → Prop) (use : Option (Value → Sem Unit)) (Q : Value → Shared → Prop) (fr : Option Addr) (acc : Value) (C : Addr) (r : Result) (s' : Shared) : Prop :=
  match r, use with
  | .ok _, none => ∃ m, s'.heap.Ns C m ∧ ∀ h', Heap.SameBut C s'.heap h' → Q acc { s' with heap := h' }
  | .ok _, some u => wpAny M A (u acc) (fun _ s'' => ∃ m, s''.heap.Ns C m ∧ ∀ h', Heap.SameBut C s''.heap h' → Q .none { s'' with heap := h' }) E s'
  | .error x, _ => ∃ m, s'.heap.Ns C m ∧ ∀ h', Heap.SameBut C s'.heap h' → ∀ cenv : PySem.Env, cenv.locals = C → cenv.frame = fr → wpAny M A (PySem.passOn "comprehension.variables-let-go" x cenv : Sem Value) (fun _ _ => False) E { s' with heap := h' }
theorem comp_freeX {M : Model} {A : Around} {E : Value → Shared → Prop} {s : Shared} {env : PySem.Env} {e : Expr} {scope : Scope} {pos : Pos} {newAcc first : Sem Value} {g : Comprehension} {gs : List Comprehension} {cl : List (Str × Addr)} {use : Option (Value → Sem Unit)}
    {Q : Value → Shared → Prop}
    (hcl : clausesOf e = g :: gs) (hs : ∀ x, foldedSetIterable g.iter env x = pure x) (hclos : closureFor scope env = pure cl)
    (hkind : scope.kind = .function) (hnames : ∀ x ∈ scope.names, x.2 = .local → scope.names.lookup x.1 = some .local)
    (h : wpAny M A first (fun x s₁ => wpAny M A (pyIter x) (fun it s₂ => wpAny M A newAcc (fun acc s₃ =>
      wpAny M A (newFunctionEnv scope env.globals cl [] env.qual none .none (some env)) (fun cenv s₄ =>
        codeAny M A (.compStart e 0 it acc { cenv with scope := relabel scope env }) (compPostX M A E use Q cenv.frame acc cenv.locals) s₄) E s₃) E s₂) E s₁) E s) :
    wpAny M A (comprehension e scope env pos newAcc false first use) Q E s := by
  unfold comprehension
  rw [hclos, hcl]
  refine wpAny_bind (wpAny_mono h (fun x s₁ h₁ => wpAny_bind (wpAny_standAt (wpAny_bind (wpAny_of_eq (hs x) (wpAny_bind (wpAny_holding (wpAny_mono h₁ (fun it s₂ h₂ =>
    wpAny_standIf (wpAny_bind (wpAny_mono h₂ (fun acc s₃ h₃ => wpAny_bind (wpAny_pure (wpAny_bind (wpAny_mono h₃ (fun cenv s₄ h₄ => ?_) fun _ _ h' => h')))) fun _ _ h' => h')))
      fun _ _ h' => h'))))))) fun _ _ h' => h')
  dsimp only
  have hv : ∀ x ∈ (scope.names.filter fun x => (x.2 == .local || x.2 == .cell) && x.1 != (".0" : Str)).reverse, x.2 = .local →
      Env.kindOf { cenv with scope := relabel scope env } x.1 = some .local := fun x hx hl => lookup_relabel_local (hnames x (List.mem_filter.mp (List.mem_reverse.mp hx)).1 hl)
  have hv' : ∀ x ∈ (scope.names.filter fun x => (x.2 == .local || x.2 == .cell) && x.1 != (".0" : Str)).reverse.drop 1 ++ (scope.names.filter fun x => (x.2 == .local || x.2 == .cell) && x.1 != (".0" : Str)).reverse.take 1,
      x.2 = .local → Env.kindOf { cenv with scope := relabel scope env } x.1 = some .local := fun x hx hl => by
    rcases List.mem_append.mp hx with h1 | h1
    · exact hv x (List.mem_of_mem_drop h1) hl
    · exact hv x (List.mem_of_mem_take h1) hl
  refine wpAny_holding (wpAny_bind (wpAny_attempt (wpAny_holding (wpAny_run (codeAny_mono h₄ fun r s' hr => ?_)))))
  cases r with
  | ok f =>
    cases use with
    | none =>
      obtain ⟨m, hn, hr⟩ := hr
      exact wpAny_bind (wpAny_holding (wpAny_comp_letGo (cenv := { cenv with scope := relabel scope env }) hkind _ s' m hv hn fun h' m' _ hs' => wpAny_pure (hr h' hs')))
    | some u =>
      refine wpAny_bind (wpAny_rule (wpAny_bind (wpAny_holding (wpAny_mono hr (fun _ s'' hr' => ?_) fun _ _ h' => h'))))
      obtain ⟨m, hn, hr'⟩ := hr'
      exact wpAny_bind (wpAny_comp_letGo (cenv := { cenv with scope := relabel scope env }) hkind _ s'' m hv' hn fun h' m' _ hs' => wpAny_pure (hr' h' hs'))
  | error x =>
    have hr' : ∃ m, s'.heap.Ns cenv.locals m ∧ ∀ h', Heap.SameBut cenv.locals s'.heap h' → ∀ cenv' : PySem.Env, cenv'.locals = cenv.locals → cenv'.frame = cenv.frame → wpAny M A (PySem.passOn "comprehension.variables-let-go" x cenv' : Sem Value) (fun _ _ => False) E { s' with heap := h' } := by cases use <;> exact hr
    obtain ⟨m, hn, hr⟩ := hr'
    exact wpAny_bind (wpAny_holding (wpAny_comp_letGo (cenv := { cenv with scope := relabel scope env }) hkind _ s' m hv hn fun h' m' _ hs' => wpAny_mono (hr h' hs' _ rfl rfl) (fun _ _ f => f.elim) fun _ _ y => y))
theorem ff_sameBut {h h' B B' : Heap} {C : Addr} (sb : Heap.SameBut C h h') : ∀ {l : List PySem.Env}, (∀ b ∈ frs l, b ≠ C) → (∀ b, B.get? b = none → B'.get? b = none) → h.FunFrames B l → h'.FunFrames B' l := fun {l} hb hn hl => by
  induction l with
  | nil => trivial
  | cons env rest ih =>
    obtain ⟨hk, ⟨L, o, hf, hn', ho, hd⟩, hr⟩ := hl
    have hL : frs (env :: rest) = L :: frs rest := by
      show (env :: rest).filterMap (·.frame) = _
      rw [List.filterMap_cons, hf]; rfl
    refine ⟨hk, ⟨L, o, hf, hn L hn', (sb.2 L (hb L (by rw [hL]; exact List.mem_cons_self))).trans ho, hd⟩, ih (fun b m => hb b (by rw [hL]; exact List.mem_cons_of_mem _ m)) hr⟩
abbrev blkX (X : Cx) (s : Shared) (H : Hp) (scope : Scope) (cenv : PySem.Env) (fp : List Addr) (L : Addr) (W : WX) : Cx := { X.blk s H scope cenv fp with xe := XEL (X.blk s H scope cenv fp) L W }
section
variable {X : Cx} {pins : List (Addr × Obj)} {σ : St} {H : Hp} {s s0 : Shared} {H0 : Hp} {scope : Scope} {ce : PySem.Env} {fp : List Addr} {L : Addr} {W : WX}
theorem toX (I : Inv (X.blk s0 H0 scope ce fp) pins σ H s) : Inv (blkX X s0 H0 scope ce fp L W) pins σ H s :=
  ⟨⟨I.ok.mod, I.ok.kind, I.ok.glob, I.ok.blt, I.ok.above, I.ok.inj, I.ok.has, I.ok.cab, I.ok.hd, I.ok.frames, I.ok.stk, I.ok.exf, I.ok.bs, I.ok.bsz, I.ok.noex, I.ok.exfs, I.ok.funs, I.ok.frf⟩, I.os, I.bare, I.base, I.loc, I.cell, I.free, I.freeC, I.pin, I.hok, I.len⟩
theorem ofX (I : Inv (blkX X s0 H0 scope ce fp L W) pins σ H s) : Inv (X.blk s0 H0 scope ce fp) pins σ H s :=
  ⟨⟨I.ok.mod, I.ok.kind, I.ok.glob, I.ok.blt, I.ok.above, I.ok.inj, I.ok.has, I.ok.cab, I.ok.hd, I.ok.frames, I.ok.stk, I.ok.exf, I.ok.bs, I.ok.bsz, I.ok.noex, I.ok.exfs, I.ok.funs, I.ok.frf⟩, I.os, I.bare, I.base, I.loc, I.cell, I.free, I.freeC, I.pin, I.hok, I.len⟩
theorem ofXE {u : Value} {s' : Shared} (x : (blkX X s0 H0 scope ce fp L W).xe u s') : XEL (X.blk s0 H0 scope ce fp) L W u s' := x
end
section
variable {X : Cx} {pins : List (Addr × Obj)} {σ : St} {s3 s10 : Shared} {H3 : Hp} {scope : Scope} {ce env0 : PySem.Env} {outer0 : List PySem.Env} {fp : List Addr} {L0 : Addr} {Wx : WX} {u D : Value} {use : Option (Value → Sem Unit)} {Qf : Value → Shared → Prop}
/-- what the element lets out: noted, and on to X -/
theorem blk_err (hst : X.stack = env0 :: outer0) (hf0 : env0.frame = some L0) (hfe : X.env.frame = some L0) (tk : TakesL X L0 Wx) (hW : ∀ c d σ σ' H, Wx c d σ H → Wx c d σ' H) (I3 : Inv X pins σ H3 s3)
    (f3 : ∀ b ∈ fp, FpOk X pins H3 b) (cL : ce.locals = s3.heap.objs.size) (cF : ce.frame = env0.frame) (x : XEL (X.blk s3 H3 scope ce fp) L0 Wx u s10) :
    notedBy (model X.prog X.w) X.A ce (fun e s' => compPostX (model X.prog X.w) X.A X.xe use Qf X.env.frame D s3.heap.objs.size (.error e) s') u s10 := by
  obtain ⟨a, B, sI, pn', σ', H', cls, d, rfl, J, nb, up, sky, na, os, ag, w⟩ := x
  have nb : ∀ b o, sI.heap.get? b = some o → b ∉ frs X.stack → B.get? b = some o := nb
  have sky : Sky B (env0 :: outer0) a (Zc cls d) L0 s10.heap := by rw [← hst]; exact sky
  unfold notedBy
  rw [frm_note cF]
  refine note_sky Zc.steady (by rw [← hst]; exact I3.ok.frames) hf0 sky fun h1 held up1 => ?_
  have J7 : Inv X pins σ H' sI := I3.call' (ch := fp) J.os J.base J.hok J.bare fun b hb => ⟨(f3 b hb).2.2.2.1, (f3 b hb).2.1, (f3 b hb).2.2.2.2.1, (f3 b hb).2.2.2.2.2⟩
  obtain ⟨m, hn, _⟩ := J.loc
  have hn : sI.heap.Ns ce.locals m := hn
  have nC : H' ce.locals = none := J.free
  rw [cL] at hn nC
  have fpC : FpOk X pins H' s3.heap.objs.size := I3.fpOk (Nat.le_refl _) nC
  generalize hC : s3.heap.objs.size = C at *
  have cN : C ∉ frs X.stack := fun hb => by
    obtain ⟨_, o, e, _⟩ := I3.stack.mem hb
    exact absurd (Heap.lt_size e) (by rw [hC]; exact Nat.lt_irrefl _)
  obtain ⟨oC, es, ep, eC, rC⟩ := hn
  have bC : B.get? C = some oC := nb C oC eC cN
  have aC : a ≠ C := fun e => by
    have := held.2.1
    rw [e, bC] at this; cases this
  refine ⟨m, ⟨oC, es, ep, held.1 _ _ bC, rC⟩, fun h2 sb cenv hl hfr => ?_⟩
  rw [frm_pass (show cenv.frame = env0.frame from (hfr.trans hfe).trans hf0.symm)]
  obtain ⟨g1, g2, g3, oe, vs, T, oT, ts, he, hz, hd, hv, hnT, hTe, hT, hdT, ht⟩ := held
  have tC : T ≠ C := fun e => by rw [e, bC] at hnT; cases hnT
  have st2 : (PySem.W.hideAll B [C]).StaysIn h2 := fun b o e => by
    have hb : b ≠ C := fun z => by
      subst z
      rw [PySem.W.hideAll_none [b] (by simp)] at e; cases e
    exact (sb.2 b hb).trans (g1 b o (PySem.W.of_hideAll _ e))
  have none2 : ∀ b, B.get? b = none → (PySem.W.hideAll B [C]).get? b = none := fun b e => by
    cases q : (PySem.W.hideAll B [C]).get? b with
    | none => rfl
    | some o => rw [PySem.W.of_hideAll _ q] at e; cases e
  have ff2 : h2.FunFrames (PySem.W.hideAll B [C]) (env0 :: outer0) := ff_sameBut sb (fun b hb => fun z => cN (by rw [hst, ← z]; exact hb)) (fun b e => none2 b e) g3
  have held2 : HandSPX.HeldZ (PySem.W.hideAll B [C]) (env0 :: outer0) a (Zc cls d) L0 h2 :=
    ⟨st2, none2 a g2, ff2, oe, vs, T, oT, ts, (sb.2 a aC).trans he, hz, hd, hv, none2 T hnT, hTe, (sb.2 T tC).trans hT, hdT, ht⟩
  obtain ⟨p0, p1, p2, p3, p4, p5⟩ := fpC
  refine pass_held (s := { s10 with heap := h2 }) hf0 held2 fun h4 held4 up4 => tk _ _ ⟨a, PySem.W.hideAll B [C], { sI with heap := PySem.W.hideAll sI.heap [C], toks := sI.toks }, pins, σ, H', cls, d, rfl, J7.turned (fun b o hb e => PySem.W.hideAll_get _ e (by simp [hb])) p0 p1 p3 p4 p5, fun b o e hb => ?_, fun b o e hnf => ?_, ?_, na, os, ag, hW _ _ _ _ _ w⟩
  · have hb2 : b ≠ C := fun z => by
      subst z
      rw [PySem.W.hideAll_none [b] (by simp)] at e; cases e
    exact PySem.W.hideAll_get _ (nb b o (PySem.W.of_hideAll _ e) hb) (by simp [hb2])
  · have hb2 : b ≠ C := fun z => by
      subst z
      rw [PySem.W.hideAll_none [b] (by simp)] at e; cases e
    obtain ⟨sl1, e1⟩ := up b o (PySem.W.of_hideAll _ e) hnf
    obtain ⟨sl2, e2⟩ := up1 b _ e1 hnf
    obtain ⟨sl4, e4⟩ := up4 b _ ((sb.2 b hb2).trans e2) hnf
    exact ⟨sl4, e4⟩
  · rw [hst]; exact .inr (.inr held4)
end
end M
set_option Elab.async false
set_option linter.all false
set_option maxRecDepth 100000
set_option maxHeartbeats 2000000
namespace M
open PySem L2 PySem.Spec PyProof.Rows
section
variable {X : Cx}
theorem lc_coreX {L0 : Addr} {Wx : WX} {env0 : PySem.Env} {outer0 : List PySem.Env} {pins : List (Addr × Obj)} {s : Shared} {σ : St} {H : Hp} {Q : VK} {elt tg iter : Expr} {ifs : List Expr} {scope : Scope} {own : List (Str × Nat)} {pos pos' : Pos} {wi : TI} {g : TG} {tt : TT} {te : TE} {use : Option (Value → Sem Unit)} {Qf : Value → Shared → Prop}
    (hst : X.stack = env0 :: outer0) (hf0 : env0.frame = some L0) (hfe : X.env.frame = some L0) (tk : TakesL X L0 Wx) (hW : ∀ c d σ σ' H, Wx c d σ H → Wx c d σ' H) (hc : X.calm = true) (hN : X.N.Nodup) (I : Inv X pins σ H s) (hi : PI X tg iter wi) (ok : BlkOk X.N X.env.scope scope own)
    (hg : ∀ (s : Shared) (H : Hp) (C : Addr) (cl : List (Str × Addr)) (fp : List Addr), PG (X.blk s H scope (compEnvC scope cl C X.env) fp) tg g) (ht : ∀ (s : Shared) (H : Hp) (C : Addr) (cl : List (Str × Addr)) (fp : List Addr), PTs (X.blk s H scope (compEnvC scope cl C X.env) fp) ifs tt)
    (he : ∀ (s : Shared) (H : Hp) (C : Addr) (cl : List (Str × Addr)) (fp : List Addr), PE (blkX X s H scope (compEnvC scope cl C X.env) fp L0 Wx) elt te) (hs : ∀ x, foldedSetIterable iter X.env x = pure x)
    (h : tLc wi g tt te (own.map (·.2)) σ H Q)
    (hRR : ∀ D C s' m H', Inv X pins σ H' s' → Q (.ref D) H' → s'.heap.Ns C m → FpOk X pins H' C → compPostX (model X.prog X.w) X.A X.xe use Qf X.env.frame (.ref D) C (.ok .next) s') :
    wpAny (model X.prog X.w) X.A (comprehension (.ListComp elt [⟨tg, iter, ifs, 0⟩] scope pos) scope X.env pos' (newList []) false (eval iter X.env) use) Qf X.xe s := by
  have hfree : ∀ y ∈ scope.names, y.2 = .free → ∃ c, X.env.cells.lookup y.1 = some c := fun y hy e => by
    rcases ok.free y hy e with k | k
    · exact I.ok.has _ (.inl k)
    · exact I.ok.has _ (.inr k)
  refine comp_freeX (use := use) rfl hs (closure_ok hfree) ok.kind (fun y hy e => by rw [ok.uniq y hy, e])
    (thn (hi.run pins s σ H _ I h) fun xv s1 hx => thn hx fun itv s2 h2 => ?_)
  obtain ⟨it, fp, tn, J, H2, e, I2, T, st2, f2, q⟩ := h2
  subst e
  refine wpAny_newObj_type (newEnv_comp ?_) (by show 0 ≤ sizeLine; decide)
  generalize hD : s2.heap.objs.size = D
  have hDn : H2 D = none := I2.hok.fresh (Nat.le_of_eq hD)
  obtain ⟨W, ⟨m0, w0⟩, turn⟩ := q D hDn
  -- the new list
  generalize hs3 : ({ s2 with heap := s2.heap.push { cls := .type "list", data := .seq ([] : List Value).toArray } } : Shared) = s3
  have I3 : Inv X pins σ (upd H2 D (.lst [])) s3 := by
    rw [← hs3]
    refine I2.laid (t' := s2.toks) (fun b o e => Heap.get?_push_of_some _ e) (Nat.le_of_eq hD) ⟨Nat.zero_le _, [], 0, .nil, ?_⟩
    rw [← hD]
    exact Heap.get?_push_size _ rfl
  have h3 : s3.heap = s2.heap.push { cls := .type "list", data := .seq ([] : List Value).toArray } := by rw [← hs3]
  have sz : ∀ b ∈ fp, b < s2.heap.objs.size := fun b hb => by
    obtain ⟨o, e, _⟩ := T.obj _ _ st2 b hb
    exact Heap.lt_size e
  have f3 : ∀ b ∈ fp, FpOk X pins (upd H2 D (.lst [])) b ∧ b < s3.heap.objs.size := fun b hb => by
    have hlt := sz b hb
    refine ⟨⟨?_, (f2 b hb).2⟩, by rw [h3, Heap.size_push]; exact Nat.lt_succ_of_lt hlt⟩
    rw [upd_ne (by rw [← hD]; exact Nat.ne_of_lt hlt)]
    exact (f2 b hb).1
  have st3 : tn 0 s3.heap := T.keep _ _ _ st2 fun b _ o e => by rw [h3]; exact Heap.get?_push_of_some _ e
  have I4 := block_start I3 ok hN f3
  have pg := hg s3 (upd H2 D (.lst [])) s3.heap.objs.size (cellsFrom (s3.heap.objs.size + 1) scope.names (cloFrom X.env.cells scope.names [])) fp
  have pt := ht s3 (upd H2 D (.lst [])) s3.heap.objs.size (cellsFrom (s3.heap.objs.size + 1) scope.names (cloFrom X.env.cells scope.names [])) fp
  have pe := he s3 (upd H2 D (.lst [])) s3.heap.objs.size (cellsFrom (s3.heap.objs.size + 1) scope.names (cloFrom X.env.cells scope.names [])) fp
  show codeAny _ _ (.compStart (.ListComp elt [⟨tg, iter, ifs, 0⟩] scope pos) 0 (.ref it) (.ref D) (compEnvC scope (cellsFrom (s3.heap.objs.size + 1) scope.names (cloFrom X.env.cells scope.names [])) s3.heap.objs.size X.env)) (compPostX (model X.prog X.w) X.A X.xe use Qf X.env.frame (.ref D) s3.heap.objs.size) { s3 with heap := pushCells (s3.heap.push { cls := .type "dict", data := .dict #[] }) scope.names }
  have nfp : ∀ b ∈ fp, (upd H2 D (.lst [])) b = none := fun b hb => (f3 b hb).1.1
  generalize hce : compEnvC scope (cellsFrom (s3.heap.objs.size + 1) scope.names (cloFrom X.env.cells scope.names [])) s3.heap.objs.size X.env = ce at I4 pg pt pe ⊢
  have cL : ce.locals = s3.heap.objs.size := by subst hce; rfl
  have cF : ce.frame = env0.frame := by subst hce; exact hfe.trans hf0.symm
  generalize hH3 : upd H2 D (.lst []) = H3 at I3 I4 pg pt pe w0 nfp f3
  generalize hs4 : ({ s3 with heap := pushCells (s3.heap.push { cls := .type "dict", data := .dict #[] }) scope.names } : Shared) = s4 at I4 ⊢
  have st4 : tn 0 s4.heap := T.keep _ _ _ st3 fun b _ o e => by rw [← hs4]; exact pushCells_keeps _ _ _ _ (Heap.get?_push_of_some _ e)
  have stat : ∀ {σ' : St} {H' : Hp} {s' : Shared}, Inv (X.blk s3 H3 scope ce fp) [] σ' H' s' → (∀ b ∈ fp, H' b = none) → ∀ b ∈ fp, FpOk (X.blk s3 H3 scope ce fp) [] H' b := fun {σ' H' s'} I' hn b hb =>
    ⟨hn b hb, (I'.ok.exf b hb).1, I'.ok.exfs b hb, .inl hb, fun x c e => (I'.ok.exf b hb).2 x c e, fun p hp => absurd (show p ∈ ([] : List (Addr × Obj)) ++ [] from hp) (by simp)⟩
  have loop : codeAny (model X.prog X.w) X.A (.compLoop (.ListComp elt [⟨tg, iter, ifs, 0⟩] scope pos) 0 (.ref it) (.ref D) ce) (compPostX (model X.prog X.w) X.A X.xe use Qf X.env.frame (.ref D) s3.heap.objs.size) s4 := by
    refine compLoop_any (fun n s' => ∃ i H', Inv (X.blk s3 H3 scope ce fp) [] (wipe σ (own.map (·.2))) H' s' ∧ tn i s'.heap ∧ (∀ b ∈ fp, H' b = none) ∧ W i n H') ?_ m0 ⟨0, H3, I4, st4, nfp, w0⟩
    rintro n s5 ⟨i, H5, I5, st5, n5, w5⟩
    rcases turn i n H5 w5 with ⟨stop, qq⟩ | ⟨go, Nx, hNx, step⟩
    · have td := T.done (X.blk s3 H3 scope ce fp) rfl rfl rfl hc i [] s5 _ H5 (fun _ _ => False) I5 (stat I5 n5) st5 stop
      refine thnF td fun r s6 ⟨hr, I6⟩ => ?_
      subst hr
      -- back in the def's context
      have I7 : Inv X pins σ H5 s6 := I3.call' (ch := fp) I6.os I6.base I6.hok I6.bare fun b hb => ⟨(f3 b hb).1.2.2.2.1, (f3 b hb).1.2.1, (f3 b hb).1.2.2.2.2.1, (f3 b hb).1.2.2.2.2.2⟩
      have nC : H5 s3.heap.objs.size = none := by
        have z : H5 ce.locals = none := I6.free
        rw [cL] at z
        exact z
      obtain ⟨m, hn, _⟩ := I6.loc
      have hn : s6.heap.Ns ce.locals m := hn
      rw [cL] at hn
      exact hRR D s3.heap.objs.size s6 m H5 I7 qq hn (I3.fpOk (Nat.le_refl _) nC)
    · have ti := T.item (X.blk s3 H3 scope ce fp) rfl rfl rfl hc i [] s5 _ H5 (fun _ _ => False) I5 (stat I5 n5) st5 go
      refine thnF ti fun r s6 ⟨u, hr, h6⟩ => ?_
      subst hr
      refine thnF h6 fun _ s7 ⟨x, H7, I7, r7, y7, st7, n7⟩ => ?_
      have I7' := I7.pinned (stat I7 n7) (T.obj _ _ st7)
      refine thnF (pg.run _ s7 _ H7 x u _ I7' r7 (step x H7 y7)) fun _ s8 ⟨σ8, H8, I8, hw8, q8⟩ => ?_
      refine thnF (pt.run _ s8 σ8 H8 _ I8 q8) fun b s9 ⟨H9, I9, q9⟩ => ?_
      -- the turn's end
      have fin : ∀ {s' : Shared} {H' : Hp}, Inv (X.blk s3 H3 scope ce fp) ([] ++ pinsAt fp s7.heap) σ8 H' s' → Nx H' → ∃ m, m < n ∧ ∃ i H', Inv (X.blk s3 H3 scope ce fp) [] (wipe σ (own.map (·.2))) H' s' ∧ tn i s'.heap ∧ (∀ b ∈ fp, H' b = none) ∧ W i m H' := fun {s' H'} I' nx => by
        obtain ⟨m', hm, w'⟩ := hNx H' nx
        have pin' : ∀ b ∈ fp, ∀ o, s7.heap.get? b = some o → s'.heap.get? b = some o ∧ H' b = none := fun b hb o e =>
          let z := I'.pin (b, o) (List.mem_append_right _ (List.mem_append_right _ (mem_pinsAt hb e)))
          ⟨z.1, z.2.1⟩
        have hl : (wipe σ (own.map (·.2))).length = σ8.length := by rw [← hw8, wipe_length]
        refine ⟨m', hm, i + 1, H', (I'.unpinned (pins := [])).weak hl (fun j v e => ?_), T.keep _ _ _ st7 fun b hb o e => (pin' b hb o e).1, fun b hb => ?_, w'⟩
        · rw [← hw8] at e
          exact (wipe_some e).1
        · obtain ⟨o, e, _⟩ := T.obj _ _ st7 b hb
          exact (pin' b hb o e).2
      cases b with
      | false =>
        simp only [Bool.false_eq_true, if_false] at q9 ⊢
        exact fin I9 q9
      | true =>
        simp only [if_true] at q9 ⊢
        refine wpAny_mono (pe.run _ s9 σ8 H9 _ (toX I9) q9) (fun z s10 ⟨yv, H10, I10, r10, acc, hD10, hz10, nx⟩ => ?_) fun u s10 hx => blk_err hst hf0 hfe tk hW I3 (fun b hb => (f3 b hb).1) cL cF (ofXE hx)
        have I10 := ofX I10
        exact app_ok (X := X.blk s3 H3 scope ce fp) I10 hD10 hz10 r10 fun s11 I11 => fin I11 nx
  exact codeAny_compStart_list loop (T.self X.A 0 _ _ _ st4 loop)
theorem pe_lcX {L0 : Addr} {Wx : WX} {env0 : PySem.Env} {outer0 : List PySem.Env} {elt tg iter : Expr} {ifs : List Expr} {scope : Scope} {own : List (Str × Nat)} {pos : Pos} {wi : TI} {g : TG} {tt : TT} {te : TE} (hst : X.stack = env0 :: outer0) (hf0 : env0.frame = some L0) (hfe : X.env.frame = some L0) (tk : TakesL X L0 Wx) (hW : ∀ c d σ σ' H, Wx c d σ H → Wx c d σ' H) (hc : X.calm = true) (hN : X.N.Nodup) (hi : PI X tg iter wi) (ok : BlkOk X.N X.env.scope scope own)
    (hg : ∀ (s : Shared) (H : Hp) (C : Addr) (cl : List (Str × Addr)) (fp : List Addr), PG (X.blk s H scope (compEnvC scope cl C X.env) fp) tg g) (ht : ∀ (s : Shared) (H : Hp) (C : Addr) (cl : List (Str × Addr)) (fp : List Addr), PTs (X.blk s H scope (compEnvC scope cl C X.env) fp) ifs tt)
    (he : ∀ (s : Shared) (H : Hp) (C : Addr) (cl : List (Str × Addr)) (fp : List Addr), PE (blkX X s H scope (compEnvC scope cl C X.env) fp L0 Wx) elt te) (hs : ∀ x, foldedSetIterable iter X.env x = pure x := by intro _; rfl) :
    PE X (.ListComp elt [⟨tg, iter, ifs, 0⟩] scope pos) (tLc wi g tt te (own.map (·.2))) := by
  refine ⟨fun pins s σ H Q I h => ?_⟩
  rw [eval_ListComp]
  refine lc_coreX hst hf0 hfe tk hW hc hN I hi ok hg ht he hs h fun D C s' m H' I' q hn f => ⟨m, hn, fun h'' sb => ?_⟩
  obtain ⟨f0, f1, f2, f3, f4, f5⟩ := f
  exact ⟨.ref D, H', I'.turned (t' := s'.toks) (fun b o hb e => (sb.2 b hb).trans e) f0 f1 f3 f4 f5, rfl, q⟩
/-- name = [..] on one line, the name a local -/
theorem ps_setLcX {L0 : Addr} {Wx : WX} {env0 : PySem.Env} {outer0 : List PySem.Env} {i : Nat} {y : Str} {py : Pos} {elt tg iter : Expr} {ifs : List Expr} {scope : Scope} {own : List (Str × Nat)} {pos spos : Pos} {wi : TI} {g : TG} {tt : TT} {te : TE} (hst : X.stack = env0 :: outer0) (hf0 : env0.frame = some L0) (hfe : X.env.frame = some L0) (tk : TakesL X L0 Wx) (hW : ∀ c d σ σ' H, Wx c d σ H → Wx c d σ' H) (hc : X.calm = true) (hN : X.N.Nodup) (hy : X.N[i]? = some y) (hyl : X.env.scope.names.lookup y = some .local)
    (hsw : swapsWith (.ListComp elt [⟨tg, iter, ifs, 0⟩] scope pos) (some (.Name y py)) spos.line X.env = pure true) (hi : PI X tg iter wi) (ok : BlkOk X.N X.env.scope scope own)
    (hg : ∀ (s : Shared) (H : Hp) (C : Addr) (cl : List (Str × Addr)) (fp : List Addr), PG (X.blk s H scope (compEnvC scope cl C X.env) fp) tg g) (ht : ∀ (s : Shared) (H : Hp) (C : Addr) (cl : List (Str × Addr)) (fp : List Addr), PTs (X.blk s H scope (compEnvC scope cl C X.env) fp) ifs tt)
    (he : ∀ (s : Shared) (H : Hp) (C : Addr) (cl : List (Str × Addr)) (fp : List Addr), PE (blkX X s H scope (compEnvC scope cl C X.env) fp L0 Wx) elt te) (hs : ∀ x, foldedSetIterable iter X.env x = pure x := by intro _; rfl) :
    PS X (.Assign [.Name y py] (.ListComp elt [⟨tg, iter, ifs, 0⟩] scope pos) spos) (tAsg (tLc wi g tt te (own.map (·.2))) (gName i)) := by
  refine ⟨fun pins s σ H D I h => ?_⟩
  rw [exec_Assign_Name_used _ _ _ _ hsw]
  refine wpAny_bind (wpAny_standAt (wpAny_bind ?_))
  show wpAny _ X.A (do let _ ← comprehension (.ListComp elt [⟨tg, iter, ifs, 0⟩] scope pos) scope X.env (firstIterPos [⟨tg, iter, ifs, 0⟩] pos) (newList []) false (eval iter X.env) (some (assign (.Name y py) X.env))) _ _ s
  have h : tLc wi g tt te (own.map (·.2)) σ H (fun x H1 => gName i x σ H1 D.nx) := h
  refine wpAny_bind (thn (lc_coreX (Qf := fun _ s' => SP X pins D .next s') hst hf0 hfe tk hW hc hN I hi ok hg ht he hs h fun L C s' m H' I' q hn f => ?_) fun _ s' hq => wpAny_pure (wpAny_pure hq))
  show wpAny _ _ (assign (.Name y py) X.env (.ref L)) _ _ _
  refine wpAny_assign_Name (store_ok2 (v := V.ref L) I' hN hy (.inl hyl) rfl (fun s2 I2 ⟨a, sb, ha⟩ => ?_) (.inr hyl))
  obtain ⟨f0, f1, f2, f3, f4, f5⟩ := f
  have haC : C ≠ a := by
    rcases ha with z | z
    · rw [z]; exact f1
    · exact fun e => f4 y a z e.symm
  refine ⟨m, hn.sameBut sb haC, fun h3 sb3 => ?_⟩
  exact ⟨_, H', I2.turned (t' := s2.toks) (fun b o hb e => (sb3.2 b hb).trans e) f0 f1 f3 f4 f5, q⟩
theorem xel_of_call {pins : List (Addr × Obj)} {σ : St} {H : Hp} {s s' : Shared} {W : WX} {E : XK} {L : Addr} (I : Inv X pins σ H s) (hW : ∀ cls d H', E cls d H' → W cls d σ H') {u : Value} (c : CX X.prog X.w X.stack H s E u s') : XEL X L W u s' := by
  obtain ⟨a, B, H', cls, d, rfl, fl, hok, ub, na, os, ag, hE⟩ := c
  obtain ⟨G, g1, g2⟩ := restrict s'.heap fun b => (B.get? b).isSome || decide (b ∈ frs X.stack)
  have st : B.StaysIn s'.heap := fl.1
  have gB : ∀ b o, B.get? b = some o → G.get? b = some o := fun b o e => by
    rw [g1 b (by simp [e])]
    exact st b o e
  have gF : ∀ b, b ∈ frs X.stack → G.get? b = s'.heap.get? b := fun b hb => g1 b (by simp [hb])
  have og : ∀ b o, G.get? b = some o → s'.heap.get? b = some o ∧ ((B.get? b).isSome = true ∨ b ∈ frs X.stack) := fun b o e => by
    cases q : ((B.get? b).isSome || decide (b ∈ frs X.stack)) with
    | false => rw [g2 b q] at e; cases e
    | true =>
      rw [g1 b q] at e
      exact ⟨e, by simpa [Bool.or_eq_true] using q⟩
  refine ⟨a, B, { s with heap := G, gens := s'.gens, drawn := s'.drawn, toks := s'.toks }, pins, σ, H', cls, d, rfl, ?_, fun b o e hb => ?_, Heap.UpToSlots.of_keeps fun b o e => (og b o e).1, .inr (.inl fl), na, os, ag, hW _ _ _ hE⟩
  · refine I.call (ch := []) ⟨fun b o e n hb _ => gB b o (ub.keep b o e n hb), fun b o e n hb _ => ?_, fun b o e n _ => ub.free b o e n, fun b o e _ => ?_, ub.tups, ub.frzs, ub.tbls⟩ (hok.kept gB) ag (fun _ z => nomatch z)
    · obtain ⟨sl, q⟩ := ub.slot b o e hb
      exact ⟨sl, by rw [gF b hb]; exact q⟩
    · by_cases hb : b ∈ frs X.stack
      · obtain ⟨sl, q⟩ := ub.slot b o e hb
        exact ⟨_, by rw [gF b hb]; exact q⟩
      · obtain ⟨o', q⟩ := ub.there b o e hb
        exact ⟨o', gB b o' q⟩
  · obtain ⟨e', h⟩ := og b o e
    rcases h with h | h
    · obtain ⟨o', q⟩ := Option.isSome_iff_exists.mp h
      have z := st b o' q
      rw [e'] at z; cases z
      exact q
    · exact absurd h hb
end
end M
set_option Elab.async false
set_option linter.all false
set_option maxRecDepth 100000
set_option maxHeartbeats 2000000
namespace M
open PySem L2 PySem.Spec PyProof.Rows
def lcMX (T : D → Mo Unit) (C : Mo Bool) (E : Mo D) (vs : List Nat) : List D → List D → Mo D
  | [], acc => fun δ => some (.ok (.lst acc), δ)
  | d :: ds, acc => fun δ => match T d δ with
    | some (.ok (), δ1) => match C δ1 with
      | some (.ok true, δ2) => match E δ2 with
        | some (.ok x, δ3) => lcMX T C E vs ds (acc ++ [x]) (wipeE δ3 vs)
        | some (.error u, δ3) => some (.error u, δ3)
        | none => none
      | some (.ok false, δ2) => lcMX T C E vs ds acc (wipeE δ2 vs)
      | _ => none
    | _ => none
def eLcX (I : Mo (List D)) (T : D → Mo Unit) (C : Mo Bool) (E : Mo D) (vs : List Nat) : Mo D := I.bind fun ds => fun δ => if ds.length ≤ sizeLine then lcMX T C E vs ds [] (wipeE δ vs) else none
section
variable {K : PySem.W.Frag} {W : WK} {I : Mo (List D)} {sl vs : List Nat} {T : D → Mo Unit} {C : Mo Bool} {E Ek : Mo D} {σ : St} {H : Hp} {Q : VK}
theorem tLc_atX {B : Bs} {G1 H1 : Hp} {δ1 δ' : Env} {J : It} {ds : List D} {r : Except Exn D} (hsl : ∀ j ∈ sl, j ∈ vs) (a1 : At K B G1 δ1 σ H1) (yl : Yl K B J G1 ds) (e2 : (if ds.length ≤ sizeLine then lcMX T C E vs ds [] (wipeE δ1 vs) else none) = some (r, δ')) (post : Post K W B G1 σ r δ' (fun d G' H' => ∀ p, Fr1 K B G' δ' σ H' p d → Q (.ref p) H')) : tLc (wiJ J) (tG K sl T) (tT K W0 C) (tE K W E) vs σ H1 Q := by
  intro D1 hD
  split at e2
  · rename_i hlen
    have b0 := a1.fresh0 hD
    have ot := a1.out1 b0 (a1.vw.none hD)
    refine ⟨fun i m H2 => m + i = ds.length ∧ ∃ G2 δ2 acc xs, At K B G2 δ2 (wipe σ vs) H2 ∧ Ext G1 G2 ∧ H2 D1 = some (.lst xs) ∧ RL K G2 xs acc ∧ xs.length ≤ i ∧ G2 D1 = none ∧ (∀ j, ¬ OwnAt δ2 (wipe σ vs) j D1) ∧ (∀ j ∈ vs, ∀ s, δ2[j]? = some s → s = .no) ∧ lcMX T C E vs (ds.drop i) acc δ2 = some (r, δ'),
      ⟨ds.length, by omega, G1, wipeE δ1 vs, [], [], (a1.alloc hD).wipe vs, Ext.refl _, upd_same, .nil, Nat.zero_le _, a1.vw.none hD, (a1.wipe vs).noOwn hD, wipeE_no, e2⟩, ?_⟩
    rintro i m H2 ⟨hm, G2, δ2, acc, xs, a2, x2, hx, rx, hxl, g2, no2, hno, e3⟩
    by_cases hi : ds.length ≤ i
    · refine .inl ⟨(yl B G2 H2 δ2 _ (BLe.refl B) a2 x2 i).2 hi, ?_⟩
      rw [List.drop_eq_nil_of_le hi] at e3
      cases e3
      have a3 := a2.unwipe hno
      refine post G2 H2 a3 x2 D1 ⟨g2, b0, fun j z => ?_, .lst hx (by omega) rx⟩
      obtain ⟨⟨d, z1⟩, z2⟩ := z
      by_cases c : j ∈ vs
      · rcases z1 with z1 | z1
        · cases hno j c _ z1
        · cases hno j c _ z1
      · exact no2 j ⟨⟨d, z1⟩, by rw [wipe_out c]; exact z2⟩
    · have hlt : i < ds.length := by omega
      have a2' := a2.add nt_lst hx g2 no2
      obtain ⟨y1, _⟩ := yl (B.add D1 (.lst xs)) G2 H2 δ2 _ (BLe.add b0) a2' x2 i
      obtain ⟨gg1, gg2⟩ := y1 ds[i] (List.getElem?_eq_getElem hlt)
      rw [List.drop_eq_getElem_cons hlt] at e3
      refine .inr ⟨gg1, fun H' => ∃ m', m' < m ∧ (m' + (i + 1) = ds.length ∧ ∃ G2 δ2 acc xs, At K B G2 δ2 (wipe σ vs) H' ∧ Ext G1 G2 ∧ H' D1 = some (.lst xs) ∧ RL K G2 xs acc ∧ xs.length ≤ i + 1 ∧ G2 D1 = none ∧ (∀ j, ¬ OwnAt δ2 (wipe σ vs) j D1) ∧ (∀ j ∈ vs, ∀ s, δ2[j]? = some s → s = .no) ∧ lcMX T C E vs (ds.drop (i + 1)) acc δ2 = some (r, δ')), fun H' z => z, fun x H' hy => ?_⟩
      obtain ⟨rfl, G3, a3, x3, r3⟩ := gg2 x H' hy
      unfold lcMX at e3
      cases q : T ds[i] δ2 with
      | none => simp only [q] at e3; cases e3
      | some z =>
        obtain ⟨u, δ3⟩ := z
        cases u with
        | error u => simp only [q] at e3; cases e3
        | ok u =>
          simp only [q] at e3
          refine ⟨B.add D1 (.lst xs), G3, δ2, ds[i], δ3, a3, r3, q, fun σ4 a4 oa => ?_⟩
          have hw : wipe σ4 vs = wipe σ vs := wipe_eq (oa.1.trans (wipe_length _ _)) fun j hj => oa.2 j fun c => hj (hsl j c)
          refine ⟨hw, ?_⟩
          -- the turn's end
          have fin : ∀ {G5 H5 δ5 ys acc'}, At K (B.add D1 (.lst xs)) G5 δ5 σ4 H5 → Ext G3 G5 → RL K G5 ys acc' → ys.length ≤ i + 1 → lcMX T C E vs (ds.drop (i + 1)) acc' (wipeE δ5 vs) = some (r, δ') → ∃ m', m' < m ∧ (m' + (i + 1) = ds.length ∧ ∃ G2 δ2 acc xs, At K B G2 δ2 (wipe σ vs) (upd H5 D1 (.lst ys)) ∧ Ext G1 G2 ∧ (upd H5 D1 (.lst ys)) D1 = some (.lst xs) ∧ RL K G2 xs acc ∧ xs.length ≤ i + 1 ∧ G2 D1 = none ∧ (∀ j, ¬ OwnAt δ2 (wipe σ vs) j D1) ∧ (∀ j ∈ vs, ∀ s, δ2[j]? = some s → s = .no) ∧ lcMX T C E vs (ds.drop (i + 1)) acc δ2 = some (r, δ')) := fun {G5 H5 δ5 ys acc'} a5 x5 r5 l5 e5 => by
            obtain ⟨h1, h2, h3, h4⟩ := (a5.wipe' hw).drop ot nt_lst
            exact ⟨m - 1, by omega, by omega, G5, wipeE δ5 vs, acc', ys, h4 _, (x2.trans x3).trans x5, upd_same, r5, l5, h2, h3, wipeE_no, e5⟩
          cases qc : C δ3 with
          | none => simp only [qc] at e3; cases e3
          | some z =>
            obtain ⟨u, δ4⟩ := z
            cases u with
            | error u => simp only [qc] at e3; cases e3
            | ok b =>
              refine ⟨_, G3, δ3, .ok b, δ4, a4, qc, fun G4 H4 a5 x5 => ?_⟩
              cases b with
              | false =>
                simp only [qc] at e3
                rw [if_neg Bool.false_ne_true]
                have f := fin a5 x5 (rx.mono ((x3).trans x5)) (by omega) e3
                have hk := (a5.drop ot nt_lst).1
                have : upd H4 D1 (.lst xs) = H4 := by
                  funext b; by_cases c : b = D1
                  · subst c; rw [upd_same, hk]
                  · rw [upd_ne c]
                rw [this] at f; exact f
              | true =>
                simp only [qc] at e3
                rw [if_pos rfl]
                cases qe : E δ4 with
                | none => simp only [qe] at e3; cases e3
                | some z =>
                  obtain ⟨u, δ5⟩ := z
                  cases u with
                  | error u =>
                    simp only [qe] at e3
                    cases e3
                    refine ⟨_, G4, δ4, .error u, δ', a5, qe, fun G6 σ6 H6 a6 x6 => ?_⟩
                    have hk := (a6.drop ot nt_lst).1
                    have h4 := (a6.drop ot nt_lst).2.2.2 (.lst xs)
                    have hu : upd H6 D1 (.lst xs) = H6 := by
                      funext b; by_cases c : b = D1
                      · subst c; rw [upd_same, hk]
                      · rw [upd_ne c]
                    rw [hu] at h4
                    exact post G6 σ6 H6 h4 (((x2.trans x3).trans x5).trans x6)
                  | ok xd =>
                    simp only [qe] at e3
                    refine ⟨_, G4, δ4, .ok xd, δ5, a5, qe, fun G6 H6 a6 x6 v rv => ?_⟩
                    refine ⟨xs, (a6.drop ot nt_lst).1, by omega, ?_⟩
                    exact fin a6 (x5.trans x6) (.append (rx.mono ((x3.trans x5).trans x6)) (.cons rv .nil)) (by rw [List.length_append]; show xs.length + 1 ≤ i + 1; omega) e3
  · cases e2
theorem tLc_okX (hsl : ∀ j ∈ sl, j ∈ vs) (q : tO K W (eLcX I T C E vs) σ H Q) : tLc (tI K W I) (tG K sl T) (tT K W0 C) (tE K W E) vs σ H Q := by
  obtain ⟨B, G, δ, r, δ', a, e1, post⟩ := q
  exact tI_bind a e1 post fun J H1 G1 δ1 ds a1 x1 yl e2 post => tLc_atX hsl a1 yl e2 post
end
section
variable {X : Cx} {W : WK} {elt tg iter : Expr} {ifs : List Expr} {scope : Scope} {own : List (Str × Nat)} {pos : Pos} {I : Mo (List D)} {sl : List Nat} {T : D → Mo Unit} {C : Mo Bool} {E : Mo D} {L0 : Addr} {Wx : WX} {env0 : PySem.Env} {outer0 : List PySem.Env}
theorem do_lcX (hst : X.stack = env0 :: outer0) (hf0 : env0.frame = some L0) (hfe : X.env.frame = some L0) (tk : TakesL X L0 Wx) (hW : ∀ c d σ σ' H, Wx c d σ H → Wx c d σ' H) (hc : X.calm = true) (hN : X.N.Nodup) (hi : DI X W tg iter I) (ok : BlkOk X.N X.env.scope scope own) (hsl : ∀ j ∈ sl, j ∈ own.map (·.2))
    (hg : ∀ (s : Shared) (H : Hp) (Ca : Addr) (cl : List (Str × Addr)) (fp : List Addr), DG (X.blk s H scope (compEnvC scope cl Ca X.env) fp) tg sl T) (ht : ∀ (s : Shared) (H : Hp) (Ca : Addr) (cl : List (Str × Addr)) (fp : List Addr), DTs (X.blk s H scope (compEnvC scope cl Ca X.env) fp) W0 ifs C)
    (he : ∀ (s : Shared) (H : Hp) (Ca : Addr) (cl : List (Str × Addr)) (fp : List Addr), DE (blkX X s H scope (compEnvC scope cl Ca X.env) fp L0 Wx) W elt E) (hs : ∀ x, foldedSetIterable iter X.env x = pure x := by intro _; rfl) :
    DO X W (.ListComp elt [⟨tg, iter, ifs, 0⟩] scope pos) (eLcX I T C E (own.map (·.2))) := PE.weak (pe_lcX (g := tG X.K sl T) (tt := tT X.K W0 C) (te := tE X.K W E) hst hf0 hfe tk hW hc hN hi ok hg ht he hs) fun σ H Q q => tLc_okX hsl q
theorem ds_setLcOX {i : Nat} {y : Str} {py spos : Pos} (hst : X.stack = env0 :: outer0) (hf0 : env0.frame = some L0) (hfe : X.env.frame = some L0) (tk : TakesL X L0 Wx) (hW : ∀ c d σ σ' H, Wx c d σ H → Wx c d σ' H) (hc : X.calm = true) (hN : X.N.Nodup) (hy : X.N[i]? = some y) (hyl : X.env.scope.names.lookup y = some .local)
    (hsw : swapsWith (.ListComp elt [⟨tg, iter, ifs, 0⟩] scope pos) (some (.Name y py)) spos.line X.env = pure true) (hi : DI X W tg iter I) (ok : BlkOk X.N X.env.scope scope own) (hsl : ∀ j ∈ sl, j ∈ own.map (·.2))
    (hg : ∀ (s : Shared) (H : Hp) (Ca : Addr) (cl : List (Str × Addr)) (fp : List Addr), DG (X.blk s H scope (compEnvC scope cl Ca X.env) fp) tg sl T) (ht : ∀ (s : Shared) (H : Hp) (Ca : Addr) (cl : List (Str × Addr)) (fp : List Addr), DTs (X.blk s H scope (compEnvC scope cl Ca X.env) fp) W0 ifs C)
    (he : ∀ (s : Shared) (H : Hp) (Ca : Addr) (cl : List (Str × Addr)) (fp : List Addr), DE (blkX X s H scope (compEnvC scope cl Ca X.env) fp L0 Wx) W elt E) (hs : ∀ x, foldedSetIterable iter X.env x = pure x := by intro _; rfl) :
    DS X W (.Assign [.Name y py] (.ListComp elt [⟨tg, iter, ifs, 0⟩] scope pos) spos) (sAsgO i (eLcX I T C E (own.map (·.2)))) := PS.weak (ps_setLcX (g := tG X.K sl T) (tt := tT X.K W0 C) (te := tE X.K W E) hst hf0 hfe tk hW hc hN hy hyl hsw hi ok hg ht he hs) fun Dn σ H q => tAsgO_ok (fun Q z => tLc_okX hsl z) q
theorem takesL_blk {s0 : Shared} {H0 : Hp} {ce : PySem.Env} {fp : List Addr} : TakesL (blkX X s0 H0 scope ce fp L0 Wx) L0 Wx := fun u s' ⟨a, B, sI, pins, σ, H, cls, d, e, I, rest⟩ => ⟨a, B, sI, pins, σ, H, cls, d, e, ofX I, rest⟩
theorem passAtL (tk : TakesL X L0 Wx) (σ : St) : PassesAt (L2.CX X.prog X.w) X σ (L2.WE Wx σ) := fun _ _ _ e s' I c => tk e s' (xel_of_call I (fun _ _ _ h => h) c)
end
section
variable {X : Cx} {W : WK} {Wx : WX} {e : Expr} {es : List Expr} {A : Mo (List Ag)} {k n : Nat} {C L0 : Addr} {x : Str} {p pos : Pos} {m : Mo D}
theorem de_callXL (F : CalX X.prog X.w X.K X.mg X.base C k x n false m) (tk : TakesL X L0 Wx) (hr : Room k X.A) (hg : Gl X x) (hl : ALen A n) (ha : DA X (WKx (xtM C) X.K Wx) (e :: es) A) (hdb : (x == ("__debug__" : Str)) = false := by decide)
    (he : starEach (e :: es) X.env = (false, eval e X.env) :: starEach es X.env := by rfl) (hpl : (backTo pos (starEach es X.env)).any (·.1) = false := by rfl) : DE X (WKx (xtM C) X.K Wx) (.Call (.Name x p) (e :: es) [] pos) (eCall m A) := by
  obtain ⟨f, fd, ps, F, hm, hk, hb⟩ := F.ex
  exact PE.weak (pe_callS F hr hg hm hk hb (fun σ => passAtL tk σ) ha hdb he hpl) fun σ H Q q => tCallS_ok hl q
end
end M
set_option Elab.async false
set_option linter.all false
set_option maxRecDepth 100000
set_option maxHeartbeats 0
namespace M
open PySem L2 PySem.Spec PyProof.Rows
def top (i : Nat) : Stmt := PySem.Challenge.pw_laidviews_k00_views.main.body.getD i (.Pass ⟨0, 0, 0, 0⟩)
structure Bi (mg : Str → Option Value) : Prop where
  c_MOST : ∃ t, mg "MOST" = some (.int 999 t)
  c_MAX_NAME : ∃ t, mg "MAX_NAME" = some (.int 8 t)
  c_MAX_SIDE : ∃ t, mg "MAX_SIDE" = some (.int 12 t)
  abs : mg "abs" = none
  all : mg "all" = none
  bool : mg "bool" = none
  int : mg "int" = none
  isinstance : mg "isinstance" = none
  len : mg "len" = none
  list : mg "list" = none
  range : mg "range" = none
  str : mg "str" = none
  tuple : mg "tuple" = none
section
variable {P : Program} {w : World} {K : PySem.W.Frag} {mg : Str → Option Value} {base : Heap} {f C fI CA : Addr} {fd : FuncData}
abbrev s__law_pool : Stmt := top 19
noncomputable def b__law_pool : Mo Out :=
 (sRetO (eLst (aCons (eC (.int 0)) (aCons (eF fList' (aCons (eV 0) aNil)) (aCons (eUn dNeg (eC (.int 1))) aNil)))))
noncomputable def m__law_pool : Mo D := fnO 1 1 b__law_pool
theorem sc__law_pool : FnScope ["_law_script"] ["_law_script"] (defScope s__law_pool) := ⟨rfl, rfl, rfl, by decide +kernel, rfl, by decide +kernel, by decide +kernel⟩
theorem ok__law_pool (F : Fun K "_law_pool" "_law_pool" s__law_pool f fd) (T : Bi mg)  : FnOk P w K mg base CX0 1 f fd ["_law_script"] (spM Wn K 1 true m__law_pool) :=
 fn_okO F sc__law_pool rfl fun cdv A outer s H E hr =>
 (dss_one (ds_retO (do_lst (da_cons de_int (da_cons (DO.de (do_list (by rfl) (by rfl) T.list bt_list (da_cons (de_v (pv 0)) da_nil (by rfl)) (by decide) (by decide) (by rfl) (by rfl))) (da_cons (de_neg de_int) da_nil (by rfl)) (by rfl)) (by rfl)))))
abbrev s__law_wide : Stmt := top 17
noncomputable def b__law_wide : Mo Out :=
 (sSeq (sAsg (gN 2) (eC (.int 0)))
 (sSeq (sIf (eB (eBin dLt (eV 1) (eF fLen (aCons (eV 0) aNil))))
 (sAsg (gN 2) (eF fAbs (aCons (eIxV 0 (eV 1)) aNil)))
 sNx)
 (sSeq (sIf (eB (eBin dGe (eV 2) (eC (.int 1000000000000000000))))
 (sRet (eV 2))
 sNx)
 (sSeq (sAsg (gN 3) (eBin dMod (eF fInt (aCons (eBin dAdd (eBin dMul (eBin dAdd (eV 2) (eC (.int 1))) (eC (.int 6364136223846793005))) (eBin dMul (eBin dAdd (eV 1) (eC (.int 1))) (eC (.int 1442695040888963407)))) aNil)) (eC (.int 2305843009213693951))))
 (sRet (eBin dMod (eF fInt (aCons (eBin dAdd (eBin dMul (eV 3) (eC (.int 3202034522624059733))) (eBin dDiv (eV 3) (eC (.int 1000003)))) aNil)) (eC (.int 2305843009213693951))))))))
noncomputable def m__law_wide : Mo D := fnM 4 2 b__law_wide
theorem sc__law_wide : FnScope ["_law_script", "_law_k", "_law_cell", "_law_mixed"] ["_law_script", "_law_k"] (defScope s__law_wide) := ⟨rfl, rfl, rfl, by decide +kernel, rfl, by decide +kernel, by decide +kernel⟩
theorem nd__law_wide : List.Nodup (α := Str) ["_law_script", "_law_k", "_law_cell", "_law_mixed"] := by decide +kernel
theorem ok__law_wide (F : Fun K "_law_wide" "_law_wide" s__law_wide f fd) (T : Bi mg)  : FnOk P w K mg base CX0 1 f fd ["_law_script", "_law_k"] (spM Wn K 2 false m__law_wide) :=
 fn_ok F sc__law_wide rfl fun cdv A outer s H E hr =>
 (dss_cons (ds_set nd__law_wide rfl (by first | exact Or.inl rfl | exact Or.inr rfl) de_int (by rfl) (by first | exact Or.inl rfl | exact Or.inr rfl | assumption))
 (dss_cons (ds_if (dt_lt (de_v (pv 1)) (de_len (by rfl) T.len bt_len (da_cons (de_v (pv 0)) da_nil (by rfl)) (by decide) (by decide) (by rfl) (by rfl)))
 (dss_one (ds_set nd__law_wide rfl (by first | exact Or.inl rfl | exact Or.inr rfl) (de_abs (by rfl) T.abs bt_abs (da_cons (de_ixV hr.u1 (pv 0) (de_v (pv 1)) (by intro _ _; rfl) (by intro _ _; rfl)) da_nil (by rfl)) (by decide) (by decide) (by rfl) (by rfl)) (by rfl) (by first | exact Or.inl rfl | exact Or.inr rfl | assumption)))
 dss_nil)
 (dss_cons (ds_if (dt_ge (de_v (pv 2)) de_int)
 (dss_one (ds_ret (de_v (pv 2))))
 dss_nil)
 (dss_cons (ds_set nd__law_wide rfl (by first | exact Or.inl rfl | exact Or.inr rfl) (de_mod (de_int1 (by rfl) T.int bt_int (da_cons (de_add (de_mul (de_add (de_v (pv 2)) de_int) de_int) (de_mul (de_add (de_v (pv 1)) de_int) de_int)) da_nil (by rfl)) (by decide) (by decide) (by rfl) (by rfl)) de_int) (by rfl) (by first | exact Or.inl rfl | exact Or.inr rfl | assumption))
 (dss_one (ds_ret (de_mod (de_int1 (by rfl) T.int bt_int (da_cons (de_add (de_mul (de_v (pv 3)) de_int) (de_div (de_v (pv 3)) de_int)) da_nil (by rfl)) (by decide) (by decide) (by rfl) (by rfl)) de_int)))))))
abbrev s__law_take : Stmt := top 18
noncomputable def b__law_take : Mo Out :=
 (sSeq (sIf (eB (eBin dLt (eIxV 0 (eC (.int 0))) (eC (.int 1000))))
 (sSeq (sSet 0 (eC (.int 2)) (eBin dAdd (eIxV 0 (eC (.int 2))) (eC (.int 1))))
 (sSet 0 (eC (.int 0)) (eCall m__law_wide (aCons (eIxV 0 (eC (.int 1))) (aCons (eIxV 0 (eC (.int 2))) aNil)))))
 sNx)
 (sSeq (sAsg (gN 2) (eBin dMod (eF fInt (aCons (eIxV 0 (eC (.int 0))) aNil)) (eV 1)))
 (sSeq (sSet 0 (eC (.int 0)) (eBin dDiv (eIxV 0 (eC (.int 0))) (eV 1)))
 (sRet (eV 2)))))
noncomputable def m__law_take : Mo D := fnM 3 2 b__law_take
theorem sc__law_take : FnScope ["_law_pool_here", "_law_most", "_law_taken"] ["_law_pool_here", "_law_most"] (defScope s__law_take) := ⟨rfl, rfl, rfl, by decide +kernel, rfl, by decide +kernel, by decide +kernel⟩
theorem nd__law_take : List.Nodup (α := Str) ["_law_pool_here", "_law_most", "_law_taken"] := by decide +kernel
theorem ok__law_take (F : Fun K "_law_take" "_law_take" s__law_take f fd) (T : Bi mg) (C__law_wide : CalM P w K mg base 1 "_law_wide" 2 false m__law_wide) : FnOk P w K mg base CX0 2 f fd ["_law_pool_here", "_law_most"] (spM Wn K 2 false m__law_take) :=
 fn_ok F sc__law_take rfl fun cdv A outer s H E hr =>
 (dss_cons (ds_if (dt_lt (de_ixV hr.u1 (pv 0) de_int (by intro _ _; rfl) (by intro _ _; rfl)) de_int)
 (dss_cons (ds_sub hr.u1 (pv 0) de_int (de_add (de_ixV hr.u1 (pv 0) de_int (by intro _ _; rfl) (by intro _ _; rfl)) de_int) (by rfl) (by rfl))
 (dss_one (ds_sub hr.u1 (pv 0) de_int (de_callC C__law_wide (hr.mono (by decide)) (by rfl) (alen_cons (alen_cons alen_nil)) (da_cons (de_ixV hr.u1 (pv 0) de_int (by intro _ _; rfl) (by intro _ _; rfl)) (da_cons (de_ixV hr.u1 (pv 0) de_int (by intro _ _; rfl) (by intro _ _; rfl)) da_nil (by rfl)) (by rfl)) (by decide) (by rfl) (by rfl)) (by rfl) (by rfl))))
 dss_nil)
 (dss_cons (ds_set nd__law_take rfl (by first | exact Or.inl rfl | exact Or.inr rfl) (de_mod (de_int1 (by rfl) T.int bt_int (da_cons (de_ixV hr.u1 (pv 0) de_int (by intro _ _; rfl) (by intro _ _; rfl)) da_nil (by rfl)) (by decide) (by decide) (by rfl) (by rfl)) (de_v (pv 1))) (by rfl) (by first | exact Or.inl rfl | exact Or.inr rfl | assumption))
 (dss_cons (ds_sub hr.u1 (pv 0) de_int (de_div (de_ixV hr.u1 (pv 0) de_int (by intro _ _; rfl) (by intro _ _; rfl)) (de_v (pv 1))) (by rfl) (by rfl))
 (dss_one (ds_ret (de_v (pv 2)))))))
abbrev s__law_name : Stmt := top 20
noncomputable def b__law_name : Mo Out :=
 (sSeq (sAsg (gN 1) (eC (.str "abcdefghijklmnopqrstuvwxyz")))
 (sSeq (sAsg (gN 2) (eIx (eLst (aCons (eC (.str "a")) (aCons (eC (.str "b")) (aCons (eC (.str "view")) (aCons (eC (.str "end")) (aCons (eC (.str "link")) (aCons (eC (.str "c")) aNil))))))) (eCall m__law_take (aVr 0 (aCons (eC (.int 6)) aNil)))))
 (sSeq (sIf (eB (eBin dEq (eCall m__law_take (aVr 0 (aCons (eC (.int 3)) aNil))) (eC (.int 0))))
 (sSeq (sAsg (gN 2) (eIxV 1 (eCall m__law_take (aVr 0 (aCons (eC (.int 26)) aNil)))))
 (sFor (iRg rg1 (aCons (eIx (eLst (aCons (eC (.int 0)) (aCons (eC (.int 1)) (aCons (eC (.int 3)) (aCons (eC (.int 7)) aNil))))) (eCall m__law_take (aVr 0 (aCons (eC (.int 4)) aNil)))) aNil)) (gN 3)
 (sAsg (gN 2) (eBin dAdd (eV 2) (eIx (eBin dAdd (eV 1) (eC (.str "0123456789"))) (eCall m__law_take (aVr 0 (aCons (eC (.int 36)) aNil))))))))
 sNx)
 (sRet (eV 2)))))
noncomputable def m__law_name : Mo D := fnM 4 1 b__law_name
theorem sc__law_name : FnScope ["_law_pool_here", "_law_letters", "_law_name_here", "_law_k"] ["_law_pool_here"] (defScope s__law_name) := ⟨rfl, rfl, rfl, by decide +kernel, rfl, by decide +kernel, by decide +kernel⟩
theorem nd__law_name : List.Nodup (α := Str) ["_law_pool_here", "_law_letters", "_law_name_here", "_law_k"] := by decide +kernel
theorem ok__law_name (F : Fun K "_law_name" "_law_name" s__law_name f fd) (T : Bi mg) (C__law_take : CalM P w K mg base 2 "_law_take" 2 false m__law_take) : FnOk P w K mg base CX0 3 f fd ["_law_pool_here"] (spM Wn K 1 false m__law_name) :=
 fn_ok F sc__law_name rfl fun cdv A outer s H E hr =>
 (dss_cons (ds_set nd__law_name rfl (by first | exact Or.inl rfl | exact Or.inr rfl) de_str (by rfl) (by first | exact Or.inl rfl | exact Or.inr rfl | assumption))
 (dss_cons (ds_set nd__law_name rfl (by first | exact Or.inl rfl | exact Or.inr rfl) (de_ix hr.u1 (DO.de (do_lst (da_cons de_str (da_cons de_str (da_cons de_str (da_cons de_str (da_cons de_str (da_cons de_str da_nil (by rfl)) (by rfl)) (by rfl)) (by rfl)) (by rfl)) (by rfl)))) (de_callC C__law_take (hr.mono (by decide)) (by rfl) (alen_vr (alen_cons alen_nil)) (da_vr (pv 0) (da_cons de_int da_nil (by rfl)) (by rfl)) (by decide) (by rfl) (by rfl)) (by intro _ _; rfl) (by intro _ _; rfl)) (by rfl) (by first | exact Or.inl rfl | exact Or.inr rfl | assumption))
 (dss_cons (ds_if (dt_eq hr.units (de_callC C__law_take (hr.mono (by decide)) (by rfl) (alen_vr (alen_cons alen_nil)) (da_vr (pv 0) (da_cons de_int da_nil (by rfl)) (by rfl)) (by decide) (by rfl) (by rfl)) de_int)
 (dss_cons (ds_set nd__law_name rfl (by first | exact Or.inl rfl | exact Or.inr rfl) (de_ixV hr.u1 (pv 1) (de_callC C__law_take (hr.mono (by decide)) (by rfl) (alen_vr (alen_cons alen_nil)) (da_vr (pv 0) (da_cons de_int da_nil (by rfl)) (by rfl)) (by decide) (by rfl) (by rfl)) (by intro _ _; rfl) (by intro _ _; rfl)) (by rfl) (by first | exact Or.inl rfl | exact Or.inr rfl | assumption))
 (dss_one (ds_for PassesOwn.never rfl calm_N (di_rg1 (by rfl) T.range (da_cons (de_ix hr.u1 (DO.de (do_lst (da_cons de_int (da_cons de_int (da_cons de_int (da_cons de_int da_nil (by rfl)) (by rfl)) (by rfl)) (by rfl)))) (de_callC C__law_take (hr.mono (by decide)) (by rfl) (alen_vr (alen_cons alen_nil)) (da_vr (pv 0) (da_cons de_int da_nil (by rfl)) (by rfl)) (by decide) (by rfl) (by rfl)) (by intro _ _; rfl) (by intro _ _; rfl)) da_nil (by rfl)) (by rfl)) (dg_name nd__law_name rfl (by first | exact Or.inl rfl | exact Or.inr rfl) (by first | exact Or.inl rfl | exact Or.inr rfl | assumption))
 (dss_one (ds_set nd__law_name rfl (by first | exact Or.inl rfl | exact Or.inr rfl) (de_add (de_v (pv 2)) (de_ix hr.u1 (de_add (de_v (pv 1)) de_str) (de_callC C__law_take (hr.mono (by decide)) (by rfl) (alen_vr (alen_cons alen_nil)) (da_vr (pv 0) (da_cons de_int da_nil (by rfl)) (by rfl)) (by decide) (by rfl) (by rfl)) (by intro _ _; rfl) (by intro _ _; rfl))) (by rfl) (by first | exact Or.inl rfl | exact Or.inr rfl | assumption))) (by intro _; rfl))))
 dss_nil)
 (dss_one (ds_ret (de_v (pv 2)))))))
abbrev s__law_reading : Stmt := top 22
noncomputable def b__law_reading : Mo Out :=
 (sRet (eIx (eLst (aCons (eC .non) (aCons (eC (.int 0)) (aCons (eC (.int 999)) (aCons (eC (.int 7)) (aCons (eC (.int 8)) (aCons (eC (.int 9)) (aCons (eCall m__law_take (aVr 0 (aCons (eC (.int 1000)) aNil))) (aCons (eC (.int 10)) aNil))))))))) (eCall m__law_take (aVr 0 (aCons (eC (.int 8)) aNil)))))
noncomputable def m__law_reading : Mo D := fnM 1 1 b__law_reading
theorem sc__law_reading : FnScope ["_law_pool_here"] ["_law_pool_here"] (defScope s__law_reading) := ⟨rfl, rfl, rfl, by decide +kernel, rfl, by decide +kernel, by decide +kernel⟩
theorem ok__law_reading (F : Fun K "_law_reading" "_law_reading" s__law_reading f fd) (T : Bi mg) (C__law_take : CalM P w K mg base 2 "_law_take" 2 false m__law_take) : FnOk P w K mg base CX0 3 f fd ["_law_pool_here"] (spM Wn K 1 false m__law_reading) :=
 fn_ok F sc__law_reading rfl fun cdv A outer s H E hr =>
 (dss_one (ds_ret (de_ix hr.u1 (DO.de (do_lst (da_cons de_non (da_cons de_int (da_cons de_int (da_cons de_int (da_cons de_int (da_cons de_int (da_cons (de_callC C__law_take (hr.mono (by decide)) (by rfl) (alen_vr (alen_cons alen_nil)) (da_vr (pv 0) (da_cons de_int da_nil (by rfl)) (by rfl)) (by decide) (by rfl) (by rfl)) (da_cons de_int da_nil (by rfl)) (by rfl)) (by rfl)) (by rfl)) (by rfl)) (by rfl)) (by rfl)) (by rfl)))) (de_callC C__law_take (hr.mono (by decide)) (by rfl) (alen_vr (alen_cons alen_nil)) (da_vr (pv 0) (da_cons de_int da_nil (by rfl)) (by rfl)) (by decide) (by rfl) (by rfl)) (by intro _ _; rfl) (by intro _ _; rfl))))
abbrev s__law_rows : Stmt := top 23
noncomputable def b__law_rows : Mo Out :=
 (sSeq (sAsg (gN 2) (eBin dAdd (eC (.int 1)) (eCall m__law_take (aVr 0 (aCons (eV 1) aNil)))))
 (sSeq (sAsg (gN 3) (eBin dAdd (eC (.int 1)) (eCall m__law_take (aVr 0 (aCons (eV 1) aNil)))))
 (sRet (eF fTuple (aCons (eLc (iRg rg1 (aCons (eV 3) aNil)) (gN 5) tYesM (eF fTuple (aCons (eLc (iRg rg1 (aCons (eV 2) aNil)) (gN 4) tYesM (eCall m__law_reading (aVr 0 aNil)) [4]) aNil)) [5]) aNil)))))
noncomputable def m__law_rows : Mo D := fnM 6 2 b__law_rows
theorem sc__law_rows : FnScope ["_law_pool_here", "_law_most", "_law_width", "_law_height", "_law_x", "_law_y"] ["_law_pool_here", "_law_most"] (defScope s__law_rows) := ⟨rfl, rfl, rfl, by decide +kernel, rfl, by decide +kernel, by decide +kernel⟩
theorem nd__law_rows : List.Nodup (α := Str) ["_law_pool_here", "_law_most", "_law_width", "_law_height", "_law_x", "_law_y"] := by decide +kernel
theorem ok__law_rows (F : Fun K "_law_rows" "_law_rows" s__law_rows f fd) (T : Bi mg) (C__law_take : CalM P w K mg base 2 "_law_take" 2 false m__law_take) (C__law_reading : CalM P w K mg base 3 "_law_reading" 1 false m__law_reading) : FnOk P w K mg base CX0 4 f fd ["_law_pool_here", "_law_most"] (spM Wn K 2 false m__law_rows) :=
 fn_ok F sc__law_rows rfl fun cdv A outer s H E hr =>
 (dss_cons (ds_set nd__law_rows rfl (by first | exact Or.inl rfl | exact Or.inr rfl) (de_add de_int (de_callC C__law_take (hr.mono (by decide)) (by rfl) (alen_vr (alen_cons alen_nil)) (da_vr (pv 0) (da_cons (de_v (pv 1)) da_nil (by rfl)) (by rfl)) (by decide) (by rfl) (by rfl))) (by rfl) (by first | exact Or.inl rfl | exact Or.inr rfl | assumption))
 (dss_cons (ds_set nd__law_rows rfl (by first | exact Or.inl rfl | exact Or.inr rfl) (de_add de_int (de_callC C__law_take (hr.mono (by decide)) (by rfl) (alen_vr (alen_cons alen_nil)) (da_vr (pv 0) (da_cons (de_v (pv 1)) da_nil (by rfl)) (by rfl)) (by decide) (by rfl) (by rfl))) (by rfl) (by first | exact Or.inl rfl | exact Or.inr rfl | assumption))
 (dss_one (ds_ret (de_tuple (by rfl) T.tuple bt_tuple (da_cons (DO.de (do_lc (own := [("_law_y", 5)]) (by rfl) nd__law_rows (di_rg1 (by rfl) T.range (da_cons (de_v (pv 3)) da_nil (by rfl)) (by rfl)) (blkOk_by (N := ["_law_pool_here", "_law_most", "_law_width", "_law_height", "_law_x", "_law_y"]) (sc := (defScope s__law_rows)) (own := [("_law_y", 5)]) (by decide +kernel)) (by decide) (fun _ _ _ _ _ => (dg_name nd__law_rows rfl (by first | exact Or.inl rfl | exact Or.inr rfl) (by first | exact Or.inl rfl | exact Or.inr rfl | assumption))) (fun _ _ _ _ _ => dts_nil) (fun _ _ _ _ _ => (de_tuple (by rfl) T.tuple bt_tuple (da_cons (DO.de (do_lc (own := [("_law_x", 4)]) (by rfl) nd__law_rows (di_rg1 (by rfl) T.range (da_cons (de_v (pv 2)) da_nil (by rfl)) (by rfl)) (blkOk_by (N := ["_law_pool_here", "_law_most", "_law_width", "_law_height", "_law_x", "_law_y"]) (sc := _) (own := [("_law_x", 4)]) (by with_unfolding_all rfl)) (by decide) (fun _ _ _ _ _ => (dg_name nd__law_rows rfl (by first | exact Or.inl rfl | exact Or.inr rfl) (by first | exact Or.inl rfl | exact Or.inr rfl | assumption))) (fun _ _ _ _ _ => dts_nil) (fun _ _ _ _ _ => (de_callC C__law_reading (hr.mono (by decide)) (by rfl) (alen_vr alen_nil) (da_vr (pv 0) da_nil (by rfl)) (by decide) (by rfl) (by rfl))) (by intro _; rfl))) da_nil (by rfl)) (by decide) (by decide) (by rfl) (by rfl))) (by intro _; rfl))) da_nil (by rfl)) (by decide) (by decide) (by rfl) (by rfl))))))
abbrev s_is_whole : Stmt := top 8
noncomputable def b_is_whole : Mo Out :=
 (sRet (eAnd (eIsi2 "int" (eV 0)) (eNot (eIsi2 "bool" (eV 0)))))
noncomputable def m_is_whole : Mo D := fnM 1 1 b_is_whole
theorem sc_is_whole : FnScope ["value"] ["value"] (defScope s_is_whole) := ⟨rfl, rfl, rfl, by decide +kernel, rfl, by decide +kernel, by decide +kernel⟩
theorem ok_is_whole (F : Fun K "is_whole" "is_whole" s_is_whole f fd) (T : Bi mg)  : FnOk P w K mg base CX0 1 f fd ["value"] (spM Wn K 1 false m_is_whole) :=
 fn_ok F sc_is_whole rfl fun cdv A outer s H E hr =>
 (dss_one (ds_ret (de_and (de_isi2 (by rfl) T.isinstance bt_isinstance (by rfl) T.int bt_int (de_v (pv 0)) (by decide) (by decide) (by decide) (by decide) (by rfl) (by rfl)) (de_one (de_not (de_isi2 (by rfl) T.isinstance bt_isinstance (by rfl) T.bool bt_bool (de_v (pv 0)) (by decide) (by decide) (by decide) (by decide) (by rfl) (by rfl)))))))
abbrev s_is_reading : Stmt := top 10
noncomputable def b_is_reading : Mo Out :=
 (sRet (eOr (eBin (dIs false) (eV 0) (eC .non)) (eAnd (eCall m_is_whole (aCons (eV 0) aNil)) (eChain dLe dLe (eC (.int 0)) (eV 0) (eC (.int 999))))))
noncomputable def m_is_reading : Mo D := fnM 1 1 b_is_reading
theorem sc_is_reading : FnScope ["value"] ["value"] (defScope s_is_reading) := ⟨rfl, rfl, rfl, by decide +kernel, rfl, by decide +kernel, by decide +kernel⟩
theorem ok_is_reading (F : Fun K "is_reading" "is_reading" s_is_reading f fd) (T : Bi mg) (C_is_whole : CalM P w K mg base 1 "is_whole" 1 false m_is_whole) : FnOk P w K mg base CX0 2 f fd ["value"] (spM Wn K 1 false m_is_reading) :=
 fn_ok F sc_is_reading rfl fun cdv A outer s H E hr =>
 (dss_one (ds_ret (de_or (de_isN (de_v (pv 0)) de_non) (de_one (de_and (de_callC C_is_whole (hr.mono (by decide)) (by rfl) (alen_cons alen_nil) (da_cons (de_v (pv 0)) da_nil (by rfl)) (by decide) (by rfl) (by rfl)) (de_one (de_chain opc_le opc_le snd_cmp' snd_cmp' de_int (de_v (pv 0)) (de_gC (by rfl) T.c_MOST (by decide)) (by with_unfolding_all rfl))))))))
abbrev s_lighter : Stmt := top 14
noncomputable def b_lighter : Mo Out :=
 (sSeq (sIf (eB (eBin (dIs false) (eV 0) (eC .non)))
 (sRet (eC .non))
 sNx)
 (sSeq (sIf (tNotM (eTru (eCallN m_is_reading (aCons (eBin dAdd (eV 0) (eV 1)) aNil))))
 (sRaise (eC (.str "light")))
 sNx)
 (sRet (eBin dAdd (eV 0) (eV 1)))))
noncomputable def m_lighter : Mo D := fnM 2 2 b_lighter
theorem sc_lighter : FnScope ["reading", "light"] ["reading", "light"] (defScope s_lighter) := ⟨rfl, rfl, rfl, by decide +kernel, rfl, by decide +kernel, by decide +kernel⟩
theorem ok_lighter (F : Fun K "lighter" "lighter" s_lighter f fd) (T : Bi mg) (TM : Mis.Txt P K mg C fI) (C_is_reading : CalM P w K mg base 2 "is_reading" 1 false m_is_reading) : FnOk P w K mg base (L2.CX P w) 3 f fd ["reading", "light"] (spM (WE (xtM C) K) K 2 false m_lighter) :=
 fn_okX F sc_lighter rfl fun cdv A outer s H E hr =>
 (dss_cons (ds_if (dt_isN (de_v (pv 0)) de_non)
 (dss_one (ds_ret de_non))
 dss_nil)
 (dss_cons (ds_if (dt_not (dt_tru (de_callN C_is_reading (hr.mono (by decide)) (by rfl) (alen_cons alen_nil) (da_cons (de_add (de_v (pv 0)) (de_v (pv 1))) da_nil (by rfl)) (by decide) (by rfl) (by rfl)) (by intro _; rfl)))
 (dss_one (ds_raise rfl (takes_of rfl rfl rfl rfl) TM hr de_str (by rfl) (by rfl) (by rfl)))
 dss_nil)
 (dss_one (ds_ret (de_add (de_v (pv 0)) (de_v (pv 1)))))))
abbrev s_moved_light : Stmt := top 15
noncomputable def b_moved_light : Mo Out :=
 (sSeq (sAsgO 2 (eLcX (iOf (eIxV 0 (eC (.int 1)))) (gN 4) tYesM (eF fTuple (aCons (eLcX (iOf (eV 4)) (gN 3) tYesM (eCall m_lighter (aCons (eV 3) (aCons (eV 1) aNil))) [3]) aNil)) [4]))
 (sRet (eTup (aCons (eIxV 0 (eC (.int 0))) (aCons (eF fTuple (aCons (eV 2) aNil)) aNil)))))
noncomputable def m_moved_light : Mo D := fnM 5 2 b_moved_light
theorem sc_moved_light : FnScope ["view", "light", "rows", "reading", "row"] ["view", "light"] (defScope s_moved_light) := ⟨rfl, rfl, rfl, by decide +kernel, rfl, by decide +kernel, by decide +kernel⟩
theorem nd_moved_light : List.Nodup (α := Str) ["view", "light", "rows", "reading", "row"] := by decide +kernel
theorem ok_moved_light (F : Fun K "moved_light" "moved_light" s_moved_light f fd) (T : Bi mg) (TM : Mis.Txt P K mg C fI) (C_lighter : CalX P w K mg base C 3 "lighter" 2 false m_lighter) : FnOk P w K mg base (L2.CX P w) 4 f fd ["view", "light"] (spM (WE (xtM C) K) K 2 false m_moved_light) :=
 fn_okX F sc_moved_light rfl fun cdv A outer s H E hr =>
 (dss_cons (ds_setLcOX (own := [("row", 4)]) rfl rfl rfl (takesL_of (takes_of rfl rfl rfl rfl)) (fun _ _ _ _ _ h => h) rfl nd_moved_light rfl rfl (sw_true rfl rfl rfl (by decide +kernel)) (di_of (de_ixV hr.u1 (pv 0) de_int (by intro _ _; rfl) (by intro _ _; rfl))) (blkOk_by (N := ["view", "light", "rows", "reading", "row"]) (sc := (defScope s_moved_light)) (own := [("row", 4)]) (by decide +kernel)) (by decide) (fun _ _ _ _ _ => (dg_name nd_moved_light rfl (by first | exact Or.inl rfl | exact Or.inr rfl) (by first | exact Or.inl rfl | exact Or.inr rfl | assumption))) (fun _ _ _ _ _ => dts_nil) (fun _ _ _ _ _ => (de_tuple (by rfl) T.tuple bt_tuple (da_cons (DO.de (do_lcX (own := [("reading", 3)]) rfl rfl rfl takesL_blk (fun _ _ _ _ _ h => h) (by rfl) nd_moved_light (di_of (de_v (pv 4))) (blkOk_by (N := ["view", "light", "rows", "reading", "row"]) (sc := _) (own := [("reading", 3)]) (by with_unfolding_all rfl)) (by decide) (fun _ _ _ _ _ => (dg_name nd_moved_light rfl (by first | exact Or.inl rfl | exact Or.inr rfl) (by first | exact Or.inl rfl | exact Or.inr rfl | assumption))) (fun _ _ _ _ _ => dts_nil) (fun _ _ _ _ _ => (de_callXL C_lighter takesL_blk (hr.mono (by decide)) (by rfl) (alen_cons (alen_cons alen_nil)) (da_cons (de_v (pv 3)) (da_cons (de_v (pv 1)) da_nil (by rfl)) (by rfl)) (by decide) (by rfl) (by rfl))) (by intro _; rfl))) da_nil (by rfl)) (by decide) (by decide) (by rfl) (by rfl))) (by intro _; rfl))
 (dss_one (ds_ret (de_tup (da_cons (de_ixV hr.u1 (pv 0) de_int (by intro _ _; rfl) (by intro _ _; rfl)) (da_cons (de_tuple (by rfl) T.tuple bt_tuple (da_cons (de_v (pv 2)) da_nil (by rfl)) (by decide) (by decide) (by rfl) (by rfl)) da_nil (by rfl)) (by rfl))))))
abbrev s__law_lighter : Stmt := top 25
noncomputable def b__law_lighter : Mo Out :=
 (sTryWhy 2
 (sRet (eCall m_moved_light (aCons (eV 0) (aCons (eV 1) aNil)))))
noncomputable def m__law_lighter : Mo D := fnM 3 2 b__law_lighter
theorem sc__law_lighter : FnScope ["_law_view", "_law_light", "e"] ["_law_view", "_law_light"] (defScope s__law_lighter) := ⟨rfl, rfl, rfl, by decide +kernel, rfl, by decide +kernel, by decide +kernel⟩
theorem nd__law_lighter : List.Nodup (α := Str) ["_law_view", "_law_light", "e"] := by decide +kernel
theorem ok__law_lighter (F : Fun K "_law_lighter" "_law_lighter" s__law_lighter f fd) (T : Bi mg) (TM : Mis.Txt P K mg C fI) (TI : MisI K mg C) (C_moved_light : CalX P w K mg base C 4 "moved_light" 2 false m_moved_light) : FnOk P w K mg base CX0 5 f fd ["_law_view", "_law_light"] (spM Wn K 2 false m__law_lighter) :=
 fn_ok F sc__law_lighter rfl fun cdv A outer s H E hr =>
 (dss_one (ds_tryWhy rfl rfl nd__law_lighter rfl rfl TM (by rfl) (fun Wx pn xe tk => (dss_one (ds_ret (de_callX C_moved_light tk (hr.mono (by decide)) (by rfl) (alen_cons (alen_cons alen_nil)) (da_cons (de_v (pv 0)) (da_cons (de_v (pv 1)) da_nil (by rfl)) (by rfl)) (by decide) (by rfl) (by rfl))))) (fun a oe cls d pn hz hf => su_isWhy TM TI T.isinstance (by rfl) (by rfl) hz hf (pv 2) (pv 2) (pss_one (ps_ret pe_str)) (by rfl) (by rfl) (by intro _; rfl))))
abbrev s_is_name : Stmt := top 9
noncomputable def b_is_name : Mo Out :=
 (sSeq (sIf (tOrM (tNotM (eTru (eIsi2 "str" (eV 0)))) (tOrM (eB (eBin dEq (eV 0) (eC (.str "")))) (eB (eBin dGt (eF fLen (aCons (eV 0) aNil)) (eC (.int 8))))))
 (sRet (eC (.bl false)))
 sNx)
 (sSeq (sIf (tNotM (eTru (eF fAll (aCons (eLc (iOf (eV 0)) (gN 1) tYesM (eOr (eChain dLe dLe (eC (.str "a")) (eV 1) (eC (.str "z"))) (eChain dLe dLe (eC (.str "0")) (eV 1) (eC (.str "9")))) [1]) aNil))))
 (sRet (eC (.bl false)))
 sNx)
 (sRet (eChain dLe dLe (eC (.str "a")) (eIxV 0 (eC (.int 0))) (eC (.str "z"))))))
noncomputable def m_is_name : Mo D := fnM 2 1 b_is_name
theorem sc_is_name : FnScope ["value", "char"] ["value"] (defScope s_is_name) := ⟨rfl, rfl, rfl, by decide +kernel, rfl, by decide +kernel, by decide +kernel⟩
theorem nd_is_name : List.Nodup (α := Str) ["value", "char"] := by decide +kernel
theorem ok_is_name (F : Fun K "is_name" "is_name" s_is_name f fd) (T : Bi mg)  : FnOk P w K mg base CX0 1 f fd ["value"] (spM Wn K 1 false m_is_name) :=
 fn_ok F sc_is_name rfl fun cdv A outer s H E hr =>
 (dss_cons (ds_if (dw_t (dw_or (dt_not (dt_tru (de_isi2 (by rfl) T.isinstance bt_isinstance (by rfl) T.str bt_str (de_v (pv 0)) (by decide) (by decide) (by decide) (by decide) (by rfl) (by rfl)) (by intro _; rfl))) (dw_or (dt_eq hr.units (de_v (pv 0)) de_str) (dw_or1 (dt_gt (de_len (by rfl) T.len bt_len (da_cons (de_v (pv 0)) da_nil (by rfl)) (by decide) (by decide) (by rfl) (by rfl)) (de_gC (by rfl) T.c_MAX_NAME (by decide)))))))
 (dss_one (ds_ret de_bl))
 dss_nil)
 (dss_cons (ds_if (dt_not (dt_tru (de_all (by rfl) (by rfl) T.all bt_all (da_cons (DO.de (do_lc (own := [("char", 1)]) (by rfl) nd_is_name (di_of (de_v (pv 0))) (blkOk_by (N := ["value", "char"]) (sc := (defScope s_is_name)) (own := [("char", 1)]) (by decide +kernel)) (by decide) (fun _ _ _ _ _ => (dg_name nd_is_name rfl (by first | exact Or.inl rfl | exact Or.inr rfl) (by first | exact Or.inl rfl | exact Or.inr rfl | assumption))) (fun _ _ _ _ _ => dts_nil) (fun _ _ _ _ _ => (de_or (de_chain opc_le opc_le snd_cmp' snd_cmp' de_str (de_v (pv 1)) de_str (by with_unfolding_all rfl)) (de_one (de_chain opc_le opc_le snd_cmp' snd_cmp' de_str (de_v (pv 1)) de_str (by with_unfolding_all rfl))))) (by intro _; rfl))) da_nil (by rfl)) (by decide) (by decide) (by rfl) (by rfl)) (by intro _; rfl)))
 (dss_one (ds_ret de_bl))
 dss_nil)
 (dss_one (ds_ret (de_chain opc_le opc_le snd_cmp' snd_cmp' de_str (de_ixV hr.u1 (pv 0) de_int (by intro _ _; rfl) (by intro _ _; rfl)) de_str (by with_unfolding_all rfl))))))
abbrev s_is_view : Stmt := top 11
noncomputable def b_is_view : Mo Out :=
 (sSeq (sIf (tOrM (tNotM (eTru (eIsi2 "tuple" (eV 0)))) (tOrM (eB (eBin dNe (eF fLen (aCons (eV 0) aNil)) (eC (.int 2)))) (tNotM (eTru (eCall m_is_name (aCons (eIxV 0 (eC (.int 0))) aNil))))))
 (sRet (eC (.bl false)))
 sNx)
 (sSeq (sAsg (gN 1) (eIxV 0 (eC (.int 1))))
 (sSeq (sIf (tOrM (tNotM (eTru (eIsi2 "tuple" (eV 1)))) (tNotM (eB (eChain dLe dLe (eC (.int 1)) (eF fLen (aCons (eV 1) aNil)) (eC (.int 12))))))
 (sRet (eC (.bl false)))
 sNx)
 (sSeq (sFor (iOf (eV 1)) (gN 2)
 (sSeq (sIf (tOrM (tNotM (eTru (eIsi2 "tuple" (eV 2)))) (tOrM (tNotM (eB (eChain dLe dLe (eC (.int 1)) (eF fLen (aCons (eV 2) aNil)) (eC (.int 12))))) (eB (eBin dNe (eF fLen (aCons (eV 2) aNil)) (eF fLen (aCons (eIxV 1 (eC (.int 0))) aNil))))))
 (sRet (eC (.bl false)))
 sNx)
 (sIf (tNotM (eTru (eF fAll (aCons (eLc (iOf (eV 2)) (gN 3) tYesM (eCall m_is_reading (aCons (eV 3) aNil)) [3]) aNil))))
 (sRet (eC (.bl false)))
 sNx)))
 (sRet (eC (.bl true)))))))
noncomputable def m_is_view : Mo D := fnM 4 1 b_is_view
theorem sc_is_view : FnScope ["value", "rows", "row", "reading"] ["value"] (defScope s_is_view) := ⟨rfl, rfl, rfl, by decide +kernel, rfl, by decide +kernel, by decide +kernel⟩
theorem nd_is_view : List.Nodup (α := Str) ["value", "rows", "row", "reading"] := by decide +kernel
theorem ok_is_view (F : Fun K "is_view" "is_view" s_is_view f fd) (T : Bi mg) (C_is_name : CalM P w K mg base 1 "is_name" 1 false m_is_name) (C_is_reading : CalM P w K mg base 2 "is_reading" 1 false m_is_reading) : FnOk P w K mg base CX0 3 f fd ["value"] (spM Wn K 1 false m_is_view) :=
 fn_ok F sc_is_view rfl fun cdv A outer s H E hr =>
 (dss_cons (ds_if (dw_t (dw_or (dt_not (dt_tru (de_isi2 (by rfl) T.isinstance bt_isinstance (by rfl) T.tuple bt_tuple (de_v (pv 0)) (by decide) (by decide) (by decide) (by decide) (by rfl) (by rfl)) (by intro _; rfl))) (dw_or (dt_ne hr.units (de_len (by rfl) T.len bt_len (da_cons (de_v (pv 0)) da_nil (by rfl)) (by decide) (by decide) (by rfl) (by rfl)) de_int) (dw_or1 (dt_not (dt_tru (de_callC C_is_name (hr.mono (by decide)) (by rfl) (alen_cons alen_nil) (da_cons (de_ixV hr.u1 (pv 0) de_int (by intro _ _; rfl) (by intro _ _; rfl)) da_nil (by rfl)) (by decide) (by rfl) (by rfl)) (by intro _; rfl)))))))
 (dss_one (ds_ret de_bl))
 dss_nil)
 (dss_cons (ds_set nd_is_view rfl (by first | exact Or.inl rfl | exact Or.inr rfl) (de_ixV hr.u1 (pv 0) de_int (by intro _ _; rfl) (by intro _ _; rfl)) (by rfl) (by first | exact Or.inl rfl | exact Or.inr rfl | assumption))
 (dss_cons (ds_if (dw_t (dw_or (dt_not (dt_tru (de_isi2 (by rfl) T.isinstance bt_isinstance (by rfl) T.tuple bt_tuple (de_v (pv 1)) (by decide) (by decide) (by decide) (by decide) (by rfl) (by rfl)) (by intro _; rfl))) (dw_or1 (dt_not (dt_chain opc_le opc_le snd_cmp' snd_cmp' de_int (de_len (by rfl) T.len bt_len (da_cons (de_v (pv 1)) da_nil (by rfl)) (by decide) (by decide) (by rfl) (by rfl)) (de_gC (by rfl) T.c_MAX_SIDE (by decide)) (by with_unfolding_all rfl))))))
 (dss_one (ds_ret de_bl))
 dss_nil)
 (dss_cons (ds_for PassesOwn.never rfl calm_N (di_of (de_v (pv 1))) (dg_name nd_is_view rfl (by first | exact Or.inl rfl | exact Or.inr rfl) (by first | exact Or.inl rfl | exact Or.inr rfl | assumption))
 (dss_cons (ds_if (dw_t (dw_or (dt_not (dt_tru (de_isi2 (by rfl) T.isinstance bt_isinstance (by rfl) T.tuple bt_tuple (de_v (pv 2)) (by decide) (by decide) (by decide) (by decide) (by rfl) (by rfl)) (by intro _; rfl))) (dw_or (dt_not (dt_chain opc_le opc_le snd_cmp' snd_cmp' de_int (de_len (by rfl) T.len bt_len (da_cons (de_v (pv 2)) da_nil (by rfl)) (by decide) (by decide) (by rfl) (by rfl)) (de_gC (by rfl) T.c_MAX_SIDE (by decide)) (by with_unfolding_all rfl))) (dw_or1 (dt_ne hr.units (de_len (by rfl) T.len bt_len (da_cons (de_v (pv 2)) da_nil (by rfl)) (by decide) (by decide) (by rfl) (by rfl)) (de_len (by rfl) T.len bt_len (da_cons (de_ixV hr.u1 (pv 1) de_int (by intro _ _; rfl) (by intro _ _; rfl)) da_nil (by rfl)) (by decide) (by decide) (by rfl) (by rfl)))))))
 (dss_one (ds_ret de_bl))
 dss_nil)
 (dss_one (ds_if (dt_not (dt_tru (de_all (by rfl) (by rfl) T.all bt_all (da_cons (DO.de (do_lc (own := [("reading", 3)]) (by rfl) nd_is_view (di_of (de_v (pv 2))) (blkOk_by (N := ["value", "rows", "row", "reading"]) (sc := (defScope s_is_view)) (own := [("reading", 3)]) (by decide +kernel)) (by decide) (fun _ _ _ _ _ => (dg_name nd_is_view rfl (by first | exact Or.inl rfl | exact Or.inr rfl) (by first | exact Or.inl rfl | exact Or.inr rfl | assumption))) (fun _ _ _ _ _ => dts_nil) (fun _ _ _ _ _ => (de_callC C_is_reading (hr.mono (by decide)) (by rfl) (alen_cons alen_nil) (da_cons (de_v (pv 3)) da_nil (by rfl)) (by decide) (by rfl) (by rfl))) (by intro _; rfl))) da_nil (by rfl)) (by decide) (by decide) (by rfl) (by rfl)) (by intro _; rfl)))
 (dss_one (ds_ret de_bl))
 dss_nil))) (by intro _; rfl))
 (dss_one (ds_ret de_bl))))))
abbrev s_size : Stmt := top 12
noncomputable def b_size : Mo Out :=
 (sRet (eTup (aCons (eF fLen (aCons (eIx (eIxV 0 (eC (.int 1))) (eC (.int 0))) aNil)) (aCons (eF fLen (aCons (eIxV 0 (eC (.int 1))) aNil)) aNil))))
noncomputable def m_size : Mo D := fnM 1 1 b_size
theorem sc_size : FnScope ["view"] ["view"] (defScope s_size) := ⟨rfl, rfl, rfl, by decide +kernel, rfl, by decide +kernel, by decide +kernel⟩
theorem ok_size (F : Fun K "size" "size" s_size f fd) (T : Bi mg)  : FnOk P w K mg base CX0 1 f fd ["view"] (spM Wn K 1 false m_size) :=
 fn_ok F sc_size rfl fun cdv A outer s H E hr =>
 (dss_one (ds_ret (de_tup (da_cons (de_len (by rfl) T.len bt_len (da_cons (de_ix hr.u1 (de_ixV hr.u1 (pv 0) de_int (by intro _ _; rfl) (by intro _ _; rfl)) de_int (by intro _ _; rfl) (by intro _ _; rfl)) da_nil (by rfl)) (by decide) (by decide) (by rfl) (by rfl)) (da_cons (de_len (by rfl) T.len bt_len (da_cons (de_ixV hr.u1 (pv 0) de_int (by intro _ _; rfl) (by intro _ _; rfl)) da_nil (by rfl)) (by decide) (by decide) (by rfl) (by rfl)) da_nil (by rfl)) (by rfl)))))
abbrev s_readings : Stmt := top 13
noncomputable def b_readings : Mo Out :=
 (sSeq (sAsg (gN 1) (eLst aNil))
 (sSeq (sFor (iRg rg1 (aCons (eF fLen (aCons (eIxV 0 (eC (.int 1))) aNil)) aNil)) (gN 2)
 (sSeq (sAsg (gN 3) (eIx (eIxV 0 (eC (.int 1))) (eV 2)))
 (sAsg (gN 1) (eBin dAdd (eV 1) (eLc (iRg rg1 (aCons (eF fLen (aCons (eV 3) aNil)) aNil)) (gN 4) (eB (eBin (dIs true) (eIxV 3 (eV 4)) (eC .non))) (eTup (aCons (eV 4) (aCons (eV 2) (aCons (eIxV 3 (eV 4)) aNil)))) [4])))))
 (sRet (eV 1))))
noncomputable def m_readings : Mo D := fnM 5 1 b_readings
theorem sc_readings : FnScope ["view", "found", "y", "row", "x"] ["view"] (defScope s_readings) := ⟨rfl, rfl, rfl, by decide +kernel, rfl, by decide +kernel, by decide +kernel⟩
theorem nd_readings : List.Nodup (α := Str) ["view", "found", "y", "row", "x"] := by decide +kernel
theorem ok_readings (F : Fun K "readings" "readings" s_readings f fd) (T : Bi mg)  : FnOk P w K mg base CX0 1 f fd ["view"] (spM Wn K 1 false m_readings) :=
 fn_ok F sc_readings rfl fun cdv A outer s H E hr =>
 (dss_cons (ds_set nd_readings rfl (by first | exact Or.inl rfl | exact Or.inr rfl) (DO.de (do_lst da_nil)) (by rfl) (by first | exact Or.inl rfl | exact Or.inr rfl | assumption))
 (dss_cons (ds_for PassesOwn.never rfl calm_N (di_rg1 (by rfl) T.range (da_cons (de_len (by rfl) T.len bt_len (da_cons (de_ixV hr.u1 (pv 0) de_int (by intro _ _; rfl) (by intro _ _; rfl)) da_nil (by rfl)) (by decide) (by decide) (by rfl) (by rfl)) da_nil (by rfl)) (by rfl)) (dg_name nd_readings rfl (by first | exact Or.inl rfl | exact Or.inr rfl) (by first | exact Or.inl rfl | exact Or.inr rfl | assumption))
 (dss_cons (ds_set nd_readings rfl (by first | exact Or.inl rfl | exact Or.inr rfl) (de_ix hr.u1 (de_ixV hr.u1 (pv 0) de_int (by intro _ _; rfl) (by intro _ _; rfl)) (de_v (pv 2)) (by intro _ _; rfl) (by intro _ _; rfl)) (by rfl) (by first | exact Or.inl rfl | exact Or.inr rfl | assumption))
 (dss_one (ds_set nd_readings rfl (by first | exact Or.inl rfl | exact Or.inr rfl) (de_add (de_v (pv 1)) (DO.de (do_lc (own := [("x", 4)]) (by rfl) nd_readings (di_rg1 (by rfl) T.range (da_cons (de_len (by rfl) T.len bt_len (da_cons (de_v (pv 3)) da_nil (by rfl)) (by decide) (by decide) (by rfl) (by rfl)) da_nil (by rfl)) (by rfl)) (blkOk_by (N := ["view", "found", "y", "row", "x"]) (sc := (defScope s_readings)) (own := [("x", 4)]) (by decide +kernel)) (by decide) (fun _ _ _ _ _ => (dg_name nd_readings rfl (by first | exact Or.inl rfl | exact Or.inr rfl) (by first | exact Or.inl rfl | exact Or.inr rfl | assumption))) (fun _ _ _ _ _ => (dts_one (dt_notN (de_ixV hr.u1 (pv 3) (de_v (pv 4)) (by intro _ _; rfl) (by intro _ _; rfl)) de_non))) (fun _ _ _ _ _ => (de_tup (da_cons (de_v (pv 4)) (da_cons (de_v (pv 2)) (da_cons (de_ixV hr.u1 (pv 3) (de_v (pv 4)) (by intro _ _; rfl) (by intro _ _; rfl)) da_nil (by rfl)) (by rfl)) (by rfl)))) (by intro _; rfl)))) (by rfl) (by first | exact Or.inl rfl | exact Or.inr rfl | assumption)))) (by intro _; rfl))
 (dss_one (ds_ret (de_v (pv 1))))))
abbrev s__law_spoilt : Stmt := top 24
noncomputable def b__law_spoilt : Mo Out :=
 (sSeq (sAsg (gN 3) (eCall m__law_take (aVr 0 (aCons (eC (.int 10)) aNil))))
 (sSeq (sAsg (gN 4) (eCall m__law_take (aVr 0 (aCons (eF fLen (aCons (eV 2) aNil)) aNil))))
 (sSeq (sAsg (gN 5) (eIxV 2 (eV 4)))
 (sSeq (sIf (eB (eBin dEq (eV 3) (eC (.int 0))))
 (sRet (eTup (aCons (eV 1) aNil)))
 sNx)
 (sSeq (sIf (eB (eBin dEq (eV 3) (eC (.int 1))))
 (sRet (eLst (aCons (eV 1) (aCons (eV 2) aNil))))
 sNx)
 (sSeq (sIf (eB (eBin dEq (eV 3) (eC (.int 2))))
 (sRet (eTup (aCons (eIx (eLst (aCons (eC (.str "")) (aCons (eC (.str "A")) (aCons (eC (.str "1a")) (aCons (eC (.str "a_b")) (aCons (eBin dMulX (eC (.str "a")) (eC (.int 9))) (aCons (eC (.int 5)) (aCons (eC .non) aNil)))))))) (eCall m__law_take (aVr 0 (aCons (eC (.int 7)) aNil)))) (aCons (eV 2) aNil))))
 sNx)
 (sSeq (sIf (eB (eBin dEq (eV 3) (eC (.int 3))))
 (sRet (eTup (aCons (eV 1) (aCons (eTup aNil) aNil))))
 sNx)
 (sSeq (sIf (eB (eBin dEq (eV 3) (eC (.int 4))))
 (sRet (eTup (aCons (eV 1) (aCons (eF fList' (aCons (eV 2) aNil)) aNil))))
 sNx)
 (sSeq (sIf (eB (eBin dEq (eV 3) (eC (.int 5))))
 (sRet (eTup (aCons (eV 1) (aCons (eBin dAdd (eV 2) (eTup (aCons (eBin dAdd (eIxV 2 (eC (.int 0))) (eTup (aCons (eC (.int 1)) aNil))) aNil))) aNil))))
 sNx)
 (sSeq (sIf (eB (eBin dEq (eV 3) (eC (.int 6))))
 (sRet (eTup (aCons (eV 1) (aCons (eBin dMulX (eTup (aCons (eTup aNil) aNil)) (eF fLen (aCons (eV 2) aNil))) aNil))))
 sNx)
 (sSeq (sIf (eB (eBin dEq (eV 3) (eC (.int 7))))
 (sRet (eTup (aCons (eV 1) (aCons (eBin dAdd (eBin dAdd (eSl dSl (eV 2) eP0 (eP1 (eV 4))) (eTup (aCons (eF fList' (aCons (eV 5) aNil)) aNil))) (eSl dSl (eV 2) (eP1 (eBin dAdd (eV 4) (eC (.int 1)))) eP0)) aNil))))
 sNx)
 (sSeq (sIf (eB (eBin dEq (eV 3) (eC (.int 8))))
 (sRet (eTup (aCons (eV 1) (aCons (eBin dMulX (eV 2) (eC (.int 13))) aNil))))
 sNx)
 (sSeq (sAsg (gN 6) (eCall m__law_take (aVr 0 (aCons (eF fLen (aCons (eV 5) aNil)) aNil))))
 (sSeq (sAsg (gN 7) (eIx (eLst (aCons (eUn dNeg (eC (.int 1))) (aCons (eC (.int 1000)) (aCons (eC (.bl true)) (aCons (eC (.bl false)) (aCons (eC (.str "1")) (aCons (eTup aNil) aNil))))))) (eCall m__law_take (aVr 0 (aCons (eC (.int 6)) aNil)))))
 (sRet (eTup (aCons (eV 1) (aCons (eBin dAdd (eBin dAdd (eSl dSl (eV 2) eP0 (eP1 (eV 4))) (eTup (aCons (eBin dAdd (eBin dAdd (eSl dSl (eV 5) eP0 (eP1 (eV 6))) (eTup (aCons (eV 7) aNil))) (eSl dSl (eV 5) (eP1 (eBin dAdd (eV 6) (eC (.int 1)))) eP0)) aNil))) (eSl dSl (eV 2) (eP1 (eBin dAdd (eV 4) (eC (.int 1)))) eP0)) aNil))))))))))))))))))
noncomputable def m__law_spoilt : Mo D := fnM 8 3 b__law_spoilt
theorem sc__law_spoilt : FnScope ["_law_pool_here", "_law_name_here", "_law_rows_here", "_law_choice", "_law_y", "_law_row", "_law_x", "_law_bad"] ["_law_pool_here", "_law_name_here", "_law_rows_here"] (defScope s__law_spoilt) := ⟨rfl, rfl, rfl, by decide +kernel, rfl, by decide +kernel, by decide +kernel⟩
theorem nd__law_spoilt : List.Nodup (α := Str) ["_law_pool_here", "_law_name_here", "_law_rows_here", "_law_choice", "_law_y", "_law_row", "_law_x", "_law_bad"] := by decide +kernel
theorem ok__law_spoilt (F : Fun K "_law_spoilt" "_law_spoilt" s__law_spoilt f fd) (T : Bi mg) (C__law_take : CalM P w K mg base 2 "_law_take" 2 false m__law_take) : FnOk P w K mg base CX0 3 f fd ["_law_pool_here", "_law_name_here", "_law_rows_here"] (spM Wn K 3 false m__law_spoilt) :=
 fn_ok F sc__law_spoilt rfl fun cdv A outer s H E hr =>
 (dss_cons (ds_set nd__law_spoilt rfl (by first | exact Or.inl rfl | exact Or.inr rfl) (de_callC C__law_take (hr.mono (by decide)) (by rfl) (alen_vr (alen_cons alen_nil)) (da_vr (pv 0) (da_cons de_int da_nil (by rfl)) (by rfl)) (by decide) (by rfl) (by rfl)) (by rfl) (by first | exact Or.inl rfl | exact Or.inr rfl | assumption))
 (dss_cons (ds_set nd__law_spoilt rfl (by first | exact Or.inl rfl | exact Or.inr rfl) (de_callC C__law_take (hr.mono (by decide)) (by rfl) (alen_vr (alen_cons alen_nil)) (da_vr (pv 0) (da_cons (de_len (by rfl) T.len bt_len (da_cons (de_v (pv 2)) da_nil (by rfl)) (by decide) (by decide) (by rfl) (by rfl)) da_nil (by rfl)) (by rfl)) (by decide) (by rfl) (by rfl)) (by rfl) (by first | exact Or.inl rfl | exact Or.inr rfl | assumption))
 (dss_cons (ds_set nd__law_spoilt rfl (by first | exact Or.inl rfl | exact Or.inr rfl) (de_ixV hr.u1 (pv 2) (de_v (pv 4)) (by intro _ _; rfl) (by intro _ _; rfl)) (by rfl) (by first | exact Or.inl rfl | exact Or.inr rfl | assumption))
 (dss_cons (ds_if (dt_eq hr.units (de_v (pv 3)) de_int)
 (dss_one (ds_ret (de_tup (da_cons (de_v (pv 1)) da_nil (by rfl)))))
 dss_nil)
 (dss_cons (ds_if (dt_eq hr.units (de_v (pv 3)) de_int)
 (dss_one (ds_ret (DO.de (do_lst (da_cons (de_v (pv 1)) (da_cons (de_v (pv 2)) da_nil (by rfl)) (by rfl))))))
 dss_nil)
 (dss_cons (ds_if (dt_eq hr.units (de_v (pv 3)) de_int)
 (dss_one (ds_ret (de_tup (da_cons (de_ix hr.u1 (DO.de (do_lst (da_cons de_str (da_cons de_str (da_cons de_str (da_cons de_str (da_cons (de_mulX de_str de_int) (da_cons de_int (da_cons de_non da_nil (by rfl)) (by rfl)) (by rfl)) (by rfl)) (by rfl)) (by rfl)) (by rfl)))) (de_callC C__law_take (hr.mono (by decide)) (by rfl) (alen_vr (alen_cons alen_nil)) (da_vr (pv 0) (da_cons de_int da_nil (by rfl)) (by rfl)) (by decide) (by rfl) (by rfl)) (by intro _ _; rfl) (by intro _ _; rfl)) (da_cons (de_v (pv 2)) da_nil (by rfl)) (by rfl)))))
 dss_nil)
 (dss_cons (ds_if (dt_eq hr.units (de_v (pv 3)) de_int)
 (dss_one (ds_ret (de_tup (da_cons (de_v (pv 1)) (da_cons (de_tup da_nil) da_nil (by rfl)) (by rfl)))))
 dss_nil)
 (dss_cons (ds_if (dt_eq hr.units (de_v (pv 3)) de_int)
 (dss_one (ds_ret (de_tup (da_cons (de_v (pv 1)) (da_cons (DO.de (do_list (by rfl) (by rfl) T.list bt_list (da_cons (de_v (pv 2)) da_nil (by rfl)) (by decide) (by decide) (by rfl) (by rfl))) da_nil (by rfl)) (by rfl)))))
 dss_nil)
 (dss_cons (ds_if (dt_eq hr.units (de_v (pv 3)) de_int)
 (dss_one (ds_ret (de_tup (da_cons (de_v (pv 1)) (da_cons (de_add (de_v (pv 2)) (de_tup (da_cons (de_add (de_ixV hr.u1 (pv 2) de_int (by intro _ _; rfl) (by intro _ _; rfl)) (de_tup (da_cons de_int da_nil (by rfl)))) da_nil (by rfl)))) da_nil (by rfl)) (by rfl)))))
 dss_nil)
 (dss_cons (ds_if (dt_eq hr.units (de_v (pv 3)) de_int)
 (dss_one (ds_ret (de_tup (da_cons (de_v (pv 1)) (da_cons (de_mulX (de_tup (da_cons (de_tup da_nil) da_nil (by rfl))) (de_len (by rfl) T.len bt_len (da_cons (de_v (pv 2)) da_nil (by rfl)) (by decide) (by decide) (by rfl) (by rfl))) da_nil (by rfl)) (by rfl)))))
 dss_nil)
 (dss_cons (ds_if (dt_eq hr.units (de_v (pv 3)) de_int)
 (dss_one (ds_ret (de_tup (da_cons (de_v (pv 1)) (da_cons (de_add (de_add (de_sl (de_v (pv 2)) dp_none (dp_some (de_v (pv 4)))) (de_tup (da_cons (DO.de (do_list (by rfl) (by rfl) T.list bt_list (da_cons (de_v (pv 5)) da_nil (by rfl)) (by decide) (by decide) (by rfl) (by rfl))) da_nil (by rfl)))) (de_sl (de_v (pv 2)) (dp_some (de_add (de_v (pv 4)) de_int)) dp_none)) da_nil (by rfl)) (by rfl)))))
 dss_nil)
 (dss_cons (ds_if (dt_eq hr.units (de_v (pv 3)) de_int)
 (dss_one (ds_ret (de_tup (da_cons (de_v (pv 1)) (da_cons (de_mulX (de_v (pv 2)) de_int) da_nil (by rfl)) (by rfl)))))
 dss_nil)
 (dss_cons (ds_set nd__law_spoilt rfl (by first | exact Or.inl rfl | exact Or.inr rfl) (de_callC C__law_take (hr.mono (by decide)) (by rfl) (alen_vr (alen_cons alen_nil)) (da_vr (pv 0) (da_cons (de_len (by rfl) T.len bt_len (da_cons (de_v (pv 5)) da_nil (by rfl)) (by decide) (by decide) (by rfl) (by rfl)) da_nil (by rfl)) (by rfl)) (by decide) (by rfl) (by rfl)) (by rfl) (by first | exact Or.inl rfl | exact Or.inr rfl | assumption))
 (dss_cons (ds_set nd__law_spoilt rfl (by first | exact Or.inl rfl | exact Or.inr rfl) (de_ix hr.u1 (DO.de (do_lst (da_cons (de_neg de_int) (da_cons de_int (da_cons de_bl (da_cons de_bl (da_cons de_str (da_cons (de_tup da_nil) da_nil (by rfl)) (by rfl)) (by rfl)) (by rfl)) (by rfl)) (by rfl)))) (de_callC C__law_take (hr.mono (by decide)) (by rfl) (alen_vr (alen_cons alen_nil)) (da_vr (pv 0) (da_cons de_int da_nil (by rfl)) (by rfl)) (by decide) (by rfl) (by rfl)) (by intro _ _; rfl) (by intro _ _; rfl)) (by rfl) (by first | exact Or.inl rfl | exact Or.inr rfl | assumption))
 (dss_one (ds_ret (de_tup (da_cons (de_v (pv 1)) (da_cons (de_add (de_add (de_sl (de_v (pv 2)) dp_none (dp_some (de_v (pv 4)))) (de_tup (da_cons (de_add (de_add (de_sl (de_v (pv 5)) dp_none (dp_some (de_v (pv 6)))) (de_tup (da_cons (de_v (pv 7)) da_nil (by rfl)))) (de_sl (de_v (pv 5)) (dp_some (de_add (de_v (pv 6)) de_int)) dp_none)) da_nil (by rfl)))) (de_sl (de_v (pv 2)) (dp_some (de_add (de_v (pv 4)) de_int)) dp_none)) da_nil (by rfl)) (by rfl)))))))))))))))))))
abbrev s_law : Stmt := top 26
noncomputable def b_law : Mo Out :=
 (sSeq (sAsgO 1 (eCall m__law_pool (aCons (eV 0) aNil)))
 (sSeq (sAsg (gN 2) (eCall m__law_name (aVr 1 aNil)))
 (sSeq (sAsg (gN 3) (eCall m__law_rows (aVr 1 (aCons (eC (.int 5)) aNil))))
 (sSeq (sAsg (gN 4) (eTup (aCons (eV 2) (aCons (eV 3) aNil))))
 (sSeq (sIf (tOrM (eB (eBin (dIsB true) (eCall m_is_view (aCons (eV 4) aNil)) (eC (.bl true)))) (tOrM (eB (eBin (dIsB true) (eCall m_is_name (aCons (eV 2) aNil)) (eC (.bl true)))) (eB (eBin dNe (eCall m_size (aCons (eV 4) aNil)) (eTup (aCons (eF fLen (aCons (eIxV 3 (eC (.int 0))) aNil)) (aCons (eF fLen (aCons (eV 3) aNil)) aNil)))))))
 (sRet (eC (.bl false)))
 sNx)
 (sSeq (sAsg (gN 5) (eLst aNil))
 (sSeq (sFor (iRg rg1 (aCons (eF fLen (aCons (eV 3) aNil)) aNil)) (gN 6)
 (sAsg (gN 5) (eBin dAdd (eV 5) (eLc (iRg rg1 (aCons (eF fLen (aCons (eIxV 3 (eC (.int 0))) aNil)) aNil)) (gN 14) (eB (eBin (dIs true) (eIx (eIxV 3 (eV 6)) (eV 14)) (eC .non))) (eTup (aCons (eV 14) (aCons (eV 6) (aCons (eIx (eIxV 3 (eV 6)) (eV 14)) aNil)))) [14]))))
 (sSeq (sIf (tOrM (eB (eBin dNe (eCall m_readings (aCons (eV 4) aNil)) (eV 5))) (tNotM (eTru (eIsi2 "list" (eCall m_readings (aCons (eV 4) aNil))))))
 (sRet (eC (.bl false)))
 sNx)
 (sSeq (sIf (eB (eBin (dIsB true) (eCall m_is_view (aCons (eCall m__law_spoilt (aVr 1 (aCons (eV 2) (aCons (eV 3) aNil)))) aNil)) (eC (.bl false))))
 (sRet (eC (.bl false)))
 sNx)
 (sSeq (sAsg (gN 7) (eIx (eLst (aCons (eC (.int 0)) (aCons (eC (.int 1)) (aCons (eUn dNeg (eC (.int 1))) (aCons (eC (.int 5)) (aCons (eUn dNeg (eC (.int 1000))) (aCons (eC (.int 1000)) (aCons (eBin dSub (eCall m__law_take (aVr 1 (aCons (eC (.int 2001)) aNil))) (eC (.int 1000))) aNil)))))))) (eCall m__law_take (aVr 1 (aCons (eC (.int 7)) aNil)))))
 (sSeq (sAsgO 8 (eLc (iOf (eV 5)) (gN 15) tYesM (eBin dAdd (eIxV 15 (eC (.int 2))) (eV 7)) [15]))
 (sSeq (sAsg (gN 9) (eCall m__law_lighter (aCons (eV 4) (aCons (eV 7) aNil))))
 (sSeq (sIf (eTru (eLc (iOf (eV 8)) (gN 16) (tOrM (eB (eBin dLt (eV 16) (eC (.int 0)))) (eB (eBin dGt (eV 16) (eC (.int 999))))) (eV 16) [16]))
 (sIf (eB (eBin dNe (eV 9) (eC (.str "light"))))
 (sRet (eC (.bl false)))
 sNx)
 (sSeq (sAsgO 10 (eF fList' (aCons (eV 8) aNil)))
 (sSeq (sAsg (gN 11) (eF fTuple (aCons (eLc (iOf (eV 3)) (gN 15) tYesM (eF fTuple (aCons (eLc (iOf (eV 15)) (gN 17) tYesM (eIf (eB (eBin (dIs false) (eV 17) (eC .non))) (eC .non) (ePopZ 10)) [17]) aNil)) [15]) aNil)))
 (sIf (eB (eBin dNe (eV 9) (eTup (aCons (eV 2) (aCons (eV 11) aNil)))))
 (sRet (eC (.bl false)))
 sNx))))
 (sSeq (sFor (iOf (eLst (aCons (eC (.int 12)) (aCons (eC (.int 13)) aNil)))) (gN 12)
 (sIf (tOrM (eB (eBin dNe (eCall m_is_view (aCons (eTup (aCons (eV 2) (aCons (eTup (aCons (eBin dMulX (eTup (aCons (eC (.int 7)) aNil)) (eV 12)) aNil)) aNil))) aNil)) (eBin dEq (eV 12) (eC (.int 12))))) (eB (eBin dNe (eCall m_is_view (aCons (eTup (aCons (eV 2) (aCons (eBin dMulX (eTup (aCons (eTup (aCons (eC (.int 7)) aNil)) aNil)) (eV 12)) aNil))) aNil)) (eBin dEq (eV 12) (eC (.int 12))))))
 (sRet (eC (.bl false)))
 sNx))
 (sSeq (sFor (iOf (eLst (aCons (eC .non) (aCons (eC (.int 5)) (aCons (eC (.str "a")) (aCons (eTup aNil) (aCons (eLst aNil) (aCons (eTup (aCons (eC (.str "a")) (aCons (eC (.int 1)) aNil))) (aCons (eTup (aCons (eC (.str "a")) (aCons (eTup (aCons (eTup (aCons (eC (.int 1)) aNil)) (aCons (eC (.int 2)) aNil))) aNil))) (aCons (eC (.bl true)) aNil)))))))))) (gN 13)
 (sIf (eB (eBin (dIsB true) (eCall m_is_view (aCons (eV 13) aNil)) (eC (.bl false))))
 (sRet (eC (.bl false)))
 sNx))
 (sSeq (sFor (iOf (eLst (aCons (eUn dNeg (eC (.int 1))) (aCons (eC (.int 1000)) (aCons (eC (.bl true)) (aCons (eC (.str "1")) (aCons (eTup (aCons (eC (.int 1)) aNil)) aNil))))))) (gN 13)
 (sIf (eB (eBin (dIsB true) (eCall m_is_reading (aCons (eV 13) aNil)) (eC (.bl false))))
 (sRet (eC (.bl false)))
 sNx))
 (sRet (eAnd (eBin (dIsB false) (eCall m_is_reading (aCons (eC .non) aNil)) (eC (.bl true))) (eAnd (eBin (dIsB false) (eCall m_is_reading (aCons (eC (.int 999)) aNil)) (eC (.bl true))) (eBin (dIsB false) (eCall m_is_reading (aCons (eC (.int 0)) aNil)) (eC (.bl true))))))))))))))))))))))
noncomputable def m_law : Mo D := fnM 18 1 b_law
theorem sc_law : FnScope ["_law_script", "_law_pool_here", "_law_name_here", "_law_rows_here", "_law_view", "_law_due", "_law_y", "_law_light", "_law_moved", "_law_told", "_law_rest", "_law_new", "_law_side", "_law_value", "_law_x", "_law_row", "_law_number", "_law_old"] ["_law_script"] (defScope s_law) := ⟨rfl, rfl, rfl, by decide +kernel, rfl, by decide +kernel, by decide +kernel⟩
theorem nd_law : List.Nodup (α := Str) ["_law_script", "_law_pool_here", "_law_name_here", "_law_rows_here", "_law_view", "_law_due", "_law_y", "_law_light", "_law_moved", "_law_told", "_law_rest", "_law_new", "_law_side", "_law_value", "_law_x", "_law_row", "_law_number", "_law_old"] := by decide +kernel
theorem ok_law (F : Fun K "law" "law" s_law f fd) (T : Bi mg) (C__law_pool : CalM P w K mg base 1 "_law_pool" 1 true m__law_pool) (C__law_name : CalM P w K mg base 3 "_law_name" 1 false m__law_name) (C__law_rows : CalM P w K mg base 4 "_law_rows" 2 false m__law_rows) (C_is_view : CalM P w K mg base 3 "is_view" 1 false m_is_view) (C_is_name : CalM P w K mg base 1 "is_name" 1 false m_is_name) (C_size : CalM P w K mg base 1 "size" 1 false m_size) (C_readings : CalM P w K mg base 1 "readings" 1 false m_readings) (C__law_spoilt : CalM P w K mg base 3 "_law_spoilt" 3 false m__law_spoilt) (C__law_take : CalM P w K mg base 2 "_law_take" 2 false m__law_take) (C__law_lighter : CalM P w K mg base 5 "_law_lighter" 2 false m__law_lighter) (C_is_reading : CalM P w K mg base 2 "is_reading" 1 false m_is_reading) : FnOk P w K mg base CX0 6 f fd ["_law_script"] (spM Wn K 1 false m_law) :=
 fn_ok F sc_law rfl fun cdv A outer s H E hr =>
 (dss_cons (ds_setO nd_law rfl (by first | exact Or.inl rfl | exact Or.inr rfl) (do_callC C__law_pool (hr.mono (by decide)) (by rfl) (alen_cons alen_nil) (da_cons (de_v (pv 0)) da_nil (by rfl)) (by decide) (by rfl) (by rfl)) (by rfl) (by first | exact Or.inl rfl | exact Or.inr rfl | assumption))
 (dss_cons (ds_set nd_law rfl (by first | exact Or.inl rfl | exact Or.inr rfl) (de_callC C__law_name (hr.mono (by decide)) (by rfl) (alen_vr alen_nil) (da_vr (pv 1) da_nil (by rfl)) (by decide) (by rfl) (by rfl)) (by rfl) (by first | exact Or.inl rfl | exact Or.inr rfl | assumption))
 (dss_cons (ds_set nd_law rfl (by first | exact Or.inl rfl | exact Or.inr rfl) (de_callC C__law_rows (hr.mono (by decide)) (by rfl) (alen_vr (alen_cons alen_nil)) (da_vr (pv 1) (da_cons de_int da_nil (by rfl)) (by rfl)) (by decide) (by rfl) (by rfl)) (by rfl) (by first | exact Or.inl rfl | exact Or.inr rfl | assumption))
 (dss_cons (ds_set nd_law rfl (by first | exact Or.inl rfl | exact Or.inr rfl) (de_tup (da_cons (de_v (pv 2)) (da_cons (de_v (pv 3)) da_nil (by rfl)) (by rfl))) (by rfl) (by first | exact Or.inl rfl | exact Or.inr rfl | assumption))
 (dss_cons (ds_if (dw_t (dw_or (dt_notB (de_callC C_is_view (hr.mono (by decide)) (by rfl) (alen_cons alen_nil) (da_cons (de_v (pv 4)) da_nil (by rfl)) (by decide) (by rfl) (by rfl)) de_bl) (dw_or (dt_notB (de_callC C_is_name (hr.mono (by decide)) (by rfl) (alen_cons alen_nil) (da_cons (de_v (pv 2)) da_nil (by rfl)) (by decide) (by rfl) (by rfl)) de_bl) (dw_or1 (dt_ne hr.units (de_callC C_size (hr.mono (by decide)) (by rfl) (alen_cons alen_nil) (da_cons (de_v (pv 4)) da_nil (by rfl)) (by decide) (by rfl) (by rfl)) (de_tup (da_cons (de_len (by rfl) T.len bt_len (da_cons (de_ixV hr.u1 (pv 3) de_int (by intro _ _; rfl) (by intro _ _; rfl)) da_nil (by rfl)) (by decide) (by decide) (by rfl) (by rfl)) (da_cons (de_len (by rfl) T.len bt_len (da_cons (de_v (pv 3)) da_nil (by rfl)) (by decide) (by decide) (by rfl) (by rfl)) da_nil (by rfl)) (by rfl))))))))
 (dss_one (ds_ret de_bl))
 dss_nil)
 (dss_cons (ds_set nd_law rfl (by first | exact Or.inl rfl | exact Or.inr rfl) (DO.de (do_lst da_nil)) (by rfl) (by first | exact Or.inl rfl | exact Or.inr rfl | assumption))
 (dss_cons (ds_for PassesOwn.never rfl calm_N (di_rg1 (by rfl) T.range (da_cons (de_len (by rfl) T.len bt_len (da_cons (de_v (pv 3)) da_nil (by rfl)) (by decide) (by decide) (by rfl) (by rfl)) da_nil (by rfl)) (by rfl)) (dg_name nd_law rfl (by first | exact Or.inl rfl | exact Or.inr rfl) (by first | exact Or.inl rfl | exact Or.inr rfl | assumption))
 (dss_one (ds_set nd_law rfl (by first | exact Or.inl rfl | exact Or.inr rfl) (de_add (de_v (pv 5)) (DO.de (do_lc (own := [("_law_x", 14)]) (by rfl) nd_law (di_rg1 (by rfl) T.range (da_cons (de_len (by rfl) T.len bt_len (da_cons (de_ixV hr.u1 (pv 3) de_int (by intro _ _; rfl) (by intro _ _; rfl)) da_nil (by rfl)) (by decide) (by decide) (by rfl) (by rfl)) da_nil (by rfl)) (by rfl)) (blkOk_by (N := ["_law_script", "_law_pool_here", "_law_name_here", "_law_rows_here", "_law_view", "_law_due", "_law_y", "_law_light", "_law_moved", "_law_told", "_law_rest", "_law_new", "_law_side", "_law_value", "_law_x", "_law_row", "_law_number", "_law_old"]) (sc := (defScope s_law)) (own := [("_law_x", 14)]) (by decide +kernel)) (by decide) (fun _ _ _ _ _ => (dg_name nd_law rfl (by first | exact Or.inl rfl | exact Or.inr rfl) (by first | exact Or.inl rfl | exact Or.inr rfl | assumption))) (fun _ _ _ _ _ => (dts_one (dt_notN (de_ix hr.u1 (de_ixV hr.u1 (pv 3) (de_v (pv 6)) (by intro _ _; rfl) (by intro _ _; rfl)) (de_v (pv 14)) (by intro _ _; rfl) (by intro _ _; rfl)) de_non))) (fun _ _ _ _ _ => (de_tup (da_cons (de_v (pv 14)) (da_cons (de_v (pv 6)) (da_cons (de_ix hr.u1 (de_ixV hr.u1 (pv 3) (de_v (pv 6)) (by intro _ _; rfl) (by intro _ _; rfl)) (de_v (pv 14)) (by intro _ _; rfl) (by intro _ _; rfl)) da_nil (by rfl)) (by rfl)) (by rfl)))) (by intro _; rfl)))) (by rfl) (by first | exact Or.inl rfl | exact Or.inr rfl | assumption))) (by intro _; rfl))
 (dss_cons (ds_if (dw_t (dw_or (dt_ne hr.units (de_callC C_readings (hr.mono (by decide)) (by rfl) (alen_cons alen_nil) (da_cons (de_v (pv 4)) da_nil (by rfl)) (by decide) (by rfl) (by rfl)) (de_v (pv 5))) (dw_or1 (dt_not (dt_tru (de_isi2 (by rfl) T.isinstance bt_isinstance (by rfl) T.list bt_list (de_callC C_readings (hr.mono (by decide)) (by rfl) (alen_cons alen_nil) (da_cons (de_v (pv 4)) da_nil (by rfl)) (by decide) (by rfl) (by rfl)) (by decide) (by decide) (by decide) (by decide) (by rfl) (by rfl)) (by intro _; rfl))))))
 (dss_one (ds_ret de_bl))
 dss_nil)
 (dss_cons (ds_if (dt_notB (de_callC C_is_view (hr.mono (by decide)) (by rfl) (alen_cons alen_nil) (da_cons (de_callC C__law_spoilt (hr.mono (by decide)) (by rfl) (alen_vr (alen_cons (alen_cons alen_nil))) (da_vr (pv 1) (da_cons (de_v (pv 2)) (da_cons (de_v (pv 3)) da_nil (by rfl)) (by rfl)) (by rfl)) (by decide) (by rfl) (by rfl)) da_nil (by rfl)) (by decide) (by rfl) (by rfl)) de_bl)
 (dss_one (ds_ret de_bl))
 dss_nil)
 (dss_cons (ds_set nd_law rfl (by first | exact Or.inl rfl | exact Or.inr rfl) (de_ix hr.u1 (DO.de (do_lst (da_cons de_int (da_cons de_int (da_cons (de_neg de_int) (da_cons de_int (da_cons (de_neg de_int) (da_cons de_int (da_cons (de_sub (de_callC C__law_take (hr.mono (by decide)) (by rfl) (alen_vr (alen_cons alen_nil)) (da_vr (pv 1) (da_cons de_int da_nil (by rfl)) (by rfl)) (by decide) (by rfl) (by rfl)) de_int) da_nil (by rfl)) (by rfl)) (by rfl)) (by rfl)) (by rfl)) (by rfl)) (by rfl)))) (de_callC C__law_take (hr.mono (by decide)) (by rfl) (alen_vr (alen_cons alen_nil)) (da_vr (pv 1) (da_cons de_int da_nil (by rfl)) (by rfl)) (by decide) (by rfl) (by rfl)) (by intro _ _; rfl) (by intro _ _; rfl)) (by rfl) (by first | exact Or.inl rfl | exact Or.inr rfl | assumption))
 (dss_cons (ds_setLcO (own := [("_law_row", 15)]) rfl nd_law rfl rfl (sw_true rfl rfl rfl (by decide +kernel)) (di_of (de_v (pv 5))) (blkOk_by (N := ["_law_script", "_law_pool_here", "_law_name_here", "_law_rows_here", "_law_view", "_law_due", "_law_y", "_law_light", "_law_moved", "_law_told", "_law_rest", "_law_new", "_law_side", "_law_value", "_law_x", "_law_row", "_law_number", "_law_old"]) (sc := (defScope s_law)) (own := [("_law_row", 15)]) (by decide +kernel)) (by decide) (fun _ _ _ _ _ => (dg_name nd_law rfl (by first | exact Or.inl rfl | exact Or.inr rfl) (by first | exact Or.inl rfl | exact Or.inr rfl | assumption))) (fun _ _ _ _ _ => dts_nil) (fun _ _ _ _ _ => (de_add (de_ixV hr.u1 (pv 15) de_int (by intro _ _; rfl) (by intro _ _; rfl)) (de_v (pv 7)))) (by intro _; rfl))
 (dss_cons (ds_set nd_law rfl (by first | exact Or.inl rfl | exact Or.inr rfl) (de_callC C__law_lighter (hr.mono (by decide)) (by rfl) (alen_cons (alen_cons alen_nil)) (da_cons (de_v (pv 4)) (da_cons (de_v (pv 7)) da_nil (by rfl)) (by rfl)) (by decide) (by rfl) (by rfl)) (by rfl) (by first | exact Or.inl rfl | exact Or.inr rfl | assumption))
 (dss_cons (ds_if (dt_tru (DO.de (do_lc (own := [("_law_number", 16)]) (by rfl) nd_law (di_of (de_v (pv 8))) (blkOk_by (N := ["_law_script", "_law_pool_here", "_law_name_here", "_law_rows_here", "_law_view", "_law_due", "_law_y", "_law_light", "_law_moved", "_law_told", "_law_rest", "_law_new", "_law_side", "_law_value", "_law_x", "_law_row", "_law_number", "_law_old"]) (sc := (defScope s_law)) (own := [("_law_number", 16)]) (by decide +kernel)) (by decide) (fun _ _ _ _ _ => (dg_name nd_law rfl (by first | exact Or.inl rfl | exact Or.inr rfl) (by first | exact Or.inl rfl | exact Or.inr rfl | assumption))) (fun _ _ _ _ _ => (dts_one (dw_t (dw_or (dt_lt (de_v (pv 16)) de_int) (dw_or1 (dt_gt (de_v (pv 16)) de_int)))))) (fun _ _ _ _ _ => (de_v (pv 16))) (by intro _; rfl))) (by intro _; rfl))
 (dss_one (ds_if (dt_ne hr.units (de_v (pv 9)) de_str)
 (dss_one (ds_ret de_bl))
 dss_nil))
 (dss_cons (ds_setO nd_law rfl (by first | exact Or.inl rfl | exact Or.inr rfl) (do_list (by rfl) (by rfl) T.list bt_list (da_cons (de_v (pv 8)) da_nil (by rfl)) (by decide) (by decide) (by rfl) (by rfl)) (by rfl) (by first | exact Or.inl rfl | exact Or.inr rfl | assumption))
 (dss_cons (ds_set nd_law rfl (by first | exact Or.inl rfl | exact Or.inr rfl) (de_tuple (by rfl) T.tuple bt_tuple (da_cons (DO.de (do_lc (own := [("_law_row", 15)]) (by rfl) nd_law (di_of (de_v (pv 3))) (blkOk_by (N := ["_law_script", "_law_pool_here", "_law_name_here", "_law_rows_here", "_law_view", "_law_due", "_law_y", "_law_light", "_law_moved", "_law_told", "_law_rest", "_law_new", "_law_side", "_law_value", "_law_x", "_law_row", "_law_number", "_law_old"]) (sc := (defScope s_law)) (own := [("_law_row", 15)]) (by decide +kernel)) (by decide) (fun _ _ _ _ _ => (dg_name nd_law rfl (by first | exact Or.inl rfl | exact Or.inr rfl) (by first | exact Or.inl rfl | exact Or.inr rfl | assumption))) (fun _ _ _ _ _ => dts_nil) (fun _ _ _ _ _ => (de_tuple (by rfl) T.tuple bt_tuple (da_cons (DO.de (do_lc (own := [("_law_old", 17)]) (by rfl) nd_law (di_of (de_v (pv 15))) (blkOk_by (N := ["_law_script", "_law_pool_here", "_law_name_here", "_law_rows_here", "_law_view", "_law_due", "_law_y", "_law_light", "_law_moved", "_law_told", "_law_rest", "_law_new", "_law_side", "_law_value", "_law_x", "_law_row", "_law_number", "_law_old"]) (sc := _) (own := [("_law_old", 17)]) (by with_unfolding_all rfl)) (by decide) (fun _ _ _ _ _ => (dg_name nd_law rfl (by first | exact Or.inl rfl | exact Or.inr rfl) (by first | exact Or.inl rfl | exact Or.inr rfl | assumption))) (fun _ _ _ _ _ => dts_nil) (fun _ _ _ _ _ => (de_if (dt_isN (de_v (pv 17)) de_non) de_non (de_popZ (pv 10) (by rfl) (by rfl) (by rfl) (by rfl) (by rfl)))) (by intro _; rfl))) da_nil (by rfl)) (by decide) (by decide) (by rfl) (by rfl))) (by intro _; rfl))) da_nil (by rfl)) (by decide) (by decide) (by rfl) (by rfl)) (by rfl) (by first | exact Or.inl rfl | exact Or.inr rfl | assumption))
 (dss_one (ds_if (dt_ne hr.units (de_v (pv 9)) (de_tup (da_cons (de_v (pv 2)) (da_cons (de_v (pv 11)) da_nil (by rfl)) (by rfl))))
 (dss_one (ds_ret de_bl))
 dss_nil)))))
 (dss_cons (ds_for PassesOwn.never rfl calm_N (di_of (DO.de (do_lst (da_cons de_int (da_cons de_int da_nil (by rfl)) (by rfl))))) (dg_name nd_law rfl (by first | exact Or.inl rfl | exact Or.inr rfl) (by first | exact Or.inl rfl | exact Or.inr rfl | assumption))
 (dss_one (ds_if (dw_t (dw_or (dt_ne hr.units (de_callC C_is_view (hr.mono (by decide)) (by rfl) (alen_cons alen_nil) (da_cons (de_tup (da_cons (de_v (pv 2)) (da_cons (de_tup (da_cons (de_mulX (de_tup (da_cons de_int da_nil (by rfl))) (de_v (pv 12))) da_nil (by rfl))) da_nil (by rfl)) (by rfl))) da_nil (by rfl)) (by decide) (by rfl) (by rfl)) (de_eq hr.units (de_v (pv 12)) de_int)) (dw_or1 (dt_ne hr.units (de_callC C_is_view (hr.mono (by decide)) (by rfl) (alen_cons alen_nil) (da_cons (de_tup (da_cons (de_v (pv 2)) (da_cons (de_mulX (de_tup (da_cons (de_tup (da_cons de_int da_nil (by rfl))) da_nil (by rfl))) (de_v (pv 12))) da_nil (by rfl)) (by rfl))) da_nil (by rfl)) (by decide) (by rfl) (by rfl)) (de_eq hr.units (de_v (pv 12)) de_int)))))
 (dss_one (ds_ret de_bl))
 dss_nil)) (by intro _; rfl))
 (dss_cons (ds_for PassesOwn.never rfl calm_N (di_of (DO.de (do_lst (da_cons de_non (da_cons de_int (da_cons de_str (da_cons (de_tup da_nil) (da_cons (DO.de (do_lst da_nil)) (da_cons (de_tup (da_cons de_str (da_cons de_int da_nil (by rfl)) (by rfl))) (da_cons (de_tup (da_cons de_str (da_cons (de_tup (da_cons (de_tup (da_cons de_int da_nil (by rfl))) (da_cons de_int da_nil (by rfl)) (by rfl))) da_nil (by rfl)) (by rfl))) (da_cons de_bl da_nil (by rfl)) (by rfl)) (by rfl)) (by rfl)) (by rfl)) (by rfl)) (by rfl)) (by rfl))))) (dg_name nd_law rfl (by first | exact Or.inl rfl | exact Or.inr rfl) (by first | exact Or.inl rfl | exact Or.inr rfl | assumption))
 (dss_one (ds_if (dt_notB (de_callC C_is_view (hr.mono (by decide)) (by rfl) (alen_cons alen_nil) (da_cons (de_v (pv 13)) da_nil (by rfl)) (by decide) (by rfl) (by rfl)) de_bl)
 (dss_one (ds_ret de_bl))
 dss_nil)) (by intro _; rfl))
 (dss_cons (ds_for PassesOwn.never rfl calm_N (di_of (DO.de (do_lst (da_cons (de_neg de_int) (da_cons de_int (da_cons de_bl (da_cons de_str (da_cons (de_tup (da_cons de_int da_nil (by rfl))) da_nil (by rfl)) (by rfl)) (by rfl)) (by rfl)) (by rfl))))) (dg_name nd_law rfl (by first | exact Or.inl rfl | exact Or.inr rfl) (by first | exact Or.inl rfl | exact Or.inr rfl | assumption))
 (dss_one (ds_if (dt_notB (de_callC C_is_reading (hr.mono (by decide)) (by rfl) (alen_cons alen_nil) (da_cons (de_v (pv 13)) da_nil (by rfl)) (by decide) (by rfl) (by rfl)) de_bl)
 (dss_one (ds_ret de_bl))
 dss_nil)) (by intro _; rfl))
 (dss_one (ds_ret (de_and (de_isB (de_callC C_is_reading (hr.mono (by decide)) (by rfl) (alen_cons alen_nil) (da_cons de_non da_nil (by rfl)) (by decide) (by rfl) (by rfl)) de_bl) (de_and (de_isB (de_callC C_is_reading (hr.mono (by decide)) (by rfl) (alen_cons alen_nil) (da_cons de_int da_nil (by rfl)) (by decide) (by rfl) (by rfl)) de_bl) (de_one (de_isB (de_callC C_is_reading (hr.mono (by decide)) (by rfl) (alen_cons alen_nil) (da_cons de_int da_nil (by rfl)) (by decide) (by rfl) (by rfl)) de_bl))))))))))))))))))))))
end
theorem all_mk {l : PySem.W.OpenLaw} {w : World} {K : PySem.W.Frag} {h : Heap} {mg : Str → Option Value} {fa Cx Rx fIx Nx cdx ccx Dx : Addr} {nmx qx : Str} {bsx : List Value} {snx : List Str} {subx : List Value} {abx : Bool} {colx : Option Bool} {ddx : Option Addr} {kx0 kx1 kx2 kx3 kx5 : Option Value} {ocx dcx pmx ctx clx cclx : Value} {odx anx cldx cddx : Option Addr} {slx cslx ccsx : Array (Option Value)} {vsx : Array Value} {filex : Str} {tfx : Tok} {tq_MOST tq_MAX_NAME tq_MAX_SIDE : Tok} (X : K.In h) (G : h.Ns mainGlobals mg) (hfa : mg "law" = some (.ref fa))
 {f0 f1 f2 f3 f4 f5 f6 f7 f8 f9 f10 f11 f12 f13 f14 f15 f16 : Addr} {od0 an0 od1 an1 od2 an2 od3 an3 od4 an4 od5 an5 od6 an6 od7 an7 od8 an8 od9 an9 od10 an10 od11 an11 od12 an12 od13 an13 od14 an14 od15 an15 od16 an16 : Option Addr} {sl0 sl1 sl2 sl3 sl4 sl5 sl6 sl7 sl8 sl9 sl10 sl11 sl12 sl13 sl14 sl15 sl16 : Array (Option Value)} {oc0 kV0 dc0 pm0 cd0 ct0 oc1 kV1 dc1 pm1 cd1 ct1 oc2 kV2 dc2 pm2 cd2 ct2 oc3 kV3 dc3 pm3 cd3 ct3 oc4 kV4 dc4 pm4 cd4 ct4 oc5 kV5 dc5 pm5 cd5 ct5 oc6 kV6 dc6 pm6 cd6 ct6 oc7 kV7 dc7 pm7 cd7 ct7 oc8 kV8 dc8 pm8 cd8 ct8 oc9 kV9 dc9 pm9 cd9 ct9 oc10 kV10 dc10 pm10 cd10 ct10 oc11 kV11 dc11 pm11 cd11 ct11 oc12 kV12 dc12 pm12 cd12 ct12 oc13 kV13 dc13 pm13 cd13 ct13 oc14 kV14 dc14 pm14 cd14 ct14 oc15 kV15 dc15 pm15 cd15 ct15 oc16 kV16 dc16 pm16 cd16 ct16 : Value}
 (a0 : PySem.W.nsIn K mainGlobals "_law_pool" = some (some (.ref f0))) (l0 : K.lookup f0 = some ⟨oc0, od0, .func (PySem.W.fnOf "_law_pool" "_law_pool" (defArgs s__law_pool) (defBody s__law_pool) (defScope s__law_pool) .none kV0 dc0 pm0 an0 cd0 ct0), sl0⟩) (c0 : PySem.W.codeIn K cd0 "_law_pool" = true) (k0 : PySem.W.keepIn K (.ref f0) = true)
 (a1 : PySem.W.nsIn K mainGlobals "_law_wide" = some (some (.ref f1))) (l1 : K.lookup f1 = some ⟨oc1, od1, .func (PySem.W.fnOf "_law_wide" "_law_wide" (defArgs s__law_wide) (defBody s__law_wide) (defScope s__law_wide) .none kV1 dc1 pm1 an1 cd1 ct1), sl1⟩) (c1 : PySem.W.codeIn K cd1 "_law_wide" = true) (k1 : PySem.W.keepIn K (.ref f1) = true)
 (a2 : PySem.W.nsIn K mainGlobals "_law_take" = some (some (.ref f2))) (l2 : K.lookup f2 = some ⟨oc2, od2, .func (PySem.W.fnOf "_law_take" "_law_take" (defArgs s__law_take) (defBody s__law_take) (defScope s__law_take) .none kV2 dc2 pm2 an2 cd2 ct2), sl2⟩) (c2 : PySem.W.codeIn K cd2 "_law_take" = true) (k2 : PySem.W.keepIn K (.ref f2) = true)
 (a3 : PySem.W.nsIn K mainGlobals "_law_name" = some (some (.ref f3))) (l3 : K.lookup f3 = some ⟨oc3, od3, .func (PySem.W.fnOf "_law_name" "_law_name" (defArgs s__law_name) (defBody s__law_name) (defScope s__law_name) .none kV3 dc3 pm3 an3 cd3 ct3), sl3⟩) (c3 : PySem.W.codeIn K cd3 "_law_name" = true) (k3 : PySem.W.keepIn K (.ref f3) = true)
 (a4 : PySem.W.nsIn K mainGlobals "_law_reading" = some (some (.ref f4))) (l4 : K.lookup f4 = some ⟨oc4, od4, .func (PySem.W.fnOf "_law_reading" "_law_reading" (defArgs s__law_reading) (defBody s__law_reading) (defScope s__law_reading) .none kV4 dc4 pm4 an4 cd4 ct4), sl4⟩) (c4 : PySem.W.codeIn K cd4 "_law_reading" = true) (k4 : PySem.W.keepIn K (.ref f4) = true)
 (a5 : PySem.W.nsIn K mainGlobals "_law_rows" = some (some (.ref f5))) (l5 : K.lookup f5 = some ⟨oc5, od5, .func (PySem.W.fnOf "_law_rows" "_law_rows" (defArgs s__law_rows) (defBody s__law_rows) (defScope s__law_rows) .none kV5 dc5 pm5 an5 cd5 ct5), sl5⟩) (c5 : PySem.W.codeIn K cd5 "_law_rows" = true) (k5 : PySem.W.keepIn K (.ref f5) = true)
 (a6 : PySem.W.nsIn K mainGlobals "is_whole" = some (some (.ref f6))) (l6 : K.lookup f6 = some ⟨oc6, od6, .func (PySem.W.fnOf "is_whole" "is_whole" (defArgs s_is_whole) (defBody s_is_whole) (defScope s_is_whole) .none kV6 dc6 pm6 an6 cd6 ct6), sl6⟩) (c6 : PySem.W.codeIn K cd6 "is_whole" = true) (k6 : PySem.W.keepIn K (.ref f6) = true)
 (a7 : PySem.W.nsIn K mainGlobals "is_reading" = some (some (.ref f7))) (l7 : K.lookup f7 = some ⟨oc7, od7, .func (PySem.W.fnOf "is_reading" "is_reading" (defArgs s_is_reading) (defBody s_is_reading) (defScope s_is_reading) .none kV7 dc7 pm7 an7 cd7 ct7), sl7⟩) (c7 : PySem.W.codeIn K cd7 "is_reading" = true) (k7 : PySem.W.keepIn K (.ref f7) = true)
 (a8 : PySem.W.nsIn K mainGlobals "lighter" = some (some (.ref f8))) (l8 : K.lookup f8 = some ⟨oc8, od8, .func (PySem.W.fnOf "lighter" "lighter" (defArgs s_lighter) (defBody s_lighter) (defScope s_lighter) .none kV8 dc8 pm8 an8 cd8 ct8), sl8⟩) (c8 : PySem.W.codeIn K cd8 "lighter" = true) (k8 : PySem.W.keepIn K (.ref f8) = true)
 (a9 : PySem.W.nsIn K mainGlobals "moved_light" = some (some (.ref f9))) (l9 : K.lookup f9 = some ⟨oc9, od9, .func (PySem.W.fnOf "moved_light" "moved_light" (defArgs s_moved_light) (defBody s_moved_light) (defScope s_moved_light) .none kV9 dc9 pm9 an9 cd9 ct9), sl9⟩) (c9 : PySem.W.codeIn K cd9 "moved_light" = true) (k9 : PySem.W.keepIn K (.ref f9) = true)
 (a10 : PySem.W.nsIn K mainGlobals "_law_lighter" = some (some (.ref f10))) (l10 : K.lookup f10 = some ⟨oc10, od10, .func (PySem.W.fnOf "_law_lighter" "_law_lighter" (defArgs s__law_lighter) (defBody s__law_lighter) (defScope s__law_lighter) .none kV10 dc10 pm10 an10 cd10 ct10), sl10⟩) (c10 : PySem.W.codeIn K cd10 "_law_lighter" = true) (k10 : PySem.W.keepIn K (.ref f10) = true)
 (a11 : PySem.W.nsIn K mainGlobals "is_name" = some (some (.ref f11))) (l11 : K.lookup f11 = some ⟨oc11, od11, .func (PySem.W.fnOf "is_name" "is_name" (defArgs s_is_name) (defBody s_is_name) (defScope s_is_name) .none kV11 dc11 pm11 an11 cd11 ct11), sl11⟩) (c11 : PySem.W.codeIn K cd11 "is_name" = true) (k11 : PySem.W.keepIn K (.ref f11) = true)
 (a12 : PySem.W.nsIn K mainGlobals "is_view" = some (some (.ref f12))) (l12 : K.lookup f12 = some ⟨oc12, od12, .func (PySem.W.fnOf "is_view" "is_view" (defArgs s_is_view) (defBody s_is_view) (defScope s_is_view) .none kV12 dc12 pm12 an12 cd12 ct12), sl12⟩) (c12 : PySem.W.codeIn K cd12 "is_view" = true) (k12 : PySem.W.keepIn K (.ref f12) = true)
 (a13 : PySem.W.nsIn K mainGlobals "size" = some (some (.ref f13))) (l13 : K.lookup f13 = some ⟨oc13, od13, .func (PySem.W.fnOf "size" "size" (defArgs s_size) (defBody s_size) (defScope s_size) .none kV13 dc13 pm13 an13 cd13 ct13), sl13⟩) (c13 : PySem.W.codeIn K cd13 "size" = true) (k13 : PySem.W.keepIn K (.ref f13) = true)
 (a14 : PySem.W.nsIn K mainGlobals "readings" = some (some (.ref f14))) (l14 : K.lookup f14 = some ⟨oc14, od14, .func (PySem.W.fnOf "readings" "readings" (defArgs s_readings) (defBody s_readings) (defScope s_readings) .none kV14 dc14 pm14 an14 cd14 ct14), sl14⟩) (c14 : PySem.W.codeIn K cd14 "readings" = true) (k14 : PySem.W.keepIn K (.ref f14) = true)
 (a15 : PySem.W.nsIn K mainGlobals "_law_spoilt" = some (some (.ref f15))) (l15 : K.lookup f15 = some ⟨oc15, od15, .func (PySem.W.fnOf "_law_spoilt" "_law_spoilt" (defArgs s__law_spoilt) (defBody s__law_spoilt) (defScope s__law_spoilt) .none kV15 dc15 pm15 an15 cd15 ct15), sl15⟩) (c15 : PySem.W.codeIn K cd15 "_law_spoilt" = true) (k15 : PySem.W.keepIn K (.ref f15) = true)
 (a16 : PySem.W.nsIn K mainGlobals "law" = some (some (.ref f16))) (l16 : K.lookup f16 = some ⟨oc16, od16, .func (PySem.W.fnOf "law" "law" (defArgs s_law) (defBody s_law) (defScope s_law) .none kV16 dc16 pm16 an16 cd16 ct16), sl16⟩) (c16 : PySem.W.codeIn K cd16 "law" = true) (k16 : PySem.W.keepIn K (.ref f16) = true)
 (x_gC : PySem.W.nsIn K mainGlobals "Misused" = some (some (.ref Cx))) (x_cl : K.lookup Cx = some (excClassObj nmx qx Cx Nx bsx (.ref Rx :: [.type "ValueError", .type "Exception", .type "BaseException", .type "object"]) true snx subx abx colx ddx kx0 kx1 kx2 kx3 kx5 "ValueError.__new__")) (x_sa : PySem.W.findIn K (.ref Cx) "__setattr__" = some (some (.builtin "object.__setattr__"))) (x_ga : PySem.W.findIn K (.ref Cx) "__getattribute__" = some (some (.builtin "BaseException.__getattribute__"))) (x_gg : PySem.W.findIn K (.ref Cx) "__getattr__" = some none) (x_no : PySem.W.findIn K (.ref Cx) "why" = some none) (x_iC : PySem.W.findIn K (.ref Cx) "__init__" = some (some (.ref fIx))) (x_tC : PySem.W.typeIn K (.ref fIx) = some (.type "function")) (x_kC : PySem.W.keepIn K (.ref Cx) = true) (x_eC : PySem.W.subIn K (.ref Cx) (.type "BaseException") = some true) (x_ty : PySem.W.typeIn K (.ref Cx) = some (.type "type")) (x_hd : PySem.W.hasDictIn K Cx = true) (x_is : PySem.W.isClsIn K Cx = true) (x_sC : PySem.W.subIn K (.ref Cx) (.ref Cx) = some true) (x_su : PySem.W.ks_superIn K Cx Cx "__init__" = some (some (.builtin "ValueError.__init__"))) (x_sB : PySem.W.subIn K (.ref Cx) (.type "ValueError") = some true) (x_mC : PySem.W.mroIn K Cx (.ref Cx) = some true) (x_ei : PySem.W.excInitIn K Cx Mis.veMro "ValueError.__new__" = true) (x_an : PySem.W.nsIn K cStatics "thirdparty.any" = some none) (x_gS : PySem.W.nsIn K mainGlobals "super" = some none) (x_gT : PySem.W.nsIn K mainGlobals "str" = some none) (x_tp : (l.prog.main.scope.names.lookup ("super" : Str)).isSome = false) (x_fn : K.lookup fIx = some ⟨ocx, odx, .func (PySem.W.ksFn "__init__" "Misused.__init__" Mis.iA Mis.iB Mis.iS .none .none dcx pmx anx (.ref cdx) ctx ccx), slx⟩) (x_cd : PySem.W.codeIn K (.ref cdx) "Misused.__init__" = true) (x_ce : K.lookup ccx = some ⟨clx, cldx, .cell (some (.ref Cx)), cslx⟩) (x_co : K.lookup cdx = some ⟨cclx, cddx, .fields vsx, ccsx⟩) (x_vs : vsx[2]? = some (.str filex tfx)) (x_fl : ((l.prog.main.file : Str) == filex) = true) (x_cc : PySem.W.findIn K (.ref Cx) "__class__" = some (some (.builtin "object.__class__"))) (x_sn : PySem.W.specialIn K (.builtin "object.__class__") "__get__" = some (some (.builtin "getset_descriptor.__get__"))) (x_tk : PySem.W.takesIn K (.builtin "object.__class__") = some true) (x_mo : PySem.W.mroIn K Cx (.type "object") = some true) (x_gD : PySem.W.nsIn K mainGlobals "Clashing" = some (some (.ref Dx))) (x_ki : PySem.W.kitOne K (.ref Cx) (.ref Dx) = some false)
 (z_abs : PySem.W.nsIn K mainGlobals "abs" = some none) (z_all : PySem.W.nsIn K mainGlobals "all" = some none) (z_bool : PySem.W.nsIn K mainGlobals "bool" = some none) (z_int : PySem.W.nsIn K mainGlobals "int" = some none) (z_isinstance : PySem.W.nsIn K mainGlobals "isinstance" = some none) (z_len : PySem.W.nsIn K mainGlobals "len" = some none) (z_list : PySem.W.nsIn K mainGlobals "list" = some none) (z_range : PySem.W.nsIn K mainGlobals "range" = some none) (z_str : PySem.W.nsIn K mainGlobals "str" = some none) (z_tuple : PySem.W.nsIn K mainGlobals "tuple" = some none) (q_MOST : PySem.W.nsIn K mainGlobals "MOST" = some (some (.int 999 tq_MOST))) (q_MAX_NAME : PySem.W.nsIn K mainGlobals "MAX_NAME" = some (some (.int 8 tq_MAX_NAME))) (q_MAX_SIDE : PySem.W.nsIn K mainGlobals "MAX_SIDE" = some (some (.int 12 tq_MAX_SIDE))) :
 ∃ fd : FuncData, (∀ (s : Shared) (v : Value), BindsTo s fd ⟨[v], []⟩ [("_law_script", v)]) ∧ ∀ base : Heap, K.In base → base.Ns mainGlobals mg → FnOk l.prog w K mg base CX0 6 fa fd ["_law_script"] (spM Wn K 1 false m_law) := by
  have e := hfa.symm.trans (PySem.W.mg_of X G a16)
  cases e
  have T : Bi mg := ⟨⟨_, PySem.W.mg_of X G q_MOST⟩, ⟨_, PySem.W.mg_of X G q_MAX_NAME⟩, ⟨_, PySem.W.mg_of X G q_MAX_SIDE⟩, PySem.W.mg_none_of X G z_abs, PySem.W.mg_none_of X G z_all, PySem.W.mg_none_of X G z_bool, PySem.W.mg_none_of X G z_int, PySem.W.mg_none_of X G z_isinstance, PySem.W.mg_none_of X G z_len, PySem.W.mg_none_of X G z_list, PySem.W.mg_none_of X G z_range, PySem.W.mg_none_of X G z_str, PySem.W.mg_none_of X G z_tuple⟩
  have TM : Mis.Txt l.prog K mg Cx fIx := { gC := PySem.W.mg_of X G x_gC, cls := ⟨nmx, qx, Nx, bsx, _, snx, subx, abx, colx, ddx, kx0, kx1, kx2, kx3, kx5, x_cl, rfl⟩, sa := x_sa, ga := x_ga, gg := x_gg, noN := x_no, iC := x_iC, tC := x_tC, kC := x_kC, exC := x_eC, tyC := x_ty, hdC := x_hd, te := exm_own x_eC x_is x_ty x_sC, sup := x_su, sB := x_sB, mC := x_mC, ei := x_ei, any := x_an, gS := PySem.W.mg_none_of X G x_gS, gT := PySem.W.mg_none_of X G x_gT, top := x_tp, fn := ⟨_, _, _, _, _, _, _, _, _, x_fn, x_cd, ⟨_, _, _, x_ce⟩, _, _, _, _, _, _, x_co, x_vs, x_fl⟩ }
  have TI : MisI K mg Cx := ⟨x_is, x_cc, x_sn, x_tk, x_mo, _, PySem.W.mg_of X G x_gD, x_ki⟩
  have F0 := fun_mk (st := s__law_pool) l0 c0 k0
  have b0 := F0.binds (ps := ["_law_script"]) fun _ _ _ _ _ _ us hl => match us, hl with | [_], _ => rfl
  have F1 := fun_mk (st := s__law_wide) l1 c1 k1
  have b1 := F1.binds (ps := ["_law_script", "_law_k"]) fun _ _ _ _ _ _ us hl => match us, hl with | [_, _], _ => rfl
  have F2 := fun_mk (st := s__law_take) l2 c2 k2
  have b2 := F2.binds (ps := ["_law_pool_here", "_law_most"]) fun _ _ _ _ _ _ us hl => match us, hl with | [_, _], _ => rfl
  have F3 := fun_mk (st := s__law_name) l3 c3 k3
  have b3 := F3.binds (ps := ["_law_pool_here"]) fun _ _ _ _ _ _ us hl => match us, hl with | [_], _ => rfl
  have F4 := fun_mk (st := s__law_reading) l4 c4 k4
  have b4 := F4.binds (ps := ["_law_pool_here"]) fun _ _ _ _ _ _ us hl => match us, hl with | [_], _ => rfl
  have F5 := fun_mk (st := s__law_rows) l5 c5 k5
  have b5 := F5.binds (ps := ["_law_pool_here", "_law_most"]) fun _ _ _ _ _ _ us hl => match us, hl with | [_, _], _ => rfl
  have F6 := fun_mk (st := s_is_whole) l6 c6 k6
  have b6 := F6.binds (ps := ["value"]) fun _ _ _ _ _ _ us hl => match us, hl with | [_], _ => rfl
  have F7 := fun_mk (st := s_is_reading) l7 c7 k7
  have b7 := F7.binds (ps := ["value"]) fun _ _ _ _ _ _ us hl => match us, hl with | [_], _ => rfl
  have F8 := fun_mk (st := s_lighter) l8 c8 k8
  have b8 := F8.binds (ps := ["reading", "light"]) fun _ _ _ _ _ _ us hl => match us, hl with | [_, _], _ => rfl
  have F9 := fun_mk (st := s_moved_light) l9 c9 k9
  have b9 := F9.binds (ps := ["view", "light"]) fun _ _ _ _ _ _ us hl => match us, hl with | [_, _], _ => rfl
  have F10 := fun_mk (st := s__law_lighter) l10 c10 k10
  have b10 := F10.binds (ps := ["_law_view", "_law_light"]) fun _ _ _ _ _ _ us hl => match us, hl with | [_, _], _ => rfl
  have F11 := fun_mk (st := s_is_name) l11 c11 k11
  have b11 := F11.binds (ps := ["value"]) fun _ _ _ _ _ _ us hl => match us, hl with | [_], _ => rfl
  have F12 := fun_mk (st := s_is_view) l12 c12 k12
  have b12 := F12.binds (ps := ["value"]) fun _ _ _ _ _ _ us hl => match us, hl with | [_], _ => rfl
  have F13 := fun_mk (st := s_size) l13 c13 k13
  have b13 := F13.binds (ps := ["view"]) fun _ _ _ _ _ _ us hl => match us, hl with | [_], _ => rfl
  have F14 := fun_mk (st := s_readings) l14 c14 k14
  have b14 := F14.binds (ps := ["view"]) fun _ _ _ _ _ _ us hl => match us, hl with | [_], _ => rfl
  have F15 := fun_mk (st := s__law_spoilt) l15 c15 k15
  have b15 := F15.binds (ps := ["_law_pool_here", "_law_name_here", "_law_rows_here"]) fun _ _ _ _ _ _ us hl => match us, hl with | [_, _, _], _ => rfl
  have F16 := fun_mk (st := s_law) l16 c16 k16
  refine ⟨PySem.W.fnOf "law" "law" (defArgs s_law) (defBody s_law) (defScope s_law) .none kV16 dc16 pm16 an16 cd16 ct16, fun s v => .of_eq rfl, fun base _ _ => ?_⟩
  have C__law_pool : CalM l.prog w K mg base 1 "_law_pool" 1 true m__law_pool := ⟨_, _, _, ok__law_pool F0 T , PySem.W.mg_of X G a0, k0, b0⟩
  have C__law_wide : CalM l.prog w K mg base 1 "_law_wide" 2 false m__law_wide := ⟨_, _, _, ok__law_wide F1 T , PySem.W.mg_of X G a1, k1, b1⟩
  have C__law_take : CalM l.prog w K mg base 2 "_law_take" 2 false m__law_take := ⟨_, _, _, ok__law_take F2 T C__law_wide, PySem.W.mg_of X G a2, k2, b2⟩
  have C__law_name : CalM l.prog w K mg base 3 "_law_name" 1 false m__law_name := ⟨_, _, _, ok__law_name F3 T C__law_take, PySem.W.mg_of X G a3, k3, b3⟩
  have C__law_reading : CalM l.prog w K mg base 3 "_law_reading" 1 false m__law_reading := ⟨_, _, _, ok__law_reading F4 T C__law_take, PySem.W.mg_of X G a4, k4, b4⟩
  have C__law_rows : CalM l.prog w K mg base 4 "_law_rows" 2 false m__law_rows := ⟨_, _, _, ok__law_rows F5 T C__law_take C__law_reading, PySem.W.mg_of X G a5, k5, b5⟩
  have C_is_whole : CalM l.prog w K mg base 1 "is_whole" 1 false m_is_whole := ⟨_, _, _, ok_is_whole F6 T , PySem.W.mg_of X G a6, k6, b6⟩
  have C_is_reading : CalM l.prog w K mg base 2 "is_reading" 1 false m_is_reading := ⟨_, _, _, ok_is_reading F7 T C_is_whole, PySem.W.mg_of X G a7, k7, b7⟩
  have C_lighter : CalX l.prog w K mg base Cx 3 "lighter" 2 false m_lighter := ⟨_, _, _, ok_lighter F8 T TM C_is_reading, PySem.W.mg_of X G a8, k8, b8⟩
  have C_moved_light : CalX l.prog w K mg base Cx 4 "moved_light" 2 false m_moved_light := ⟨_, _, _, ok_moved_light F9 T TM C_lighter, PySem.W.mg_of X G a9, k9, b9⟩
  have C__law_lighter : CalM l.prog w K mg base 5 "_law_lighter" 2 false m__law_lighter := ⟨_, _, _, ok__law_lighter F10 T TM TI C_moved_light, PySem.W.mg_of X G a10, k10, b10⟩
  have C_is_name : CalM l.prog w K mg base 1 "is_name" 1 false m_is_name := ⟨_, _, _, ok_is_name F11 T , PySem.W.mg_of X G a11, k11, b11⟩
  have C_is_view : CalM l.prog w K mg base 3 "is_view" 1 false m_is_view := ⟨_, _, _, ok_is_view F12 T C_is_name C_is_reading, PySem.W.mg_of X G a12, k12, b12⟩
  have C_size : CalM l.prog w K mg base 1 "size" 1 false m_size := ⟨_, _, _, ok_size F13 T , PySem.W.mg_of X G a13, k13, b13⟩
  have C_readings : CalM l.prog w K mg base 1 "readings" 1 false m_readings := ⟨_, _, _, ok_readings F14 T , PySem.W.mg_of X G a14, k14, b14⟩
  have C__law_spoilt : CalM l.prog w K mg base 3 "_law_spoilt" 3 false m__law_spoilt := ⟨_, _, _, ok__law_spoilt F15 T C__law_take, PySem.W.mg_of X G a15, k15, b15⟩
  exact ok_law F16 T C__law_pool C__law_name C__law_rows C_is_view C_is_name C_size C_readings C__law_spoilt C__law_take C__law_lighter C_is_reading
end M
set_option Elab.async false
set_option linter.all false
set_option maxRecDepth 100000
namespace M
open PySem L2
theorem dEq_int (a b : Int) : dEq (.int a) (.int b) = some (.bl (decide (a = b))) := by
  have h : ∀ i : Int, shp (.int i) = true := fun i => by unfold shp toPy; rfl
  unfold dEq
  rw [if_pos ⟨h a, h b⟩]
  unfold toPy PyData.eqv
  by_cases c : a = b
  · subst c; simp
  · simp [c]
theorem dNe_int (a b : Int) : dNe (.int a) (.int b) = some (.bl (!decide (a = b))) := by
  have h : ∀ i : Int, shp (.int i) = true := fun i => by unfold shp toPy; rfl
  unfold dNe
  rw [if_pos ⟨h a, h b⟩]
  unfold toPy PyData.eqv
  by_cases c : a = b
  · subst c; simp
  · simp [c]
theorem forM_inv {T : D → Mo Unit} {S : Mo Out} (Inv : Nat → Env → Prop) : ∀ (ds : List D) (k : Nat) (δ : Env), Inv k δ →
    (∀ i d δ, ds[i]? = some d → Inv (k + i) δ → ∃ δ1 δ2, T d δ = some (.ok (), δ1) ∧ (S δ1 = some (.ok .nx, δ2) ∨ S δ1 = some (.ok .ct, δ2)) ∧ Inv (k + i + 1) δ2) →
    ∃ δ', forM T S ds δ = some (.ok .nx, δ') ∧ Inv (k + ds.length) δ'
  | [], k, δ, h, _ => ⟨δ, rfl, h⟩
  | d :: ds, k, δ, h, st => by
    obtain ⟨δ1, δ2, h1, h2, h3⟩ := st 0 d δ rfl h
    obtain ⟨δ', h4, h5⟩ := forM_inv Inv ds (k + 1) δ2 (by simpa using h3) fun i d δ hd hi => by
      have := st (i + 1) d δ (by simpa using hd) (by rw [show k + (i + 1) = k + 1 + i by omega]; exact hi)
      rw [show k + (i + 1) = k + 1 + i by omega] at this
      exact this
    refine ⟨δ', ?_, by rw [List.length_cons, show k + (ds.length + 1) = k + 1 + ds.length by omega]; exact h5⟩
    unfold forM
    rw [bind_ok h1]
    rcases h2 with h2 | h2
    · simp only [h2]; exact h4
    · simp only [h2]; exact h4
theorem sFor_inv {I : Mo (List D)} {T : D → Mo Unit} {S : Mo Out} {ds : List D} {δ δ0 : Env} (Inv : Nat → Env → Prop) (hi : I δ = some (.ok ds, δ0)) (h0 : Inv 0 δ0)
    (st : ∀ i d δ, ds[i]? = some d → Inv i δ → ∃ δ1 δ2, T d δ = some (.ok (), δ1) ∧ (S δ1 = some (.ok .nx, δ2) ∨ S δ1 = some (.ok .ct, δ2)) ∧ Inv (i + 1) δ2) :
    ∃ δ', sFor I T S δ = some (.ok .nx, δ') ∧ Inv ds.length δ' := by
  obtain ⟨δ', h1, h2⟩ := forM_inv Inv ds 0 δ0 h0 fun i d δ hd h => by rw [Nat.zero_add] at h ⊢; exact st i d δ hd h
  rw [Nat.zero_add] at h2
  exact ⟨δ', by unfold sFor; rw [bind_ok hi]; exact h1, h2⟩
theorem sSeq_ok {a b : Mo Out} {δ δ1 : Env} (h : a δ = some (.ok .nx, δ1)) : sSeq a b δ = b δ1 := by unfold sSeq; rw [h]
end M
set_option Elab.async false
set_option linter.all false
set_option maxRecDepth 100000
namespace M
open PySem L2
abbrev Re (α : Type) := Option (Except Exn α × Env)
def bk {α β : Type} (k : α → Mo β) : Re α → Re β
  | none => none
  | some (.error x, δ) => some (.error x, δ)
  | some (.ok a, δ) => k a δ
def sk (k : Mo Out) : Re Out → Re Out
  | some (.ok .nx, δ) => k δ
  | r => r
def fk (n : Nat) : Re Out → Re D
  | some (.ok (.rt d), δ') => some (.ok d, ios n δ')
  | some (.ok (.rtO d), δ') => some (.ok d, ios n δ')
  | some (.ok .nx, δ') => some (.ok .non, ios n δ')
  | some (.error x, δ') => some (.error x, ios n δ')
  | _ => none
def lk {α : Type} (o : Option α) (δ : Env) : Re α := match o with
  | none => none
  | some a => some (.ok a, δ)
def vk (i : Nat) (δ : Env) : Option Sl → Re D
  | some (.imm d) => some (.ok d, δ)
  | some (.own d) => some (.ok d, δ.set i (.imm d))
  | some (.bor d) => if flatD d then some (.ok d, δ) else none
  | _ => none
def gk (i : Nat) (δ : Env) : Option Sl → Re D
  | some (.own d) => some (.ok d, δ.set i .no)
  | _ => none
section
variable {α β : Type} {a b : Mo D} {A B : Mo D} {δ : Env} {d : D} {i : Nat} {p q : Prop} [Decidable p]
theorem x_bind {m : Mo α} {k : α → Mo β} : Mo.bind m k δ = bk k (m δ) := by
  unfold Mo.bind bk
  cases m δ with
  | none => rfl
  | some z => obtain ⟨x, δ'⟩ := z; cases x <;> rfl
theorem bk_ok {k : α → Mo β} {a : α} : bk k (some (.ok a, δ)) = k a δ := rfl
theorem bk_ite {k : α → Mo β} {x y : Re α} : bk k (if p then x else y) = if p then bk k x else bk k y := by split <;> rfl
theorem x_ret {a : α} : Mo.ret a δ = some (.ok a, δ) := rfl
theorem x_lift {o : Option α} : Mo.lift o δ = lk o δ := by unfold Mo.lift lk; cases o <;> rfl
theorem lk_some {a : α} : lk (some a) δ = some (.ok a, δ) := rfl
theorem lk_ite {x y : Option α} : lk (if p then x else y) δ = if p then lk x δ else lk y δ := by split <;> rfl
theorem app_ite {x y : Mo α} : (if p then x else y) δ = if p then x δ else y δ := by split <;> rfl
theorem x_eC : eC d δ = some (.ok d, δ) := rfl
theorem x_eV : eV i δ = vk i δ δ[i]? := by unfold eV vk; split <;> simp_all
theorem vk_imm : vk i δ (some (.imm d)) = some (.ok d, δ) := rfl
theorem vk_own : vk i δ (some (.own d)) = some (.ok d, δ.set i (.imm d)) := rfl
theorem vk_bor : vk i δ (some (.bor d)) = if flatD d then some (.ok d, δ) else none := rfl
theorem x_give : eGive i δ = gk i δ δ[i]? := by unfold eGive gk; split <;> simp_all
theorem gk_own : gk i δ (some (.own d)) = some (.ok d, δ.set i .no) := rfl
theorem x_bin {f : D → D → Option D} : eBin f A B δ = bk (fun x => B.bind fun y => Mo.lift (f x y)) (A δ) := x_bind
theorem x_un {f : D → Option D} : eUn f A δ = bk (fun x => Mo.lift (f x)) (A δ) := x_bind
theorem x_ix : eIx A B δ = bk (fun x => B.bind fun y => Mo.lift (dIx x y)) (A δ) := x_bind
theorem x_tru : eTru A δ = bk (fun d => Mo.lift (dTru d)) (A δ) := x_bind
theorem x_eB : eB A δ = bk (fun d => Mo.lift (dBl d)) (A δ) := x_bind
theorem dBl_bl {b : Bool} : dBl (.bl b) = some b := rfl
theorem dTru_bl {b : Bool} : dTru (.bl b) = some b := rfl
theorem dTru_int {j : Int} : dTru (.int j) = some (j != 0) := rfl
theorem dTru_lst {l : List D} : dTru (.lst l) = some (!l.isEmpty) := rfl
theorem x_and {S T : Mo Bool} : tAndM S T δ = bk (fun a => if a = true then T else Mo.ret false) (S δ) := x_bind
theorem x_or {S T : Mo Bool} : tOrM S T δ = bk (fun a => if a = true then Mo.ret true else T) (S δ) := x_bind
theorem x_not {S : Mo Bool} : tNotM S δ = bk (fun a => Mo.ret (!a)) (S δ) := x_bind
theorem x_eAnd : eAnd A B δ = bk (fun x => (Mo.lift (dBl x)).bind fun b => if b = true then B else Mo.ret (.bl false)) (A δ) := x_bind
theorem x_eOr : eOr A B δ = bk (fun x => (Mo.lift (dBl x)).bind fun b => if b = true then Mo.ret (.bl true) else B) (A δ) := x_bind
theorem x_eNot : eNot A δ = bk (fun x => (Mo.lift (dBl x)).bind fun b => Mo.ret (.bl (!b))) (A δ) := x_bind
theorem x_eIf {T : Mo Bool} : eIf T A B δ = bk (fun b => if b = true then A else B) (T δ) := x_bind
theorem x_chain {f g : D → D → Option D} {C : Mo D} : eChain f g A B C δ = bk (fun x => B.bind fun y => (Mo.lift ((f x y).bind dBl)).bind fun k => if k = true then C.bind fun z => Mo.lift (g y z) else Mo.ret (.bl false)) (A δ) := x_bind
theorem x_aNil : aNil δ = some (.ok [], δ) := rfl
theorem x_aCons {E : Mo D} {R : Mo (List Ag)} : aCons E R δ = bk (fun d => R.bind fun as => Mo.ret (.im d :: as)) (E δ) := x_bind
def rk (i : Nat) (R : Mo (List Ag)) (δ : Env) : Option Sl → Re (List Ag)
  | some (.own _) => (R.bind fun as => Mo.ret (.vr i :: as)) δ
  | some (.io _) => (R.bind fun as => Mo.ret (.vr i :: as)) δ
  | _ => none
theorem x_aVr {R : Mo (List Ag)} : aVr i R δ = rk i R δ δ[i]? := by unfold aVr rk; split <;> simp_all
theorem rk_own {R : Mo (List Ag)} : rk i R δ (some (.own d)) = (R.bind fun as => Mo.ret (.vr i :: as)) δ := rfl
theorem rk_io {R : Mo (List Ag)} : rk i R δ (some (.io d)) = (R.bind fun as => Mo.ret (.vr i :: as)) δ := rfl
def tk (i : Nat) (R : Mo (List Ag)) (δ : Env) : Option Sl → Re (List Ag)
  | some .no => none
  | some _ => (R.bind fun as => Mo.ret (.vb i :: as)) δ
  | none => none
theorem x_aVb {R : Mo (List Ag)} : aVb i R δ = tk i R δ δ[i]? := by
  unfold aVb tk
  cases h : δ[i]? with
  | none => rfl
  | some s => cases s <;> rfl
theorem tk_own {R : Mo (List Ag)} : tk i R δ (some (.own d)) = (R.bind fun as => Mo.ret (.vb i :: as)) δ := rfl
theorem tk_io {R : Mo (List Ag)} : tk i R δ (some (.io d)) = (R.bind fun as => Mo.ret (.vb i :: as)) δ := rfl
theorem tk_imm {R : Mo (List Ag)} : tk i R δ (some (.imm d)) = (R.bind fun as => Mo.ret (.vb i :: as)) δ := rfl
theorem tk_bor {R : Mo (List Ag)} : tk i R δ (some (.bor d)) = (R.bind fun as => Mo.ret (.vb i :: as)) δ := rfl
theorem x_eTup {R : Mo (List Ag)} : eTup R δ = bk (fun as => Mo.lift ((imms as).bind fun ds => if ds.length ≤ 1000 then some (.tup ds) else none)) (R δ) := x_bind
theorem x_eLst {R : Mo (List Ag)} : eLst R δ = bk (fun as => Mo.lift ((imms as).bind fun ds => if ds.length ≤ 1000 then some (.lst ds) else none)) (R δ) := x_bind
theorem imms_nil : imms [] = some [] := rfl
theorem imms_im {as : List Ag} : imms (.im d :: as) = (imms as).map (d :: ·) := rfl
theorem x_eF {f : List D → Option D} {R : Mo (List Ag)} : eF f R δ = bk (fun as => Mo.lift ((imms as).bind f)) (R δ) := x_bind
theorem x_call {m : Mo D} {R : Mo (List Ag)} : eCall m R δ = bk (fun as => callM m as) (R δ) := x_bind
/-- x[e], the slot's kind apart -/
def ik (d : D) (B : Mo D) (bor : Bool) (δ : Env) : Re D := bk (fun y => fun δ' => match dIx d y with
  | some z => if bor = true then (if flatD z = true then some (.ok z, δ') else none) else some (.ok z, δ')
  | none => none) (B δ)
theorem ixV_of {s : Sl} (hs : δ[i]? = some s) (hd : slD s = some d) (hB : ∀ y δ', B δ = some (y, δ') → δ'[i]? = some s) : eIxV i B δ = ik d B (isBor s) δ := by
  have h1 : slotDct δ i = some (isDct d) := by unfold slotDct; rw [hs]; simp [hd]
  unfold eIxV ik
  rw [h1]
  simp only []
  rw [x_bind]
  cases q : B δ with
  | none => rfl
  | some z =>
    obtain ⟨y, δ'⟩ := z
    cases y with
    | error _ => rfl
    | ok y =>
      have h2 := hB _ _ q
      show ixSl i (isDct d) y δ' = _
      unfold ixSl
      rw [h2]
      cases s with
      | no => cases hd
      | imm d' => cases hd; simp only [if_true, x_lift, bk, isBor] <;> cases dIx d y <;> rfl
      | own d' => cases hd; simp only [if_true, x_lift, bk, isBor] <;> cases dIx d y <;> rfl
      | io d' => cases hd; simp only [if_true, x_lift, bk, isBor] <;> cases dIx d y <;> rfl
      | bor d' => cases hd; simp only [if_true, bk, isBor] <;> cases dIx d y <;> rfl
def jk (i : Nat) (B : Mo D) (δ : Env) : Option Sl → Re D
  | some s => match slD s with
    | some d => ik d B (isBor s) δ
    | none => none
  | none => none
theorem ixV_V {j : Nat} (hne : i ≠ j) : eIxV i (eV j) δ = jk i (eV j) δ δ[i]? := by
  cases h : δ[i]? with
  | none => unfold eIxV slotDct jk; rw [h]
  | some s =>
    cases h2 : slD s with
    | none => unfold eIxV slotDct jk; rw [h]; simp [h2]
    | some d =>
      rw [ixV_of h h2 fun y δ' q => ?_]
      · unfold jk; simp [h2]
      · rw [x_eV] at q
        unfold vk at q
        split at q
        · cases q; exact h
        · cases q; rw [List.getElem?_set_ne hne.symm]; exact h
        · split at q
          · cases q; exact h
          · cases q
        · cases q
theorem ixV_C {c : D} : eIxV i (eC c) δ = jk i (eC c) δ δ[i]? := by
  cases h : δ[i]? with
  | none => unfold eIxV slotDct jk; rw [h]
  | some s =>
    cases h2 : slD s with
    | none => unfold eIxV slotDct jk; rw [h]; simp [h2]
    | some d =>
      rw [ixV_of h h2 fun y δ' q => by cases q; exact h]
      unfold jk; simp [h2]
theorem jk_imm : jk i B δ (some (.imm d)) = bk (fun y => Mo.lift (dIx d y)) (B δ) := by
  show ik d B false δ = _
  unfold ik
  congr 1; funext y δ'; rw [x_lift]; unfold lk; cases dIx d y <;> rfl
theorem jk_own : jk i B δ (some (.own d)) = bk (fun y => Mo.lift (dIx d y)) (B δ) := jk_imm (i := i)
theorem jk_io : jk i B δ (some (.io d)) = bk (fun y => Mo.lift (dIx d y)) (B δ) := jk_imm (i := i)
def flk (o : Option D) : Option D := match o with
  | some z => if flatD z = true then some z else none
  | none => none
theorem jk_bor : jk i B δ (some (.bor d)) = bk (fun y => Mo.lift (flk (dIx d y))) (B δ) := by
  show ik d B true δ = _
  unfold ik
  congr 1; funext y δ'; rw [x_lift]; unfold lk flk
  cases h : dIx d y with
  | none => rfl
  | some z =>
    simp only [if_true]
    by_cases c : flatD z = true <;> simp [c]
theorem flk_int {j : Int} : flk (some (.int j)) = some (.int j) := rfl
def nk (δ : Env) : Option Sl → Re D
  | some s => (slD s).bind dLen |>.map fun d => (.ok d, δ)
  | none => none
theorem x_lenV : eLenV i δ = nk δ δ[i]? := by unfold eLenV nk; split <;> simp_all
theorem nk_imm : nk δ (some (.imm d)) = (dLen d).map fun d => (.ok d, δ) := rfl
theorem nk_own : nk δ (some (.own d)) = (dLen d).map fun d => (.ok d, δ) := rfl
theorem nk_io : nk δ (some (.io d)) = (dLen d).map fun d => (.ok d, δ) := rfl
theorem nk_bor : nk δ (some (.bor d)) = (dLen d).map fun d => (.ok d, δ) := rfl
def hk (neg : Bool) (x : D) (δ : Env) : Option Sl → Re D
  | some s => ((slD s).bind fun c => dIn neg x c).map fun d => (.ok d, δ)
  | none => none
theorem x_inV {neg : Bool} : eInV neg A i δ = bk (fun x δ => hk neg x δ δ[i]?) (A δ) := by
  unfold eInV; rw [x_bind]; congr 1
theorem hk_imm {neg : Bool} {x : D} : hk neg x δ (some (.imm d)) = (dIn neg x d).map fun d => (.ok d, δ) := rfl
theorem hk_own {neg : Bool} {x : D} : hk neg x δ (some (.own d)) = (dIn neg x d).map fun d => (.ok d, δ) := rfl
theorem hk_io {neg : Bool} {x : D} : hk neg x δ (some (.io d)) = (dIn neg x d).map fun d => (.ok d, δ) := rfl
theorem hk_bor {neg : Bool} {x : D} : hk neg x δ (some (.bor d)) = (dIn neg x d).map fun d => (.ok d, δ) := rfl
theorem x_sNx : sNx δ = some (.ok .nx, δ) := rfl
theorem x_pass : sPass δ = some (.ok .nx, δ) := rfl
theorem x_cont : sCont δ = some (.ok .ct, δ) := rfl
theorem x_brk : sBreak δ = some (.ok .bk, δ) := rfl
theorem x_seq {s t : Mo Out} : sSeq s t δ = sk t (s δ) := by
  unfold sSeq sk
  split <;> simp_all
theorem sk_nx {t : Mo Out} : sk t (some (.ok .nx, δ)) = t δ := rfl
theorem sk_rt {t : Mo Out} : sk t (some (.ok (.rt d), δ)) = some (.ok (.rt d), δ) := rfl
theorem sk_rtO {t : Mo Out} : sk t (some (.ok (.rtO d), δ)) = some (.ok (.rtO d), δ) := rfl
theorem sk_ct {t : Mo Out} : sk t (some (.ok .ct, δ)) = some (.ok .ct, δ) := rfl
theorem sk_bk {t : Mo Out} : sk t (some (.ok .bk, δ)) = some (.ok .bk, δ) := rfl
theorem sk_ite {t : Mo Out} {x y : Re Out} : sk t (if p then x else y) = if p then sk t x else sk t y := by split <;> rfl
theorem x_drop : sDrop A δ = bk (fun _ => Mo.ret .nx) (A δ) := x_bind
theorem x_sRet : sRet A δ = bk (fun d => Mo.ret (.rt d)) (A δ) := x_bind
theorem x_sRetO : sRetO A δ = bk (fun d => Mo.ret (.rtO d)) (A δ) := x_bind
theorem x_sIf {T : Mo Bool} {s t : Mo Out} : sIf T s t δ = bk (fun k => if k = true then s else t) (T δ) := x_bind
theorem x_asg {T : D → Mo Unit} : sAsg T A δ = bk (fun d => (T d).bind fun _ => Mo.ret .nx) (A δ) := x_bind
theorem x_asgO : sAsgO i A δ = bk (fun d => (gO i d).bind fun _ => Mo.ret .nx) (A δ) := x_bind
theorem x_gN : gN i d δ = if i < δ.length then some (.ok (), δ.set i (.imm d)) else none := rfl
theorem x_gO : gO i d δ = if i < δ.length then some (.ok (), δ.set i (.own d)) else none := rfl
theorem x_gNil : gNil [] δ = some (.ok (), δ) := rfl
theorem x_gCons {T : D → Mo Unit} {Ts : List D → Mo Unit} {ds : List D} : gCons T Ts (d :: ds) δ = bk (fun _ => Ts ds) (T d δ) := x_bind
theorem x_gTt {n : Nat} {Ts : List D → Mo Unit} {ds : List D} : gT n Ts (.tup ds) δ = if ds.length = n then Ts ds δ else none := by
  show (if ds.length = n then Ts ds else fun _ => none) δ = _
  split <;> rfl
theorem x_gTl {n : Nat} {Ts : List D → Mo Unit} {ds : List D} : gT n Ts (.lst ds) δ = if ds.length = n then Ts ds δ else none := by
  show (if ds.length = n then Ts ds else fun _ => none) δ = _
  split <;> rfl
theorem x_sApp : sApp i A δ = if isLst δ i = true then bk (fun x => (chM i (dAppend x)).bind fun _ => Mo.ret .nx) (A δ) else none := by
  unfold sApp; split <;> first | rfl | exact x_bind
theorem x_sSet : sSet i A B δ = bk (fun v => fun δ => if isSet δ i = true then (A.bind fun k => (chM i (dSet k v)).bind fun _ => Mo.ret .nx) δ else none) (B δ) := x_bind
def ck (i : Nat) (f : D → Option D) (δ : Env) : Option Sl → Re Unit
  | some (.own d) => (f d).map fun d' => (.ok (), δ.set i (.own d'))
  | some (.io d) => (f d).map fun d' => (.ok (), δ.set i (.io d'))
  | _ => none
theorem x_chM {f : D → Option D} : chM i f δ = ck i f δ δ[i]? := by unfold chM ck; split <;> simp_all
theorem ck_own {f : D → Option D} : ck i f δ (some (.own d)) = (f d).map fun d' => (.ok (), δ.set i (.own d')) := rfl
theorem ck_io {f : D → Option D} : ck i f δ (some (.io d)) = (f d).map fun d' => (.ok (), δ.set i (.io d')) := rfl
theorem x_iOf : iOf A δ = bk (fun d => Mo.lift (itD d)) (A δ) := x_bind
theorem x_iRg {f : List D → Option (List D)} {R : Mo (List Ag)} : iRg f R δ = bk (fun as => Mo.lift ((imms as).bind f)) (R δ) := x_bind
theorem x_fn {N n : Nat} {body : Mo Out} : fnM N n body δ = fk n (body (δ ++ List.replicate (N - n) .no)) := by
  unfold fnM fk; split <;> simp_all
theorem fk_rt {n : Nat} : fk n (some (.ok (.rt d), δ)) = some (.ok d, ios n δ) := rfl
theorem fk_nx {n : Nat} : fk n (some (.ok .nx, δ)) = some (.ok .non, ios n δ) := rfl
theorem fk_ite {n : Nat} {x y : Re Out} : fk n (if p then x else y) = if p then fk n x else fk n y := by split <;> rfl
theorem ios_z : ios 0 δ = [] := by cases δ <;> rfl
theorem ios_s {n : Nat} {s : Sl} : ios (n + 1) (s :: δ) = keepIo s :: ios n δ := rfl
theorem keep_io : keepIo (.io d) = .io d := rfl
theorem keep_imm : keepIo (.imm d) = .no := rfl
theorem keep_own : keepIo (.own d) = .no := rfl
theorem keep_bor : keepIo (.bor d) = .no := rfl
theorem keep_no : keepIo .no = .no := rfl
theorem dSub_i {x y : Int} : dSub (.int x) (.int y) = some (.int (x - y)) := rfl
theorem dAdd_i {x y : Int} : dAdd (.int x) (.int y) = some (.int (x + y)) := rfl
theorem dLt_i {x y : Int} : dLt (.int x) (.int y) = some (.bl (decide (x < y))) := rfl
theorem dLe_i {x y : Int} : dLe (.int x) (.int y) = some (.bl (decide (x ≤ y))) := rfl
theorem dGt_i {x y : Int} : dGt (.int x) (.int y) = some (.bl (decide (y < x))) := rfl
theorem dGe_i {x y : Int} : dGe (.int x) (.int y) = some (.bl (decide (y ≤ x))) := rfl
theorem dMod_i {x y : Int} (h : 0 < y) : dMod (.int x) (.int y) = some (.int (x % y)) := by
  show (if cMod x y = true then some (D.int (x % y)) else none) = _
  rw [if_pos (by unfold cMod; exact decide_eq_true h)]
theorem dDiv_i {x y : Int} (h : 0 < y) (h2 : y < 1073741824) : dDiv (.int x) (.int y) = some (.int (x / y)) := by
  show (if cDiv x y = true then some (D.int (x / y)) else none) = _
  rw [if_pos (by unfold cDiv; simp [h, h2])]
theorem dMul_r {x y : Int} (h : -18446744073709551616 < y) (h2 : y < 18446744073709551616) : dMul (.int x) (.int y) = some (.int (x * y)) := by
  show (if cMul x y = true then some (D.int (x * y)) else none) = _
  rw [if_pos (by unfold cMul; simp [h, h2])]
theorem ix_lst {l : List D} {j : Int} : dIx (.lst l) (.int j) = atI l j := rfl
theorem ix_scr {l : List D} {j : Int} : dIx (.scr l) (.int j) = atI l j := rfl
theorem ix_tup {l : List D} {j : Int} : dIx (.tup l) (.int j) = atI l j := rfl
theorem atI_0 {α : Type} {x : α} {l : List α} : atI (x :: l) 0 = some x := atI_nat (n := 0) rfl
theorem atI_1 {α : Type} {x y : α} {l : List α} : atI (x :: y :: l) 1 = some y := atI_nat (n := 1) rfl
theorem atI_2 {α : Type} {x y z : α} {l : List α} : atI (x :: y :: z :: l) 2 = some z := atI_nat (n := 2) rfl
theorem atI_3 {α : Type} {x y z u : α} {l : List α} : atI (x :: y :: z :: u :: l) 3 = some u := atI_nat (n := 3) rfl
end
end M
set_option Elab.async false
set_option linter.all false
set_option maxRecDepth 100000
set_option Elab.async false
set_option linter.all false
set_option maxRecDepth 100000
set_option maxHeartbeats 1000000
namespace M
open PySem L2
def dkM (as : List Ag) (δ : Env) : Re D → Re D
  | none => none
  | some (r, δc') => match backs as δc' δ with
    | none => none
    | some δ' => some (r, δ')
theorem x_call2 {m : Mo D} {a b : D} {δ : Env} : callM m [.im a, .im b] δ = dkM [.im a, .im b] δ (m [.imm a, .imm b]) := by
  unfold callM dkM argSls argSl
  simp only [argSls, argSl, vrs, vbs, List.nodup_nil, true_and]
  rw [if_pos (fun i h => by simp at h)]
  cases m [.imm a, .imm b] <;> rfl
theorem x_call3 {m : Mo D} {a b c : D} {δ : Env} : callM m [.im a, .im b, .im c] δ = dkM [.im a, .im b, .im c] δ (m [.imm a, .imm b, .imm c]) := by
  unfold callM dkM argSls argSl
  simp only [argSls, argSl, vrs, vbs, List.nodup_nil, true_and]
  rw [if_pos (fun i h => by simp at h)]
  cases m [.imm a, .imm b, .imm c] <;> rfl
theorem dk2 {a b d : D} {s t : Sl} {δ : Env} : dkM [.im a, .im b] δ (some (.ok d, [s, t])) = some (.ok d, δ) := rfl
theorem dk3 {a b c d : D} {s t u : Sl} {δ : Env} : dkM [.im a, .im b, .im c] δ (some (.ok d, [s, t, u])) = some (.ok d, δ) := rfl
def iLk : Option Sl → Bool
  | some (.own (.lst _)) => true
  | some (.io (.lst _)) => true
  | _ => false
def iSk : Option Sl → Bool
  | some (.own _) => true
  | some (.io _) => true
  | _ => false
theorem x_isLst {δ : Env} {i : Nat} : isLst δ i = iLk δ[i]? := rfl
theorem x_isSet {δ : Env} {i : Nat} : isSet δ i = iSk δ[i]? := rfl
theorem iSk_io {d : D} : iSk (some (.io d)) = true := rfl
theorem at_map {α : Type} {f : α → D} {l : List α} {i : Nat} {x : α} (h : l[i]? = some x) : atI (l.map f) (i : Int) = some (f x) := atI_nat (by rw [List.getElem?_map, h]; rfl)
theorem call_of {m : Mo D} {as : List Ag} {δ δc δc' δ' : Env} {r : D} (h1 : argSls δ as = some δc) (h2 : (vrs as).Nodup ∧ ∀ i ∈ vbs as, i ∉ vrs as) (h3 : m δc = some (.ok r, δc')) (h4 : backs as δc' δ = some δ') : callM m as δ = some (.ok r, δ') := by
  unfold callM
  rw [h1]
  simp only []
  rw [if_pos h2, h3]
  simp only [h4]
theorem fInt_i {x : Int} : fInt [.int x] = some (.int x) := rfl
theorem fAbs_i {x : Int} : fAbs [.int x] = some (.int (if x < 0 then -x else x)) := rfl
theorem fLen_lst {l : List D} : fLen [.lst l] = some (.int (l.length : Nat)) := rfl
theorem ssq {a b : Mo Out} {δ δ1 : Env} {r : Re Out} (h : a δ = some (.ok .nx, δ1)) (h2 : b δ1 = r) : sSeq a b δ = r := by rw [sSeq_ok h]; exact h2
theorem sIf_t {T : Mo Bool} {a b : Mo Out} {δ δ1 : Env} (h : T δ = some (.ok true, δ1)) : sIf T a b δ = a δ1 := by rw [x_sIf, h]; rfl
theorem sIf_f {T : Mo Bool} {a b : Mo Out} {δ δ1 : Env} (h : T δ = some (.ok false, δ1)) : sIf T a b δ = b δ1 := by rw [x_sIf, h]; rfl
theorem call_v1 {m : Mo D} {a d d' r : D} {s : Sl} {δ : Env} (hm : m [.io d, .imm a] = some (.ok r, [.io d', s])) : callM m [.vr 0, .im a] (.io d :: δ) = some (.ok r, .io d' :: δ) :=
  call_of (by simp only [argSls, argSl, List.getElem?_cons_zero]) ⟨by simp [vrs], by simp [vbs]⟩ hm (by simp only [backs, List.getElem?_cons_zero, List.set_cons_zero])
theorem lay_all : ∀ {l : List D}, (∀ d ∈ l, (toPy d).canLay0 = true) → PyData.canLayAll0 (toPys l) = true
  | [], _ => rfl
  | d :: l, h => by
    unfold toPys PyData.canLayAll0
    rw [h d List.mem_cons_self, lay_all fun e m => h e (List.mem_cons_of_mem _ m)]; rfl
theorem dep_all {k : Nat} : ∀ {l : List D}, (∀ d ∈ l, (toPy d).depth ≤ k) → PyData.depthAll (toPys l) ≤ k
  | [], _ => Nat.zero_le _
  | d :: l, h => by
    unfold toPys PyData.depthAll
    have h1 := h d List.mem_cons_self
    have h2 := dep_all fun e m => h e (List.mem_cons_of_mem _ m)
    omega
theorem eqv_all : ∀ {l : List D}, (∀ d ∈ l, PyData.eqv (toPy d) (toPy d) = true) → PyData.eqvAll (toPys l) (toPys l) = true
  | [], _ => by unfold toPys PyData.eqvAll; rfl
  | d :: l, h => by
    unfold toPys PyData.eqvAll
    rw [h d List.mem_cons_self, eqv_all fun e m => h e (List.mem_cons_of_mem _ m)]; rfl
structure Fine (d : D) : Prop where
  lay : (toPy d).canLay0 = true
  dep : (toPy d).depth ≤ 20
  rfl : PyData.eqv (toPy d) (toPy d) = true
theorem fine_int (i : Int) : Fine (.int i) := ⟨rfl, by unfold toPy PyData.depth; omega, by unfold toPy PyData.eqv; simp⟩
theorem fine_shp {d : D} (h : Fine d) : shp d = true := by
  unfold shp SeqAt.shaped
  rw [Bool.and_eq_true]
  exact ⟨h.lay, decide_eq_true (by have := h.dep; omega)⟩
theorem fine_lst {k : Nat} {l : List D} (hk : k < 20) (h : ∀ d ∈ l, Fine d ∧ (toPy d).depth ≤ k) : Fine (.lst l) ∧ (toPy (.lst l)).depth ≤ k + 1 := by
  have h1 : (toPy (.lst l)).depth ≤ k + 1 := by
    have := dep_all fun d m => (h d m).2
    unfold toPy PyData.depth; omega
  exact ⟨⟨lay_all fun d m => (h d m).1.lay, by omega, by unfold toPy PyData.eqv; exact eqv_all fun d m => (h d m).1.rfl⟩, h1⟩
theorem fine_tup {k : Nat} {l : List D} (hk : k < 20) (h : ∀ d ∈ l, Fine d ∧ (toPy d).depth ≤ k) : Fine (.tup l) ∧ (toPy (.tup l)).depth ≤ k + 1 := by
  have h1 : (toPy (.tup l)).depth ≤ k + 1 := by
    have := dep_all fun d m => (h d m).2
    unfold toPy PyData.depth; omega
  exact ⟨⟨lay_all fun d m => (h d m).1.lay, by omega, by unfold toPy PyData.eqv; exact eqv_all fun d m => (h d m).1.rfl⟩, h1⟩
theorem fine_int' (i : Int) : Fine (.int i) ∧ (toPy (.int i)).depth ≤ 0 := ⟨fine_int i, by unfold toPy PyData.depth; omega⟩
theorem dNe_rfl {d : D} (h : Fine d) : dNe d d = some (.bl false) := by
  unfold dNe; rw [if_pos ⟨fine_shp h, fine_shp h⟩, h.rfl]; rfl
theorem dNe_bl {a b : Bool} : dNe (.bl a) (.bl b) = some (.bl (a != b)) := by
  have h : ∀ b : Bool, shp (.bl b) = true := fun b => by cases b <;> rfl
  unfold dNe; rw [if_pos ⟨h a, h b⟩]
  cases a <;> cases b <;> rfl
theorem take_snoc {α : Type} {l : List α} {k : Nat} {x : α} (h : l[k]? = some x) : l.take (k + 1) = l.take k ++ [x] := by rw [List.take_add_one, h]; rfl
theorem rgD_get {n k : Nat} {d : D} (h : (rgD 0 n)[k]? = some d) : k < n ∧ d = .int (k : Int) := by
  unfold rgD at h
  rw [List.getElem?_map] at h
  by_cases c : k < n
  · rw [List.getElem?_range c] at h; cases h; exact ⟨c, by simp⟩
  · rw [List.getElem?_eq_none (by rw [List.length_range]; omega)] at h; cases h
theorem rgD_len {lo : Int} {n : Nat} : (rgD lo n).length = n := by unfold rgD; rw [List.length_map, List.length_range]
theorem rg1_n {n : Nat} (h : n ≤ 1000) : rg1 [.int (n : Int)] = some (rgD 0 n) := by
  show (if (n : Int) ≤ 16777216 ∧ -16777216 ≤ (n : Int) then some (rgD 0 ((n : Int)).toNat) else none) = _
  rw [if_pos ⟨by omega, by omega⟩, Int.toNat_natCast]
theorem x_call1 {m : Mo D} {a : D} {δ : Env} : callM m [.im a] δ = dkM [.im a] δ (m [.imm a]) := by
  unfold callM dkM argSls argSl
  simp only [argSls, argSl, vrs, vbs, List.nodup_nil, true_and]
  rw [if_pos (fun i h => by simp at h)]
  cases m [.imm a] <;> rfl
theorem x_call4 {m : Mo D} {a b c d : D} {δ : Env} : callM m [.im a, .im b, .im c, .im d] δ = dkM [.im a, .im b, .im c, .im d] δ (m [.imm a, .imm b, .imm c, .imm d]) := by
  unfold callM dkM argSls argSl
  simp only [argSls, argSl, vrs, vbs, List.nodup_nil, true_and]
  rw [if_pos (fun i h => by simp at h)]
  cases m [.imm a, .imm b, .imm c, .imm d] <;> rfl
theorem dk1 {a d : D} {s : Sl} {δ : Env} : dkM [.im a] δ (some (.ok d, [s])) = some (.ok d, δ) := rfl
theorem dk4 {a b c e d : D} {s t u v : Sl} {δ : Env} : dkM [.im a, .im b, .im c, .im e] δ (some (.ok d, [s, t, u, v])) = some (.ok d, δ) := rfl
theorem lst_app {l m : List D} (h : l.length ≤ 1000) (h2 : m.length ≤ 1000) : dAdd (.lst l) (.lst m) = some (.lst (l ++ m)) := by
  show (if l.length + m.length ≤ sizeLine then _ else none) = _
  rw [if_pos (by have := small1000 (show 1000 ≤ 1000 by omega); rw [sizeLine_eq]; omega)]
section
variable {α : Type} {I : Mo (List D)} {T : D → Mo Unit} {C : Mo Bool} {E Ek Ev : Mo D} {vs : List Nat} {δ δ0 : Env} {l : List α} {g : α → D} {p : α → Bool} {f : α → D} {fi : α → Int} {kk : α → List Key}
def TurnOk (T : D → Mo Unit) (C : Mo Bool) (E : Mo D) (vs : List Nat) (δ : Env) (x : D) (p : Bool) (y : D) : Prop :=
  ∃ δ1 δ2, T x δ = some (.ok (), δ1) ∧ C δ1 = some (.ok p, δ2) ∧ (p = false → wipeE δ2 vs = δ) ∧ (p = true → ∃ δ3, E δ2 = some (.ok y, δ3) ∧ wipeE δ3 vs = δ)
theorem lcM_a : ∀ (l : List α) (acc : List D), (∀ a ∈ l, TurnOk T C E vs δ (g a) (p a) (f a)) → lcM T C E vs (l.map g) acc δ = some (.ok (.lst (acc ++ (l.filter p).map f)), δ)
  | [], acc, _ => by unfold lcM; simp
  | a :: l, acc, h => by
    obtain ⟨δ1, δ2, h1, h2, h3, h4⟩ := h a List.mem_cons_self
    rw [List.map_cons]
    unfold lcM
    simp only [h1, h2]
    cases hp : p a with
    | false =>
      simp only [hp]
      rw [h3 hp, lcM_a l acc fun d' m => h d' (List.mem_cons_of_mem _ m), List.filter_cons_of_neg (by rw [hp]; simp)]
    | true =>
      obtain ⟨δ3, h5, h6⟩ := h4 hp
      simp only [hp, h5]
      rw [h6, lcM_a l (acc ++ [f a]) fun d' m => h d' (List.mem_cons_of_mem _ m), List.filter_cons_of_pos hp, List.map_cons, List.append_assoc]; rfl
theorem eLc_map (hi : I δ = some (.ok (l.map g), δ0)) (hl : l.length ≤ 1000) (h : ∀ a ∈ l, TurnOk T C E vs (wipeE δ0 vs) (g a) (p a) (f a)) : eLc I T C E vs δ = some (.ok (.lst ((l.filter p).map f)), wipeE δ0 vs) := by
  unfold eLc
  rw [bind_ok hi, if_pos (by rw [List.length_map]; exact small_line hl), lcM_a l [] h]; rfl
end
def oI : Option Int → D
  | none => .non
  | some i => .int i
theorem forM_ret {T : D → Mo Unit} {S : Mo Out} {F : Nat → Env} {z : D} {dm : D} {δ2 : Env} : ∀ (ds : List D) (k m : Nat), ds[m]? = some dm →
    (∀ i d, i < m → ds[i]? = some d → ∃ δ1, T d (F (k + i)) = some (.ok (), δ1) ∧ (S δ1 = some (.ok .nx, F (k + i + 1)) ∨ S δ1 = some (.ok .ct, F (k + i + 1)))) →
    (∃ δ1, T dm (F (k + m)) = some (.ok (), δ1) ∧ S δ1 = some (.ok (.rt z), δ2)) → forM T S ds (F k) = some (.ok (.rt z), δ2)
  | [], k, m, h, _, _ => by simp at h
  | d :: ds, k, 0, h, _, hr => by
    simp at h; subst h
    obtain ⟨δ1, a, b⟩ := hr
    unfold forM
    rw [bind_ok (by simpa using a)]
    simp only [b]
  | d :: ds, k, m + 1, h, st, hr => by
    obtain ⟨δ1, a, b⟩ := st 0 d (by omega) rfl
    have ih := forM_ret (F := F) ds (k + 1) m (by simpa using h) (fun i d' hi hd => by
      have := st (i + 1) d' (by omega) (by simpa using hd)
      rw [show k + (i + 1) = k + 1 + i by omega] at this
      exact this) (by rw [show k + 1 + m = k + (m + 1) by omega]; exact hr)
    unfold forM
    rw [bind_ok (by simpa using a)]
    rcases b with b | b
    · rw [show k + 0 + 1 = k + 1 by omega] at b
      simp only [b]; exact ih
    · rw [show k + 0 + 1 = k + 1 by omega] at b
      simp only [b]; exact ih
theorem sFor_ret {I : Mo (List D)} {T : D → Mo Unit} {S : Mo Out} {δ δ0 δ2 : Env} {ds : List D} {F : Nat → Env} {m : Nat} {dm z : D} (hi : I δ = some (.ok ds, δ0)) (h0 : δ0 = F 0) (hm : ds[m]? = some dm)
    (st : ∀ i d, i < m → ds[i]? = some d → ∃ δ1, T d (F i) = some (.ok (), δ1) ∧ (S δ1 = some (.ok .nx, F (i + 1)) ∨ S δ1 = some (.ok .ct, F (i + 1))))
    (rt : ∃ δ1, T dm (F m) = some (.ok (), δ1) ∧ S δ1 = some (.ok (.rt z), δ2)) : sFor I T S δ = some (.ok (.rt z), δ2) := by
  unfold sFor
  rw [bind_ok hi, h0]
  refine forM_ret ds 0 m hm (fun i d hi hd => ?_) (by rw [Nat.zero_add]; exact rt)
  rw [Nat.zero_add]; exact st i d hi hd
theorem getmap {α : Type} {g : α → D} {l : List α} {i : Nat} {d : D} (h : (l.map g)[i]? = some d) : ∃ v, l[i]? = some v ∧ d = g v := by
  rw [List.getElem?_map] at h
  cases q : l[i]? with
  | none => rw [q] at h; cases h
  | some v => rw [q] at h; cases h; exact ⟨v, rfl, rfl⟩
end M
set_option Elab.async false
set_option linter.all false
set_option maxRecDepth 100000
namespace M
open PySem L2
section
variable {δ δ1 δ2 : Env} {a b c : Mo Out} {T : Mo Bool} {r : Re Out} {d : D} {N n : Nat} {body : Mo Out}
theorem fn_rt (h : body (δ ++ List.replicate (N - n) .no) = some (.ok (.rt d), δ1)) : fnM N n body δ = some (.ok d, ios n δ1) := by rw [x_fn, h]; rfl
theorem sf {a b : Mo Out} (h : T δ = some (.ok false, δ1)) (h2 : b δ1 = r) : sIf T a b δ = r := by rw [sIf_f h]; exact h2
theorem st {a b : Mo Out} (h : T δ = some (.ok true, δ1)) (h2 : a δ1 = r) : sIf T a b δ = r := by rw [sIf_t h]; exact h2
/-- a test that does not hold, nothing else -/
theorem ssq_f (h : T δ = some (.ok false, δ1)) (h2 : c δ1 = r) : sSeq (sIf T a sNx) c δ = r := ssq (sf h rfl) h2
theorem ssq_t (h : T δ = some (.ok true, δ1)) (h2 : sSeq a c δ1 = r) : sSeq (sIf T a b) c δ = r := by
  rw [x_seq, sIf_t h]; rw [x_seq] at h2; exact h2
theorem ssq_e (h : T δ = some (.ok false, δ1)) (h2 : sSeq b c δ1 = r) : sSeq (sIf T a b) c δ = r := by
  rw [x_seq, sIf_f h]; rw [x_seq] at h2; exact h2
theorem s1f (h : T δ = some (.ok false, δ1)) : sIf T a sNx δ = some (.ok .nx, δ1) := sf h rfl
theorem ssq_rt (h : a δ = some (.ok (.rt d), δ1)) : sSeq a b δ = some (.ok (.rt d), δ1) := by rw [x_seq, h]; rfl
theorem ssq_err {x : Exn} (h : a δ = some (.error x, δ1)) : sSeq a b δ = some (.error x, δ1) := by rw [x_seq, h]; rfl
end
theorem x_eSl {f : D → Option Int → Option Int → Option D} {E : Mo D} {L U : Mo (Option Int)} {δ : Env} : eSl f E L U δ = bk (fun d => L.bind fun l => U.bind fun u => Mo.lift (f d l u)) (E δ) := x_bind
theorem x_eP0 {δ : Env} : eP0 δ = some (.ok none, δ) := rfl
theorem x_eP1 {E : Mo D} {δ : Env} : eP1 E δ = bk (fun d => Mo.lift (dPart d)) (E δ) := x_bind
theorem part_i {i : Int} : dPart (.int i) = some (some i) := rfl
end M
namespace M
open PySem L2
theorem lcM_acc {T : D → Mo Unit} {E : Mo D} {vs : List Nat} (Inv : List D → Env → Prop) : ∀ (ds acc : List D) (δ : Env), Inv acc δ →
    (∀ i x acc' δ, ds[i]? = some x → acc'.length = acc.length + i → Inv acc' δ → ∃ δ1 y δ3, T x δ = some (.ok (), δ1) ∧ E δ1 = some (.ok y, δ3) ∧ Inv (acc' ++ [y]) (wipeE δ3 vs)) →
    ∃ ys δ', lcM T tYesM E vs ds acc δ = some (.ok (.lst (acc ++ ys)), δ') ∧ Inv (acc ++ ys) δ' ∧ ys.length = ds.length
  | [], acc, δ, h, _ => ⟨[], δ, by unfold lcM; rw [List.append_nil], by rw [List.append_nil]; exact h, rfl⟩
  | x :: ds, acc, δ, h, st => by
    obtain ⟨δ1, y, δ3, h1, h2, h3⟩ := st 0 x acc δ rfl rfl h
    have hy : ∀ δ, tYesM δ = some (.ok true, δ) := fun _ => rfl
    obtain ⟨ys, δ', e, i, l⟩ := lcM_acc Inv ds (acc ++ [y]) (wipeE δ3 vs) h3 fun i x' acc' δ hd hl hi => st (i + 1) x' acc' δ (by simpa using hd) (by rw [hl, List.length_append, List.length_singleton]; omega) hi
    refine ⟨y :: ys, δ', ?_, by rw [List.append_assoc] at i; exact i, by rw [List.length_cons, List.length_cons, l]⟩
    unfold lcM
    simp only [h1, hy, h2]
    rw [e, List.append_assoc]; rfl
theorem eLc_acc {I : Mo (List D)} {T : D → Mo Unit} {E : Mo D} {vs : List Nat} {δ δ0 : Env} {ds : List D} (Inv : List D → Env → Prop) (hi : I δ = some (.ok ds, δ0)) (hl : ds.length ≤ 1000) (h0 : Inv [] (wipeE δ0 vs))
    (st : ∀ i x acc δ, ds[i]? = some x → acc.length = i → Inv acc δ → ∃ δ1 y δ3, T x δ = some (.ok (), δ1) ∧ E δ1 = some (.ok y, δ3) ∧ Inv (acc ++ [y]) (wipeE δ3 vs)) :
    ∃ ys δ', eLc I T tYesM E vs δ = some (.ok (.lst ys), δ') ∧ Inv ys δ' ∧ ys.length = ds.length := by
  obtain ⟨ys, δ', e, i, l⟩ := lcM_acc Inv ds [] (wipeE δ0 vs) h0 fun i x acc δ h1 h2 h3 => st i x acc δ h1 (by simpa using h2) h3
  refine ⟨ys, δ', ?_, by simpa using i, l⟩
  unfold eLc
  rw [bind_ok hi, if_pos (small_line hl), e]; rfl
end M
set_option Elab.async false
set_option linter.all false
set_option maxRecDepth 100000
set_option maxHeartbeats 1000000
namespace M
open PySem L2
def plD (ns : List Int) (x p : Int) : D := .lst [.int x, .lst (ns.map D.int), .int p]
def IsPl (ns : List Int) (d : D) : Prop := ∃ x p : Int, -1 ≤ p ∧ d = plD ns x p
theorem dSet3_0 {a b c v : D} : dSet (.int 0) v (.lst [a, b, c]) = some (.lst [v, b, c]) := rfl
theorem dSet3_2 {a b c v : D} : dSet (.int 2) v (.lst [a, b, c]) = some (.lst [a, b, v]) := rfl
theorem wide_tail {KL KA KB KM KC KQ : Int} (k2 : ∀ x : Int, dMul (.int x) (.int KA) = some (.int (x * KA))) (k3 : ∀ x : Int, dMul (.int x) (.int KB) = some (.int (x * KB))) (k4 : ∀ x : Int, dMul (.int x) (.int KC) = some (.int (x * KC))) (m1 : ∀ x : Int, dMod (.int x) (.int KM) = some (.int (x % KM))) (q1 : ∀ x : Int, dDiv (.int x) (.int KQ) = some (.int (x / KQ))) {a b : Sl} {p c : Int} : ∃ t : Int,
    fk 2 (sSeq (sIf (eB (eBin dGe (eV 2) (eC (.int KL))))
 (sRet (eV 2))
 sNx)
 (sSeq (sAsg (gN 3) (eBin dMod (eF fInt (aCons (eBin dAdd (eBin dMul (eBin dAdd (eV 2) (eC (.int 1))) (eC (.int KA))) (eBin dMul (eBin dAdd (eV 1) (eC (.int 1))) (eC (.int KB)))) aNil)) (eC (.int KM))))
 (sRet (eBin dMod (eF fInt (aCons (eBin dAdd (eBin dMul (eV 3) (eC (.int KC))) (eBin dDiv (eV 3) (eC (.int KQ)))) aNil)) (eC (.int KM))))) [.imm (.lst (List.map D.int b')), .imm (.int p), .imm (.int c), .no]) = some (.ok (.int t), [.no, .no]) := by
  have hc : (eB (eBin dGe (eV 2) (eC (.int KL)))) [.imm (.lst (List.map D.int b')), .imm (.int p), .imm (.int c), .no] = some (.ok (decide (KL ≤ c)), [.imm (.lst (List.map D.int b')), .imm (.int p), .imm (.int c), .no]) := by
    simp only [x_bind, bk_ok, bk_ite, x_ret, x_lift, lk_some, lk_ite, app_ite, x_eC, x_eV, vk_imm, vk_own, vk_bor, x_give, gk_own, x_bin, x_un, x_ix, x_tru, x_eB, dBl_bl, dTru_bl, dTru_int, dTru_lst, x_and, x_or, x_not, x_eAnd, x_eOr, x_eNot, x_eIf, x_chain, x_aNil, x_aCons, x_aVr, rk_own, rk_io, x_aVb, tk_own, tk_io, tk_imm, tk_bor, x_eTup, x_eLst, imms_nil, imms_im, x_eF, x_call, ixV_C, jk_imm, jk_own, jk_io, jk_bor, flk_int, x_lenV, nk_imm, nk_own, nk_io, nk_bor, x_inV, hk_imm, hk_own, hk_io, hk_bor, x_sNx, x_pass, x_cont, x_brk, x_seq, sk_nx, sk_rt, sk_rtO, sk_ct, sk_bk, sk_ite, x_drop, x_sRet, x_sRetO, x_sIf, x_asg, x_asgO, x_gN, x_gO, x_gNil, x_gCons, x_gTt, x_gTl, x_sApp, x_sSet, x_chM, ck_own, ck_io, x_iOf, x_iRg, x_fn, fk_rt, fk_nx, fk_ite, ios_z, ios_s, keep_io, keep_imm, keep_own, keep_bor, keep_no, dSub_i, dAdd_i, dLt_i, dLe_i, dGt_i, dGe_i, dEq_int, dNe_int, ix_lst, ix_scr, ix_tup, atI_0, atI_1, atI_2, atI_3, List.getElem?_cons_zero, List.getElem?_cons_succ, List.set_cons_zero, List.set_cons_succ, List.length_cons, List.length_nil, List.cons_append, List.nil_append, List.replicate_succ, List.replicate_zero, Option.map_some, Option.bind_some, Nat.reduceAdd, Nat.reduceSub, Nat.reduceLT, Nat.reduceLeDiff, if_true, if_false, Bool.false_eq_true, decide_eq_true_eq, reduceIte, ne_eq, not_false_eq_true, Nat.lt_add_left_iff_pos, Nat.zero_lt_succ, x_call1, x_call2, x_call3, x_call4, dk1, dk2, dk3, dk4, ixV_V, Nat.reduceEqDiff, not_false_eq_true, x_isLst, x_isSet, List.map_cons, List.map_nil, Option.map_none, Option.bind_none]
  by_cases h : KL ≤ c
  · rw [decide_eq_true h] at hc
    refine ⟨c, ?_⟩
    rw [x_seq, sIf_t hc]
    simp only [x_bind, bk_ok, bk_ite, x_ret, x_lift, lk_some, lk_ite, app_ite, x_eC, x_eV, vk_imm, vk_own, vk_bor, x_give, gk_own, x_bin, x_un, x_ix, x_tru, x_eB, dBl_bl, dTru_bl, dTru_int, dTru_lst, x_and, x_or, x_not, x_eAnd, x_eOr, x_eNot, x_eIf, x_chain, x_aNil, x_aCons, x_aVr, rk_own, rk_io, x_aVb, tk_own, tk_io, tk_imm, tk_bor, x_eTup, x_eLst, imms_nil, imms_im, x_eF, x_call, ixV_C, jk_imm, jk_own, jk_io, jk_bor, flk_int, x_lenV, nk_imm, nk_own, nk_io, nk_bor, x_inV, hk_imm, hk_own, hk_io, hk_bor, x_sNx, x_pass, x_cont, x_brk, x_seq, sk_nx, sk_rt, sk_rtO, sk_ct, sk_bk, sk_ite, x_drop, x_sRet, x_sRetO, x_sIf, x_asg, x_asgO, x_gN, x_gO, x_gNil, x_gCons, x_gTt, x_gTl, x_sApp, x_sSet, x_chM, ck_own, ck_io, x_iOf, x_iRg, x_fn, fk_rt, fk_nx, fk_ite, ios_z, ios_s, keep_io, keep_imm, keep_own, keep_bor, keep_no, dSub_i, dAdd_i, dLt_i, dLe_i, dGt_i, dGe_i, dEq_int, dNe_int, ix_lst, ix_scr, ix_tup, atI_0, atI_1, atI_2, atI_3, List.getElem?_cons_zero, List.getElem?_cons_succ, List.set_cons_zero, List.set_cons_succ, List.length_cons, List.length_nil, List.cons_append, List.nil_append, List.replicate_succ, List.replicate_zero, Option.map_some, Option.bind_some, Nat.reduceAdd, Nat.reduceSub, Nat.reduceLT, Nat.reduceLeDiff, if_true, if_false, Bool.false_eq_true, decide_eq_true_eq, reduceIte, ne_eq, not_false_eq_true, Nat.lt_add_left_iff_pos, Nat.zero_lt_succ, x_call1, x_call2, x_call3, x_call4, dk1, dk2, dk3, dk4, ixV_V, Nat.reduceEqDiff, not_false_eq_true, x_isLst, x_isSet, List.map_cons, List.map_nil, Option.map_none, Option.bind_none]
  · rw [decide_eq_false h] at hc
    refine ⟨(((c + 1) * KA + (p + 1) * KB) % KM * KC + ((c + 1) * KA + (p + 1) * KB) % KM / KQ) % KM, ?_⟩
    rw [x_seq, sIf_f hc, x_sNx, sk_nx]
    simp only [x_bind, bk_ok, bk_ite, x_ret, x_lift, lk_some, lk_ite, app_ite, x_eC, x_eV, vk_imm, vk_own, vk_bor, x_give, gk_own, x_bin, x_un, x_ix, x_tru, x_eB, dBl_bl, dTru_bl, dTru_int, dTru_lst, x_and, x_or, x_not, x_eAnd, x_eOr, x_eNot, x_eIf, x_chain, x_aNil, x_aCons, x_aVr, rk_own, rk_io, x_aVb, tk_own, tk_io, tk_imm, tk_bor, x_eTup, x_eLst, imms_nil, imms_im, x_eF, x_call, ixV_C, jk_imm, jk_own, jk_io, jk_bor, flk_int, x_lenV, nk_imm, nk_own, nk_io, nk_bor, x_inV, hk_imm, hk_own, hk_io, hk_bor, x_sNx, x_pass, x_cont, x_brk, x_seq, sk_nx, sk_rt, sk_rtO, sk_ct, sk_bk, sk_ite, x_drop, x_sRet, x_sRetO, x_sIf, x_asg, x_asgO, x_gN, x_gO, x_gNil, x_gCons, x_gTt, x_gTl, x_sApp, x_sSet, x_chM, ck_own, ck_io, x_iOf, x_iRg, x_fn, fk_rt, fk_nx, fk_ite, ios_z, ios_s, keep_io, keep_imm, keep_own, keep_bor, keep_no, dSub_i, dAdd_i, dLt_i, dLe_i, dGt_i, dGe_i, dEq_int, dNe_int, ix_lst, ix_scr, ix_tup, atI_0, atI_1, atI_2, atI_3, List.getElem?_cons_zero, List.getElem?_cons_succ, List.set_cons_zero, List.set_cons_succ, List.length_cons, List.length_nil, List.cons_append, List.nil_append, List.replicate_succ, List.replicate_zero, Option.map_some, Option.bind_some, Nat.reduceAdd, Nat.reduceSub, Nat.reduceLT, Nat.reduceLeDiff, if_true, if_false, Bool.false_eq_true, decide_eq_true_eq, reduceIte, ne_eq, not_false_eq_true, Nat.lt_add_left_iff_pos, Nat.zero_lt_succ, x_call1, x_call2, x_call3, x_call4, dk1, dk2, dk3, dk4, ixV_V, Nat.reduceEqDiff, not_false_eq_true, x_isLst, x_isSet, List.map_cons, List.map_nil, Option.map_none, Option.bind_none, k2, k3, k4, m1, q1, fInt_i]
theorem ev_wide {ns : List Int} {p : Int} (h0 : 0 ≤ p) : ∃ t : Int, m__law_wide [.imm (.lst (ns.map D.int)), .imm (.int p)] = some (.ok (.int t), [.no, .no]) := by
  have h1 : ∃ c : Int, (sIf (eB (eBin dLt (eV 1) (eF fLen (aCons (eV 0) aNil))))
 (sAsg (gN 2) (eF fAbs (aCons (eIxV 0 (eV 1)) aNil)))
 sNx) [.imm (.lst (ns.map D.int)), .imm (.int p), .imm (.int 0), .no] = some (.ok .nx, [.imm (.lst (ns.map D.int)), .imm (.int p), .imm (.int c), .no]) := by
    by_cases c : p < ((ns.map D.int).length : Nat)
    · have hp : p.toNat < ns.length := by rw [List.length_map] at c; omega
      have a1 : atI (ns.map D.int) p = some (.int ns[p.toNat]) := by
        have := at_map (f := D.int) (List.getElem?_eq_getElem hp)
        rw [Int.toNat_of_nonneg h0] at this; exact this
      refine ⟨if ns[p.toNat] < 0 then -ns[p.toNat] else ns[p.toNat], ?_⟩
      rw [sIf_t (δ1 := [.imm (.lst (ns.map D.int)), .imm (.int p), .imm (.int 0), .no])]
      · simp only [x_bind, bk_ok, bk_ite, x_ret, x_lift, lk_some, lk_ite, app_ite, x_eC, x_eV, vk_imm, vk_own, vk_bor, x_give, gk_own, x_bin, x_un, x_ix, x_tru, x_eB, dBl_bl, dTru_bl, dTru_int, dTru_lst, x_and, x_or, x_not, x_eAnd, x_eOr, x_eNot, x_eIf, x_chain, x_aNil, x_aCons, x_aVr, rk_own, rk_io, x_aVb, tk_own, tk_io, tk_imm, tk_bor, x_eTup, x_eLst, imms_nil, imms_im, x_eF, x_call, ixV_C, jk_imm, jk_own, jk_io, jk_bor, flk_int, x_lenV, nk_imm, nk_own, nk_io, nk_bor, x_inV, hk_imm, hk_own, hk_io, hk_bor, x_sNx, x_pass, x_cont, x_brk, x_seq, sk_nx, sk_rt, sk_rtO, sk_ct, sk_bk, sk_ite, x_drop, x_sRet, x_sRetO, x_sIf, x_asg, x_asgO, x_gN, x_gO, x_gNil, x_gCons, x_gTt, x_gTl, x_sApp, x_sSet, x_chM, ck_own, ck_io, x_iOf, x_iRg, x_fn, fk_rt, fk_nx, fk_ite, ios_z, ios_s, keep_io, keep_imm, keep_own, keep_bor, keep_no, dSub_i, dAdd_i, dLt_i, dLe_i, dGt_i, dGe_i, dEq_int, dNe_int, ix_lst, ix_scr, ix_tup, atI_0, atI_1, atI_2, atI_3, List.getElem?_cons_zero, List.getElem?_cons_succ, List.set_cons_zero, List.set_cons_succ, List.length_cons, List.length_nil, List.cons_append, List.nil_append, List.replicate_succ, List.replicate_zero, Option.map_some, Option.bind_some, Nat.reduceAdd, Nat.reduceSub, Nat.reduceLT, Nat.reduceLeDiff, if_true, if_false, Bool.false_eq_true, decide_eq_true_eq, reduceIte, ne_eq, not_false_eq_true, Nat.lt_add_left_iff_pos, Nat.zero_lt_succ, x_call1, x_call2, x_call3, x_call4, dk1, dk2, dk3, dk4, ixV_V, Nat.reduceEqDiff, not_false_eq_true, x_isLst, x_isSet, List.map_cons, List.map_nil, Option.map_none, Option.bind_none, a1, fAbs_i]
      · simp only [x_bind, bk_ok, bk_ite, x_ret, x_lift, lk_some, lk_ite, app_ite, x_eC, x_eV, vk_imm, vk_own, vk_bor, x_give, gk_own, x_bin, x_un, x_ix, x_tru, x_eB, dBl_bl, dTru_bl, dTru_int, dTru_lst, x_and, x_or, x_not, x_eAnd, x_eOr, x_eNot, x_eIf, x_chain, x_aNil, x_aCons, x_aVr, rk_own, rk_io, x_aVb, tk_own, tk_io, tk_imm, tk_bor, x_eTup, x_eLst, imms_nil, imms_im, x_eF, x_call, ixV_C, jk_imm, jk_own, jk_io, jk_bor, flk_int, x_lenV, nk_imm, nk_own, nk_io, nk_bor, x_inV, hk_imm, hk_own, hk_io, hk_bor, x_sNx, x_pass, x_cont, x_brk, x_seq, sk_nx, sk_rt, sk_rtO, sk_ct, sk_bk, sk_ite, x_drop, x_sRet, x_sRetO, x_sIf, x_asg, x_asgO, x_gN, x_gO, x_gNil, x_gCons, x_gTt, x_gTl, x_sApp, x_sSet, x_chM, ck_own, ck_io, x_iOf, x_iRg, x_fn, fk_rt, fk_nx, fk_ite, ios_z, ios_s, keep_io, keep_imm, keep_own, keep_bor, keep_no, dSub_i, dAdd_i, dLt_i, dLe_i, dGt_i, dGe_i, dEq_int, dNe_int, ix_lst, ix_scr, ix_tup, atI_0, atI_1, atI_2, atI_3, List.getElem?_cons_zero, List.getElem?_cons_succ, List.set_cons_zero, List.set_cons_succ, List.length_cons, List.length_nil, List.cons_append, List.nil_append, List.replicate_succ, List.replicate_zero, Option.map_some, Option.bind_some, Nat.reduceAdd, Nat.reduceSub, Nat.reduceLT, Nat.reduceLeDiff, if_true, if_false, Bool.false_eq_true, decide_eq_true_eq, reduceIte, ne_eq, not_false_eq_true, Nat.lt_add_left_iff_pos, Nat.zero_lt_succ, x_call1, x_call2, x_call3, x_call4, dk1, dk2, dk3, dk4, ixV_V, Nat.reduceEqDiff, not_false_eq_true, x_isLst, x_isSet, List.map_cons, List.map_nil, Option.map_none, Option.bind_none, fLen_lst, c, decide_true]
    · refine ⟨0, ?_⟩
      rw [sIf_f (δ1 := [.imm (.lst (ns.map D.int)), .imm (.int p), .imm (.int 0), .no])]
      · rfl
      · simp only [x_bind, bk_ok, bk_ite, x_ret, x_lift, lk_some, lk_ite, app_ite, x_eC, x_eV, vk_imm, vk_own, vk_bor, x_give, gk_own, x_bin, x_un, x_ix, x_tru, x_eB, dBl_bl, dTru_bl, dTru_int, dTru_lst, x_and, x_or, x_not, x_eAnd, x_eOr, x_eNot, x_eIf, x_chain, x_aNil, x_aCons, x_aVr, rk_own, rk_io, x_aVb, tk_own, tk_io, tk_imm, tk_bor, x_eTup, x_eLst, imms_nil, imms_im, x_eF, x_call, ixV_C, jk_imm, jk_own, jk_io, jk_bor, flk_int, x_lenV, nk_imm, nk_own, nk_io, nk_bor, x_inV, hk_imm, hk_own, hk_io, hk_bor, x_sNx, x_pass, x_cont, x_brk, x_seq, sk_nx, sk_rt, sk_rtO, sk_ct, sk_bk, sk_ite, x_drop, x_sRet, x_sRetO, x_sIf, x_asg, x_asgO, x_gN, x_gO, x_gNil, x_gCons, x_gTt, x_gTl, x_sApp, x_sSet, x_chM, ck_own, ck_io, x_iOf, x_iRg, x_fn, fk_rt, fk_nx, fk_ite, ios_z, ios_s, keep_io, keep_imm, keep_own, keep_bor, keep_no, dSub_i, dAdd_i, dLt_i, dLe_i, dGt_i, dGe_i, dEq_int, dNe_int, ix_lst, ix_scr, ix_tup, atI_0, atI_1, atI_2, atI_3, List.getElem?_cons_zero, List.getElem?_cons_succ, List.set_cons_zero, List.set_cons_succ, List.length_cons, List.length_nil, List.cons_append, List.nil_append, List.replicate_succ, List.replicate_zero, Option.map_some, Option.bind_some, Nat.reduceAdd, Nat.reduceSub, Nat.reduceLT, Nat.reduceLeDiff, if_true, if_false, Bool.false_eq_true, decide_eq_true_eq, reduceIte, ne_eq, not_false_eq_true, Nat.lt_add_left_iff_pos, Nat.zero_lt_succ, x_call1, x_call2, x_call3, x_call4, dk1, dk2, dk3, dk4, ixV_V, Nat.reduceEqDiff, not_false_eq_true, x_isLst, x_isSet, List.map_cons, List.map_nil, Option.map_none, Option.bind_none, fLen_lst, c, decide_false]
  obtain ⟨c, h1⟩ := h1
  obtain ⟨t, h2⟩ := wide_tail (b' := ns) (KL := 1000000000000000000) (KA := 6364136223846793005) (KB := 1442695040888963407) (KM := 2305843009213693951) (KC := 3202034522624059733) (KQ := 1000003) (fun x => dMul_r (by decide) (by decide)) (fun x => dMul_r (by decide) (by decide)) (fun x => dMul_r (by decide) (by decide)) (fun x => dMod_i (by decide)) (fun x => dDiv_i (by decide) (by decide)) (a := .no) (b := .no) (p := p) (c := c)
  refine ⟨t, ?_⟩
  unfold m__law_wide b__law_wide
  rw [x_fn]
  have e0 : ([.imm (.lst (ns.map D.int)), .imm (.int p)] ++ List.replicate (4 - 2) Sl.no : Env) = [.imm (.lst (ns.map D.int)), .imm (.int p), .no, .no] := rfl
  rw [e0]
  refine Eq.trans (congrArg (fk 2) (ssq (δ1 := [.imm (.lst (ns.map D.int)), .imm (.int p), .imm (.int 0), .no]) ?_ (ssq h1 rfl))) h2
  simp only [x_bind, bk_ok, bk_ite, x_ret, x_lift, lk_some, lk_ite, app_ite, x_eC, x_eV, vk_imm, vk_own, vk_bor, x_give, gk_own, x_bin, x_un, x_ix, x_tru, x_eB, dBl_bl, dTru_bl, dTru_int, dTru_lst, x_and, x_or, x_not, x_eAnd, x_eOr, x_eNot, x_eIf, x_chain, x_aNil, x_aCons, x_aVr, rk_own, rk_io, x_aVb, tk_own, tk_io, tk_imm, tk_bor, x_eTup, x_eLst, imms_nil, imms_im, x_eF, x_call, ixV_C, jk_imm, jk_own, jk_io, jk_bor, flk_int, x_lenV, nk_imm, nk_own, nk_io, nk_bor, x_inV, hk_imm, hk_own, hk_io, hk_bor, x_sNx, x_pass, x_cont, x_brk, x_seq, sk_nx, sk_rt, sk_rtO, sk_ct, sk_bk, sk_ite, x_drop, x_sRet, x_sRetO, x_sIf, x_asg, x_asgO, x_gN, x_gO, x_gNil, x_gCons, x_gTt, x_gTl, x_sApp, x_sSet, x_chM, ck_own, ck_io, x_iOf, x_iRg, x_fn, fk_rt, fk_nx, fk_ite, ios_z, ios_s, keep_io, keep_imm, keep_own, keep_bor, keep_no, dSub_i, dAdd_i, dLt_i, dLe_i, dGt_i, dGe_i, dEq_int, dNe_int, ix_lst, ix_scr, ix_tup, atI_0, atI_1, atI_2, atI_3, List.getElem?_cons_zero, List.getElem?_cons_succ, List.set_cons_zero, List.set_cons_succ, List.length_cons, List.length_nil, List.cons_append, List.nil_append, List.replicate_succ, List.replicate_zero, Option.map_some, Option.bind_some, Nat.reduceAdd, Nat.reduceSub, Nat.reduceLT, Nat.reduceLeDiff, if_true, if_false, Bool.false_eq_true, decide_eq_true_eq, reduceIte, ne_eq, not_false_eq_true, Nat.lt_add_left_iff_pos, Nat.zero_lt_succ, x_call1, x_call2, x_call3, x_call4, dk1, dk2, dk3, dk4, ixV_V, Nat.reduceEqDiff, not_false_eq_true, x_isLst, x_isSet, List.map_cons, List.map_nil, Option.map_none, Option.bind_none]
theorem call_w {ns : List Int} {p : Int} (h0 : 0 ≤ p) : ∃ t : Int, ∀ δ, callM m__law_wide [.im (.lst (ns.map D.int)), .im (.int p)] δ = some (.ok (.int t), δ) := by
  obtain ⟨t, h⟩ := ev_wide (ns := ns) h0
  exact ⟨t, fun δ => by rw [x_call2, h, dk2]⟩
theorem take_tail {ns : List Int} {x p m : Int} (h : 0 < m) (h2 : m ≤ 1000000) :
    fk 2 ((sSeq (sAsg (gN 2) (eBin dMod (eF fInt (aCons (eIxV 0 (eC (.int 0))) aNil)) (eV 1)))
 (sSeq (sSet 0 (eC (.int 0)) (eBin dDiv (eIxV 0 (eC (.int 0))) (eV 1)))
 (sRet (eV 2)))) [.io (plD ns x p), .imm (.int m), .no]) = some (.ok (.int (x % m)), [.io (plD ns (x / m) p), .no]) := by
  unfold plD
  simp only [x_bind, bk_ok, bk_ite, x_ret, x_lift, lk_some, lk_ite, app_ite, x_eC, x_eV, vk_imm, vk_own, vk_bor, x_give, gk_own, x_bin, x_un, x_ix, x_tru, x_eB, dBl_bl, dTru_bl, dTru_int, dTru_lst, x_and, x_or, x_not, x_eAnd, x_eOr, x_eNot, x_eIf, x_chain, x_aNil, x_aCons, x_aVr, rk_own, rk_io, x_aVb, tk_own, tk_io, tk_imm, tk_bor, x_eTup, x_eLst, imms_nil, imms_im, x_eF, x_call, ixV_C, jk_imm, jk_own, jk_io, jk_bor, flk_int, x_lenV, nk_imm, nk_own, nk_io, nk_bor, x_inV, hk_imm, hk_own, hk_io, hk_bor, x_sNx, x_pass, x_cont, x_brk, x_seq, sk_nx, sk_rt, sk_rtO, sk_ct, sk_bk, sk_ite, x_drop, x_sRet, x_sRetO, x_sIf, x_asg, x_asgO, x_gN, x_gO, x_gNil, x_gCons, x_gTt, x_gTl, x_sApp, x_sSet, x_chM, ck_own, ck_io, x_iOf, x_iRg, x_fn, fk_rt, fk_nx, fk_ite, ios_z, ios_s, keep_io, keep_imm, keep_own, keep_bor, keep_no, dSub_i, dAdd_i, dLt_i, dLe_i, dGt_i, dGe_i, dEq_int, dNe_int, ix_lst, ix_scr, ix_tup, atI_0, atI_1, atI_2, atI_3, List.getElem?_cons_zero, List.getElem?_cons_succ, List.set_cons_zero, List.set_cons_succ, List.length_cons, List.length_nil, List.cons_append, List.nil_append, List.replicate_succ, List.replicate_zero, Option.map_some, Option.bind_some, Nat.reduceAdd, Nat.reduceSub, Nat.reduceLT, Nat.reduceLeDiff, if_true, if_false, Bool.false_eq_true, decide_eq_true_eq, reduceIte, ne_eq, not_false_eq_true, Nat.lt_add_left_iff_pos, Nat.zero_lt_succ, x_call1, x_call2, x_call3, x_call4, dk1, dk2, dk3, dk4, ixV_V, Nat.reduceEqDiff, not_false_eq_true, x_isLst, x_isSet, List.map_cons, List.map_nil, Option.map_none, Option.bind_none, fInt_i, dMod_i h, dDiv_i h (show m < 1073741824 by omega), dSet3_0, iSk_io]
theorem ev_take {ns : List Int} {x p m : Int} (hp : -1 ≤ p) (h : 0 < m) (h2 : m ≤ 1000000) : ∃ (t x' p' : Int), m__law_take [.io (plD ns x p), .imm (.int m)] = some (.ok (.int t), [.io (plD ns x' p'), .no]) ∧ -1 ≤ p' ∧ 0 ≤ t ∧ t < m := by
  have h1 : ∃ x' p' : Int, -1 ≤ p' ∧ (sIf (eB (eBin dLt (eIxV 0 (eC (.int 0))) (eC (.int 1000))))
 (sSeq (sSet 0 (eC (.int 2)) (eBin dAdd (eIxV 0 (eC (.int 2))) (eC (.int 1))))
 (sSet 0 (eC (.int 0)) (eCall m__law_wide (aCons (eIxV 0 (eC (.int 1))) (aCons (eIxV 0 (eC (.int 2))) aNil)))))
 sNx) [.io (plD ns x p), .imm (.int m), .no] = some (.ok .nx, [.io (plD ns x' p'), .imm (.int m), .no]) := by
    have hc : (eB (eBin dLt (eIxV 0 (eC (.int 0))) (eC (.int 1000)))) [.io (plD ns x p), .imm (.int m), .no] = some (.ok (decide (x < 1000)), [.io (plD ns x p), .imm (.int m), .no]) := by
      unfold plD
      simp only [x_bind, bk_ok, bk_ite, x_ret, x_lift, lk_some, lk_ite, app_ite, x_eC, x_eV, vk_imm, vk_own, vk_bor, x_give, gk_own, x_bin, x_un, x_ix, x_tru, x_eB, dBl_bl, dTru_bl, dTru_int, dTru_lst, x_and, x_or, x_not, x_eAnd, x_eOr, x_eNot, x_eIf, x_chain, x_aNil, x_aCons, x_aVr, rk_own, rk_io, x_aVb, tk_own, tk_io, tk_imm, tk_bor, x_eTup, x_eLst, imms_nil, imms_im, x_eF, x_call, ixV_C, jk_imm, jk_own, jk_io, jk_bor, flk_int, x_lenV, nk_imm, nk_own, nk_io, nk_bor, x_inV, hk_imm, hk_own, hk_io, hk_bor, x_sNx, x_pass, x_cont, x_brk, x_seq, sk_nx, sk_rt, sk_rtO, sk_ct, sk_bk, sk_ite, x_drop, x_sRet, x_sRetO, x_sIf, x_asg, x_asgO, x_gN, x_gO, x_gNil, x_gCons, x_gTt, x_gTl, x_sApp, x_sSet, x_chM, ck_own, ck_io, x_iOf, x_iRg, x_fn, fk_rt, fk_nx, fk_ite, ios_z, ios_s, keep_io, keep_imm, keep_own, keep_bor, keep_no, dSub_i, dAdd_i, dLt_i, dLe_i, dGt_i, dGe_i, dEq_int, dNe_int, ix_lst, ix_scr, ix_tup, atI_0, atI_1, atI_2, atI_3, List.getElem?_cons_zero, List.getElem?_cons_succ, List.set_cons_zero, List.set_cons_succ, List.length_cons, List.length_nil, List.cons_append, List.nil_append, List.replicate_succ, List.replicate_zero, Option.map_some, Option.bind_some, Nat.reduceAdd, Nat.reduceSub, Nat.reduceLT, Nat.reduceLeDiff, if_true, if_false, Bool.false_eq_true, decide_eq_true_eq, reduceIte, ne_eq, not_false_eq_true, Nat.lt_add_left_iff_pos, Nat.zero_lt_succ, x_call1, x_call2, x_call3, x_call4, dk1, dk2, dk3, dk4, ixV_V, Nat.reduceEqDiff, not_false_eq_true, x_isLst, x_isSet, List.map_cons, List.map_nil, Option.map_none, Option.bind_none]
    by_cases c : x < 1000
    · rw [decide_eq_true c] at hc
      obtain ⟨t, ht⟩ := call_w (ns := ns) (p := p + 1) (by omega)
      refine ⟨t, p + 1, by omega, ?_⟩
      rw [sIf_t hc]
      refine ssq (δ1 := [.io (plD ns x (p + 1)), .imm (.int m), .no]) ?_ ?_
      · unfold plD
        simp only [x_bind, bk_ok, bk_ite, x_ret, x_lift, lk_some, lk_ite, app_ite, x_eC, x_eV, vk_imm, vk_own, vk_bor, x_give, gk_own, x_bin, x_un, x_ix, x_tru, x_eB, dBl_bl, dTru_bl, dTru_int, dTru_lst, x_and, x_or, x_not, x_eAnd, x_eOr, x_eNot, x_eIf, x_chain, x_aNil, x_aCons, x_aVr, rk_own, rk_io, x_aVb, tk_own, tk_io, tk_imm, tk_bor, x_eTup, x_eLst, imms_nil, imms_im, x_eF, x_call, ixV_C, jk_imm, jk_own, jk_io, jk_bor, flk_int, x_lenV, nk_imm, nk_own, nk_io, nk_bor, x_inV, hk_imm, hk_own, hk_io, hk_bor, x_sNx, x_pass, x_cont, x_brk, x_seq, sk_nx, sk_rt, sk_rtO, sk_ct, sk_bk, sk_ite, x_drop, x_sRet, x_sRetO, x_sIf, x_asg, x_asgO, x_gN, x_gO, x_gNil, x_gCons, x_gTt, x_gTl, x_sApp, x_sSet, x_chM, ck_own, ck_io, x_iOf, x_iRg, x_fn, fk_rt, fk_nx, fk_ite, ios_z, ios_s, keep_io, keep_imm, keep_own, keep_bor, keep_no, dSub_i, dAdd_i, dLt_i, dLe_i, dGt_i, dGe_i, dEq_int, dNe_int, ix_lst, ix_scr, ix_tup, atI_0, atI_1, atI_2, atI_3, List.getElem?_cons_zero, List.getElem?_cons_succ, List.set_cons_zero, List.set_cons_succ, List.length_cons, List.length_nil, List.cons_append, List.nil_append, List.replicate_succ, List.replicate_zero, Option.map_some, Option.bind_some, Nat.reduceAdd, Nat.reduceSub, Nat.reduceLT, Nat.reduceLeDiff, if_true, if_false, Bool.false_eq_true, decide_eq_true_eq, reduceIte, ne_eq, not_false_eq_true, Nat.lt_add_left_iff_pos, Nat.zero_lt_succ, x_call1, x_call2, x_call3, x_call4, dk1, dk2, dk3, dk4, ixV_V, Nat.reduceEqDiff, not_false_eq_true, x_isLst, x_isSet, List.map_cons, List.map_nil, Option.map_none, Option.bind_none, dSet3_2, iSk_io]
      · unfold plD
        simp only [x_bind, bk_ok, bk_ite, x_ret, x_lift, lk_some, lk_ite, app_ite, x_eC, x_eV, vk_imm, vk_own, vk_bor, x_give, gk_own, x_bin, x_un, x_ix, x_tru, x_eB, dBl_bl, dTru_bl, dTru_int, dTru_lst, x_and, x_or, x_not, x_eAnd, x_eOr, x_eNot, x_eIf, x_chain, x_aNil, x_aCons, x_aVr, rk_own, rk_io, x_aVb, tk_own, tk_io, tk_imm, tk_bor, x_eTup, x_eLst, imms_nil, imms_im, x_eF, x_call, ixV_C, jk_imm, jk_own, jk_io, jk_bor, flk_int, x_lenV, nk_imm, nk_own, nk_io, nk_bor, x_inV, hk_imm, hk_own, hk_io, hk_bor, x_sNx, x_pass, x_cont, x_brk, x_seq, sk_nx, sk_rt, sk_rtO, sk_ct, sk_bk, sk_ite, x_drop, x_sRet, x_sRetO, x_sIf, x_asg, x_asgO, x_gN, x_gO, x_gNil, x_gCons, x_gTt, x_gTl, x_sApp, x_sSet, x_chM, ck_own, ck_io, x_iOf, x_iRg, x_fn, fk_rt, fk_nx, fk_ite, ios_z, ios_s, keep_io, keep_imm, keep_own, keep_bor, keep_no, dSub_i, dAdd_i, dLt_i, dLe_i, dGt_i, dGe_i, dEq_int, dNe_int, ix_lst, ix_scr, ix_tup, atI_0, atI_1, atI_2, atI_3, List.getElem?_cons_zero, List.getElem?_cons_succ, List.set_cons_zero, List.set_cons_succ, List.length_cons, List.length_nil, List.cons_append, List.nil_append, List.replicate_succ, List.replicate_zero, Option.map_some, Option.bind_some, Nat.reduceAdd, Nat.reduceSub, Nat.reduceLT, Nat.reduceLeDiff, if_true, if_false, Bool.false_eq_true, decide_eq_true_eq, reduceIte, ne_eq, not_false_eq_true, Nat.lt_add_left_iff_pos, Nat.zero_lt_succ, x_call1, x_call2, x_call3, x_call4, dk1, dk2, dk3, dk4, ixV_V, Nat.reduceEqDiff, not_false_eq_true, x_isLst, x_isSet, List.map_cons, List.map_nil, Option.map_none, Option.bind_none, dSet3_0, iSk_io, ht]
    · rw [decide_eq_false c] at hc
      exact ⟨x, p, hp, by rw [sIf_f hc]; rfl⟩
  obtain ⟨x', p', hp', h1⟩ := h1
  refine ⟨x' % m, x' / m, p', ?_, hp', Int.emod_nonneg _ (by omega), Int.emod_lt_of_pos _ h⟩
  unfold m__law_take b__law_take
  rw [x_fn]
  have e0 : ([.io (plD ns x p), .imm (.int m)] ++ List.replicate (3 - 2) Sl.no : Env) = [.io (plD ns x p), .imm (.int m), .no] := rfl
  rw [e0]
  exact (congrArg (fk 2) (ssq h1 rfl)).trans (take_tail h h2)
theorem ev_tk {ns : List Int} {d : D} {m : Int} (hd : IsPl ns d) (h : 0 < m) (h2 : m ≤ 1000000) : ∃ t d', (∀ δ, callM m__law_take [.vr 0, .im (.int m)] (.io d :: δ) = some (.ok (.int t), .io d' :: δ)) ∧ IsPl ns d' ∧ 0 ≤ t ∧ t < m := by
  obtain ⟨x, p, hp, rfl⟩ := hd
  obtain ⟨t, x', p', h1, h3, h4, h5⟩ := ev_take (ns := ns) (x := x) hp h h2
  exact ⟨t, _, fun δ => call_v1 h1, ⟨x', p', h3, rfl⟩, h4, h5⟩
end M
set_option Elab.async false
set_option linter.all false
set_option maxRecDepth 100000
set_option maxHeartbeats 2000000
namespace M
open PySem L2
local macro_rules
  | `(tactic| simp! only [$as,*]) => `(tactic| simp only [x_bind, bk_ok, bk_ite, x_ret, x_lift, lk_some, lk_ite, app_ite, x_eC, x_eV, vk_imm, vk_own, vk_bor, x_give, gk_own, x_bin, x_un, x_ix, x_tru, x_eB, dBl_bl, dTru_bl, dTru_int, dTru_lst, x_and, x_or, x_not, x_eAnd, x_eOr, x_eNot, x_eIf, x_chain, x_aNil, x_aCons, x_aVr, rk_own, rk_io, x_aVb, tk_own, tk_io, tk_imm, tk_bor, x_eTup, x_eLst, imms_nil, imms_im, x_eF, x_call, ixV_C, jk_imm, jk_own, jk_io, jk_bor, flk_int, x_lenV, nk_imm, nk_own, nk_io, nk_bor, x_inV, hk_imm, hk_own, hk_io, hk_bor, x_sNx, x_pass, x_cont, x_brk, x_seq, sk_nx, sk_rt, sk_rtO, sk_ct, sk_bk, sk_ite, x_drop, x_sRet, x_sRetO, x_sIf, x_asg, x_asgO, x_gN, x_gO, x_gNil, x_gCons, x_gTt, x_gTl, x_sApp, x_sSet, x_chM, ck_own, ck_io, x_iOf, x_iRg, x_fn, fk_rt, fk_nx, fk_ite, ios_z, ios_s, keep_io, keep_imm, keep_own, keep_bor, keep_no, dSub_i, dAdd_i, dLt_i, dLe_i, dGt_i, dGe_i, dEq_int, dNe_int, ix_lst, ix_scr, ix_tup, atI_0, atI_1, atI_2, atI_3, List.getElem?_cons_zero, List.getElem?_cons_succ, List.set_cons_zero, List.set_cons_succ, List.length_cons, List.length_nil, List.cons_append, List.nil_append, List.replicate_succ, List.replicate_zero, Option.map_some, Option.bind_some, Nat.reduceAdd, Nat.reduceSub, Nat.reduceLT, Nat.reduceLeDiff, if_true, if_false, Bool.false_eq_true, decide_eq_true_eq, reduceIte, ne_eq, not_false_eq_true, Nat.lt_add_left_iff_pos, Nat.zero_lt_succ, x_call1, x_call2, x_call3, x_call4, dk1, dk2, dk3, dk4, ixV_V, Nat.reduceEqDiff, not_false_eq_true, x_isLst, x_isSet, List.map_cons, List.map_nil, Option.map_none, Option.bind_none, x_eSl, x_eP0, x_eP1, part_i, $as,*])
def mkS (l : List Nat) : Str := ⟨l.toArray⟩
theorem mkS_cps {l : List Nat} : (mkS l).cps.toList = l := by unfold mkS; simp
theorem mkS_len {l : List Nat} : (mkS l).length = l.length := by unfold mkS Str.length; simp
theorem len_cps {s : Str} : s.length = s.cps.toList.length := by unfold Str.length; simp
theorem mkS_add {l m : List Nat} : mkS l ++ mkS m = mkS (l ++ m) := by
  show Str.append (mkS l) (mkS m) = _
  unfold Str.append mkS
  simp
def lowB (c : Nat) : Bool := decide (97 ≤ c) && decide (c ≤ 122)
def namB (c : Nat) : Bool := lowB c || (decide (48 ≤ c) && decide (c ≤ 57))
/-- the form of a name -/
def nmL (l : List Nat) : Bool := decide (l.length ≤ 8) && (match l with | [] => false | c :: _ => lowB c) && l.all namB
def nmB (s : Str) : Bool := nmL s.cps.toList
theorem nmB_mk {l : List Nat} : nmB (mkS l) = nmL l := by unfold nmB; rw [mkS_cps]
theorem namB_le {c : Nat} (h : namB c = true) : c ≤ 122 := by
  unfold namB lowB at h
  simp at h
  omega
theorem nmB_ok {s : Str} (h : nmB s = true) : (toPy (.str s)).canLay0 = true := by
  unfold nmB nmL at h
  simp only [Bool.and_eq_true, List.all_eq_true] at h
  show (s.cps.all fun x => decide (x < 0x110000)) = true
  rw [Array.all_eq_true_iff_forall_mem]
  intro c hc
  have := namB_le (h.2 c (by simpa using hc))
  exact decide_eq_true (by omega)
theorem nmB_len {s : Str} (h : nmB s = true) : s.length ≤ 8 := by
  unfold nmB nmL at h
  simp only [Bool.and_eq_true, decide_eq_true_eq] at h
  rw [len_cps]; exact h.1.1
theorem fine_s {s : Str} (h : (toPy (.str s)).canLay0 = true) : Fine (.str s) ∧ (toPy (.str s)).depth ≤ 0 := ⟨⟨h, by unfold toPy PyData.depth; omega, by unfold toPy PyData.eqv; simp⟩, by unfold toPy PyData.depth; omega⟩
theorem fine_nm {s : Str} (h : nmB s = true) : Fine (.str s) ∧ (toPy (.str s)).depth ≤ 0 := fine_s (nmB_ok h)
theorem small_len {n : Nat} (h : n ≤ 1000) : n ≤ sizeLine := by rw [sizeLine_eq]; omega
theorem add_str {l m : List Nat} (h : l.length ≤ 100) (h2 : m.length ≤ 100) : dAdd (.str (mkS l)) (.str (mkS m)) = some (.str (mkS (l ++ m))) := by
  show (if (mkS l).length + (mkS m).length ≤ sizeLine then some (D.str (mkS l ++ mkS m)) else none) = _
  rw [mkS_len, mkS_len, if_pos (small_len (by omega)), mkS_add]
theorem ix_str {l : List Nat} {t : Int} {c : Nat} (hl : l.length ≤ 100) (h : atI l t = some c) : dIx (.str (mkS l)) (.int t) = some (.str (mkS [c])) := by
  show (if (mkS l).length ≤ sizeLine then (atI (mkS l).cps.toList t).map fun c => D.str ⟨#[c]⟩ else none) = _
  rw [mkS_len, if_pos (small_len (by omega)), mkS_cps, h]; rfl
def abc : List Nat := (List.range 26).map (97 + ·)
def digs : List Nat := (List.range 10).map (48 + ·)
theorem abc_eq : ("abcdefghijklmnopqrstuvwxyz" : Str) = mkS abc := by decide +kernel
theorem digs_eq : ("0123456789" : Str) = mkS digs := by decide +kernel
theorem at_abc {t : Int} (h0 : 0 ≤ t) (h : t < 26) : ∃ c, atI abc t = some c ∧ lowB c = true := by
  obtain ⟨n, rfl⟩ : ∃ n : Nat, t = (n : Int) := ⟨t.toNat, by omega⟩
  refine ⟨97 + n, atI_nat ?_, ?_⟩
  · unfold abc; rw [List.getElem?_map, List.getElem?_range (by omega)]; rfl
  · unfold lowB; simp; omega
theorem at_both {t : Int} (h0 : 0 ≤ t) (h : t < 36) : ∃ c, atI (abc ++ digs) t = some c ∧ namB c = true := by
  obtain ⟨n, rfl⟩ : ∃ n : Nat, t = (n : Int) := ⟨t.toNat, by omega⟩
  by_cases c : n < 26
  · refine ⟨97 + n, atI_nat ?_, ?_⟩
    · rw [List.getElem?_append_left (by unfold abc; simp; omega)]
      unfold abc; rw [List.getElem?_map, List.getElem?_range (by omega)]; rfl
    · unfold namB lowB; simp; omega
  · refine ⟨48 + (n - 26), atI_nat ?_, ?_⟩
    · rw [List.getElem?_append_right (by unfold abc; simp; omega)]
      unfold abc digs
      rw [List.getElem?_map, List.length_map, List.length_range, List.getElem?_range (by omega)]; rfl
    · unfold namB lowB; simp; omega
/-- what is drawn: a name of 1, 2, 4 or 8 signs, or `end` -/
def DrL (l : List Nat) : Prop := nmL l = true ∧ (l.length ≠ 3 ∨ l = [101, 110, 100])
theorem six_nm {t : Int} (h0 : 0 ≤ t) (h : t < 6) : ∃ l, atI [D.str "a", .str "b", .str "view", .str "end", .str "link", .str "c"] t = some (.str (mkS l)) ∧ DrL l := by
  have : t = 0 ∨ t = 1 ∨ t = 2 ∨ t = 3 ∨ t = 4 ∨ t = 5 := by omega
  rcases this with e | e | e | e | e | e <;> rw [e]
  · exact ⟨[97], atI_0, by decide +kernel, .inl (by decide)⟩
  · exact ⟨[98], atI_1, by decide +kernel, .inl (by decide)⟩
  · exact ⟨("view" : Str).cps.toList, atI_2, by decide +kernel, .inl (by decide +kernel)⟩
  · exact ⟨("end" : Str).cps.toList, atI_3, by decide +kernel, .inr (by decide +kernel)⟩
  · exact ⟨("link" : Str).cps.toList, rfl, by decide +kernel, .inl (by decide +kernel)⟩
  · exact ⟨[99], rfl, by decide +kernel, .inl (by decide)⟩
theorem four_at {t : Int} (h0 : 0 ≤ t) (h : t < 4) : ∃ m : Nat, atI [D.int 0, .int 1, .int 3, .int 7] t = some (.int (m : Nat)) ∧ m ≤ 7 ∧ m ≠ 2 := by
  have : t = 0 ∨ t = 1 ∨ t = 2 ∨ t = 3 := by omega
  rcases this with e | e | e | e <;> rw [e]
  · exact ⟨0, atI_0, by omega, by omega⟩
  · exact ⟨1, atI_1, by omega, by omega⟩
  · exact ⟨3, atI_2, by omega, by omega⟩
  · exact ⟨7, atI_3, by omega, by omega⟩
theorem nmL_snoc {l : List Nat} {c : Nat} (h : nmL l = true) (hl : l.length < 8) (hc : namB c = true) : nmL (l ++ [c]) = true := by
  unfold nmL at *
  simp only [Bool.and_eq_true, decide_eq_true_eq] at *
  refine ⟨⟨by rw [List.length_append, List.length_singleton]; omega, ?_⟩, ?_⟩
  · cases l with
    | nil => exact absurd h.1.2 Bool.false_ne_true
    | cons x l => exact h.1.2
  · rw [List.all_append, h.2]; simp [hc]
/-- x[e], where e leaves the slot -/
theorem ixV_E {i : Nat} {B : Mo D} {δ δ' : Env} {d y : D} (h1 : δ[i]? = some (.imm d)) (h2 : B δ = some (.ok y, δ')) (h3 : δ'[i]? = some (.imm d)) : eIxV i B δ = lk (dIx d y) δ' := by
  rw [ixV_of h1 rfl (fun y' δ'' q => by rw [h2] at q; cases q; exact h3)]
  unfold ik
  rw [h2]
  show (match dIx d y with
    | some z => if isBor (Sl.imm d) = true then (if flatD z = true then some (Except.ok z, δ') else none) else some (Except.ok z, δ')
    | none => none) = _
  unfold lk
  cases dIx d y with
  | none => rfl
  | some z => rfl
theorem ev_name {ns : List Int} {d : D} (hd : IsPl ns d) : ∃ l d', m__law_name [.io d] = some (.ok (.str (mkS l)), [.io d']) ∧ IsPl ns d' ∧ DrL l := by
  obtain ⟨t1, d1, c1, i1, a1, b1⟩ := ev_tk hd (m := 6) (by omega) (by omega)
  obtain ⟨l1, e1, D1⟩ := six_nm a1 b1
  obtain ⟨t2, d2, c2, i2, a2, b2⟩ := ev_tk i1 (m := 3) (by omega) (by omega)
  by_cases h2 : t2 = 0
  · obtain ⟨t3, d3, c3, i3, a3, b3⟩ := ev_tk i2 (m := 26) (by omega) (by omega)
    obtain ⟨ch, e3, lo⟩ := at_abc a3 b3
    obtain ⟨t4, d4, c4, i4, a4, b4⟩ := ev_tk i3 (m := 4) (by omega) (by omega)
    obtain ⟨m, e4, m7, m2⟩ := four_at a4 b4
    have x3 := ix_str (by decide +kernel : abc.length ≤ 100) e3
    have x5 := add_str (by decide +kernel : abc.length ≤ 100) (by decide +kernel : digs.length ≤ 100)
    rw [← abc_eq] at x3
    rw [← abc_eq, ← digs_eq] at x5
    obtain ⟨δ', f1, d5, l, y3, rfl, i5, ll, nl⟩ := sFor_inv (I := (iRg rg1 (aCons (eIx (eLst (aCons (eC (.int 0)) (aCons (eC (.int 1)) (aCons (eC (.int 3)) (aCons (eC (.int 7)) aNil))))) (eCall m__law_take (aVr 0 (aCons (eC (.int 4)) aNil)))) aNil))) (T := gN 3)
      (S := (sAsg (gN 2) (eBin dAdd (eV 2) (eIx (eBin dAdd (eV 1) (eC (.str "0123456789"))) (eCall m__law_take (aVr 0 (aCons (eC (.int 36)) aNil))))))) (ds := rgD 0 m)
      (δ := [.io d3, .imm (.str "abcdefghijklmnopqrstuvwxyz"), .imm (.str (mkS [ch])), .no]) (δ0 := [.io d4, .imm (.str "abcdefghijklmnopqrstuvwxyz"), .imm (.str (mkS [ch])), .no])
      (fun k δ => ∃ (d5 : D) (l : List Nat) (y3 : Sl), δ = [.io d5, .imm (.str "abcdefghijklmnopqrstuvwxyz"), .imm (.str (mkS l)), y3] ∧ IsPl ns d5 ∧ l.length = 1 + k ∧ nmL l = true)
      (by
        have e4 : dIx (.lst [D.int 0, .int 1, .int 3, .int 7]) (.int t4) = some (.int (m : Nat)) := e4
        simp only [ix_lst] at e4
        simp! only [c4, e4, rg1_n (show m ≤ 1000 by omega)]) ⟨d4, [ch], .no, rfl, i4, rfl, by unfold nmL namB; simp [lo]⟩ (fun k d δ hk hδ => by
        obtain ⟨d5, l, y3, rfl, i5, ll, nl⟩ := hδ
        obtain ⟨hk, rfl⟩ := rgD_get hk
        obtain ⟨t6, d6, c6, i6, a6, b6⟩ := ev_tk i5 (m := 36) (by omega) (by omega)
        obtain ⟨c, e6, nc⟩ := at_both a6 b6
        have x6 := ix_str (by decide +kernel : (abc ++ digs).length ≤ 100) e6
        have x7 := add_str (l := l) (m := [c]) (by omega) (by simp)
        generalize (mkS (abc ++ digs)) = AB at *
        generalize (k : Int) = kk at *
        exact ⟨[.io d5, .imm (.str "abcdefghijklmnopqrstuvwxyz"), .imm (.str (mkS l)), .imm (.int kk)], [.io d6, .imm (.str "abcdefghijklmnopqrstuvwxyz"), .imm (.str (mkS (l ++ [c]))), .imm (.int kk)], by simp! only [], .inl (by simp! only [x5, c6, x6, x7]), d6, l ++ [c], _, rfl, i6, by rw [List.length_append, ll]; rfl, nmL_snoc nl (by omega) nc⟩)
    rw [rgD_len] at ll
    refine ⟨l, d5, (fn_rt (δ1 := [.io d5, .imm (.str "abcdefghijklmnopqrstuvwxyz"), .imm (.str (mkS l)), y3]) ?_).trans rfl, i5, nl, .inl (by omega)⟩
    unfold b__law_name
    refine ssq (by simp! only [] <;> rfl) ?_
    refine ssq (by simp! only [c1, e1] <;> rfl) ?_
    refine ssq (δ1 := [.io d5, .imm (.str "abcdefghijklmnopqrstuvwxyz"), .imm (.str (mkS l)), y3]) (st (by simp! only [c2, h2, decide_true]; rfl) ?_) (by simp! only [])
    have e5 : eIxV 1 (eCall m__law_take (aVr 0 (aCons (eC (.int 26)) aNil))) [.io d2, .imm (.str "abcdefghijklmnopqrstuvwxyz"), .imm (.str (mkS l1)), .no] = lk (some (.str (mkS [ch]))) [.io d3, .imm (.str "abcdefghijklmnopqrstuvwxyz"), .imm (.str (mkS l1)), .no] := by
      rw [ixV_E (d := .str "abcdefghijklmnopqrstuvwxyz") (y := .int t3) (δ' := [.io d3, .imm (.str "abcdefghijklmnopqrstuvwxyz"), .imm (.str (mkS l1)), .no]) rfl (by simp! only [c3]) rfl, x3]
    refine ssq (by simp! only [e5] <;> rfl) ?_
    exact f1
  · refine ⟨l1, d2, (fn_rt (δ1 := [.io d2, .imm (.str "abcdefghijklmnopqrstuvwxyz"), .imm (.str (mkS l1)), .no]) ?_).trans rfl, i2, D1⟩
    unfold b__law_name
    refine ssq (by simp! only [] <;> rfl) ?_
    refine ssq (by simp! only [c1, e1] <;> rfl) ?_
    refine ssq_f (by simp! only [c2, h2, decide_false] <;> rfl) ?_
    simp! only []
end M
set_option Elab.async false
set_option linter.all false
set_option maxRecDepth 100000
set_option maxHeartbeats 2000000
namespace M
open PySem L2
local macro_rules
  | `(tactic| simp! only [$as,*]) => `(tactic| simp only [x_bind, bk_ok, bk_ite, x_ret, x_lift, lk_some, lk_ite, app_ite, x_eC, x_eV, vk_imm, vk_own, vk_bor, x_give, gk_own, x_bin, x_un, x_ix, x_tru, x_eB, dBl_bl, dTru_bl, dTru_int, dTru_lst, x_and, x_or, x_not, x_eAnd, x_eOr, x_eNot, x_eIf, x_chain, x_aNil, x_aCons, x_aVr, rk_own, rk_io, x_aVb, tk_own, tk_io, tk_imm, tk_bor, x_eTup, x_eLst, imms_nil, imms_im, x_eF, x_call, ixV_C, jk_imm, jk_own, jk_io, jk_bor, flk_int, x_lenV, nk_imm, nk_own, nk_io, nk_bor, x_inV, hk_imm, hk_own, hk_io, hk_bor, x_sNx, x_pass, x_cont, x_brk, x_seq, sk_nx, sk_rt, sk_rtO, sk_ct, sk_bk, sk_ite, x_drop, x_sRet, x_sRetO, x_sIf, x_asg, x_asgO, x_gN, x_gO, x_gNil, x_gCons, x_gTt, x_gTl, x_sApp, x_sSet, x_chM, ck_own, ck_io, x_iOf, x_iRg, x_fn, fk_rt, fk_nx, fk_ite, ios_z, ios_s, keep_io, keep_imm, keep_own, keep_bor, keep_no, dSub_i, dAdd_i, dLt_i, dLe_i, dGt_i, dGe_i, dEq_int, dNe_int, ix_lst, ix_scr, ix_tup, atI_0, atI_1, atI_2, atI_3, List.getElem?_cons_zero, List.getElem?_cons_succ, List.set_cons_zero, List.set_cons_succ, List.length_cons, List.length_nil, List.cons_append, List.nil_append, List.replicate_succ, List.replicate_zero, Option.map_some, Option.bind_some, Nat.reduceAdd, Nat.reduceSub, Nat.reduceLT, Nat.reduceLeDiff, if_true, if_false, Bool.false_eq_true, decide_eq_true_eq, reduceIte, ne_eq, not_false_eq_true, Nat.lt_add_left_iff_pos, Nat.zero_lt_succ, x_call1, x_call2, x_call3, x_call4, dk1, dk2, dk3, dk4, ixV_V, Nat.reduceEqDiff, not_false_eq_true, x_isLst, x_isSet, List.map_cons, List.map_nil, Option.map_none, Option.bind_none, x_eSl, x_eP0, x_eP1, part_i, $as,*])
abbrev Row := List (Option Int)
def rowT (r : Row) : D := .tup (r.map oI)
def rowsT (rs : List Row) : D := .tup (rs.map rowT)
def RdOk (o : Option Int) : Prop := ∀ v, o = some v → 0 ≤ v ∧ v ≤ 999
structure Rect (w h : Nat) (rs : List Row) : Prop where
  len : rs.length = h
  wid : ∀ r ∈ rs, r.length = w
  rd : ∀ r ∈ rs, ∀ o ∈ r, RdOk o
theorem fine_oI (o : Option Int) : Fine (oI o) ∧ (toPy (oI o)).depth ≤ 0 := by
  cases o with
  | none => exact ⟨⟨rfl, by unfold oI toPy PyData.depth; omega, by unfold oI toPy PyData.eqv; rfl⟩, by unfold oI toPy PyData.depth; omega⟩
  | some v => exact fine_int' v
theorem fine_row' (r : Row) : Fine (rowT r) ∧ (toPy (rowT r)).depth ≤ 1 := fine_tup (k := 0) (by omega) fun d m => by
  obtain ⟨o, _, rfl⟩ := List.mem_map.mp m; exact fine_oI o
theorem fine_rowsT (rs : List Row) : Fine (rowsT rs) ∧ (toPy (rowsT rs)).depth ≤ 2 := fine_tup (k := 1) (by omega) fun d m => by
  obtain ⟨r, _, rfl⟩ := List.mem_map.mp m; exact fine_row' r
theorem eight_at {t v : Int} (h0 : 0 ≤ t) (h : t < 8) (v0 : 0 ≤ v) (v1 : v < 1000) : ∃ o, atI [D.non, .int 0, .int 999, .int 7, .int 8, .int 9, .int v, .int 10] t = some (oI o) ∧ RdOk o := by
  have : t = 0 ∨ t = 1 ∨ t = 2 ∨ t = 3 ∨ t = 4 ∨ t = 5 ∨ t = 6 ∨ t = 7 := by omega
  have ok : ∀ x : Int, 0 ≤ x → x ≤ 999 → RdOk (some x) := fun x a b y e => by cases e; exact ⟨a, b⟩
  rcases this with e | e | e | e | e | e | e | e <;> rw [e]
  · exact ⟨none, atI_0, fun y e => by cases e⟩
  · exact ⟨some 0, atI_1, ok 0 (by omega) (by omega)⟩
  · exact ⟨some 999, atI_2, ok 999 (by omega) (by omega)⟩
  · exact ⟨some 7, atI_3, ok 7 (by omega) (by omega)⟩
  · exact ⟨some 8, rfl, ok 8 (by omega) (by omega)⟩
  · exact ⟨some 9, rfl, ok 9 (by omega) (by omega)⟩
  · exact ⟨some v, rfl, ok v v0 (by omega)⟩
  · exact ⟨some 10, rfl, ok 10 (by omega) (by omega)⟩
theorem ev_reading {ns : List Int} {d : D} (hd : IsPl ns d) : ∃ o d', m__law_reading [.io d] = some (.ok (oI o), [.io d']) ∧ IsPl ns d' ∧ RdOk o := by
  obtain ⟨t1, d1, c1, i1, a1, b1⟩ := ev_tk hd (m := 1000) (by omega) (by omega)
  obtain ⟨t2, d2, c2, i2, a2, b2⟩ := ev_tk i1 (m := 8) (by omega) (by omega)
  obtain ⟨o, e, r⟩ := eight_at a2 b2 a1 b1
  refine ⟨o, d2, (fn_rt (δ1 := [.io d2]) ?_).trans rfl, i2, r⟩
  unfold b__law_reading
  simp! only [c1, c2, e]
theorem ev_rd {ns : List Int} {d : D} (hd : IsPl ns d) : ∃ o d', (∀ δ, callM m__law_reading [.vr 0] (.io d :: δ) = some (.ok (oI o), .io d' :: δ)) ∧ IsPl ns d' ∧ RdOk o := by
  obtain ⟨o, d', e, i, r⟩ := ev_reading hd
  exact ⟨o, d', fun δ => call_of (by simp only [argSls, argSl, List.getElem?_cons_zero]) ⟨by simp [vrs], by simp [vbs]⟩ e (by simp only [backs, List.getElem?_cons_zero, List.set_cons_zero]), i, r⟩
theorem ev_rows {ns : List Int} {d : D} {most : Nat} (hd : IsPl ns d) (h1 : 1 ≤ most) (h2 : most ≤ 12) : ∃ (w h : Nat) (rs : List Row) (d' : D), m__law_rows [.io d, .imm (.int (most : Nat))] = some (.ok (rowsT rs), [.io d', .no]) ∧ IsPl ns d' ∧ Rect w h rs ∧ 1 ≤ w ∧ w ≤ most ∧ 1 ≤ h ∧ h ≤ most := by
  obtain ⟨t1, d1, c1, i1, a1, b1⟩ := ev_tk hd (m := (most : Nat)) (by omega) (by omega)
  obtain ⟨t2, d2, c2, i2, a2, b2⟩ := ev_tk i1 (m := (most : Nat)) (by omega) (by omega)
  obtain ⟨w, hw⟩ : ∃ w : Nat, 1 + t1 = (w : Int) := ⟨(1 + t1).toNat, by omega⟩
  obtain ⟨h, hh⟩ : ∃ h : Nat, 1 + t2 = (h : Int) := ⟨(1 + t2).toNat, by omega⟩
  obtain ⟨ys, δ', e, ⟨rs, d3, erow, rfl, i3, ok⟩, ly⟩ := eLc_acc (I := (iRg rg1 (aCons (eV 3) aNil))) (T := gN 5) (E := (eF fTuple (aCons (eLc (iRg rg1 (aCons (eV 2) aNil)) (gN 4) tYesM (eCall m__law_reading (aVr 0 aNil)) [4]) aNil))) (vs := [5]) (ds := rgD 0 h)
    (δ := [.io d2, .imm (.int (most : Nat)), .imm (.int (w : Nat)), .imm (.int (h : Nat)), .no, .no]) (δ0 := [.io d2, .imm (.int (most : Nat)), .imm (.int (w : Nat)), .imm (.int (h : Nat)), .no, .no])
    (fun acc δ => ∃ (rs : List Row) (d3 : D), acc = rs.map rowT ∧ δ = [.io d3, .imm (.int (most : Nat)), .imm (.int (w : Nat)), .imm (.int (h : Nat)), .no, .no] ∧ IsPl ns d3 ∧ ∀ r ∈ rs, r.length = w ∧ ∀ o ∈ r, RdOk o)
    (by simp! only [rg1_n (show h ≤ 1000 by omega)]) (by rw [rgD_len]; omega) ⟨[], d2, rfl, rfl, i2, fun r hr => by simp at hr⟩ (fun i x acc δ hx hl hI => by
      obtain ⟨rs, d3, rfl, rfl, i3, ok⟩ := hI
      obtain ⟨ys, δ', e, ⟨r, d4, erow, rfl, i4, ok4⟩, ly⟩ := eLc_acc (I := (iRg rg1 (aCons (eV 2) aNil))) (T := gN 4) (E := eCall m__law_reading (aVr 0 aNil)) (vs := [4]) (ds := rgD 0 w)
        (δ := [.io d3, .imm (.int (most : Nat)), .imm (.int (w : Nat)), .imm (.int (h : Nat)), .no, .imm x]) (δ0 := [.io d3, .imm (.int (most : Nat)), .imm (.int (w : Nat)), .imm (.int (h : Nat)), .no, .imm x])
        (fun acc δ => ∃ (r : Row) (d4 : D), acc = r.map oI ∧ δ = [.io d4, .imm (.int (most : Nat)), .imm (.int (w : Nat)), .imm (.int (h : Nat)), .no, .imm x] ∧ IsPl ns d4 ∧ ∀ o ∈ r, RdOk o)
        (by simp! only [rg1_n (show w ≤ 1000 by omega)]) (by rw [rgD_len]; omega) ⟨[], d3, rfl, rfl, i3, fun r hr => by simp at hr⟩ (fun i y acc δ hy hl hI => by
          obtain ⟨r, d4, rfl, rfl, i4, ok4⟩ := hI
          obtain ⟨o, d5, c5, i5, r5⟩ := ev_rd i4
          refine ⟨[.io d4, .imm (.int (most : Nat)), .imm (.int (w : Nat)), .imm (.int (h : Nat)), .imm y, .imm x], oI o, [.io d5, .imm (.int (most : Nat)), .imm (.int (w : Nat)), .imm (.int (h : Nat)), .imm y, .imm x], by simp! only [], by simp! only [c5], r ++ [o], d5, by rw [List.map_append]; rfl, rfl, i5, fun z hz => ?_⟩
          rcases List.mem_append.mp hz with hz | hz
          · exact ok4 z hz
          · rw [List.mem_singleton.mp hz]; exact r5)
      subst erow
      rw [List.length_map, rgD_len] at ly
      have ft : fTuple [.lst (r.map oI)] = some (rowT r) := rfl
      refine ⟨[.io d3, .imm (.int (most : Nat)), .imm (.int (w : Nat)), .imm (.int (h : Nat)), .no, .imm x], rowT r, [.io d4, .imm (.int (most : Nat)), .imm (.int (w : Nat)), .imm (.int (h : Nat)), .no, .imm x], by simp! only [], by simp! only [e, ft], rs ++ [r], d4, by rw [List.map_append]; rfl, rfl, i4, fun z hz => ?_⟩
      rcases List.mem_append.mp hz with hz | hz
      · exact ok z hz
      · rw [List.mem_singleton.mp hz]; exact ⟨ly, ok4⟩)
  subst erow
  rw [List.length_map, rgD_len] at ly
  have ft : fTuple [.lst (rs.map rowT)] = some (rowsT rs) := rfl
  refine ⟨w, h, rs, d3, (fn_rt (δ1 := [.io d3, .imm (.int (most : Nat)), .imm (.int (w : Nat)), .imm (.int (h : Nat)), .no, .no]) ?_).trans rfl, i3, ⟨ly, fun r hr => (ok r hr).1, fun r hr => (ok r hr).2⟩, by omega, by omega, by omega, by omega⟩
  unfold b__law_rows
  refine ssq (by simp! only [c1, hw] <;> rfl) ?_
  refine ssq (by simp! only [c2, hh] <;> rfl) ?_
  simp! only [e, ft]
end M
set_option Elab.async false
set_option linter.all false
set_option maxRecDepth 100000
set_option maxHeartbeats 2000000
namespace M
open PySem L2
local macro_rules
  | `(tactic| simp! only [$as,*]) => `(tactic| simp only [x_bind, bk_ok, bk_ite, x_ret, x_lift, lk_some, lk_ite, app_ite, x_eC, x_eV, vk_imm, vk_own, vk_bor, x_give, gk_own, x_bin, x_un, x_ix, x_tru, x_eB, dBl_bl, dTru_bl, dTru_int, dTru_lst, x_and, x_or, x_not, x_eAnd, x_eOr, x_eNot, x_eIf, x_chain, x_aNil, x_aCons, x_aVr, rk_own, rk_io, x_aVb, tk_own, tk_io, tk_imm, tk_bor, x_eTup, x_eLst, imms_nil, imms_im, x_eF, x_call, ixV_C, jk_imm, jk_own, jk_io, jk_bor, flk_int, x_lenV, nk_imm, nk_own, nk_io, nk_bor, x_inV, hk_imm, hk_own, hk_io, hk_bor, x_sNx, x_pass, x_cont, x_brk, x_seq, sk_nx, sk_rt, sk_rtO, sk_ct, sk_bk, sk_ite, x_drop, x_sRet, x_sRetO, x_sIf, x_asg, x_asgO, x_gN, x_gO, x_gNil, x_gCons, x_gTt, x_gTl, x_sApp, x_sSet, x_chM, ck_own, ck_io, x_iOf, x_iRg, x_fn, fk_rt, fk_nx, fk_ite, ios_z, ios_s, keep_io, keep_imm, keep_own, keep_bor, keep_no, dSub_i, dAdd_i, dLt_i, dLe_i, dGt_i, dGe_i, dEq_int, dNe_int, ix_lst, ix_scr, ix_tup, atI_0, atI_1, atI_2, atI_3, List.getElem?_cons_zero, List.getElem?_cons_succ, List.set_cons_zero, List.set_cons_succ, List.length_cons, List.length_nil, List.cons_append, List.nil_append, List.replicate_succ, List.replicate_zero, Option.map_some, Option.bind_some, Nat.reduceAdd, Nat.reduceSub, Nat.reduceLT, Nat.reduceLeDiff, if_true, if_false, Bool.false_eq_true, decide_eq_true_eq, reduceIte, ne_eq, not_false_eq_true, Nat.lt_add_left_iff_pos, Nat.zero_lt_succ, x_call1, x_call2, x_call3, x_call4, dk1, dk2, dk3, dk4, ixV_V, Nat.reduceEqDiff, not_false_eq_true, x_isLst, x_isSet, List.map_cons, List.map_nil, Option.map_none, Option.bind_none, x_eSl, x_eP0, x_eP1, part_i, $as,*])
abbrev T3r := Nat × Nat × Int
def t3D (t : T3r) : D := .tup [.int (t.1 : Nat), .int (t.2.1 : Nat), .int t.2.2]
def rowRd (r : Row) (y : Nat) : List T3r := (List.range r.length).filterMap fun x => (r[x]?.join).map fun v => (x, y, v)
def rds (rs : List Row) : List T3r := (List.range rs.length).flatMap fun y => rowRd (rs.getD y []) y
theorem fm_len {α β : Type} {f : α → Option β} {l : List α} : (l.filterMap f).length ≤ l.length := List.length_filterMap_le _ _
theorem rowRd_len {r : Row} {y : Nat} : (rowRd r y).length ≤ r.length := by
  unfold rowRd
  have := fm_len (f := fun x => (r[x]?.join).map fun v => (x, y, v)) (l := List.range r.length)
  rw [List.length_range] at this
  exact this
theorem flat_le {α β : Type} {f : α → List β} {m : Nat} : ∀ {l : List α}, (∀ x ∈ l, (f x).length ≤ m) → (l.flatMap f).length ≤ m * l.length
  | [], _ => by simp
  | x :: l, h => by
    have := flat_le (l := l) fun y hy => h y (List.mem_cons_of_mem _ hy)
    have := h x List.mem_cons_self
    rw [List.flatMap_cons, List.length_append, List.length_cons, Nat.mul_add]
    omega
theorem getD_mem {rs : List Row} {y : Nat} (h : y < rs.length) : rs.getD y [] = rs[y] ∧ rs.getD y [] ∈ rs := by
  have e : rs.getD y [] = rs[y] := by rw [List.getD_eq_getElem?_getD, List.getElem?_eq_getElem h, Option.getD_some]
  exact ⟨e, by rw [e]; exact List.getElem_mem h⟩
theorem rds_len' {w h : Nat} {rs : List Row} (R : Rect w h rs) (k : Nat) : ((List.range k).flatMap fun y => rowRd (rs.getD y []) y).length ≤ w * k := by
  have := flat_le (f := fun y => rowRd (rs.getD y []) y) (m := w) (l := List.range k) fun y hy => by
    have h1 := rowRd_len (r := rs.getD y []) (y := y)
    by_cases c : y < rs.length
    · have := R.wid _ (getD_mem c).2
      omega
    · rw [List.getD_eq_getElem?_getD, List.getElem?_eq_none (by omega), Option.getD_none] at h1
      rw [List.getD_eq_getElem?_getD, List.getElem?_eq_none (by omega), Option.getD_none]
      have e0 : ([] : Row).length = 0 := rfl
      omega
  rw [List.length_range] at this
  exact this
theorem rds_len {w h : Nat} {rs : List Row} (R : Rect w h rs) : (rds rs).length ≤ w * h := by
  have := rds_len' R rs.length
  rw [R.len] at this
  unfold rds
  rw [R.len]; exact this
def vwD (s : Str) (rs : List Row) : D := .tup [.str s, rowsT rs]
theorem vw_1 {s : Str} {rs : List Row} : dIx (vwD s rs) (.int 1) = some (rowsT rs) := atI_1
theorem vw_0 {s : Str} {rs : List Row} : dIx (vwD s rs) (.int 0) = some (.str s) := atI_0
theorem ix_rows {rs : List Row} {y : Nat} (h : y < rs.length) : dIx (rowsT rs) (.int (y : Nat)) = some (rowT (rs.getD y [])) := by
  rw [(getD_mem h).1]
  exact at_map (f := rowT) (List.getElem?_eq_getElem h)
theorem ix_row {r : Row} {x : Nat} (h : x < r.length) : dIx (rowT r) (.int (x : Nat)) = some (oI r[x]) := at_map (f := oI) (List.getElem?_eq_getElem h)
theorem len_rows {rs : List Row} : fLen [rowsT rs] = some (.int (rs.length : Nat)) := by
  show some (D.int ((rs.map rowT).length : Nat)) = _
  rw [List.length_map]
theorem len_row {r : Row} : fLen [rowT r] = some (.int (r.length : Nat)) := by
  show some (D.int ((r.map oI).length : Nat)) = _
  rw [List.length_map]
theorem dNot_oI {o : Option Int} : dIs true (oI o) .non = some (.bl o.isSome) := by cases o <;> rfl
theorem rgD0 {n : Nat} : rgD 0 n = (List.range n).map fun i : Nat => D.int (i : Int) := by
  unfold rgD
  apply List.map_congr_left
  intro i _
  rw [Int.zero_add]
theorem filterMap_filter {α β : Type} {p : α → Bool} {f : α → β} {g : α → Option β} {l : List α} (h : ∀ a ∈ l, g a = if p a = true then some (f a) else none) : (l.filter p).map f = l.filterMap g := by
  induction l with
  | nil => rfl
  | cons a l ih =>
    have ih := ih fun b hb => h b (List.mem_cons_of_mem _ hb)
    have ha := h a List.mem_cons_self
    by_cases c : p a = true
    · rw [if_pos c] at ha
      rw [List.filter_cons_of_pos c, List.map_cons, List.filterMap_cons_some ha, ih]
    · rw [if_neg c] at ha
      rw [List.filter_cons_of_neg c, List.filterMap_cons_none ha, ih]
theorem rowRd_D {r : Row} {y : Nat} : ((List.range r.length).filter fun x => (r[x]?.join).isSome).map (fun x => D.tup [.int (x : Nat), .int (y : Nat), oI (r[x]?.join)]) = (rowRd r y).map t3D := by
  rw [filterMap_filter (g := fun x => (r[x]?.join).map fun v => t3D (x, y, v))]
  · unfold rowRd
    rw [List.map_filterMap]
    congr 1
    funext x
    cases r[x]?.join <;> rfl
  · intro x _
    cases h : r[x]?.join with
    | none => rfl
    | some v => rfl
theorem get_join {r : Row} {x : Nat} (h : x < r.length) : r[x]?.join = r[x] := by rw [List.getElem?_eq_getElem h]; rfl
theorem ev_readings {w h : Nat} {s : Str} {rs : List Row} (R : Rect w h rs) (hw : w ≤ 12) (hh : h ≤ 12) : m_readings [.imm (vwD s rs)] = some (.ok (.lst ((rds rs).map t3D)), [.no]) := by
  have hl : rs.length ≤ 12 := by rw [R.len]; exact hh
  obtain ⟨δ', f1, y2, y3, rfl⟩ := sFor_inv (I := (iRg rg1 (aCons (eF fLen (aCons (eIxV 0 (eC (.int 1))) aNil)) aNil))) (T := gN 2) (S := (sSeq (sAsg (gN 3) (eIx (eIxV 0 (eC (.int 1))) (eV 2)))
 (sAsg (gN 1) (eBin dAdd (eV 1) (eLc (iRg rg1 (aCons (eF fLen (aCons (eV 3) aNil)) aNil)) (gN 4) (eB (eBin (dIs true) (eIxV 3 (eV 4)) (eC .non))) (eTup (aCons (eV 4) (aCons (eV 2) (aCons (eIxV 3 (eV 4)) aNil)))) [4]))))) (ds := rgD 0 rs.length)
    (δ := [.imm (vwD s rs), .imm (.lst []), .no, .no, .no]) (δ0 := [.imm (vwD s rs), .imm (.lst []), .no, .no, .no])
    (fun k δ => ∃ y2 y3 : Sl, δ = [.imm (vwD s rs), .imm (.lst (((List.range k).flatMap fun y => rowRd (rs.getD y []) y).map t3D)), y2, y3, .no])
    (by simp! only [vw_1, len_rows, rg1_n (show rs.length ≤ 1000 by omega)]) ⟨.no, .no, rfl⟩ (fun k x δ hk hδ => by
      obtain ⟨y2, y3, rfl⟩ := hδ
      obtain ⟨hkk, rfl⟩ := rgD_get hk
      have l1 := rds_len' R k
      have l1 : ((List.range k).flatMap fun y => rowRd (rs.getD y []) y).length ≤ 1000 := by
        have : w * k ≤ 12 * 12 := Nat.mul_le_mul hw (by omega)
        omega
      have e0 := ix_rows hkk
      have hr := R.wid _ (getD_mem hkk).2
      rw [List.range_succ, List.flatMap_append, List.map_append, List.flatMap_singleton]
      have l2 := rowRd_len (r := rs.getD k []) (y := k)
      generalize rs.getD k [] = r at *
      have l3 : (((List.range k).flatMap fun y => rowRd (rs.getD y []) y).map t3D).length ≤ 1000 := by rw [List.length_map]; exact l1
      generalize ((List.range k).flatMap fun y => rowRd (rs.getD y []) y).map t3D = L at *
      have e1 : (eLc (iRg rg1 (aCons (eF fLen (aCons (eV 3) aNil)) aNil)) (gN 4) (eB (eBin (dIs true) (eIxV 3 (eV 4)) (eC .non))) (eTup (aCons (eV 4) (aCons (eV 2) (aCons (eIxV 3 (eV 4)) aNil)))) [4]) [.imm (vwD s rs), .imm (.lst L), .imm (.int (k : Nat)), .imm (rowT r), .no] = some (.ok (.lst ((rowRd r k).map t3D)), [.imm (vwD s rs), .imm (.lst L), .imm (.int (k : Nat)), .imm (rowT r), .no]) := by
        rw [eLc_map (l := List.range r.length) (g := fun i : Nat => D.int (i : Int)) (p := fun x => (r[x]?.join).isSome) (f := fun x => D.tup [.int (x : Nat), .int (k : Nat), oI (r[x]?.join)]) (δ0 := [.imm (vwD s rs), .imm (.lst L), .imm (.int (k : Nat)), .imm (rowT r), .no])]
        · rw [rowRd_D]; rfl
        · simp! only [len_row, rg1_n (show r.length ≤ 1000 by omega), rgD0]
        · rw [List.length_range]; omega
        · intro x hx
          have hx := List.mem_range.mp hx
          have e2 := ix_row hx
          rw [← get_join hx] at e2
          generalize r[x]?.join = o at *
          generalize (x : Int) = X at *
          refine ⟨[.imm (vwD s rs), .imm (.lst L), .imm (.int (k : Nat)), .imm (rowT r), .imm (.int X)], [.imm (vwD s rs), .imm (.lst L), .imm (.int (k : Nat)), .imm (rowT r), .imm (.int X)], ?_, ?_, fun _ => rfl, fun _ => ⟨[.imm (vwD s rs), .imm (.lst L), .imm (.int (k : Nat)), .imm (rowT r), .imm (.int X)], ?_, rfl⟩⟩
          · simp! only [wipeE]
          · simp! only [e2, dNot_oI]
          · simp! only [e2]
      have e3 := lst_app (l := L) (m := (rowRd r k).map t3D) l3 (by rw [List.length_map]; omega)
      generalize (k : Int) = K at *
      refine ⟨[.imm (vwD s rs), .imm (.lst L), .imm (.int K), y3, .no], [.imm (vwD s rs), .imm (.lst (L ++ (rowRd r k).map t3D)), .imm (.int K), .imm (rowT r), .no], by simp! only [], .inl ?_, _, _, rfl⟩
      refine ssq (by simp! only [vw_1, e0] <;> rfl) ?_
      simp! only [e1, e3])
  rw [rgD_len] at f1
  refine (fn_rt (δ1 := [.imm (vwD s rs), .imm (.lst ((rds rs).map t3D)), y2, y3, .no]) ?_).trans rfl
  unfold b_readings
  refine ssq (by simp! only [] <;> rfl) ?_
  refine ssq f1 ?_
  unfold rds
  simp! only []
end M
set_option Elab.async false
set_option linter.all false
set_option maxRecDepth 100000
set_option maxHeartbeats 2000000
namespace M
open PySem L2
local macro_rules
  | `(tactic| simp! only [$as,*]) => `(tactic| simp only [x_bind, bk_ok, bk_ite, x_ret, x_lift, lk_some, lk_ite, app_ite, x_eC, x_eV, vk_imm, vk_own, vk_bor, x_give, gk_own, x_bin, x_un, x_ix, x_tru, x_eB, dBl_bl, dTru_bl, dTru_int, dTru_lst, x_and, x_or, x_not, x_eAnd, x_eOr, x_eNot, x_eIf, x_chain, x_aNil, x_aCons, x_aVr, rk_own, rk_io, x_aVb, tk_own, tk_io, tk_imm, tk_bor, x_eTup, x_eLst, imms_nil, imms_im, x_eF, x_call, ixV_C, jk_imm, jk_own, jk_io, jk_bor, flk_int, x_lenV, nk_imm, nk_own, nk_io, nk_bor, x_inV, hk_imm, hk_own, hk_io, hk_bor, x_sNx, x_pass, x_cont, x_brk, x_seq, sk_nx, sk_rt, sk_rtO, sk_ct, sk_bk, sk_ite, x_drop, x_sRet, x_sRetO, x_sIf, x_asg, x_asgO, x_gN, x_gO, x_gNil, x_gCons, x_gTt, x_gTl, x_sApp, x_sSet, x_chM, ck_own, ck_io, x_iOf, x_iRg, x_fn, fk_rt, fk_nx, fk_ite, ios_z, ios_s, keep_io, keep_imm, keep_own, keep_bor, keep_no, dSub_i, dAdd_i, dLt_i, dLe_i, dGt_i, dGe_i, dEq_int, dNe_int, ix_lst, ix_scr, ix_tup, atI_0, atI_1, atI_2, atI_3, List.getElem?_cons_zero, List.getElem?_cons_succ, List.set_cons_zero, List.set_cons_succ, List.length_cons, List.length_nil, List.cons_append, List.nil_append, List.replicate_succ, List.replicate_zero, Option.map_some, Option.bind_some, Nat.reduceAdd, Nat.reduceSub, Nat.reduceLT, Nat.reduceLeDiff, if_true, if_false, Bool.false_eq_true, decide_eq_true_eq, reduceIte, ne_eq, not_false_eq_true, Nat.lt_add_left_iff_pos, Nat.zero_lt_succ, x_call1, x_call2, x_call3, x_call4, dk1, dk2, dk3, dk4, ixV_V, Nat.reduceEqDiff, not_false_eq_true, x_isLst, x_isSet, List.map_cons, List.map_nil, Option.map_none, Option.bind_none, x_eSl, x_eP0, x_eP1, part_i, $as,*])
def isiV' (T : String) (d : D) : Option D := if notScr d = true then (kitB (tyN d) T).map D.bl else none
theorem x_isi2' {T : String} {E : Mo D} {δ : Env} : eIsi2 T E δ = bk (fun d => Mo.lift (isiV' T d)) (E δ) := x_bind
/-- neither a dict nor the script -/
def plain : D → Bool
  | .scr _ => false | .dK _ => false | .dT _ => false | .alb _ _ => false | _ => true
def isStr : D → Bool | .str _ => true | _ => false
def isTup : D → Bool | .tup _ => true | _ => false
def isWh : D → Bool | .int _ => true | _ => false
def isBl : D → Bool | .bl _ => true | _ => false
theorem kbs : (kitB "NoneType" "int" = some false ∧ kitB "bool" "int" = some true ∧ kitB "int" "int" = some true ∧ kitB "str" "int" = some false ∧ kitB "tuple" "int" = some false ∧ kitB "list" "int" = some false)
  ∧ (kitB "NoneType" "bool" = some false ∧ kitB "bool" "bool" = some true ∧ kitB "int" "bool" = some false ∧ kitB "str" "bool" = some false ∧ kitB "tuple" "bool" = some false ∧ kitB "list" "bool" = some false)
  ∧ (kitB "NoneType" "str" = some false ∧ kitB "bool" "str" = some false ∧ kitB "int" "str" = some false ∧ kitB "str" "str" = some true ∧ kitB "tuple" "str" = some false ∧ kitB "list" "str" = some false)
  ∧ (kitB "NoneType" "tuple" = some false ∧ kitB "bool" "tuple" = some false ∧ kitB "int" "tuple" = some false ∧ kitB "str" "tuple" = some false ∧ kitB "tuple" "tuple" = some true ∧ kitB "list" "tuple" = some false) := by decide +kernel
theorem isi_int {d : D} (h : plain d = true) : isiV' "int" d = some (.bl (isWh d || isBl d)) := by
  obtain ⟨⟨a, b, c, e, f, g⟩, _⟩ := kbs
  cases d with
  | scr _ => cases h
  | dK _ => cases h
  | dT _ => cases h
  | alb _ _ => cases h
  | non => show (kitB "NoneType" "int").map D.bl = _; rw [a]; rfl
  | bl _ => show (kitB "bool" "int").map D.bl = _; rw [b]; rfl
  | int _ => show (kitB "int" "int").map D.bl = _; rw [c]; rfl
  | str _ => show (kitB "str" "int").map D.bl = _; rw [e]; rfl
  | tup _ => show (kitB "tuple" "int").map D.bl = _; rw [f]; rfl
  | lst _ => show (kitB "list" "int").map D.bl = _; rw [g]; rfl
theorem isi_bool {d : D} (h : plain d = true) : isiV' "bool" d = some (.bl (isBl d)) := by
  obtain ⟨_, ⟨a, b, c, e, f, g⟩, _⟩ := kbs
  cases d with
  | scr _ => cases h
  | dK _ => cases h
  | dT _ => cases h
  | alb _ _ => cases h
  | non => show (kitB "NoneType" "bool").map D.bl = _; rw [a]; rfl
  | bl _ => show (kitB "bool" "bool").map D.bl = _; rw [b]; rfl
  | int _ => show (kitB "int" "bool").map D.bl = _; rw [c]; rfl
  | str _ => show (kitB "str" "bool").map D.bl = _; rw [e]; rfl
  | tup _ => show (kitB "tuple" "bool").map D.bl = _; rw [f]; rfl
  | lst _ => show (kitB "list" "bool").map D.bl = _; rw [g]; rfl
theorem isi_str {d : D} (h : plain d = true) : isiV' "str" d = some (.bl (isStr d)) := by
  obtain ⟨_, _, ⟨a, b, c, e, f, g⟩, _⟩ := kbs
  cases d with
  | scr _ => cases h
  | dK _ => cases h
  | dT _ => cases h
  | alb _ _ => cases h
  | non => show (kitB "NoneType" "str").map D.bl = _; rw [a]; rfl
  | bl _ => show (kitB "bool" "str").map D.bl = _; rw [b]; rfl
  | int _ => show (kitB "int" "str").map D.bl = _; rw [c]; rfl
  | str _ => show (kitB "str" "str").map D.bl = _; rw [e]; rfl
  | tup _ => show (kitB "tuple" "str").map D.bl = _; rw [f]; rfl
  | lst _ => show (kitB "list" "str").map D.bl = _; rw [g]; rfl
theorem isi_tup {d : D} (h : plain d = true) : isiV' "tuple" d = some (.bl (isTup d)) := by
  obtain ⟨_, _, _, ⟨a, b, c, e, f, g⟩⟩ := kbs
  cases d with
  | scr _ => cases h
  | dK _ => cases h
  | dT _ => cases h
  | alb _ _ => cases h
  | non => show (kitB "NoneType" "tuple").map D.bl = _; rw [a]; rfl
  | bl _ => show (kitB "bool" "tuple").map D.bl = _; rw [b]; rfl
  | int _ => show (kitB "int" "tuple").map D.bl = _; rw [c]; rfl
  | str _ => show (kitB "str" "tuple").map D.bl = _; rw [e]; rfl
  | tup _ => show (kitB "tuple" "tuple").map D.bl = _; rw [f]; rfl
  | lst _ => show (kitB "list" "tuple").map D.bl = _; rw [g]; rfl
theorem ev_wh {d : D} (h : plain d = true) : m_is_whole [.imm d] = some (.ok (.bl (isWh d)), [.no]) := by
  have e1 := isi_int h
  have e2 := isi_bool h
  refine (fn_rt (δ1 := [.imm d]) ?_).trans rfl
  unfold b_is_whole
  cases a : isWh d <;> cases b : isBl d
  · rw [a, b] at e1; rw [b] at e2; simp! only [x_isi2', e1, e2, Bool.or_self, Bool.not_false, Bool.not_true, Bool.true_or, Bool.or_true]
  · rw [a, b] at e1; rw [b] at e2; simp! only [x_isi2', e1, e2, Bool.or_self, Bool.not_false, Bool.not_true, Bool.true_or, Bool.or_true]
  · rw [a, b] at e1; rw [b] at e2; simp! only [x_isi2', e1, e2, Bool.or_self, Bool.not_false, Bool.not_true, Bool.true_or, Bool.or_true, Bool.or_false]
  · cases d <;> cases a <;> cases b
def rdB : D → Bool
  | .non => true
  | .int i => decide (0 ≤ i) && decide (i ≤ 999)
  | _ => false
theorem dIs_plain {d : D} (h : d ≠ .non) : dIs false d .non = some (.bl false) := by cases d <;> first | rfl | exact absurd rfl h
theorem ev_isrd {d : D} (h : plain d = true) : m_is_reading [.imm d] = some (.ok (.bl (rdB d)), [.no]) := by
  refine (fn_rt (δ1 := [.imm d]) ?_).trans rfl
  unfold b_is_reading
  have e1 := ev_wh h
  by_cases hn : d = .non
  · subst hn
    have : dIs false .non .non = some (.bl true) := rfl
    simp! only [this]
    rfl
  · have e2 := dIs_plain hn
    cases d with
    | non => exact absurd rfl hn
    | int i =>
      have e1 : m_is_whole [.imm (.int i)] = some (.ok (.bl true), [.no]) := e1
      by_cases c : 0 ≤ i
      · simp! only [e1, e2, c, decide_true]
        rw [show rdB (.int i) = (decide (0 ≤ i) && decide (i ≤ 999)) from rfl, decide_eq_true c]; rfl
      · simp! only [e1, e2, c, decide_false]
        rw [show rdB (.int i) = (decide (0 ≤ i) && decide (i ≤ 999)) from rfl, decide_eq_false c]; rfl
    | scr _ => cases h
    | dK _ => cases h
    | dT _ => cases h
    | alb _ _ => cases h
    | bl _ => simp! only [e1, e2]; rfl
    | str _ => simp! only [e1, e2]; rfl
    | tup _ => simp! only [e1, e2]; rfl
    | lst _ => simp! only [e1, e2]; rfl
end M
set_option Elab.async false
set_option linter.all false
set_option maxRecDepth 100000
set_option maxHeartbeats 2000000
namespace M
open PySem L2
local macro_rules
  | `(tactic| simp! only [$as,*]) => `(tactic| simp only [x_bind, bk_ok, bk_ite, x_ret, x_lift, lk_some, lk_ite, app_ite, x_eC, x_eV, vk_imm, vk_own, vk_bor, x_give, gk_own, x_bin, x_un, x_ix, x_tru, x_eB, dBl_bl, dTru_bl, dTru_int, dTru_lst, x_and, x_or, x_not, x_eAnd, x_eOr, x_eNot, x_eIf, x_chain, x_aNil, x_aCons, x_aVr, rk_own, rk_io, x_aVb, tk_own, tk_io, tk_imm, tk_bor, x_eTup, x_eLst, imms_nil, imms_im, x_eF, x_call, ixV_C, jk_imm, jk_own, jk_io, jk_bor, flk_int, x_lenV, nk_imm, nk_own, nk_io, nk_bor, x_inV, hk_imm, hk_own, hk_io, hk_bor, x_sNx, x_pass, x_cont, x_brk, x_seq, sk_nx, sk_rt, sk_rtO, sk_ct, sk_bk, sk_ite, x_drop, x_sRet, x_sRetO, x_sIf, x_asg, x_asgO, x_gN, x_gO, x_gNil, x_gCons, x_gTt, x_gTl, x_sApp, x_sSet, x_chM, ck_own, ck_io, x_iOf, x_iRg, x_fn, fk_rt, fk_nx, fk_ite, ios_z, ios_s, keep_io, keep_imm, keep_own, keep_bor, keep_no, dSub_i, dAdd_i, dLt_i, dLe_i, dGt_i, dGe_i, dEq_int, dNe_int, ix_lst, ix_scr, ix_tup, atI_0, atI_1, atI_2, atI_3, List.getElem?_cons_zero, List.getElem?_cons_succ, List.set_cons_zero, List.set_cons_succ, List.length_cons, List.length_nil, List.cons_append, List.nil_append, List.replicate_succ, List.replicate_zero, Option.map_some, Option.bind_some, Nat.reduceAdd, Nat.reduceSub, Nat.reduceLT, Nat.reduceLeDiff, if_true, if_false, Bool.false_eq_true, decide_eq_true_eq, reduceIte, ne_eq, not_false_eq_true, Nat.lt_add_left_iff_pos, Nat.zero_lt_succ, x_call1, x_call2, x_call3, x_call4, dk1, dk2, dk3, dk4, ixV_V, Nat.reduceEqDiff, not_false_eq_true, x_isLst, x_isSet, List.map_cons, List.map_nil, Option.map_none, Option.bind_none, x_eSl, x_eP0, x_eP1, part_i, $as,*])
theorem lt_one {a c : Nat} : ([c] < [a]) ↔ c < a := by
  rw [List.cons_lt_cons_iff]
  constructor
  · rintro (h | ⟨rfl, h⟩)
    · exact h
    · exact absurd h (List.not_lt_nil _)
  · exact fun h => .inl h
theorem dLe_ch {a c : Nat} : dLe (.str (mkS [a])) (.str (mkS [c])) = some (.bl (decide (a ≤ c))) := by
  show some (D.bl (!decide ((mkS [c]).cps.toList < (mkS [a]).cps.toList))) = _
  rw [mkS_cps, mkS_cps]
  congr 2
  by_cases h : a ≤ c
  · rw [decide_eq_false (fun z => by have := lt_one.mp z; omega), decide_eq_true h]; rfl
  · rw [decide_eq_true (lt_one.mpr (by omega)), decide_eq_false h]; rfl
theorem chs : ("a" : Str) = mkS [97] ∧ ("z" : Str) = mkS [122] ∧ ("0" : Str) = mkS [48] ∧ ("9" : Str) = mkS [57] := by decide +kernel
theorem dEq_strs {a b : Str} (ha : (toPy (.str a)).canLay0 = true) (hb : (toPy (.str b)).canLay0 = true) : dEq (.str a) (.str b) = some (.bl (decide (a = b))) := by
  show (if shp (.str a) = true ∧ shp (.str b) = true then some (D.bl (PyData.eqv (toPy (.str a)) (toPy (.str b)))) else none) = _
  rw [if_pos ⟨fine_shp (fine_s ha).1, fine_shp (fine_s hb).1⟩]
  unfold toPy PyData.eqv
  by_cases c : a = b <;> simp [c]
theorem fLen_str {s : Str} (h : s.length ≤ 1000) : fLen [.str s] = some (.int (s.length : Nat)) := if_pos (small_len h)
def nameB : D → Bool
  | .str s => nmB s
  | _ => false
/-- the strs among the values are of real signs -/
def strOk : D → Prop
  | .str s => (toPy (.str s)).canLay0 = true ∧ s.length ≤ 1000
  | _ => True
theorem stD_map {s : Str} : stD s = s.cps.toList.map fun c => D.str (mkS [c]) := by
  unfold stD; rfl
theorem all_bl {α : Type} {p : α → Bool} : ∀ {l : List α}, blsD (l.map fun x => D.bl (p x)) = some (l.map p)
  | [] => rfl
  | x :: l => by
    rw [List.map_cons, List.map_cons]
    unfold blsD
    rw [all_bl (l := l)]; rfl
theorem fAll_map {α : Type} {p : α → Bool} {l : List α} : fAll [.lst (l.map fun x => D.bl (p x))] = some (.bl (l.all p)) := by
  show (match blsD (l.map fun x => D.bl (p x)) with | some bs => some (D.bl (bs.all id)) | none => none) = _
  rw [all_bl]
  simp [List.all_map]
theorem ev_isnm {d : D} (h : plain d = true) (hs : strOk d) : m_is_name [.imm d] = some (.ok (.bl (nameB d)), [.no]) := by
  have e1 := isi_str h
  cases d with
  | str s =>
    have e1 : isiV' "str" (.str s) = some (.bl true) := e1
    have e2 := dEq_strs (b := "") hs.1 (by decide +kernel)
    obtain ⟨q1, q2, q3, q4⟩ := chs
    by_cases c1 : s = ""
    · rw [decide_eq_true c1] at e2
      refine (fn_rt (δ1 := [.imm (.str s), .no]) ?_).trans rfl
      unfold b_is_name
      refine ssq_rt (st (by simp! only [x_isi2', e1, e2]; rfl) ?_)
      subst c1
      rfl
    · rw [decide_eq_false c1] at e2
      by_cases c2 : s.length > 8
      · refine (fn_rt (δ1 := [.imm (.str s), .no]) ?_).trans rfl
        unfold b_is_name
        have c3 : ((s.length : Nat) : Int) > 8 := by omega
        refine ssq_rt (st (by simp! only [x_isi2', e1, e2, fLen_str hs.2, c3, decide_true]; rfl) ?_)
        show some (Except.ok (Out.rt (D.bl false)), _) = _
        have : nameB (.str s) = false := by
          show nmB s = false
          unfold nmB nmL
          rw [len_cps] at c2
          rw [decide_eq_false (by omega)]; rfl
        rw [this]
      · have c3 : ¬ ((s.length : Nat) : Int) > 8 := by omega
        have hl : s.cps.toList.length ≤ 8 := by rw [← len_cps]; omega
        have el : (eLc (iOf (eV 0)) (gN 1) tYesM (eOr (eChain dLe dLe (eC (.str "a")) (eV 1) (eC (.str "z"))) (eChain dLe dLe (eC (.str "0")) (eV 1) (eC (.str "9")))) [1]) [.imm (.str s), .no] = some (.ok (.lst (s.cps.toList.map fun c => .bl (namB c))), [.imm (.str s), .no]) := by
          rw [eLc_map (l := s.cps.toList) (g := fun c => D.str (mkS [c])) (p := fun _ => true) (f := fun c => D.bl (namB c)) (δ0 := [.imm (.str s), .no])]
          · rw [List.filter_eq_self.mpr (fun _ _ => rfl)]; rfl
          · simp! only [itD, stD_map]
          · omega
          · intro c hc
            refine ⟨[.imm (.str s), .imm (.str (mkS [c]))], [.imm (.str s), .imm (.str (mkS [c]))], by simp! only [wipeE], rfl, (fun z => by cases z), fun _ => ⟨[.imm (.str s), .imm (.str (mkS [c]))], ?_, rfl⟩⟩
            rw [q1, q2, q3, q4]
            unfold namB lowB
            by_cases d1 : 97 ≤ c
            · by_cases d2 : c ≤ 122
              · simp! only [dLe_ch, d1, d2, decide_true, Bool.and_true, Bool.true_or]
              · by_cases d3 : 48 ≤ c <;> by_cases d4 : c ≤ 57 <;> simp! only [dLe_ch, d1, d2, d3, d4, decide_true, decide_false, Bool.and_true, Bool.and_false, Bool.false_and, Bool.false_or]
            · by_cases d3 : 48 ≤ c <;> by_cases d4 : c ≤ 57 <;> simp! only [dLe_ch, d1, d3, d4, decide_true, decide_false, Bool.and_true, Bool.and_false, Bool.false_and, Bool.false_or]
        refine (fn_rt (δ1 := [.imm (.str s), .no]) ?_).trans rfl
        unfold b_is_name
        generalize hn : ((s.length : Nat) : Int) = n at c3
        refine ssq_f (by simp! only [x_isi2', e1, e2, fLen_str hs.2, hn, c3, decide_false] <;> rfl) ?_
        have hne : s.cps.toList ≠ [] := fun z => c1 (by
          have : s = mkS s.cps.toList := rfl
          rw [this, z]; decide +kernel)
        have em : nameB (.str s) = ((match s.cps.toList with | [] => false | c :: _ => lowB c) && s.cps.toList.all namB) := by
          show nmL s.cps.toList = _
          unfold nmL
          rw [decide_eq_true hl, Bool.true_and]
          try rfl
        cases ha : s.cps.toList.all namB with
        | false =>
          rw [em, ha, Bool.and_false]
          refine ssq_rt (st (by simp! only [el, fAll_map, ha]; rfl) rfl)
        | true =>
          rw [em, ha, Bool.and_true]
          refine ssq_f (by simp! only [el, fAll_map, ha] <;> rfl) ?_
          cases hc : s.cps.toList with
          | nil => exact absurd hc hne
          | cons c l =>
            have hx : dIx (.str s) (.int 0) = some (.str (mkS [c])) := by
              show (if s.length ≤ sizeLine then (atI s.cps.toList 0).map fun c => D.str ⟨#[c]⟩ else none) = _
              rw [if_pos (small_len (by omega)), hc, atI_0]; rfl
            rw [q1, q2]
            show _ = some (Except.ok (Out.rt (.bl (lowB c))), _)
            unfold lowB
            by_cases d1 : 97 ≤ c
            · simp! only [hx, dLe_ch, d1, decide_true, Bool.true_and]
            · simp! only [hx, dLe_ch, d1, decide_false, Bool.false_and]
  | scr _ => cases h
  | dK _ => cases h
  | dT _ => cases h
  | alb _ _ => cases h
  | non => exact (fn_rt (δ1 := [.imm .non, .no]) (ssq_rt (st (by have e1 : isiV' "str" .non = some (.bl false) := e1; simp! only [x_isi2', e1]; rfl) rfl))).trans rfl
  | bl b => exact (fn_rt (δ1 := [.imm (.bl b), .no]) (ssq_rt (st (by have e1 : isiV' "str" (.bl b) = some (.bl false) := e1; simp! only [x_isi2', e1]; rfl) rfl))).trans rfl
  | int b => exact (fn_rt (δ1 := [.imm (.int b), .no]) (ssq_rt (st (by have e1 : isiV' "str" (.int b) = some (.bl false) := e1; simp! only [x_isi2', e1]; rfl) rfl))).trans rfl
  | tup b => exact (fn_rt (δ1 := [.imm (.tup b), .no]) (ssq_rt (st (by have e1 : isiV' "str" (.tup b) = some (.bl false) := e1; simp! only [x_isi2', e1]; rfl) rfl))).trans rfl
  | lst b => exact (fn_rt (δ1 := [.imm (.lst b), .no]) (ssq_rt (st (by have e1 : isiV' "str" (.lst b) = some (.bl false) := e1; simp! only [x_isi2', e1]; rfl) rfl))).trans rfl
end M
set_option Elab.async false
set_option linter.all false
set_option maxRecDepth 100000
set_option maxHeartbeats 2000000
namespace M
open PySem L2
local macro_rules
  | `(tactic| simp! only [$as,*]) => `(tactic| simp only [x_bind, bk_ok, bk_ite, x_ret, x_lift, lk_some, lk_ite, app_ite, x_eC, x_eV, vk_imm, vk_own, vk_bor, x_give, gk_own, x_bin, x_un, x_ix, x_tru, x_eB, dBl_bl, dTru_bl, dTru_int, dTru_lst, x_and, x_or, x_not, x_eAnd, x_eOr, x_eNot, x_eIf, x_chain, x_aNil, x_aCons, x_aVr, rk_own, rk_io, x_aVb, tk_own, tk_io, tk_imm, tk_bor, x_eTup, x_eLst, imms_nil, imms_im, x_eF, x_call, ixV_C, jk_imm, jk_own, jk_io, jk_bor, flk_int, x_lenV, nk_imm, nk_own, nk_io, nk_bor, x_inV, hk_imm, hk_own, hk_io, hk_bor, x_sNx, x_pass, x_cont, x_brk, x_seq, sk_nx, sk_rt, sk_rtO, sk_ct, sk_bk, sk_ite, x_drop, x_sRet, x_sRetO, x_sIf, x_asg, x_asgO, x_gN, x_gO, x_gNil, x_gCons, x_gTt, x_gTl, x_sApp, x_sSet, x_chM, ck_own, ck_io, x_iOf, x_iRg, x_fn, fk_rt, fk_nx, fk_ite, ios_z, ios_s, keep_io, keep_imm, keep_own, keep_bor, keep_no, dSub_i, dAdd_i, dLt_i, dLe_i, dGt_i, dGe_i, dEq_int, dNe_int, ix_lst, ix_scr, ix_tup, atI_0, atI_1, atI_2, atI_3, List.getElem?_cons_zero, List.getElem?_cons_succ, List.set_cons_zero, List.set_cons_succ, List.length_cons, List.length_nil, List.cons_append, List.nil_append, List.replicate_succ, List.replicate_zero, Option.map_some, Option.bind_some, Nat.reduceAdd, Nat.reduceSub, Nat.reduceLT, Nat.reduceLeDiff, if_true, if_false, Bool.false_eq_true, decide_eq_true_eq, reduceIte, ne_eq, not_false_eq_true, Nat.lt_add_left_iff_pos, Nat.zero_lt_succ, x_call1, x_call2, x_call3, x_call4, dk1, dk2, dk3, dk4, ixV_V, Nat.reduceEqDiff, not_false_eq_true, x_isLst, x_isSet, List.map_cons, List.map_nil, Option.map_none, Option.bind_none, x_eSl, x_eP0, x_eP1, part_i, $as,*])
theorem forM_all {T : D → Mo Unit} {S : Mo Out} {p : D → Bool} {z : D} (Inv : Env → Prop) : ∀ (ds : List D) (δ : Env), Inv δ →
    (∀ d ∈ ds, ∀ δ, Inv δ → ∃ δ1 δ2, T d δ = some (.ok (), δ1) ∧ S δ1 = some (.ok (if p d = true then .nx else .rt z), δ2) ∧ Inv δ2) →
    ∃ δ', forM T S ds δ = some (.ok (if ds.all p = true then .nx else .rt z), δ') ∧ Inv δ'
  | [], δ, h, _ => ⟨δ, by unfold forM; rfl, h⟩
  | d :: ds, δ, h, st => by
    obtain ⟨δ1, δ2, h1, h2, h3⟩ := st d List.mem_cons_self δ h
    rw [List.all_cons]
    unfold forM
    cases hp : p d with
    | false =>
      rw [hp] at h2
      rw [bind_ok h1]
      exact ⟨δ2, by simp only [h2, if_false, Bool.false_eq_true, Bool.false_and, reduceIte], h3⟩
    | true =>
      rw [hp] at h2
      obtain ⟨δ', e, i⟩ := forM_all Inv ds δ2 h3 fun d m => st d (List.mem_cons_of_mem _ m)
      rw [bind_ok h1]
      exact ⟨δ', by simp only [h2, if_true, Bool.true_and, reduceIte]; exact e, i⟩
theorem sFor_all {I : Mo (List D)} {T : D → Mo Unit} {S : Mo Out} {p : D → Bool} {z : D} {ds : List D} {δ δ0 : Env} (Inv : Env → Prop) (hi : I δ = some (.ok ds, δ0)) (h0 : Inv δ0)
    (st : ∀ d ∈ ds, ∀ δ, Inv δ → ∃ δ1 δ2, T d δ = some (.ok (), δ1) ∧ S δ1 = some (.ok (if p d = true then .nx else .rt z), δ2) ∧ Inv δ2) :
    ∃ δ', sFor I T S δ = some (.ok (if ds.all p = true then .nx else .rt z), δ') ∧ Inv δ' := by
  obtain ⟨δ', h1, h2⟩ := forM_all Inv ds δ0 h0 st
  exact ⟨δ', by unfold sFor; rw [bind_ok hi]; exact h1, h2⟩
def rowB (w : Nat) : D → Bool
  | .tup l => (decide (1 ≤ l.length ∧ l.length ≤ 12) && decide (l.length = w)) && l.all rdB
  | _ => false
def rowsB : D → Bool
  | .tup (.tup r0 :: rs) => decide (rs.length + 1 ≤ 12) && (D.tup r0 :: rs).all (rowB r0.length)
  | _ => false
def viewB : D → Bool
  | .tup [n, r] => nameB n && rowsB r
  | _ => false
def rowOk : D → Prop
  | .tup l => ∀ d ∈ l, plain d = true
  | _ => True
def rowsOk : D → Prop
  | .tup l => ∀ d ∈ l, plain d = true ∧ rowOk d
  | _ => True
def viewOk : D → Prop
  | .tup [n, r] => plain n = true ∧ strOk n ∧ plain r = true ∧ rowsOk r
  | _ => True
theorem len_t {l : List D} : fLen [.tup l] = some (.int (l.length : Nat)) := rfl
noncomputable def vBody : Mo Out := (sSeq (sIf (tOrM (tNotM (eTru (eIsi2 "tuple" (eV 2)))) (tOrM (tNotM (eB (eChain dLe dLe (eC (.int 1)) (eF fLen (aCons (eV 2) aNil)) (eC (.int 12))))) (eB (eBin dNe (eF fLen (aCons (eV 2) aNil)) (eF fLen (aCons (eIxV 1 (eC (.int 0))) aNil))))))
 (sRet (eC (.bl false)))
 sNx)
 (sIf (tNotM (eTru (eF fAll (aCons (eLc (iOf (eV 2)) (gN 3) tYesM (eCall m_is_reading (aCons (eV 3) aNil)) [3]) aNil))))
 (sRet (eC (.bl false)))
 sNx))
theorem not_tup {d : D} (h : isTup d = false) (w : Nat) : rowB w d = false := by cases d <;> first | rfl | cases h
def wid0 : D → Nat | .tup r0 => r0.length | _ => 0
theorem ev_vrow {v d0 d : D} {rs : List D} (hp : plain d = true) (ok : rowOk d) (h0 : isTup d = true → ∃ r0, d0 = .tup r0) :
    vBody [.imm v, .imm (.tup (d0 :: rs)), .imm d, .no] = some (.ok (if rowB (wid0 d0) d = true then .nx else .rt (.bl false)), [.imm v, .imm (.tup (d0 :: rs)), .imm d, .no]) := by
  have e1 := isi_tup hp
  unfold vBody
  cases ht : isTup d with
  | false =>
    rw [ht] at e1
    rw [not_tup ht]
    exact ssq_rt (st (by simp! only [x_isi2', e1] <;> rfl) rfl)
  | true =>
    rw [ht] at e1
    obtain ⟨r0, rfl⟩ := h0 ht
    cases d with
    | tup l =>
      have a0 : dIx (.tup (D.tup r0 :: rs)) (.int 0) = some (.tup r0) := atI_0
      have hw : rowB r0.length (.tup l) = ((decide (1 ≤ l.length ∧ l.length ≤ 12) && decide (l.length = r0.length)) && l.all rdB) := rfl
      show _ = some (Except.ok (if rowB r0.length (.tup l) = true then Out.nx else .rt (.bl false)), _)
      by_cases c1 : 1 ≤ l.length ∧ l.length ≤ 12
      · by_cases c2 : l.length = r0.length
        · have el : (eLc (iOf (eV 2)) (gN 3) tYesM (eCall m_is_reading (aCons (eV 3) aNil)) [3]) [.imm v, .imm (.tup (D.tup r0 :: rs)), .imm (.tup l), .no] = some (.ok (.lst (l.map fun d => .bl (rdB d))), [.imm v, .imm (.tup (D.tup r0 :: rs)), .imm (.tup l), .no]) := by
            rw [eLc_map (l := l) (g := id) (p := fun _ => true) (f := fun d => D.bl (rdB d)) (δ0 := [.imm v, .imm (.tup (D.tup r0 :: rs)), .imm (.tup l), .no])]
            · rw [List.filter_eq_self.mpr (fun _ _ => rfl)]; rfl
            · rw [List.map_id]; simp! only [itD]
            · omega
            · intro d hd
              have er := ev_isrd (ok d hd)
              refine ⟨[.imm v, .imm (.tup (D.tup r0 :: rs)), .imm (.tup l), .imm d], [.imm v, .imm (.tup (D.tup r0 :: rs)), .imm (.tup l), .imm d], by simp! only [wipeE, id], rfl, (fun z => by cases z), fun _ => ⟨[.imm v, .imm (.tup (D.tup r0 :: rs)), .imm (.tup l), .imm d], ?_, rfl⟩⟩
              simp! only [er]
          rw [hw, decide_eq_true c1, decide_eq_true c2, Bool.true_and, Bool.true_and]
          have c3 : (1 : Int) ≤ (l.length : Nat) := by omega
          have c4 : ((l.length : Nat) : Int) ≤ 12 := by omega
          have c5 : ((l.length : Nat) : Int) = (r0.length : Nat) := by omega
          have lt := @len_t l
          have lt0 := @len_t r0
          generalize ((l.length : Nat) : Int) = n at *
          generalize ((r0.length : Nat) : Int) = n0 at *
          subst c5
          have q : dNe (.int n) (.int n) = some (.bl false) := by rw [dNe_int]; simp
          refine ssq_f (by simp! only [x_isi2', e1, lt, lt0, c3, c4, decide_true, a0, q, Bool.not_true] <;> rfl) ?_
          cases ha : l.all rdB with
          | true => refine s1f (by simp! only [el, fAll_map, ha] <;> rfl)
          | false => exact st (by simp! only [el, fAll_map, ha] <;> rfl) rfl
        · rw [hw, decide_eq_false c2, Bool.and_false, Bool.false_and]
          have c3 : (1 : Int) ≤ (l.length : Nat) := by omega
          have c4 : ((l.length : Nat) : Int) ≤ 12 := by omega
          have c5 : ¬ ((l.length : Nat) : Int) = (r0.length : Nat) := by omega
          have lt := @len_t l
          have lt0 := @len_t r0
          generalize ((l.length : Nat) : Int) = n at *
          generalize ((r0.length : Nat) : Int) = n0 at *
          have q : dNe (.int n) (.int n0) = some (.bl true) := by rw [dNe_int]; simp [c5]
          exact ssq_rt (st (by simp! only [x_isi2', e1, lt, lt0, c3, c4, decide_true, a0, q, Bool.not_true] <;> rfl) rfl)
      · rw [hw, decide_eq_false c1, Bool.false_and, Bool.false_and]
        have lt := @len_t l
        by_cases c3 : (1 : Int) ≤ (l.length : Nat)
        · have c4 : ¬ ((l.length : Nat) : Int) ≤ 12 := by omega
          generalize ((l.length : Nat) : Int) = n at *
          exact ssq_rt (st (by simp! only [x_isi2', e1, lt, c3, c4, decide_true, decide_false, Bool.not_true] <;> rfl) rfl)
        · generalize ((l.length : Nat) : Int) = n at *
          exact ssq_rt (st (by simp! only [x_isi2', e1, lt, c3, decide_true, decide_false, Bool.not_true] <;> rfl) rfl)
    | _ => cases ht
theorem ev_isvw {d : D} (h : plain d = true) (ok : viewOk d) : m_is_view [.imm d] = some (.ok (.bl (viewB d)), [.no]) := by
  have e1 := isi_tup h
  cases ht : isTup d with
  | false =>
    rw [ht] at e1
    have : viewB d = false := by cases d <;> first | rfl | cases ht
    rw [this]
    exact (fn_rt (δ1 := [.imm d, .no, .no, .no]) (ssq_rt (st (by simp! only [x_isi2', e1] <;> rfl) rfl))).trans rfl
  | true =>
    rw [ht] at e1
    obtain ⟨l, rfl⟩ : ∃ l, d = .tup l := by cases d <;> first | exact ⟨_, rfl⟩ | cases ht
    have lt := @len_t l
    by_cases hl : l.length = 2
    · obtain ⟨n, r, rfl⟩ : ∃ n r, l = [n, r] := by
        match l, hl with
        | [n, r], _ => exact ⟨n, r, rfl⟩
      obtain ⟨pn, sn, pr, okr⟩ := ok
      have en := ev_isnm pn sn
      have a0 : dIx (.tup [n, r]) (.int 0) = some n := atI_0
      have a1 : dIx (.tup [n, r]) (.int 1) = some r := atI_1
      have lt : fLen [.tup [n, r]] = some (.int 2) := rfl
      have q : dNe (.int 2) (.int 2) = some (.bl false) := by rw [dNe_int]; simp
      show _ = some (Except.ok (D.bl (nameB n && rowsB r)), _)
      cases hn : nameB n with
      | false =>
        rw [hn] at en
        exact (fn_rt (δ1 := [.imm (.tup [n, r]), .no, .no, .no]) (ssq_rt (st (by simp! only [x_isi2', e1, lt, q, a0, en, dTru_bl, Bool.not_false, Bool.not_true] <;> rfl) rfl))).trans rfl
      | true =>
        rw [hn] at en
        rw [Bool.true_and]
        have e2 := isi_tup pr
        have first : ∀ {δ' : Env} {b : Bool}, (sSeq (sIf (tOrM (tNotM (eTru (eIsi2 "tuple" (eV 1)))) (tNotM (eB (eChain dLe dLe (eC (.int 1)) (eF fLen (aCons (eV 1) aNil)) (eC (.int 12)))))) (sRet (eC (.bl false))) sNx) (sSeq (sFor (iOf (eV 1)) (gN 2) vBody) (sRet (eC (.bl true))))) [.imm (.tup [n, r]), .imm r, .no, .no] = some (.ok (.rt (.bl b)), δ') → δ'.length = 4 → m_is_view [.imm (.tup [n, r])] = some (.ok (.bl b), ios 1 δ') := fun {δ' b} e hl => by
          refine (fn_rt (δ1 := δ') ?_)
          unfold b_is_view
          refine ssq_f (by simp! only [x_isi2', e1, lt, q, a0, en, dTru_bl, Bool.not_false, Bool.not_true] <;> rfl) ?_
          refine ssq (by simp! only [a1] <;> rfl) ?_
          exact e
        cases ht2 : isTup r with
        | false =>
          rw [ht2] at e2
          have : rowsB r = false := by cases r <;> first | rfl | cases ht2
          rw [this]
          exact first (δ' := [.imm (.tup [n, r]), .imm r, .no, .no]) (ssq_rt (st (by simp! only [x_isi2', e2] <;> rfl) rfl)) rfl
        | true =>
          rw [ht2] at e2
          obtain ⟨rows, rfl⟩ : ∃ l, r = .tup l := by cases r <;> first | exact ⟨_, rfl⟩ | cases ht2
          have ltr := @len_t rows
          by_cases c1 : 1 ≤ rows.length ∧ rows.length ≤ 12
          · obtain ⟨d0, rs, rfl⟩ : ∃ d0 rs, rows = d0 :: rs := by
              cases rows with
              | nil => simp at c1
              | cons a b => exact ⟨a, b, rfl⟩
            have hrow : rowsB (.tup (d0 :: rs)) = (d0 :: rs).all (rowB (wid0 d0)) := by
              by_cases t0 : isTup d0 = true
              · obtain ⟨r0, rfl⟩ : ∃ l, d0 = .tup l := by cases d0 <;> first | exact ⟨_, rfl⟩ | cases t0
                show (decide (rs.length + 1 ≤ 12) && _) = _
                rw [decide_eq_true (by have := c1.2; rw [List.length_cons] at this; exact this), Bool.true_and]; rfl
              · have t0 : isTup d0 = false := by simpa using t0
                rw [List.all_cons, not_tup t0, Bool.false_and]
                cases d0 <;> first | rfl | cases t0
            have loop : ∃ y2, sFor (iOf (eV 1)) (gN 2) vBody [.imm (.tup [n, .tup (d0 :: rs)]), .imm (.tup (d0 :: rs)), .no, .no] = some (.ok (if (d0 :: rs).all (rowB (wid0 d0)) = true then .nx else .rt (.bl false)), [.imm (.tup [n, .tup (d0 :: rs)]), .imm (.tup (d0 :: rs)), y2, .no]) := by
              by_cases t0 : isTup d0 = true
              · obtain ⟨r0, h0⟩ : ∃ l, d0 = .tup l := by cases d0 <;> first | exact ⟨_, rfl⟩ | cases t0
                obtain ⟨δ', f1, y2, rfl⟩ := sFor_all (I := iOf (eV 1)) (T := gN 2) (S := vBody) (p := rowB (wid0 d0)) (z := .bl false) (ds := d0 :: rs) (δ := [.imm (.tup [n, .tup (d0 :: rs)]), .imm (.tup (d0 :: rs)), .no, .no]) (δ0 := [.imm (.tup [n, .tup (d0 :: rs)]), .imm (.tup (d0 :: rs)), .no, .no])
                  (fun δ => ∃ y2, δ = [.imm (.tup [n, .tup (d0 :: rs)]), .imm (.tup (d0 :: rs)), y2, .no]) (by simp! only [itD]) ⟨_, rfl⟩ (fun d hd δ hδ => by
                    obtain ⟨y2, rfl⟩ := hδ
                    obtain ⟨pd, okd⟩ := okr d hd
                    exact ⟨[.imm (.tup [n, .tup (d0 :: rs)]), .imm (.tup (d0 :: rs)), .imm d, .no], [.imm (.tup [n, .tup (d0 :: rs)]), .imm (.tup (d0 :: rs)), .imm d, .no], by simp! only [], ev_vrow pd okd (fun _ => ⟨r0, h0⟩), _, rfl⟩)
                exact ⟨y2, f1⟩
              · have t0 : isTup d0 = false := by simpa using t0
                obtain ⟨pd, okd⟩ := okr d0 List.mem_cons_self
                refine ⟨.imm d0, ?_⟩
                rw [List.all_cons, not_tup t0, Bool.false_and]
                have hv := ev_vrow (v := .tup [n, .tup (d0 :: rs)]) (rs := rs) (d0 := d0) pd okd (fun z => by rw [t0] at z; cases z)
                rw [not_tup t0] at hv
                exact sFor_ret (F := fun _ => [.imm (.tup [n, .tup (d0 :: rs)]), .imm (.tup (d0 :: rs)), .no, .no]) (m := 0) (dm := d0) (ds := d0 :: rs) (by simp! only [itD]) rfl rfl (fun i d hi => absurd hi (Nat.not_lt_zero _)) ⟨[.imm (.tup [n, .tup (d0 :: rs)]), .imm (.tup (d0 :: rs)), .imm d0, .no], by simp! only [], hv⟩
            obtain ⟨y2, f1⟩ := loop
            rw [hrow]
            have c3 : (1 : Int) ≤ ((d0 :: rs).length : Nat) := by omega
            have c4 : (((d0 :: rs).length : Nat) : Int) ≤ 12 := by omega
            generalize (((d0 :: rs).length : Nat) : Int) = nn at *
            cases ha : (d0 :: rs).all (rowB (wid0 d0)) with
            | true =>
              rw [ha] at f1
              refine first (δ' := [.imm (.tup [n, .tup (d0 :: rs)]), .imm (.tup (d0 :: rs)), y2, .no]) ?_ rfl
              refine ssq_f (by simp! only [x_isi2', e2, ltr, c3, c4, decide_true, Bool.not_true] <;> rfl) ?_
              exact ssq f1 (by simp! only [])
            | false =>
              rw [ha] at f1
              refine first (δ' := [.imm (.tup [n, .tup (d0 :: rs)]), .imm (.tup (d0 :: rs)), y2, .no]) ?_ rfl
              refine ssq_f (by simp! only [x_isi2', e2, ltr, c3, c4, decide_true, Bool.not_true] <;> rfl) ?_
              exact ssq_rt f1
          · have : rowsB (.tup rows) = false := by
              cases rows with
              | nil => rfl
              | cons a b =>
                cases a <;> try rfl
                show (decide (b.length + 1 ≤ 12) && _) = _
                rw [decide_eq_false (by rw [List.length_cons] at c1; omega), Bool.false_and]
            rw [this]
            by_cases c3 : (1 : Int) ≤ (rows.length : Nat)
            · have c4 : ¬ ((rows.length : Nat) : Int) ≤ 12 := by omega
              generalize ((rows.length : Nat) : Int) = nn at *
              exact first (δ' := [.imm (.tup [n, .tup rows]), .imm (.tup rows), .no, .no]) (ssq_rt (st (by simp! only [x_isi2', e2, ltr, c3, c4, decide_true, decide_false, Bool.not_true, Bool.not_false] <;> rfl) rfl)) rfl
            · generalize ((rows.length : Nat) : Int) = nn at *
              exact first (δ' := [.imm (.tup [n, .tup rows]), .imm (.tup rows), .no, .no]) (ssq_rt (st (by simp! only [x_isi2', e2, ltr, c3, decide_true, decide_false, Bool.not_true, Bool.not_false] <;> rfl) rfl)) rfl
    · have : viewB (.tup l) = false := by
        match l, hl with
        | [], _ => rfl
        | [_], _ => rfl
        | [_, _], h => exact absurd rfl h
        | _ :: _ :: _ :: _, _ => rfl
      rw [this]
      have c : ¬ ((l.length : Nat) : Int) = 2 := by omega
      generalize ((l.length : Nat) : Int) = n at *
      have q : dNe (.int n) (.int 2) = some (.bl true) := by rw [dNe_int]; simp [c]
      exact (fn_rt (δ1 := [.imm (.tup l), .no, .no, .no]) (ssq_rt (st (by simp! only [x_isi2', e1, lt, q, Bool.not_true] <;> rfl) rfl))).trans rfl
end M
set_option Elab.async false
set_option linter.all false
set_option maxRecDepth 100000
set_option maxHeartbeats 1000000
namespace M
open PySem L2
section
variable {α : Type} {T : D → Mo Unit} {C : Mo Bool} {E : Mo D} {vs : List Nat} {δ δ0 : Env} {g f : α → D} {q : α → Bool} {I : Mo (List D)} {u : Exn}
/-- an environment of five slots -/
def Five (δ : Env) : Prop := ∃ a b c d e, δ = [a, b, c, d, e]
def TurnErr (T : D → Mo Unit) (C : Mo Bool) (E : Mo D) (δ : Env) (x : D) (u : Exn) : Prop :=
  ∃ δ1 δ2 δ3, T x δ = some (.ok (), δ1) ∧ C δ1 = some (.ok true, δ2) ∧ E δ2 = some (.error u, δ3) ∧ Five δ3
theorem lcMX_a : ∀ (l : List α) (acc : List D), (∀ a ∈ l, TurnOk T C E vs δ (g a) true (f a)) → lcMX T C E vs (l.map g) acc δ = some (.ok (.lst (acc ++ l.map f)), δ)
  | [], acc, _ => by unfold lcMX; simp
  | a :: l, acc, h => by
    obtain ⟨δ1, δ2, h1, h2, _, h4⟩ := h a List.mem_cons_self
    obtain ⟨δ3, h5, h6⟩ := h4 rfl
    rw [List.map_cons]
    unfold lcMX
    simp only [h1, h2, h5]
    rw [h6, lcMX_a l _ fun b m => h b (List.mem_cons_of_mem _ m)]
    simp
theorem lcMX_e : ∀ (l : List α) (acc : List D), (∀ a ∈ l, q a = true → TurnOk T C E vs δ (g a) true (f a)) → (∀ a ∈ l, q a = false → TurnErr T C E δ (g a) u) → l.all q = false → ∃ δ', lcMX T C E vs (l.map g) acc δ = some (.error u, δ') ∧ Five δ'
  | [], acc, _, _, hq => by simp at hq
  | a :: l, acc, h, he, hq => by
    rw [List.map_cons]
    unfold lcMX
    cases c : q a with
    | true =>
      obtain ⟨δ1, δ2, h1, h2, _, h4⟩ := h a List.mem_cons_self c
      obtain ⟨δ3, h5, h6⟩ := h4 rfl
      rw [List.all_cons, c, Bool.true_and] at hq
      simp only [h1, h2, h5]
      rw [h6]
      exact lcMX_e l _ (fun b m => h b (List.mem_cons_of_mem _ m)) (fun b m => he b (List.mem_cons_of_mem _ m)) hq
    | false =>
      obtain ⟨δ1, δ2, δ3, h1, h2, h3, h5⟩ := he a List.mem_cons_self c
      simp only [h1, h2, h3]
      exact ⟨_, rfl, h5⟩
theorem eLcX_ok {l : List α} (hi : I δ = some (.ok (l.map g), δ0)) (hl : l.length ≤ 1000) (h : ∀ a ∈ l, TurnOk T C E vs (wipeE δ0 vs) (g a) true (f a)) : eLcX I T C E vs δ = some (.ok (.lst (l.map f)), wipeE δ0 vs) := by
  unfold eLcX
  rw [bind_ok hi, if_pos (by rw [List.length_map]; exact small_len hl), lcMX_a l [] h]; rfl
theorem eLcX_err {l : List α} (hi : I δ = some (.ok (l.map g), δ0)) (hl : l.length ≤ 1000) (h : ∀ a ∈ l, q a = true → TurnOk T C E vs (wipeE δ0 vs) (g a) true (f a)) (he : ∀ a ∈ l, q a = false → TurnErr T C E (wipeE δ0 vs) (g a) u) (hq : l.all q = false) : ∃ δ', eLcX I T C E vs δ = some (.error u, δ') ∧ Five δ' := by
  unfold eLcX
  rw [bind_ok hi, if_pos (by rw [List.length_map]; exact small_len hl)]
  exact lcMX_e l [] h he hq
end
end M
set_option Elab.async false
set_option linter.all false
set_option maxRecDepth 100000
set_option maxHeartbeats 1000000
namespace M
open PySem L2
local macro_rules
  | `(tactic| simp! only [$as,*]) => `(tactic| simp only [x_bind, bk_ok, bk_ite, x_ret, x_lift, lk_some, lk_ite, app_ite, x_eC, x_eV, vk_imm, vk_own, vk_bor, x_give, gk_own, x_bin, x_un, x_ix, x_tru, x_eB, dBl_bl, dTru_bl, dTru_int, dTru_lst, x_and, x_or, x_not, x_eAnd, x_eOr, x_eNot, x_eIf, x_chain, x_aNil, x_aCons, x_aVr, rk_own, rk_io, x_aVb, tk_own, tk_io, tk_imm, tk_bor, x_eTup, x_eLst, imms_nil, imms_im, x_eF, x_call, ixV_C, jk_imm, jk_own, jk_io, jk_bor, flk_int, x_lenV, nk_imm, nk_own, nk_io, nk_bor, x_inV, hk_imm, hk_own, hk_io, hk_bor, x_sNx, x_pass, x_cont, x_brk, x_seq, sk_nx, sk_rt, sk_rtO, sk_ct, sk_bk, sk_ite, x_drop, x_sRet, x_sRetO, x_sIf, x_asg, x_asgO, x_gN, x_gO, x_gNil, x_gCons, x_gTt, x_gTl, x_sApp, x_sSet, x_chM, ck_own, ck_io, x_iOf, x_iRg, x_fn, fk_rt, fk_nx, fk_ite, ios_z, ios_s, keep_io, keep_imm, keep_own, keep_bor, keep_no, dSub_i, dAdd_i, dLt_i, dLe_i, dGt_i, dGe_i, dEq_int, dNe_int, ix_lst, ix_scr, ix_tup, atI_0, atI_1, atI_2, atI_3, List.getElem?_cons_zero, List.getElem?_cons_succ, List.set_cons_zero, List.set_cons_succ, List.length_cons, List.length_nil, List.cons_append, List.nil_append, List.replicate_succ, List.replicate_zero, Option.map_some, Option.bind_some, Nat.reduceAdd, Nat.reduceSub, Nat.reduceLT, Nat.reduceLeDiff, if_true, if_false, Bool.false_eq_true, decide_eq_true_eq, reduceIte, ne_eq, not_false_eq_true, Nat.lt_add_left_iff_pos, Nat.zero_lt_succ, x_call1, x_call2, x_call3, x_call4, dk1, dk2, dk3, dk4, ixV_V, Nat.reduceEqDiff, not_false_eq_true, x_isLst, x_isSet, List.map_cons, List.map_nil, Option.map_none, Option.bind_none, x_eSl, x_eP0, x_eP1, part_i, $as,*])
def lightE : Exn := ⟨"Misused", .str "light"⟩
/-- a reading with a light added is a reading -/
def litB (l : Int) (o : Option Int) : Bool := match o with
  | none => true
  | some i => rdB (.int (i + l))
def litO (l : Int) (o : Option Int) : Option Int := o.map (· + l)
theorem x_callN {m : Mo D} {A : Mo (List Ag)} {δ : Env} : eCallN m A δ = bk (fun as => callN m as) (A δ) := x_bind
theorem ev_lighter {l : Int} {o : Option Int} : m_lighter [.imm (oI o), .imm (.int l)] = if litB l o = true then some (.ok (oI (litO l o)), [.no, .no]) else some (.error lightE, [.no, .no]) := by
  cases o with
  | none =>
    have hn : dIs false (oI none) .non = some (.bl true) := rfl
    refine (fn_rt (δ1 := [.imm (oI none), .imm (.int l)]) (d := .non) ?_).trans rfl
    unfold b_lighter
    refine ssq_t (δ1 := [.imm (oI none), .imm (.int l)]) (by simp! only [hn]) ?_
    rfl
  | some i =>
    have hn : dIs false (oI (some i)) .non = some (.bl false) := rfl
    have ha : dAdd (oI (some i)) (.int l) = some (.int (i + l)) := rfl
    have er := ev_isrd (d := .int (i + l)) rfl
    have ec : ∀ δ, callN m_is_reading [.im (.int (i + l))] δ = some (.ok (.bl (rdB (.int (i + l)))), δ) := fun δ => by
      unfold callN
      rw [x_call1, er]; rfl
    have hb : litB l (some i) = rdB (.int (i + l)) := rfl
    rw [hb]
    cases c : rdB (.int (i + l)) with
    | true =>
      rw [c] at ec
      refine (fn_rt (δ1 := [.imm (oI (some i)), .imm (.int l)]) (d := .int (i + l)) ?_).trans rfl
      unfold b_lighter
      refine ssq_f (δ1 := [.imm (oI (some i)), .imm (.int l)]) (by simp! only [hn]) ?_
      refine ssq_f (δ1 := [.imm (oI (some i)), .imm (.int l)]) (by unfold tNotM; simp! only [x_callN, ha, ec, dTru_bl, Bool.not_true]) ?_
      simp! only [ha]
    | false =>
      rw [c] at ec
      rw [if_neg (by simp)]
      show fnM 2 2 b_lighter _ = _
      rw [x_fn]
      have : b_lighter [.imm (oI (some i)), .imm (.int l)] = some (.error lightE, [.imm (oI (some i)), .imm (.int l)]) := by
        unfold b_lighter
        refine ssq_f (δ1 := [.imm (oI (some i)), .imm (.int l)]) (by simp! only [hn]) ?_
        exact ssq_err (st (δ1 := [.imm (oI (some i)), .imm (.int l)]) (by unfold tNotM; simp! only [x_callN, ha, ec, dTru_bl, Bool.not_false]) rfl)
      rw [show ([.imm (oI (some i)), .imm (.int l)] ++ List.replicate (2 - 2) Sl.no : Env) = [.imm (oI (some i)), .imm (.int l)] from rfl, this]
      rfl
end M
set_option Elab.async false
set_option linter.all false
set_option maxRecDepth 100000
set_option maxHeartbeats 1000000
namespace M
open PySem L2
local macro_rules
  | `(tactic| simp! only [$as,*]) => `(tactic| simp only [x_bind, bk_ok, bk_ite, x_ret, x_lift, lk_some, lk_ite, app_ite, x_eC, x_eV, vk_imm, vk_own, vk_bor, x_give, gk_own, x_bin, x_un, x_ix, x_tru, x_eB, dBl_bl, dTru_bl, dTru_int, dTru_lst, x_and, x_or, x_not, x_eAnd, x_eOr, x_eNot, x_eIf, x_chain, x_aNil, x_aCons, x_aVr, rk_own, rk_io, x_aVb, tk_own, tk_io, tk_imm, tk_bor, x_eTup, x_eLst, imms_nil, imms_im, x_eF, x_call, ixV_C, jk_imm, jk_own, jk_io, jk_bor, flk_int, x_lenV, nk_imm, nk_own, nk_io, nk_bor, x_inV, hk_imm, hk_own, hk_io, hk_bor, x_sNx, x_pass, x_cont, x_brk, x_seq, sk_nx, sk_rt, sk_rtO, sk_ct, sk_bk, sk_ite, x_drop, x_sRet, x_sRetO, x_sIf, x_asg, x_asgO, x_gN, x_gO, x_gNil, x_gCons, x_gTt, x_gTl, x_sApp, x_sSet, x_chM, ck_own, ck_io, x_iOf, x_iRg, x_fn, fk_rt, fk_nx, fk_ite, ios_z, ios_s, keep_io, keep_imm, keep_own, keep_bor, keep_no, dSub_i, dAdd_i, dLt_i, dLe_i, dGt_i, dGe_i, dEq_int, dNe_int, ix_lst, ix_scr, ix_tup, atI_0, atI_1, atI_2, atI_3, List.getElem?_cons_zero, List.getElem?_cons_succ, List.set_cons_zero, List.set_cons_succ, List.length_cons, List.length_nil, List.cons_append, List.nil_append, List.replicate_succ, List.replicate_zero, Option.map_some, Option.bind_some, Nat.reduceAdd, Nat.reduceSub, Nat.reduceLT, Nat.reduceLeDiff, if_true, if_false, Bool.false_eq_true, decide_eq_true_eq, reduceIte, ne_eq, not_false_eq_true, Nat.lt_add_left_iff_pos, Nat.zero_lt_succ, x_call1, x_call2, x_call3, x_call4, dk1, dk2, dk3, dk4, ixV_V, Nat.reduceEqDiff, not_false_eq_true, x_isLst, x_isSet, List.map_cons, List.map_nil, Option.map_none, Option.bind_none, x_eSl, x_eP0, x_eP1, part_i, $as,*])
abbrev mvE (V : D) (l : Int) (s4 : Sl) : Env := [.imm V, .imm (.int l), .no, .no, s4]
noncomputable def mvI : Mo D := (eLcX (iOf (eV 4)) (gN 3) tYesM (eCall m_lighter (aCons (eV 3) (aCons (eV 1) aNil))) [3])
theorem mv_turn {V R : D} {l : Int} {o : Option Int} : (litB l o = true → TurnOk (gN 3) tYesM (eCall m_lighter (aCons (eV 3) (aCons (eV 1) aNil))) [3] (mvE V l (.imm R)) (oI o) true (oI (litO l o))) ∧ (litB l o = false → TurnErr (gN 3) tYesM (eCall m_lighter (aCons (eV 3) (aCons (eV 1) aNil))) (mvE V l (.imm R)) (oI o) lightE) := by
  have el := ev_lighter (l := l) (o := o)
  constructor
  · intro h
    rw [if_pos h] at el
    have ec : ∀ δ, callM m_lighter [.im (oI o), .im (.int l)] δ = some (.ok (oI (litO l o)), δ) := fun δ => by rw [x_call2, el]; rfl
    refine ⟨[.imm V, .imm (.int l), .no, .imm (oI o), .imm R], [.imm V, .imm (.int l), .no, .imm (oI o), .imm R], by unfold mvE; simp! only [wipeE], rfl, (fun z => by cases z), fun _ => ⟨[.imm V, .imm (.int l), .no, .imm (oI o), .imm R], by simp! only [ec], rfl⟩⟩
  · intro h
    rw [if_neg (by rw [h]; simp)] at el
    have ec : ∀ δ, callM m_lighter [.im (oI o), .im (.int l)] δ = some (.error lightE, δ) := fun δ => by rw [x_call2, el]; rfl
    refine ⟨[.imm V, .imm (.int l), .no, .imm (oI o), .imm R], [.imm V, .imm (.int l), .no, .imm (oI o), .imm R], [.imm V, .imm (.int l), .no, .imm (oI o), .imm R], by unfold mvE; simp! only [wipeE], rfl, by simp! only [ec], _, _, _, _, _, rfl⟩
theorem ev_mvI {V : D} {l : Int} {r : Row} (hr : r.length ≤ 100) : (r.all (litB l) = true → mvI (mvE V l (.imm (rowT r))) = some (.ok (.lst (r.map fun o => oI (litO l o))), mvE V l (.imm (rowT r)))) ∧ (r.all (litB l) = false → ∃ δ', mvI (mvE V l (.imm (rowT r))) = some (.error lightE, δ') ∧ Five δ') := by
  have hi : itD (rowT r) = some (r.map oI) := rfl
  have hI : iOf (eV 4) (mvE V l (.imm (rowT r))) = some (.ok (r.map oI), mvE V l (.imm (rowT r))) := by
    unfold mvE
    generalize rowT r = R at *
    simp! only [hi]
  constructor
  · intro h
    rw [List.all_eq_true] at h
    unfold mvI
    rw [eLcX_ok (g := oI) (f := fun o => oI (litO l o)) hI (by omega) fun o m => mv_turn.1 (h o m)]; rfl
  · intro h
    exact eLcX_err (g := oI) (f := fun o => oI (litO l o)) (q := litB l) hI (by omega) (fun o _ h => mv_turn.1 h) (fun o _ h => mv_turn.2 h) h
end M
set_option Elab.async false
set_option linter.all false
set_option maxRecDepth 100000
set_option maxHeartbeats 1000000
namespace M
open PySem L2
local macro_rules
  | `(tactic| simp! only [$as,*]) => `(tactic| simp only [x_bind, bk_ok, bk_ite, x_ret, x_lift, lk_some, lk_ite, app_ite, x_eC, x_eV, vk_imm, vk_own, vk_bor, x_give, gk_own, x_bin, x_un, x_ix, x_tru, x_eB, dBl_bl, dTru_bl, dTru_int, dTru_lst, x_and, x_or, x_not, x_eAnd, x_eOr, x_eNot, x_eIf, x_chain, x_aNil, x_aCons, x_aVr, rk_own, rk_io, x_aVb, tk_own, tk_io, tk_imm, tk_bor, x_eTup, x_eLst, imms_nil, imms_im, x_eF, x_call, ixV_C, jk_imm, jk_own, jk_io, jk_bor, flk_int, x_lenV, nk_imm, nk_own, nk_io, nk_bor, x_inV, hk_imm, hk_own, hk_io, hk_bor, x_sNx, x_pass, x_cont, x_brk, x_seq, sk_nx, sk_rt, sk_rtO, sk_ct, sk_bk, sk_ite, x_drop, x_sRet, x_sRetO, x_sIf, x_asg, x_asgO, x_gN, x_gO, x_gNil, x_gCons, x_gTt, x_gTl, x_sApp, x_sSet, x_chM, ck_own, ck_io, x_iOf, x_iRg, x_fn, fk_rt, fk_nx, fk_ite, ios_z, ios_s, keep_io, keep_imm, keep_own, keep_bor, keep_no, dSub_i, dAdd_i, dLt_i, dLe_i, dGt_i, dGe_i, dEq_int, dNe_int, ix_lst, ix_scr, ix_tup, atI_0, atI_1, atI_2, atI_3, List.getElem?_cons_zero, List.getElem?_cons_succ, List.set_cons_zero, List.set_cons_succ, List.length_cons, List.length_nil, List.cons_append, List.nil_append, List.replicate_succ, List.replicate_zero, Option.map_some, Option.bind_some, Nat.reduceAdd, Nat.reduceSub, Nat.reduceLT, Nat.reduceLeDiff, if_true, if_false, Bool.false_eq_true, decide_eq_true_eq, reduceIte, ne_eq, not_false_eq_true, Nat.lt_add_left_iff_pos, Nat.zero_lt_succ, x_call1, x_call2, x_call3, x_call4, dk1, dk2, dk3, dk4, ixV_V, Nat.reduceEqDiff, not_false_eq_true, x_isLst, x_isSet, List.map_cons, List.map_nil, Option.map_none, Option.bind_none, x_eSl, x_eP0, x_eP1, part_i, $as,*])
def movR (l : Int) (rs : List Row) : List Row := rs.map fun r => r.map (litO l)
def movB (l : Int) (rs : List Row) : Bool := rs.all fun r => r.all (litB l)
theorem row_turn {V : D} {l : Int} {r : Row} (hr : r.length ≤ 100) : (r.all (litB l) = true → TurnOk (gN 4) tYesM (eF fTuple (aCons mvI aNil)) [4] (mvE V l .no) (rowT r) true (rowT (r.map (litO l)))) ∧ (r.all (litB l) = false → TurnErr (gN 4) tYesM (eF fTuple (aCons mvI aNil)) (mvE V l .no) (rowT r) lightE) := by
  obtain ⟨h1, h2⟩ := ev_mvI (V := V) (l := l) hr
  have ft : fTuple [.lst (r.map fun o => oI (litO l o))] = some (rowT (r.map (litO l))) := by
    show some (D.tup (r.map fun o => oI (litO l o))) = some (D.tup ((r.map (litO l)).map oI))
    rw [List.map_map]; rfl
  constructor
  · intro h
    have e := h1 h
    generalize D.lst (r.map fun o => oI (litO l o)) = LD at *
    exact ⟨mvE V l (.imm (rowT r)), mvE V l (.imm (rowT r)), by unfold mvE; simp! only [wipeE], rfl, (fun z => by cases z), fun _ => ⟨mvE V l (.imm (rowT r)), by unfold mvE at e ⊢; simp! only [e, ft], rfl⟩⟩
  · intro h
    obtain ⟨δ', e, e5⟩ := h2 h
    exact ⟨mvE V l (.imm (rowT r)), mvE V l (.imm (rowT r)), δ', by unfold mvE; simp! only [wipeE], rfl, by rw [x_eF, x_aCons, e]; rfl, e5⟩
theorem fn_err {N n : Nat} {body : Mo Out} {δ δ1 : Env} {x : Exn} (h : body (δ ++ List.replicate (N - n) .no) = some (.error x, δ1)) : fnM N n body δ = some (.error x, ios n δ1) := by rw [x_fn, h]; rfl
theorem ev_moved {w h : Nat} {s : Str} {rs : List Row} (R : Rect w h rs) (hw : w ≤ 12) (hh : h ≤ 12) {l : Int} :
    (movB l rs = true → m_moved_light [.imm (vwD s rs), .imm (.int l)] = some (.ok (vwD s (movR l rs)), [.no, .no])) ∧ (movB l rs = false → ∃ s1 s2, m_moved_light [.imm (vwD s rs), .imm (.int l)] = some (.error lightE, [s1, s2])) := by
  have hI : iOf (eIxV 0 (eC (.int 1))) (mvE (vwD s rs) l .no) = some (.ok (rs.map rowT), mvE (vwD s rs) l .no) := by
    have hi : itD (rowsT rs) = some (rs.map rowT) := rfl
    unfold mvE
    simp! only [vw_1, hi]
  have hr : ∀ r ∈ rs, r.length ≤ 100 := fun r m => by rw [R.wid r m]; omega
  have hl : rs.length ≤ 1000 := by rw [R.len]; omega
  constructor
  · intro hb
    have hb : ∀ r ∈ rs, r.all (litB l) = true := List.all_eq_true.mp hb
    have e := eLcX_ok (T := gN 4) (C := tYesM) (E := eF fTuple (aCons mvI aNil)) (vs := [4]) (g := rowT) (f := fun r => rowT (r.map (litO l))) hI hl fun r m => (row_turn (hr r m)).1 (hb r m)
    have ft : fTuple [.lst (rs.map fun r => rowT (r.map (litO l)))] = some (rowsT (movR l rs)) := by
      show some (D.tup (rs.map fun r => rowT (r.map (litO l)))) = some (D.tup ((movR l rs).map rowT))
      unfold movR
      rw [List.map_map]; rfl
    generalize D.lst (rs.map fun r => rowT (r.map (litO l))) = LD at *
    refine (fn_rt (δ1 := [.imm (vwD s rs), .imm (.int l), .imm LD, .no, .no]) ?_).trans rfl
    unfold b_moved_light
    refine ssq (δ1 := [.imm (vwD s rs), .imm (.int l), .own LD, .no, .no]) (by
      have e : (eLcX (iOf (eIxV 0 (eC (.int 1)))) (gN 4) tYesM (eF fTuple (aCons (eLcX (iOf (eV 4)) (gN 3) tYesM (eCall m_lighter (aCons (eV 3) (aCons (eV 1) aNil))) [3]) aNil)) [4]) [.imm (vwD s rs), .imm (.int l), .no, .no, .no] = some (.ok LD, [.imm (vwD s rs), .imm (.int l), .no, .no, .no]) := e
      simp! only [e]) ?_
    show _ = some (Except.ok (Out.rt (.tup [.str s, rowsT (movR l rs)])), _)
    simp! only [vw_0, ft]
  · intro hb
    obtain ⟨δ', e, y1, y2, y3, y4, y5, rfl⟩ := eLcX_err (T := gN 4) (C := tYesM) (E := eF fTuple (aCons mvI aNil)) (vs := [4]) (g := rowT) (f := fun r => rowT (r.map (litO l))) (q := fun r => r.all (litB l)) hI hl (fun r m h => (row_turn (hr r m)).1 h) (fun r m h => (row_turn (hr r m)).2 h) hb
    refine ⟨_, _, fn_err (δ1 := [y1, y2, y3, y4, y5]) ?_⟩
    unfold b_moved_light
    refine ssq_err ?_
    have e : (eLcX (iOf (eIxV 0 (eC (.int 1)))) (gN 4) tYesM (eF fTuple (aCons (eLcX (iOf (eV 4)) (gN 3) tYesM (eCall m_lighter (aCons (eV 3) (aCons (eV 1) aNil))) [3]) aNil)) [4]) ([.imm (vwD s rs), .imm (.int l)] ++ List.replicate (5 - 2) Sl.no) = some (.error lightE, [y1, y2, y3, y4, y5]) := e
    rw [x_asgO, e]; rfl
end M
set_option Elab.async false
set_option linter.all false
set_option maxRecDepth 100000
set_option maxHeartbeats 1000000
namespace M
open PySem L2
local macro_rules
  | `(tactic| simp! only [$as,*]) => `(tactic| simp only [x_bind, bk_ok, bk_ite, x_ret, x_lift, lk_some, lk_ite, app_ite, x_eC, x_eV, vk_imm, vk_own, vk_bor, x_give, gk_own, x_bin, x_un, x_ix, x_tru, x_eB, dBl_bl, dTru_bl, dTru_int, dTru_lst, x_and, x_or, x_not, x_eAnd, x_eOr, x_eNot, x_eIf, x_chain, x_aNil, x_aCons, x_aVr, rk_own, rk_io, x_aVb, tk_own, tk_io, tk_imm, tk_bor, x_eTup, x_eLst, imms_nil, imms_im, x_eF, x_call, ixV_C, jk_imm, jk_own, jk_io, jk_bor, flk_int, x_lenV, nk_imm, nk_own, nk_io, nk_bor, x_inV, hk_imm, hk_own, hk_io, hk_bor, x_sNx, x_pass, x_cont, x_brk, x_seq, sk_nx, sk_rt, sk_rtO, sk_ct, sk_bk, sk_ite, x_drop, x_sRet, x_sRetO, x_sIf, x_asg, x_asgO, x_gN, x_gO, x_gNil, x_gCons, x_gTt, x_gTl, x_sApp, x_sSet, x_chM, ck_own, ck_io, x_iOf, x_iRg, x_fn, fk_rt, fk_nx, fk_ite, ios_z, ios_s, keep_io, keep_imm, keep_own, keep_bor, keep_no, dSub_i, dAdd_i, dLt_i, dLe_i, dGt_i, dGe_i, dEq_int, dNe_int, ix_lst, ix_scr, ix_tup, atI_0, atI_1, atI_2, atI_3, List.getElem?_cons_zero, List.getElem?_cons_succ, List.set_cons_zero, List.set_cons_succ, List.length_cons, List.length_nil, List.cons_append, List.nil_append, List.replicate_succ, List.replicate_zero, Option.map_some, Option.bind_some, Nat.reduceAdd, Nat.reduceSub, Nat.reduceLT, Nat.reduceLeDiff, if_true, if_false, Bool.false_eq_true, decide_eq_true_eq, reduceIte, ne_eq, not_false_eq_true, Nat.lt_add_left_iff_pos, Nat.zero_lt_succ, x_call1, x_call2, x_call3, x_call4, dk1, dk2, dk3, dk4, ixV_V, Nat.reduceEqDiff, not_false_eq_true, x_isLst, x_isSet, List.map_cons, List.map_nil, Option.map_none, Option.bind_none, x_eSl, x_eP0, x_eP1, part_i, $as,*])
theorem call_err2 {m : Mo D} {a b : D} {x : Exn} {s t : Sl} {δ : Env} (h : m [.imm a, .imm b] = some (.error x, [s, t])) : callM m [.im a, .im b] δ = some (.error x, δ) := by rw [x_call2, h]; rfl
theorem ev_lawlight {w h : Nat} {s : Str} {rs : List Row} (R : Rect w h rs) (hw : w ≤ 12) (hh : h ≤ 12) {l : Int} :
    (movB l rs = true → m__law_lighter [.imm (vwD s rs), .imm (.int l)] = some (.ok (vwD s (movR l rs)), [.no, .no])) := fun hb => by
  have e := (ev_moved (s := s) R hw hh (l := l)).1 hb
  have ec : ∀ δ, callM m_moved_light [.im (vwD s rs), .im (.int l)] δ = some (.ok (vwD s (movR l rs)), δ) := fun δ => by rw [x_call2, e]; rfl
  refine (fn_rt (δ1 := [.imm (vwD s rs), .imm (.int l), .no]) ?_).trans rfl
  unfold b__law_lighter sTryWhy
  have : sRet (eCall m_moved_light (aCons (eV 0) (aCons (eV 1) aNil))) ([.imm (vwD s rs), .imm (.int l)] ++ List.replicate (3 - 2) Sl.no) = some (.ok (.rt (vwD s (movR l rs))), [.imm (vwD s rs), .imm (.int l), .no]) := by
    show sRet (eCall m_moved_light (aCons (eV 0) (aCons (eV 1) aNil))) [.imm (vwD s rs), .imm (.int l), .no] = _
    simp! only [ec]
  rw [this]
theorem ev_lawlightE {w h : Nat} {s : Str} {rs : List Row} (R : Rect w h rs) (hw : w ≤ 12) (hh : h ≤ 12) {l : Int} (hb : movB l rs = false) : m__law_lighter [.imm (vwD s rs), .imm (.int l)] = some (.ok (.str "light"), [.no, .no]) := by
  obtain ⟨s1, s2, e⟩ := (ev_moved (s := s) R hw hh (l := l)).2 hb
  have ec := fun δ => call_err2 (δ := δ) e
  refine (fn_rt (δ1 := [.imm (vwD s rs), .imm (.int l), .no]) ?_).trans rfl
  unfold b__law_lighter sTryWhy
  have : sRet (eCall m_moved_light (aCons (eV 0) (aCons (eV 1) aNil))) ([.imm (vwD s rs), .imm (.int l)] ++ List.replicate (3 - 2) Sl.no) = some (.error lightE, [.imm (vwD s rs), .imm (.int l), .no]) := by
    show sRet (eCall m_moved_light (aCons (eV 0) (aCons (eV 1) aNil))) [.imm (vwD s rs), .imm (.int l), .no] = _
    simp! only [ec]
    rfl
  rw [this]
  rfl
theorem ev_size {w h : Nat} {s : Str} {rs : List Row} (R : Rect w h rs) (hh : 1 ≤ h) : m_size [.imm (vwD s rs)] = some (.ok (.tup [.int (w : Nat), .int (h : Nat)]), [.no]) := by
  have h0 : 0 < rs.length := by rw [R.len]; exact hh
  have e0 := ix_rows h0
  have hr : (rs.getD 0 []).length = w := R.wid _ (getD_mem h0).2
  have e0 : dIx (rowsT rs) (.int 0) = some (rowT (rs.getD 0 [])) := e0
  have l1 := len_row (r := rs.getD 0 [])
  have l2 := len_rows (rs := rs)
  rw [hr] at l1
  rw [R.len] at l2
  refine (fn_rt (δ1 := [.imm (vwD s rs)]) ?_).trans rfl
  unfold b_size
  generalize ((w : Nat) : Int) = W at *
  generalize ((h : Nat) : Int) = H at *
  simp! only [vw_1, e0, l1, l2]
end M
set_option Elab.async false
set_option linter.all false
set_option maxRecDepth 100000
set_option maxHeartbeats 4000000
namespace M
open PySem L2
local macro_rules
  | `(tactic| simp! only [$as,*]) => `(tactic| simp only [x_bind, bk_ok, bk_ite, x_ret, x_lift, lk_some, lk_ite, app_ite, x_eC, x_eV, vk_imm, vk_own, vk_bor, x_give, gk_own, x_bin, x_un, x_ix, x_tru, x_eB, dBl_bl, dTru_bl, dTru_int, dTru_lst, x_and, x_or, x_not, x_eAnd, x_eOr, x_eNot, x_eIf, x_chain, x_aNil, x_aCons, x_aVr, rk_own, rk_io, x_aVb, tk_own, tk_io, tk_imm, tk_bor, x_eTup, x_eLst, imms_nil, imms_im, x_eF, x_call, ixV_C, jk_imm, jk_own, jk_io, jk_bor, flk_int, x_lenV, nk_imm, nk_own, nk_io, nk_bor, x_inV, hk_imm, hk_own, hk_io, hk_bor, x_sNx, x_pass, x_cont, x_brk, x_seq, sk_nx, sk_rt, sk_rtO, sk_ct, sk_bk, sk_ite, x_drop, x_sRet, x_sRetO, x_sIf, x_asg, x_asgO, x_gN, x_gO, x_gNil, x_gCons, x_gTt, x_gTl, x_sApp, x_sSet, x_chM, ck_own, ck_io, x_iOf, x_iRg, x_fn, fk_rt, fk_nx, fk_ite, ios_z, ios_s, keep_io, keep_imm, keep_own, keep_bor, keep_no, dSub_i, dAdd_i, dLt_i, dLe_i, dGt_i, dGe_i, dEq_int, dNe_int, ix_lst, ix_scr, ix_tup, atI_0, atI_1, atI_2, atI_3, List.getElem?_cons_zero, List.getElem?_cons_succ, List.set_cons_zero, List.set_cons_succ, List.length_cons, List.length_nil, List.cons_append, List.nil_append, List.replicate_succ, List.replicate_zero, Option.map_some, Option.bind_some, Nat.reduceAdd, Nat.reduceSub, Nat.reduceLT, Nat.reduceLeDiff, if_true, if_false, Bool.false_eq_true, decide_eq_true_eq, reduceIte, ne_eq, not_false_eq_true, Nat.lt_add_left_iff_pos, Nat.zero_lt_succ, x_call1, x_call2, x_call3, x_call4, dk1, dk2, dk3, dk4, ixV_V, Nat.reduceEqDiff, not_false_eq_true, x_isLst, x_isSet, List.map_cons, List.map_nil, Option.map_none, Option.bind_none, x_eSl, x_eP0, x_eP1, part_i, $as,*])
theorem cut_from {α : Type} {l : List α} {k : Nat} (h : k ≤ l.length) : cutD l (some (k : Int)) none = l.drop k := by
  unfold cutD
  rw [HT.sIx_nat, HT.sIx_none, Nat.min_eq_left h]
  exact List.take_of_length_le (by rw [List.length_drop]; omega)
theorem cut_to {α : Type} {l : List α} {k : Nat} (h : k ≤ l.length) : cutD l none (some (k : Int)) = l.take k := by
  unfold cutD
  rw [HT.sIx_nat, HT.sIx_none, Nat.min_eq_left h, List.drop_zero, Nat.sub_zero]
theorem tup_app {l m : List D} (h : l.length ≤ 1000) (h2 : m.length ≤ 1000) : dAdd (.tup l) (.tup m) = some (.tup (l ++ m)) := by
  show (if l.length + m.length ≤ sizeLine then _ else none) = _
  rw [if_pos (by rw [sizeLine_eq]; omega)]
theorem plain_oI {o : Option Int} : plain (oI o) = true := by cases o <;> rfl
theorem ok_row {r : Row} : rowOk (rowT r) := fun d m => by
  obtain ⟨o, _, rfl⟩ := List.mem_map.mp m; exact plain_oI
theorem ok_rowD {rs : List Row} {d : D} (m : d ∈ rs.map rowT) : plain d = true ∧ rowOk d := by
  obtain ⟨r, _, rfl⟩ := List.mem_map.mp m; exact ⟨rfl, ok_row⟩
theorem ok_rows {rs : List Row} : rowsOk (rowsT rs) := fun d m => ok_rowD m
theorem nm_ok {l : List Nat} (h : nmL l = true) : strOk (.str (mkS l)) := by
  have h : nmB (mkS l) = true := by rw [nmB_mk]; exact h
  exact ⟨nmB_ok h, by have := nmB_len h; omega⟩
theorem rowsB_bad {d : D} : ∀ {rows : List D}, d ∈ rows → (∀ w, rowB w d = false) → rowsB (.tup rows) = false
  | [], _, _ => rfl
  | d0 :: rows, h, hb => by
    cases d0 with
    | tup r0 =>
      show (decide _ && (D.tup r0 :: rows).all (rowB r0.length)) = false
      rw [show (D.tup r0 :: rows).all (rowB r0.length) = false from List.all_eq_false.mpr ⟨d, h, by rw [hb]; exact Bool.false_ne_true⟩, Bool.and_false]
    | _ => rfl
theorem rowsB_wid {r0 r1 : List D} {rows : List D} (h : D.tup r1 ∈ rows) (hl : r1.length ≠ r0.length) : rowsB (.tup (.tup r0 :: rows)) = false := by
  show (decide _ && (D.tup r0 :: rows).all (rowB r0.length)) = false
  rw [show (D.tup r0 :: rows).all (rowB r0.length) = false from List.all_eq_false.mpr ⟨_, List.mem_cons_of_mem _ h, ?_⟩, Bool.and_false]
  show ¬ ((decide _ && decide (r1.length = r0.length)) && _) = true
  rw [decide_eq_false hl, Bool.and_false, Bool.false_and]; exact Bool.false_ne_true
theorem rowsB_long {rows : List D} (h : 12 < rows.length) : rowsB (.tup rows) = false := by
  cases rows with
  | nil => rfl
  | cons d0 rows =>
    cases d0 with
    | tup r0 =>
      show (decide (rows.length + 1 ≤ 12) && _) = false
      rw [List.length_cons] at h
      rw [decide_eq_false (by omega), Bool.false_and]
    | _ => rfl
theorem rowB_bad {w : Nat} {l : List D} {d : D} (h : d ∈ l) (hb : rdB d = false) : rowB w (.tup l) = false := by
  show (_ && l.all rdB) = false
  rw [show l.all rdB = false from List.all_eq_false.mpr ⟨d, h, by rw [hb]; exact Bool.false_ne_true⟩, Bool.and_false]
structure Bad (v : D) : Prop where
  p : plain v = true
  ok : viewOk v
  b : viewB v = false
theorem bad2 {n r : D} (pn : plain n = true) (sn : strOk n) (pr : plain r = true) (or : rowsOk r) (h : nameB n = false ∨ rowsB r = false) : Bad (.tup [n, r]) :=
  ⟨rfl, ⟨pn, sn, pr, or⟩, by
    show (nameB n && rowsB r) = false
    rcases h with h | h
    · rw [h, Bool.false_and]
    · rw [h, Bool.and_false]⟩
theorem seven_at {RS : D} {t : Int} (h0 : 0 ≤ t) (h : t < 7) : ∃ d, atI [D.str "", .str "A", .str "1a", .str "a_b", .str (strRep "a" 9), .int 5, .non] t = some d ∧ plain d = true ∧ strOk d ∧ nameB d = false := by
  have : t = 0 ∨ t = 1 ∨ t = 2 ∨ t = 3 ∨ t = 4 ∨ t = 5 ∨ t = 6 := by omega
  have dd : ∀ s : Str, (decide ((toPy (.str s)).canLay0 = true ∧ s.length ≤ 1000) && !nmB s) = true → plain (.str s) = true ∧ strOk (.str s) ∧ nameB (.str s) = false := fun s h => by
    rw [Bool.and_eq_true, decide_eq_true_eq] at h
    exact ⟨rfl, h.1, by show nmB s = false; simpa using h.2⟩
  rcases this with e | e | e | e | e | e | e <;> rw [e]
  · exact ⟨_, atI_0, dd _ (by decide +kernel)⟩
  · exact ⟨_, atI_1, dd _ (by decide +kernel)⟩
  · exact ⟨_, atI_2, dd _ (by decide +kernel)⟩
  · exact ⟨_, rfl, dd _ (by decide +kernel)⟩
  · exact ⟨_, rfl, dd _ (by decide +kernel)⟩
  · exact ⟨_, rfl, rfl, trivial, rfl⟩
  · exact ⟨_, rfl, rfl, trivial, rfl⟩
theorem six_bad {t : Int} (h0 : 0 ≤ t) (h : t < 6) : ∃ d, atI [D.int (-1), .int 1000, .bl true, .bl false, .str "1", .tup []] t = some d ∧ plain d = true ∧ rdB d = false := by
  have : t = 0 ∨ t = 1 ∨ t = 2 ∨ t = 3 ∨ t = 4 ∨ t = 5 := by omega
  rcases this with e | e | e | e | e | e <;> rw [e]
  · exact ⟨_, atI_0, rfl, by decide⟩
  · exact ⟨_, atI_1, rfl, by decide⟩
  · exact ⟨_, atI_2, rfl, rfl⟩
  · exact ⟨_, rfl, rfl, rfl⟩
  · exact ⟨_, rfl, rfl, rfl⟩
  · exact ⟨_, rfl, rfl, rfl⟩
theorem mul_str9 : dMulX (.str "a") (.int 9) = some (.str (strRep "a" 9)) := by
  show (if 2 ≤ (9 : Int) ∧ (9 : Int) ≤ 1000 ∧ 0 < ("a" : Str).length ∧ ("a" : Str).length ≤ 1000 ∧ (strRep "a" (9 : Int).toNat).length ≤ sizeLine then some (D.str (strRep "a" (9 : Int).toNat)) else none) = _
  rw [if_pos (by rw [sizeLine_eq]; decide +kernel)]; rfl
theorem mul_tup1 {x : D} {k : Nat} (h : 1 ≤ k) (h2 : k ≤ 1000) : dMulX (.tup [x]) (.int (k : Nat)) = some (.tup (List.replicate k x)) := by
  show (if (k : Int) = 1 then some (D.tup [x]) else if [x] ≠ [] ∧ 2 ≤ (k : Int) ∧ (k : Int) ≤ 1000 ∧ [x].length ≤ 1000 then some (.tup (List.replicate (k : Int).toNat [x]).flatten) else none) = _
  by_cases c : k = 1
  · subst c; rfl
  · rw [if_neg (by omega), if_pos ⟨by simp, by omega, by omega, by simp⟩, Int.toNat_natCast]
    congr 2
    have : ∀ n : Nat, (List.replicate n [x]).flatten = List.replicate n x := fun n => by
      induction n with
      | zero => rfl
      | succ n ih => rw [List.replicate_succ, List.flatten_cons, ih]; rfl
    exact this k
theorem mul_tup {l : List D} {k : Nat} (h0 : l ≠ []) (h : 2 ≤ k) (h2 : k ≤ 1000) (h3 : l.length ≤ 1000) : dMulX (.tup l) (.int (k : Nat)) = some (.tup (List.replicate k l).flatten) := by
  show (if (k : Int) = 1 then some (D.tup l) else if l ≠ [] ∧ 2 ≤ (k : Int) ∧ (k : Int) ≤ 1000 ∧ l.length ≤ 1000 then some (.tup (List.replicate (k : Int).toNat l).flatten) else none) = _
  rw [if_neg (by omega), if_pos ⟨h0, by omega, by omega, h3⟩, Int.toNat_natCast]
/-- what `_law_spoilt` leaves -/
def Res (ns : List Int) (r : Re Out) : Prop := ∃ (v d' a b : D) (s3 s4 s5 s6 s7 : Sl), r = some (.ok (.rt v), [.io d', .imm a, .imm b, s3, s4, s5, s6, s7]) ∧ IsPl ns d' ∧ Bad v
theorem res_f {ns : List Int} {T : Mo Bool} {a c : Mo Out} {δ δ1 : Env} (h : T δ = some (.ok false, δ1)) (h2 : Res ns (c δ1)) : Res ns (sSeq (sIf T a sNx) c δ) := by rw [ssq_f h rfl]; exact h2
theorem res_s {ns : List Int} {a c : Mo Out} {δ δ1 : Env} (h : a δ = some (.ok .nx, δ1)) (h2 : Res ns (c δ1)) : Res ns (sSeq a c δ) := by rw [ssq h rfl]; exact h2
theorem res_t {ns : List Int} {T : Mo Bool} {E : Mo D} {c : Mo Out} {δ : Env} {v d' a b : D} {s3 s4 s5 s6 s7 : Sl} (h : T δ = some (.ok true, δ)) (h2 : E δ = some (.ok v, [.io d', .imm a, .imm b, s3, s4, s5, s6, s7])) (i : IsPl ns d') (hb : Bad v) : Res ns (sSeq (sIf T (sRet E) sNx) c δ) :=
  ⟨v, d', a, b, s3, s4, s5, s6, s7, ssq_rt (st h (by rw [x_sRet, h2]; rfl)), i, hb⟩
theorem res_e {ns : List Int} {E : Mo D} {δ : Env} {v d' a b : D} {s3 s4 s5 s6 s7 : Sl} (h2 : E δ = some (.ok v, [.io d', .imm a, .imm b, s3, s4, s5, s6, s7])) (i : IsPl ns d') (hb : Bad v) : Res ns (sRet E δ) :=
  ⟨v, d', a, b, s3, s4, s5, s6, s7, by rw [x_sRet, h2]; rfl, i, hb⟩
theorem ev_spoilt {ns : List Int} {d : D} {l : List Nat} {w h : Nat} {rs : List Row} (hd : IsPl ns d) (hn : nmL l = true) (R : Rect w h rs) (w1 : 1 ≤ w) (w2 : w ≤ 5) (h1 : 1 ≤ h) (h2 : h ≤ 5) :
    ∃ v d', m__law_spoilt [.io d, .imm (.str (mkS l)), .imm (rowsT rs)] = some (.ok v, [.io d', .no, .no]) ∧ IsPl ns d' ∧ Bad v := by
  obtain ⟨t1, d1, c1, i1, a1, b1⟩ := ev_tk hd (m := 10) (by omega) (by omega)
  obtain ⟨t2, d2, c2, i2, a2, b2⟩ := ev_tk i1 (m := (h : Nat)) (by omega) (by omega)
  obtain ⟨y, rfl⟩ : ∃ y : Nat, t2 = (y : Int) := ⟨t2.toNat, by omega⟩
  have hy : y < rs.length := by rw [R.len]; omega
  have e5 := ix_rows hy
  have hr := R.wid _ (getD_mem hy).2
  have ol := @len_rows rs
  have o5 := @len_row (rs.getD y [])
  have sn := nm_ok hn
  have h0 : 0 < rs.length := by rw [R.len]; omega
  have e50 := ix_rows h0
  rw [R.len] at ol
  rw [hr] at o5
  have gd : rs = rs.take y ++ [rs.getD y []] ++ rs.drop (y + 1) := by
    rw [(getD_mem hy).1, List.append_assoc, List.singleton_append, List.getElem_cons_drop, List.take_append_drop]
  have st1 : dSl (rowsT rs) none (some (y : Int)) = some (.tup ((rs.take y).map rowT)) := by
    show some (D.tup (cutD (rs.map rowT) none (some (y : Int)))) = _
    rw [cut_to (by rw [List.length_map]; omega), List.map_take]
  have st2 : dSl (rowsT rs) (some ((y : Int) + 1)) none = some (.tup ((rs.drop (y + 1)).map rowT)) := by
    show some (D.tup (cutD (rs.map rowT) (some ((y : Int) + 1)) none)) = _
    rw [show ((y : Int) + 1) = ((y + 1 : Nat) : Int) by omega, cut_from (by rw [List.length_map]; omega), List.map_drop]
  have lt : ((rs.take y).map rowT).length ≤ 5 := by rw [List.length_map, List.length_take]; omega
  have ldr : ((rs.drop (y + 1)).map rowT).length ≤ 5 := by rw [List.length_map, List.length_drop, R.len]; omega
  have mt : ∀ x ∈ (rs.take y).map rowT, plain x = true ∧ rowOk x := fun x m => ok_rowD m
  have md : ∀ x ∈ (rs.drop (y + 1)).map rowT, plain x = true ∧ rowOk x := fun x m => ok_rowD m
  suffices hs : Res ns (b__law_spoilt ([.io d, .imm (.str (mkS l)), .imm (rowsT rs)] ++ List.replicate (8 - 3) Sl.no)) by
    obtain ⟨v, d', a, b, s3, s4, s5, s6, s7, e, i, hb⟩ := hs
    exact ⟨v, d', (fn_rt e).trans rfl, i, hb⟩
  unfold b__law_spoilt
  refine res_s (by simp! only [c1] <;> rfl) ?_
  refine res_s (by simp! only [ol, c2] <;> rfl) ?_
  refine res_s (by simp! only [e5] <;> rfl) ?_
  by_cases q : t1 = 0
  · refine res_t (by simp! only [decide_eq_true q]) (by simp! only [] <;> rfl) i2 ?_
    exact ⟨rfl, trivial, rfl⟩
  refine res_f (by simp! only [decide_eq_false q] <;> rfl) ?_
  by_cases q : t1 = 1
  · refine res_t (by simp! only [decide_eq_true q]) (by simp! only [] <;> rfl) i2 ?_
    exact ⟨rfl, trivial, rfl⟩
  refine res_f (by simp! only [decide_eq_false q] <;> rfl) ?_
  by_cases q : t1 = 2
  · obtain ⟨t3, d3, c3, i3, a3, b3⟩ := ev_tk i2 (m := 7) (by omega) (by omega)
    obtain ⟨x, ex, px, sx, nx⟩ := seven_at (RS := rowsT rs) a3 b3
    refine res_t (by simp! only [decide_eq_true q]) (by simp! only [mul_str9, c3, ex] <;> rfl) i3 ?_
    exact bad2 px sx rfl ok_rows (.inl nx)
  refine res_f (by simp! only [decide_eq_false q] <;> rfl) ?_
  by_cases q : t1 = 3
  · refine res_t (by simp! only [decide_eq_true q]) (by simp! only [] <;> rfl) i2 ?_
    exact bad2 rfl sn rfl (fun _ m => by cases m) (.inr rfl)
  refine res_f (by simp! only [decide_eq_false q] <;> rfl) ?_
  by_cases q : t1 = 4
  · have fl : fList' [rowsT rs] = some (.lst (rs.map rowT)) := rfl
    refine res_t (by simp! only [decide_eq_true q]) (by simp! only [fl] <;> rfl) i2 ?_
    exact bad2 rfl sn rfl trivial (.inr rfl)
  refine res_f (by simp! only [decide_eq_false q] <;> rfl) ?_
  by_cases q : t1 = 5
  · have w0 := R.wid _ (getD_mem h0).2
    have x1 : dAdd (rowT (rs.getD 0 [])) (.tup [.int 1]) = some (.tup ((rs.getD 0 []).map oI ++ [.int 1])) := tup_app (by rw [List.length_map]; omega) (by simp)
    have x2 : dAdd (rowsT rs) (.tup [.tup ((rs.getD 0 []).map oI ++ [.int 1])]) = some (.tup (rs.map rowT ++ [.tup ((rs.getD 0 []).map oI ++ [.int 1])])) := tup_app (by rw [List.length_map, R.len]; omega) (by simp)
    have e50 : dIx (rowsT rs) (.int 0) = some (rowT (rs.getD 0 [])) := e50
    refine res_t (by simp! only [decide_eq_true q]) (by simp! only [e50, x1, x2] <;> rfl) i2 ?_
    refine bad2 rfl sn rfl (fun z m => ?_) (.inr ?_)
    · rcases List.mem_append.mp m with m | m
      · exact ok_rowD m
      · rw [List.mem_singleton.mp m]
        refine ⟨rfl, fun z m => ?_⟩
        rcases List.mem_append.mp m with m | m
        · obtain ⟨o, _, rfl⟩ := List.mem_map.mp m; exact plain_oI
        · rw [List.mem_singleton.mp m]; rfl
    · cases rs with
      | nil => simp at h0
      | cons r0 rs =>
        refine rowsB_wid (r0 := r0.map oI) (r1 := (List.getD (r0 :: rs) 0 []).map oI ++ [.int 1]) (List.mem_append_right _ (List.mem_singleton_self _)) ?_
        have : (List.getD (r0 :: rs) 0 []) = r0 := rfl
        rw [this, List.length_append, List.length_singleton]; omega
  refine res_f (by simp! only [decide_eq_false q] <;> rfl) ?_
  by_cases q : t1 = 6
  · have x1 := mul_tup1 (x := .tup []) (k := h) h1 (by omega)
    refine res_t (by simp! only [decide_eq_true q]) (by simp! only [ol, x1] <;> rfl) i2 ?_
    refine bad2 rfl sn rfl (fun z m => ?_) (.inr ?_)
    · rw [(List.mem_replicate.mp m).2]; exact ⟨rfl, fun _ m => by cases m⟩
    · exact rowsB_bad (d := .tup []) (List.mem_replicate.mpr ⟨by omega, rfl⟩) fun w => rfl
  refine res_f (by simp! only [decide_eq_false q] <;> rfl) ?_
  by_cases q : t1 = 7
  · have fl : fList' [rowT (rs.getD y [])] = some (.lst ((rs.getD y []).map oI)) := rfl
    have x1 : dAdd (.tup ((rs.take y).map rowT)) (.tup [.lst ((rs.getD y []).map oI)]) = _ := tup_app (by omega) (by simp)
    have x2 : dAdd (.tup ((rs.take y).map rowT ++ [.lst ((rs.getD y []).map oI)])) (.tup ((rs.drop (y + 1)).map rowT)) = _ := tup_app (by rw [List.length_append, List.length_singleton]; omega) (by omega)
    generalize (y : Int) = Y at *
    refine res_t (by simp! only [decide_eq_true q]) (by simp! only [fl, st1, st2, x1, x2] <;> rfl) i2 ?_
    refine bad2 rfl sn rfl (fun z m => ?_) (.inr ?_)
    · rcases List.mem_append.mp m with m | m
      · rcases List.mem_append.mp m with m | m
        · exact mt z m
        · rw [List.mem_singleton.mp m]; exact ⟨rfl, trivial⟩
      · exact md z m
    · exact rowsB_bad (d := .lst ((rs.getD y []).map oI)) (List.mem_append_left _ (List.mem_append_right _ (List.mem_singleton_self _))) fun w => rfl
  refine res_f (by simp! only [decide_eq_false q] <;> rfl) ?_
  by_cases q : t1 = 8
  · have x1 : dMulX (rowsT rs) (.int 13) = some (.tup (List.replicate 13 (rs.map rowT)).flatten) := mul_tup (k := 13) (fun z => by rw [List.map_eq_nil_iff] at z; rw [z] at h0; simp at h0) (by omega) (by omega) (by rw [List.length_map, R.len]; omega)
    generalize hF : (List.replicate 13 (rs.map rowT)).flatten = F at *
    refine res_t (by simp! only [decide_eq_true q]) (by simp! only [x1] <;> rfl) i2 ?_
    subst hF
    refine bad2 rfl sn rfl (fun z m => ?_) (.inr ?_)
    · obtain ⟨m1, m2, m3⟩ := List.mem_flatten.mp m
      rw [(List.mem_replicate.mp m2).2] at m3
      exact ok_rowD m3
    · refine rowsB_long ?_
      rw [List.length_flatten, List.map_replicate, List.sum_replicate_nat, List.length_map]
      omega
  refine res_f (by simp! only [decide_eq_false q] <;> rfl) ?_
  obtain ⟨t3, d3, c3, i3, a3, b3⟩ := ev_tk i2 (m := (w : Nat)) (by omega) (by omega)
  obtain ⟨x, rfl⟩ : ∃ x : Nat, t3 = (x : Int) := ⟨t3.toNat, by omega⟩
  obtain ⟨t4, d4, c4, i4, a4, b4⟩ := ev_tk i3 (m := 6) (by omega) (by omega)
  obtain ⟨bd, eb, pb, rb⟩ := six_bad a4 b4
  generalize rs.getD y [] = r at *
  have su1 : dSl (rowT r) none (some (x : Int)) = some (.tup ((r.take x).map oI)) := by
    show some (D.tup (cutD (r.map oI) none (some (x : Int)))) = _
    rw [cut_to (by rw [List.length_map]; omega), List.map_take]
  have su2 : dSl (rowT r) (some ((x : Int) + 1)) none = some (.tup ((r.drop (x + 1)).map oI)) := by
    show some (D.tup (cutD (r.map oI) (some ((x : Int) + 1)) none)) = _
    rw [show ((x : Int) + 1) = ((x + 1 : Nat) : Int) by omega, cut_from (by rw [List.length_map]; omega), List.map_drop]
  have l1 : ((r.take x).map oI).length ≤ 5 := by rw [List.length_map, List.length_take]; omega
  have l2 : ((r.drop (x + 1)).map oI).length ≤ 5 := by rw [List.length_map, List.length_drop]; omega
  have p1 : ∀ z ∈ (r.take x).map oI, plain z = true := fun z m => by obtain ⟨o, _, rfl⟩ := List.mem_map.mp m; exact plain_oI
  have p2 : ∀ z ∈ (r.drop (x + 1)).map oI, plain z = true := fun z m => by obtain ⟨o, _, rfl⟩ := List.mem_map.mp m; exact plain_oI
  generalize (r.take x).map oI = A at *
  generalize (r.drop (x + 1)).map oI = B at *
  generalize (rs.take y).map rowT = TA at *
  generalize (rs.drop (y + 1)).map rowT = TB at *
  have x1 : dAdd (.tup A) (.tup [bd]) = some (.tup (A ++ [bd])) := tup_app (by omega) (by simp)
  have x2 : dAdd (.tup (A ++ [bd])) (.tup B) = some (.tup (A ++ [bd] ++ B)) := tup_app (by rw [List.length_append, List.length_singleton]; omega) (by omega)
  have x3 : dAdd (.tup TA) (.tup [.tup (A ++ [bd] ++ B)]) = some (.tup (TA ++ [.tup (A ++ [bd] ++ B)])) := tup_app (by omega) (by simp)
  have x4 : dAdd (.tup (TA ++ [.tup (A ++ [bd] ++ B)])) (.tup TB) = some (.tup (TA ++ [.tup (A ++ [bd] ++ B)] ++ TB)) := tup_app (by rw [List.length_append, List.length_singleton]; omega) (by omega)
  have dn : dNeg (.int 1) = some (.int (-1)) := rfl
  generalize (y : Int) = Y at *
  generalize (x : Int) = X at *
  refine res_s (by simp! only [o5, c3] <;> rfl) ?_
  refine res_s (by simp! only [dn, c4, eb] <;> rfl) ?_
  refine res_e (by simp! only [st1, st2, su1, su2, x1, x2, x3, x4] <;> rfl) i4 ?_
  refine bad2 rfl sn rfl (fun z m => ?_) (.inr ?_)
  · rcases List.mem_append.mp m with m | m
    · rcases List.mem_append.mp m with m | m
      · exact mt z m
      · rw [List.mem_singleton.mp m]
        refine ⟨rfl, fun z m => ?_⟩
        rcases List.mem_append.mp m with m | m
        · rcases List.mem_append.mp m with m | m
          · exact p1 z m
          · rw [List.mem_singleton.mp m]; exact pb
        · exact p2 z m
    · exact md z m
  · exact rowsB_bad (d := .tup (A ++ [bd] ++ B)) (List.mem_append_left _ (List.mem_append_right _ (List.mem_singleton_self _))) fun w => rowB_bad (List.mem_append_left _ (List.mem_append_right _ (List.mem_singleton_self _))) rb
end M
set_option Elab.async false
set_option linter.all false
set_option maxRecDepth 100000
set_option maxHeartbeats 4000000
namespace M
open PySem L2
local macro_rules
  | `(tactic| simp! only [$as,*]) => `(tactic| simp only [x_bind, bk_ok, bk_ite, x_ret, x_lift, lk_some, lk_ite, app_ite, x_eC, x_eV, vk_imm, vk_own, vk_bor, x_give, gk_own, x_bin, x_un, x_ix, x_tru, x_eB, dBl_bl, dTru_bl, dTru_int, dTru_lst, x_and, x_or, x_not, x_eAnd, x_eOr, x_eNot, x_eIf, x_chain, x_aNil, x_aCons, x_aVr, rk_own, rk_io, x_aVb, tk_own, tk_io, tk_imm, tk_bor, x_eTup, x_eLst, imms_nil, imms_im, x_eF, x_call, ixV_C, jk_imm, jk_own, jk_io, jk_bor, flk_int, x_lenV, nk_imm, nk_own, nk_io, nk_bor, x_inV, hk_imm, hk_own, hk_io, hk_bor, x_sNx, x_pass, x_cont, x_brk, x_seq, sk_nx, sk_rt, sk_rtO, sk_ct, sk_bk, sk_ite, x_drop, x_sRet, x_sRetO, x_sIf, x_asg, x_asgO, x_gN, x_gO, x_gNil, x_gCons, x_gTt, x_gTl, x_sApp, x_sSet, x_chM, ck_own, ck_io, x_iOf, x_iRg, x_fn, fk_rt, fk_nx, fk_ite, ios_z, ios_s, keep_io, keep_imm, keep_own, keep_bor, keep_no, dSub_i, dAdd_i, dLt_i, dLe_i, dGt_i, dGe_i, dEq_int, dNe_int, ix_lst, ix_scr, ix_tup, atI_0, atI_1, atI_2, atI_3, List.getElem?_cons_zero, List.getElem?_cons_succ, List.set_cons_zero, List.set_cons_succ, List.length_cons, List.length_nil, List.cons_append, List.nil_append, List.replicate_succ, List.replicate_zero, Option.map_some, Option.bind_some, Nat.reduceAdd, Nat.reduceSub, Nat.reduceLT, Nat.reduceLeDiff, if_true, if_false, Bool.false_eq_true, decide_eq_true_eq, reduceIte, ne_eq, not_false_eq_true, Nat.lt_add_left_iff_pos, Nat.zero_lt_succ, x_call1, x_call2, x_call3, x_call4, dk1, dk2, dk3, dk4, ixV_V, Nat.reduceEqDiff, not_false_eq_true, x_isLst, x_isSet, List.map_cons, List.map_nil, Option.map_none, Option.bind_none, x_eSl, x_eP0, x_eP1, part_i, $as,*])
theorem call_u1 {m : Mo D} {d d' r : D} {s0 : Sl} {δ : Env} (hm : m [.io d] = some (.ok r, [.io d'])) : callM m [.vr 1] (s0 :: .own d :: δ) = some (.ok r, s0 :: .own d' :: δ) :=
  call_of (by simp only [argSls, argSl, List.getElem?_cons_zero, List.getElem?_cons_succ]) ⟨by simp [vrs], by simp [vbs]⟩ hm (by simp only [backs, List.getElem?_cons_zero, List.getElem?_cons_succ, List.set_cons_zero, List.set_cons_succ])
theorem call_w1 {m : Mo D} {a d d' r : D} {s s0 : Sl} {δ : Env} (hm : m [.io d, .imm a] = some (.ok r, [.io d', s])) : callM m [.vr 1, .im a] (s0 :: .own d :: δ) = some (.ok r, s0 :: .own d' :: δ) :=
  call_of (by simp only [argSls, argSl, List.getElem?_cons_zero, List.getElem?_cons_succ]) ⟨by simp [vrs], by simp [vbs]⟩ hm (by simp only [backs, List.getElem?_cons_zero, List.getElem?_cons_succ, List.set_cons_zero, List.set_cons_succ])
theorem call_w2 {m : Mo D} {a b d d' r : D} {s t s0 : Sl} {δ : Env} (hm : m [.io d, .imm a, .imm b] = some (.ok r, [.io d', s, t])) : callM m [.vr 1, .im a, .im b] (s0 :: .own d :: δ) = some (.ok r, s0 :: .own d' :: δ) :=
  call_of (by simp only [argSls, argSl, List.getElem?_cons_zero, List.getElem?_cons_succ]) ⟨by simp [vrs], by simp [vbs]⟩ hm (by simp only [backs, List.getElem?_cons_zero, List.getElem?_cons_succ, List.set_cons_zero, List.set_cons_succ])
theorem ev_tk1 {ns : List Int} {d : D} {m : Int} (hd : IsPl ns d) (h : 0 < m) (h2 : m ≤ 1000000) : ∃ t d', (∀ s0 δ, callM m__law_take [.vr 1, .im (.int m)] (s0 :: .own d :: δ) = some (.ok (.int t), s0 :: .own d' :: δ)) ∧ IsPl ns d' ∧ 0 ≤ t ∧ t < m := by
  obtain ⟨x, p, hp, rfl⟩ := hd
  obtain ⟨t, x', p', h1, h3, h4, h5⟩ := ev_take (ns := ns) (x := x) hp h h2
  exact ⟨t, _, fun s0 δ => call_w1 h1, ⟨x', p', h3, rfl⟩, h4, h5⟩
theorem ev_pool {ns : List Int} : ∃ d, m__law_pool [.imm (.scr (ns.map D.int))] = some (.ok d, [.no]) ∧ IsPl ns d := by
  refine ⟨plD ns 0 (-1), ?_, 0, -1, by omega, rfl⟩
  rfl
theorem fine_t3s (l : List T3r) : Fine (.lst (l.map t3D)) := (fine_lst (k := 1) (by omega) fun d m => by
  obtain ⟨t, _, rfl⟩ := List.mem_map.mp m
  exact fine_tup (k := 0) (by omega) fun d m => by
    simp only [List.mem_cons, List.not_mem_nil, or_false] at m
    rcases m with rfl | rfl | rfl <;> exact fine_int' _).1
theorem row_ok {w : Nat} {r : Row} (h : r.length = w) (h1 : 1 ≤ w) (h2 : w ≤ 12) (ok : ∀ o ∈ r, RdOk o) : rowB w (rowT r) = true := by
  show ((decide (1 ≤ (r.map oI).length ∧ (r.map oI).length ≤ 12) && decide ((r.map oI).length = w)) && (r.map oI).all rdB) = true
  rw [List.length_map, h, decide_eq_true (show 1 ≤ w ∧ w ≤ 12 by omega), decide_eq_true rfl]
  show (r.map oI).all rdB = true
  rw [List.all_eq_true]
  intro d m
  obtain ⟨o, ho, rfl⟩ := List.mem_map.mp m
  cases o with
  | none => rfl
  | some i =>
    have := ok _ ho i rfl
    show (decide (0 ≤ i) && decide (i ≤ 999)) = true
    rw [decide_eq_true this.1, decide_eq_true this.2]; rfl
theorem view_ok {l : List Nat} {w h : Nat} {rs : List Row} (hn : nmL l = true) (R : Rect w h rs) (h1 : 1 ≤ w) (h2 : w ≤ 12) (h3 : 1 ≤ h) (h4 : h ≤ 12) : viewB (vwD (mkS l) rs) = true ∧ viewOk (vwD (mkS l) rs) := by
  have hb : nmB (mkS l) = true := by rw [nmB_mk]; exact hn
  constructor
  · show (nmB (mkS l) && rowsB (rowsT rs)) = true
    rw [hb]
    have hl := R.len
    cases hr : rs with
    | nil => rw [hr] at hl; simp at hl; omega
    | cons r0 rs' =>
      rw [hr] at hl
      have hw : ∀ r ∈ r0 :: rs', rowB w (rowT r) = true := fun r m => row_ok (R.wid r (hr ▸ m)) h1 h2 (R.rd r (hr ▸ m))
      show (true && (decide ((rs'.map rowT).length + 1 ≤ 12) && (D.tup (r0.map oI) :: rs'.map rowT).all (rowB (r0.map oI).length))) = true
      rw [List.length_map, List.length_map, R.wid r0 (by rw [hr]; exact List.mem_cons_self), decide_eq_true (by rw [List.length_cons] at hl; omega)]
      show ((r0 :: rs').map rowT).all (rowB w) = true
      rw [List.all_eq_true]
      intro d m
      obtain ⟨r, hr, rfl⟩ := List.mem_map.mp m
      exact hw r hr
  · exact ⟨rfl, nm_ok hn, rfl, ok_rows⟩
theorem fine_vw {l : List Nat} (hn : nmL l = true) (rs : List Row) : Fine (vwD (mkS l) rs) := by
  refine (fine_tup (k := 2) (by omega) fun d m => ?_).1
  have hb : nmB (mkS l) = true := by rw [nmB_mk]; exact hn
  simp only [List.mem_cons, List.not_mem_nil, or_false] at m
  rcases m with rfl | rfl
  · have := fine_nm hb; exact ⟨this.1, by omega⟩
  · exact fine_rowsT rs
def vals (rs : List Row) : List Int := rs.flatMap (·.filterMap id)
theorem rowRd_vals {r : Row} {y : Nat} : (rowRd r y).map (·.2.2) = r.filterMap id := by
  have e : r = (List.range r.length).map fun x => r[x]?.join := by
    apply List.ext_getElem
    · simp
    · intro i h1 h2
      rw [List.getElem_map, List.getElem_range, get_join h1]
  unfold rowRd
  rw [List.map_filterMap]
  conv => rhs; rw [e]
  rw [List.filterMap_map]
  congr 1
  funext x
  show Option.map _ (Option.map _ (r[x]?.join)) = r[x]?.join
  cases r[x]?.join <;> rfl
theorem rds_vals {rs : List Row} : (rds rs).map (·.2.2) = vals rs := by
  have e : rs = (List.range rs.length).map fun y => rs.getD y [] := by
    apply List.ext_getElem
    · simp
    · intro i h1 h2
      rw [List.getElem_map, List.getElem_range, (getD_mem h1).1]
  unfold rds vals
  rw [List.map_flatMap]
  conv => rhs; rw [e]
  rw [List.flatMap_map]
  congr 1
  funext y
  exact rowRd_vals
theorem mov_vals {l : Int} {rs : List Row} : movB l rs = true ↔ ∀ v ∈ vals rs, 0 ≤ v + l ∧ v + l ≤ 999 := by
  have hl : ∀ v : Int, litB l (some v) = true ↔ 0 ≤ v + l ∧ v + l ≤ 999 := fun v => by
    show (decide (0 ≤ v + l) && decide (v + l ≤ 999)) = true ↔ _
    rw [Bool.and_eq_true, decide_eq_true_eq, decide_eq_true_eq]
  unfold movB vals
  rw [List.all_eq_true]
  constructor
  · intro h v hv
    obtain ⟨r, hr, hm⟩ := List.mem_flatMap.mp hv
    obtain ⟨o, ho, e⟩ := List.mem_filterMap.mp hm
    have e : o = some v := e
    subst e
    exact (hl v).mp (List.all_eq_true.mp (h r hr) _ ho)
  · intro h r hr
    rw [List.all_eq_true]
    intro o ho
    cases o with
    | none => rfl
    | some v => exact (hl v).mpr (h v (List.mem_flatMap.mpr ⟨r, hr, List.mem_filterMap.mpr ⟨_, ho, rfl⟩⟩))
theorem vals_len {w h : Nat} {rs : List Row} (R : Rect w h rs) : (vals rs).length ≤ w * h := by
  rw [← rds_vals, List.length_map]; exact rds_len R
abbrev kE (S p nm RS V : D) (s5 s6 s7 s8 s9 s10 s11 s12 s13 s14 s15 s16 s17 : Sl) : Env := [.imm S, .own p, .imm nm, .imm RS, .imm V, s5, s6, s7, s8, s9, s10, s11, s12, s13, s14, s15, s16, s17]
noncomputable def dueC : Mo D := (eLc (iRg rg1 (aCons (eF fLen (aCons (eIxV 3 (eC (.int 0))) aNil)) aNil)) (gN 14) (eB (eBin (dIs true) (eIx (eIxV 3 (eV 6)) (eV 14)) (eC .non))) (eTup (aCons (eV 14) (aCons (eV 6) (aCons (eIx (eIxV 3 (eV 6)) (eV 14)) aNil)))) [14])
theorem due_loop {S p nm V : D} {w h : Nat} {rs : List Row} (R : Rect w h rs) (hw : w ≤ 12) (hh : h ≤ 12) (h1 : 1 ≤ h) {s6 s7 s8 s9 s10 s11 s12 s13 s15 s16 s17 : Sl} :
    ∃ y6, (sFor (iRg rg1 (aCons (eF fLen (aCons (eV 3) aNil)) aNil)) (gN 6) (sAsg (gN 5) (eBin dAdd (eV 5) dueC))) (kE S p nm (rowsT rs) V (.imm (.lst [])) s6 s7 s8 s9 s10 s11 s12 s13 .no s15 s16 s17)
      = some (.ok .nx, kE S p nm (rowsT rs) V (.imm (.lst ((rds rs).map t3D))) y6 s7 s8 s9 s10 s11 s12 s13 .no s15 s16 s17) := by
  have hl : rs.length ≤ 12 := by rw [R.len]; exact hh
  obtain ⟨δ', f1, y6, rfl⟩ := sFor_inv (I := (iRg rg1 (aCons (eF fLen (aCons (eV 3) aNil)) aNil))) (T := gN 6) (S := (sAsg (gN 5) (eBin dAdd (eV 5) dueC))) (ds := rgD 0 rs.length)
    (δ := kE S p nm (rowsT rs) V (.imm (.lst [])) s6 s7 s8 s9 s10 s11 s12 s13 .no s15 s16 s17) (δ0 := kE S p nm (rowsT rs) V (.imm (.lst [])) s6 s7 s8 s9 s10 s11 s12 s13 .no s15 s16 s17)
    (fun k δ => ∃ y6 : Sl, δ = kE S p nm (rowsT rs) V (.imm (.lst (((List.range k).flatMap fun y => rowRd (rs.getD y []) y).map t3D))) y6 s7 s8 s9 s10 s11 s12 s13 .no s15 s16 s17)
    (by simp! only [len_rows, rg1_n (show rs.length ≤ 1000 by omega)]) ⟨s6, rfl⟩ (fun k x δ hk hδ => by
      obtain ⟨y6, rfl⟩ := hδ
      obtain ⟨hkk, rfl⟩ := rgD_get hk
      have l1 := rds_len' R k
      have l1 : ((List.range k).flatMap fun y => rowRd (rs.getD y []) y).length ≤ 1000 := by
        have : w * k ≤ 12 * 12 := Nat.mul_le_mul hw (by omega)
        omega
      have e0 := ix_rows hkk
      have e00 : dIx (rowsT rs) (.int 0) = some (rowT (rs.getD 0 [])) := ix_rows (y := 0) (by rw [R.len]; exact h1)
      have hr := R.wid _ (getD_mem hkk).2
      have hr0 := R.wid _ (getD_mem (show 0 < rs.length by rw [R.len]; exact h1)).2
      have ln0 := @len_row (rs.getD 0 [])
      rw [hr0, ← hr] at ln0
      rw [List.range_succ, List.flatMap_append, List.map_append, List.flatMap_singleton]
      have l2 := rowRd_len (r := rs.getD k []) (y := k)
      generalize rs.getD 0 [] = r0 at *
      generalize rs.getD k [] = r at *
      have l3 : (((List.range k).flatMap fun y => rowRd (rs.getD y []) y).map t3D).length ≤ 1000 := by rw [List.length_map]; exact l1
      generalize ((List.range k).flatMap fun y => rowRd (rs.getD y []) y).map t3D = L at *
      have e1 : dueC (kE S p nm (rowsT rs) V (.imm (.lst L)) (.imm (.int (k : Nat))) s7 s8 s9 s10 s11 s12 s13 .no s15 s16 s17) = some (.ok (.lst ((rowRd r k).map t3D)), kE S p nm (rowsT rs) V (.imm (.lst L)) (.imm (.int (k : Nat))) s7 s8 s9 s10 s11 s12 s13 .no s15 s16 s17) := by
        unfold dueC
        rw [eLc_map (l := List.range r.length) (g := fun i : Nat => D.int (i : Int)) (p := fun x => (r[x]?.join).isSome) (f := fun x => D.tup [.int (x : Nat), .int (k : Nat), oI (r[x]?.join)]) (δ0 := kE S p nm (rowsT rs) V (.imm (.lst L)) (.imm (.int (k : Nat))) s7 s8 s9 s10 s11 s12 s13 .no s15 s16 s17)]
        · rw [rowRd_D]; rfl
        · generalize (k : Int) = K at *
          simp! only [e00, ln0, rg1_n (show r.length ≤ 1000 by omega), rgD0]
        · rw [List.length_range]; omega
        · intro x hx
          have hx := List.mem_range.mp hx
          have e2 := ix_row hx
          rw [← get_join hx] at e2
          generalize r[x]?.join = o at *
          generalize (x : Int) = X at *
          generalize (k : Int) = K at *
          refine ⟨kE S p nm (rowsT rs) V (.imm (.lst L)) (.imm (.int K)) s7 s8 s9 s10 s11 s12 s13 (.imm (.int X)) s15 s16 s17, kE S p nm (rowsT rs) V (.imm (.lst L)) (.imm (.int K)) s7 s8 s9 s10 s11 s12 s13 (.imm (.int X)) s15 s16 s17, ?_, ?_, fun _ => rfl, fun _ => ⟨kE S p nm (rowsT rs) V (.imm (.lst L)) (.imm (.int K)) s7 s8 s9 s10 s11 s12 s13 (.imm (.int X)) s15 s16 s17, ?_, rfl⟩⟩
          · simp! only [wipeE]
          · simp! only [e0, e2, dNot_oI]
          · simp! only [e0, e2]
      have e3 := lst_app (l := L) (m := (rowRd r k).map t3D) l3 (by rw [List.length_map]; omega)
      generalize (k : Int) = K at *
      refine ⟨kE S p nm (rowsT rs) V (.imm (.lst L)) (.imm (.int K)) s7 s8 s9 s10 s11 s12 s13 .no s15 s16 s17, kE S p nm (rowsT rs) V (.imm (.lst (L ++ (rowRd r k).map t3D))) (.imm (.int K)) s7 s8 s9 s10 s11 s12 s13 .no s15 s16 s17, by simp! only [], .inl ?_, _, rfl⟩
      simp! only [e1, e3])
  rw [rgD_len] at f1
  exact ⟨y6, f1⟩
theorem lights {t v : Int} (h0 : 0 ≤ t) (h : t < 7) (v0 : -1000 ≤ v) (v1 : v ≤ 1000) : ∃ l, atI [D.int 0, .int 1, .int (-1), .int 5, .int (-1000), .int 1000, .int v] t = some (.int l) ∧ -1000 ≤ l ∧ l ≤ 1000 := by
  have : t = 0 ∨ t = 1 ∨ t = 2 ∨ t = 3 ∨ t = 4 ∨ t = 5 ∨ t = 6 := by omega
  rcases this with e | e | e | e | e | e | e <;> rw [e]
  · exact ⟨_, atI_0, by omega, by omega⟩
  · exact ⟨_, atI_1, by omega, by omega⟩
  · exact ⟨_, atI_2, by omega, by omega⟩
  · exact ⟨_, rfl, by omega, by omega⟩
  · exact ⟨_, rfl, by omega, by omega⟩
  · exact ⟨_, rfl, by omega, by omega⟩
  · exact ⟨_, rfl, by omega, by omega⟩
/-- the values with a light -/
def plus (l : Int) (vs : List Int) : D := .lst (vs.map fun v => D.int (v + l))
theorem ev_movedL {S p nm RS V : D} {l : Int} {rs : List Row} (hl : (rds rs).length ≤ 1000) {s6 s8 s9 s10 s11 s12 s13 s14 s16 s17 : Sl} :
    (eLc (iOf (eV 5)) (gN 15) tYesM (eBin dAdd (eIxV 15 (eC (.int 2))) (eV 7)) [15]) (kE S p nm RS V (.imm (.lst ((rds rs).map t3D))) s6 (.imm (.int l)) s8 s9 s10 s11 s12 s13 s14 .no s16 s17)
      = some (.ok (plus l (vals rs)), kE S p nm RS V (.imm (.lst ((rds rs).map t3D))) s6 (.imm (.int l)) s8 s9 s10 s11 s12 s13 s14 .no s16 s17) := by
  rw [eLc_map (l := rds rs) (g := t3D) (p := fun _ => true) (f := fun t => D.int (t.2.2 + l)) (δ0 := kE S p nm RS V (.imm (.lst ((rds rs).map t3D))) s6 (.imm (.int l)) s8 s9 s10 s11 s12 s13 s14 .no s16 s17)]
  · rw [List.filter_eq_self.mpr (fun _ _ => rfl)]
    unfold plus
    rw [← rds_vals, List.map_map]; rfl
  · have hi : itD (.lst ((rds rs).map t3D)) = some ((rds rs).map t3D) := rfl
    generalize (rds rs).map t3D = L at *
    simp! only [hi]
  · exact hl
  · intro t _
    have h2 : dIx (t3D t) (.int 2) = some (.int t.2.2) := atI_2
    generalize t3D t = T at *
    generalize (rds rs).map t3D = L at *
    exact ⟨kE S p nm RS V (.imm (.lst L)) s6 (.imm (.int l)) s8 s9 s10 s11 s12 s13 s14 (.imm T) s16 s17, kE S p nm RS V (.imm (.lst L)) s6 (.imm (.int l)) s8 s9 s10 s11 s12 s13 s14 (.imm T) s16 s17, by simp! only [wipeE], rfl, (fun z => by cases z), fun _ => ⟨kE S p nm RS V (.imm (.lst L)) s6 (.imm (.int l)) s8 s9 s10 s11 s12 s13 s14 (.imm T) s16 s17, by simp! only [h2], rfl⟩⟩
theorem ev_badL {S p nm RS V : D} {l : Int} {vs : List Int} (hl : vs.length ≤ 1000) {s5 s6 s7 s9 s10 s11 s12 s13 s14 s15 s17 : Sl} :
    (eLc (iOf (eV 8)) (gN 16) (tOrM (eB (eBin dLt (eV 16) (eC (.int 0)))) (eB (eBin dGt (eV 16) (eC (.int 999))))) (eV 16) [16]) (kE S p nm RS V s5 s6 s7 (.own (plus l vs)) s9 s10 s11 s12 s13 s14 s15 .no s17)
      = some (.ok (.lst ((vs.filter fun v => decide (v + l < 0) || decide (999 < v + l)).map fun v => D.int (v + l))), kE S p nm RS V s5 s6 s7 (.imm (plus l vs)) s9 s10 s11 s12 s13 s14 s15 .no s17) := by
  rw [eLc_map (l := vs) (g := fun v => D.int (v + l)) (p := fun v => decide (v + l < 0) || decide (999 < v + l)) (f := fun v => D.int (v + l)) (δ0 := kE S p nm RS V s5 s6 s7 (.imm (plus l vs)) s9 s10 s11 s12 s13 s14 s15 .no s17)]
  · rfl
  · have hi : itD (plus l vs) = some (vs.map fun v => D.int (v + l)) := rfl
    generalize plus l vs = L at *
    simp! only [hi]
  · exact hl
  · intro v _
    generalize plus l vs = L at *
    generalize v + l = z
    refine ⟨kE S p nm RS V s5 s6 s7 (.imm L) s9 s10 s11 s12 s13 s14 s15 (.imm (.int z)) s17, kE S p nm RS V s5 s6 s7 (.imm L) s9 s10 s11 s12 s13 s14 s15 (.imm (.int z)) s17, by simp! only [wipeE], ?_, (fun _ => by simp! only [wipeE]), fun _ => ⟨kE S p nm RS V s5 s6 s7 (.imm L) s9 s10 s11 s12 s13 s14 s15 (.imm (.int z)) s17, by simp! only [], by simp! only [wipeE]⟩⟩
    by_cases c : z < 0
    · simp! only [decide_eq_true c, Bool.true_or]
    · simp! only [decide_eq_false c, Bool.false_or]
theorem bad_iff {l : Int} {rs : List Row} : movB l rs = true ↔ (vals rs).filter (fun v => decide (v + l < 0) || decide (999 < v + l)) = [] := by
  rw [mov_vals, List.filter_eq_nil_iff]
  constructor
  · intro h v hv
    have := h v hv
    rw [Bool.or_eq_true, decide_eq_true_eq, decide_eq_true_eq]; omega
  · intro h v hv
    have := h v hv
    rw [Bool.or_eq_true, decide_eq_true_eq, decide_eq_true_eq] at this; omega
end M
set_option Elab.async false
set_option linter.all false
set_option maxRecDepth 100000
set_option maxHeartbeats 4000000
namespace M
open PySem L2
local macro_rules
  | `(tactic| simp! only [$as,*]) => `(tactic| simp only [x_bind, bk_ok, bk_ite, x_ret, x_lift, lk_some, lk_ite, app_ite, x_eC, x_eV, vk_imm, vk_own, vk_bor, x_give, gk_own, x_bin, x_un, x_ix, x_tru, x_eB, dBl_bl, dTru_bl, dTru_int, dTru_lst, x_and, x_or, x_not, x_eAnd, x_eOr, x_eNot, x_eIf, x_chain, x_aNil, x_aCons, x_aVr, rk_own, rk_io, x_aVb, tk_own, tk_io, tk_imm, tk_bor, x_eTup, x_eLst, imms_nil, imms_im, x_eF, x_call, ixV_C, jk_imm, jk_own, jk_io, jk_bor, flk_int, x_lenV, nk_imm, nk_own, nk_io, nk_bor, x_inV, hk_imm, hk_own, hk_io, hk_bor, x_sNx, x_pass, x_cont, x_brk, x_seq, sk_nx, sk_rt, sk_rtO, sk_ct, sk_bk, sk_ite, x_drop, x_sRet, x_sRetO, x_sIf, x_asg, x_asgO, x_gN, x_gO, x_gNil, x_gCons, x_gTt, x_gTl, x_sApp, x_sSet, x_chM, ck_own, ck_io, x_iOf, x_iRg, x_fn, fk_rt, fk_nx, fk_ite, ios_z, ios_s, keep_io, keep_imm, keep_own, keep_bor, keep_no, dSub_i, dAdd_i, dLt_i, dLe_i, dGt_i, dGe_i, dEq_int, dNe_int, ix_lst, ix_scr, ix_tup, atI_0, atI_1, atI_2, atI_3, List.getElem?_cons_zero, List.getElem?_cons_succ, List.set_cons_zero, List.set_cons_succ, List.length_cons, List.length_nil, List.cons_append, List.nil_append, List.replicate_succ, List.replicate_zero, Option.map_some, Option.bind_some, Nat.reduceAdd, Nat.reduceSub, Nat.reduceLT, Nat.reduceLeDiff, if_true, if_false, Bool.false_eq_true, decide_eq_true_eq, reduceIte, ne_eq, not_false_eq_true, Nat.lt_add_left_iff_pos, Nat.zero_lt_succ, x_call1, x_call2, x_call3, x_call4, dk1, dk2, dk3, dk4, ixV_V, Nat.reduceEqDiff, not_false_eq_true, x_isLst, x_isSet, List.map_cons, List.map_nil, Option.map_none, Option.bind_none, x_eSl, x_eP0, x_eP1, part_i, $as,*])
theorem popZ_ok {δ : Env} {i : Nat} {d : D} {l : List D} (h : δ[i]? = some (.own (.lst (d :: l)))) : ePopZ i δ = some (.ok d, δ.set i (.own (.lst l))) := by
  have h1 : lstAt δ i = d :: l := by unfold lstAt; rw [h]
  unfold ePopZ
  rw [h1]
  simp only []
  rw [x_bind, x_chM, h]
  rfl
section
variable {S p nm RS V : D} {l : Int} {s5 s6 s7 s8 s9 s11 s12 s13 s14 s16 : Sl}
noncomputable def popC : Mo D := (eLc (iOf (eV 15)) (gN 17) tYesM (eIf (eB (eBin (dIs false) (eV 17) (eC .non))) (eC .non) (ePopZ 10)) [17])
theorem ev_popC {r : Row} {tl : List Int} (hr : r.length ≤ 12) : popC (kE S p nm RS V s5 s6 s7 s8 s9 (.own (plus l (r.filterMap id ++ tl))) s11 s12 s13 s14 (.imm (rowT r)) s16 .no)
    = some (.ok (.lst ((r.map (litO l)).map oI)), kE S p nm RS V s5 s6 s7 s8 s9 (.own (plus l tl)) s11 s12 s13 s14 (.imm (rowT r)) s16 .no) := by
  obtain ⟨ys, δ', e, ⟨h1, h2⟩, ly⟩ := eLc_acc (I := iOf (eV 15)) (T := gN 17) (E := (eIf (eB (eBin (dIs false) (eV 17) (eC .non))) (eC .non) (ePopZ 10))) (vs := [17]) (ds := r.map oI)
    (δ := kE S p nm RS V s5 s6 s7 s8 s9 (.own (plus l (r.filterMap id ++ tl))) s11 s12 s13 s14 (.imm (rowT r)) s16 .no) (δ0 := kE S p nm RS V s5 s6 s7 s8 s9 (.own (plus l (r.filterMap id ++ tl))) s11 s12 s13 s14 (.imm (rowT r)) s16 .no)
    (fun acc δ => acc = ((r.take acc.length).map (litO l)).map oI ∧ δ = kE S p nm RS V s5 s6 s7 s8 s9 (.own (plus l ((r.drop acc.length).filterMap id ++ tl))) s11 s12 s13 s14 (.imm (rowT r)) s16 .no)
    (by
      have hi : itD (rowT r) = some (r.map oI) := rfl
      generalize rowT r = R at *
      simp! only [hi]) (by rw [List.length_map]; omega) ⟨rfl, rfl⟩ (fun i x acc δ hx hl hI => by
      obtain ⟨h1, rfl⟩ := hI
      obtain ⟨o, ho, rfl⟩ := getmap hx
      have hi : i < r.length := by
        refine Classical.byContradiction fun c => ?_
        rw [List.getElem?_eq_none (by omega)] at ho; cases ho
      have hd : r.drop i = o :: r.drop (i + 1) := by
        rw [List.drop_eq_getElem_cons hi]
        rw [List.getElem?_eq_getElem hi] at ho; cases ho; rfl
      have ht : r.take (i + 1) = r.take i ++ [o] := take_snoc ho
      subst hl
      rw [hd]
      have hacc : acc ++ [oI (litO l o)] = ((r.take (acc ++ [oI (litO l o)]).length).map (litO l)).map oI := by
        rw [List.length_append, List.length_singleton, ht, List.map_append, List.map_append, ← h1]; rfl
      cases o with
      | none =>
        refine ⟨kE S p nm RS V s5 s6 s7 s8 s9 (.own (plus l ((r.drop (acc.length + 1)).filterMap id ++ tl))) s11 s12 s13 s14 (.imm (rowT r)) s16 (.imm .non), oI (litO l none), kE S p nm RS V s5 s6 s7 s8 s9 (.own (plus l ((r.drop (acc.length + 1)).filterMap id ++ tl))) s11 s12 s13 s14 (.imm (rowT r)) s16 (.imm .non), rfl, ?_, hacc, ?_⟩
        · generalize plus l ((r.drop (acc.length + 1)).filterMap id ++ tl) = P
          have hn : dIs false .non .non = some (.bl true) := rfl
          simp! only [hn]
          rfl
        · rw [List.length_append, List.length_singleton]; rfl
      | some v =>
        refine ⟨kE S p nm RS V s5 s6 s7 s8 s9 (.own (plus l ((some v :: r.drop (acc.length + 1)).filterMap id ++ tl))) s11 s12 s13 s14 (.imm (rowT r)) s16 (.imm (.int v)), oI (litO l (some v)), kE S p nm RS V s5 s6 s7 s8 s9 (.own (plus l ((r.drop (acc.length + 1)).filterMap id ++ tl))) s11 s12 s13 s14 (.imm (rowT r)) s16 (.imm (.int v)), rfl, ?_, hacc, ?_⟩
        · have hn : dIs false (.int v) .non = some (.bl false) := rfl
          have hp : ePopZ 10 (kE S p nm RS V s5 s6 s7 s8 s9 (.own (plus l ((some v :: r.drop (acc.length + 1)).filterMap id ++ tl))) s11 s12 s13 s14 (.imm (rowT r)) s16 (.imm (.int v))) = some (.ok (.int (v + l)), kE S p nm RS V s5 s6 s7 s8 s9 (.own (plus l ((r.drop (acc.length + 1)).filterMap id ++ tl))) s11 s12 s13 s14 (.imm (rowT r)) s16 (.imm (.int v))) :=
            popZ_ok (l := ((r.drop (acc.length + 1)).filterMap id ++ tl).map fun v => D.int (v + l)) rfl
          generalize plus l ((some v :: r.drop (acc.length + 1)).filterMap id ++ tl) = P at *
          generalize plus l ((r.drop (acc.length + 1)).filterMap id ++ tl) = P' at *
          simp! only [hn]
          exact hp
        · rw [List.length_append, List.length_singleton]; rfl)
  rw [List.length_map] at ly
  unfold popC
  rw [e, h2, ly]
  have : ys = (r.map (litO l)).map oI := by
    rw [h1, ly, List.take_length]
  rw [this, List.drop_length]; rfl
noncomputable def newC : Mo D := (eLc (iOf (eV 3)) (gN 15) tYesM (eF fTuple (aCons popC aNil)) [15])
theorem ev_newC {w h : Nat} {rs : List Row} (R : Rect w h rs) (hw : w ≤ 12) (hh : h ≤ 12) :
    newC (kE S p nm (rowsT rs) V s5 s6 s7 s8 s9 (.own (plus l (vals rs))) s11 s12 s13 s14 .no s16 .no)
    = some (.ok (.lst ((movR l rs).map rowT)), kE S p nm (rowsT rs) V s5 s6 s7 s8 s9 (.own (plus l [])) s11 s12 s13 s14 .no s16 .no) := by
  obtain ⟨ys, δ', e, ⟨h1, h2⟩, ly⟩ := eLc_acc (I := iOf (eV 3)) (T := gN 15) (E := (eF fTuple (aCons popC aNil))) (vs := [15]) (ds := rs.map rowT)
    (δ := kE S p nm (rowsT rs) V s5 s6 s7 s8 s9 (.own (plus l (vals rs))) s11 s12 s13 s14 .no s16 .no) (δ0 := kE S p nm (rowsT rs) V s5 s6 s7 s8 s9 (.own (plus l (vals rs))) s11 s12 s13 s14 .no s16 .no)
    (fun acc δ => acc = (movR l (rs.take acc.length)).map rowT ∧ δ = kE S p nm (rowsT rs) V s5 s6 s7 s8 s9 (.own (plus l (vals (rs.drop acc.length)))) s11 s12 s13 s14 .no s16 .no)
    (by
      have hi : itD (rowsT rs) = some (rs.map rowT) := rfl
      generalize rowsT rs = R at *
      simp! only [hi]) (by rw [List.length_map, R.len]; omega) ⟨rfl, rfl⟩ (fun i x acc δ hx hl hI => by
      obtain ⟨h1, rfl⟩ := hI
      obtain ⟨r, ho, rfl⟩ := getmap hx
      have hi : i < rs.length := by
        refine Classical.byContradiction fun c => ?_
        rw [List.getElem?_eq_none (by omega)] at ho; cases ho
      have hd : rs.drop i = r :: rs.drop (i + 1) := by
        rw [List.drop_eq_getElem_cons hi]
        rw [List.getElem?_eq_getElem hi] at ho; cases ho; rfl
      have ht : rs.take (i + 1) = rs.take i ++ [r] := take_snoc ho
      have hm : r ∈ rs := List.mem_of_getElem? ho
      subst hl
      rw [hd]
      have hacc : acc ++ [rowT (r.map (litO l))] = (movR l (rs.take (acc ++ [rowT (r.map (litO l))]).length)).map rowT := by
        rw [List.length_append, List.length_singleton, ht]
        unfold movR
        rw [List.map_append, List.map_append]
        have : acc = ((rs.take acc.length).map fun r => r.map (litO l)).map rowT := h1
        rw [← this]; rfl
      have ft : fTuple [.lst ((r.map (litO l)).map oI)] = some (rowT (r.map (litO l))) := rfl
      have hv : vals (r :: rs.drop (acc.length + 1)) = r.filterMap id ++ vals (rs.drop (acc.length + 1)) := by unfold vals; rw [List.flatMap_cons]
      have ep := ev_popC (S := S) (p := p) (nm := nm) (RS := rowsT rs) (V := V) (l := l) (s5 := s5) (s6 := s6) (s7 := s7) (s8 := s8) (s9 := s9) (s11 := s11) (s12 := s12) (s13 := s13) (s14 := s14) (s16 := s16) (r := r) (tl := vals (rs.drop (acc.length + 1))) (by rw [R.wid r hm]; exact hw)
      rw [hv]
      refine ⟨kE S p nm (rowsT rs) V s5 s6 s7 s8 s9 (.own (plus l (r.filterMap id ++ vals (rs.drop (acc.length + 1))))) s11 s12 s13 s14 (.imm (rowT r)) s16 .no, rowT (r.map (litO l)), kE S p nm (rowsT rs) V s5 s6 s7 s8 s9 (.own (plus l (vals (rs.drop (acc.length + 1))))) s11 s12 s13 s14 (.imm (rowT r)) s16 .no, rfl, ?_, hacc, ?_⟩
      · generalize D.lst ((r.map (litO l)).map oI) = LD at *
        rw [x_eF, x_aCons, ep]
        simp! only [ft]
      · rw [List.length_append, List.length_singleton]; rfl)
  rw [List.length_map] at ly
  unfold newC
  rw [e, h2, ly]
  have : ys = (movR l rs).map rowT := by
    rw [h1, ly, List.take_length]
  rw [this, List.drop_length]; rfl
end
theorem bad_list : ∀ d ∈ [D.non, .int 5, .str "a", .tup [], .lst [], .tup [.str "a", .int 1], .tup [.str "a", .tup [.tup [.int 1], .int 2]], .bl true], Bad d := by
  have sa : strOk (.str "a") := by
    have : (decide ((toPy (.str "a")).canLay0 = true ∧ ("a" : Str).length ≤ 1000)) = true := by decide +kernel
    exact (decide_eq_true_eq.mp this : (toPy (.str "a")).canLay0 = true ∧ ("a" : Str).length ≤ 1000)
  intro d m
  simp only [List.mem_cons, List.not_mem_nil, or_false] at m
  rcases m with rfl | rfl | rfl | rfl | rfl | rfl | rfl | rfl
  · exact ⟨rfl, trivial, rfl⟩
  · exact ⟨rfl, trivial, rfl⟩
  · exact ⟨rfl, trivial, rfl⟩
  · exact ⟨rfl, trivial, rfl⟩
  · exact ⟨rfl, trivial, rfl⟩
  · exact bad2 rfl sa rfl trivial (.inr rfl)
  · refine bad2 rfl sa rfl (fun z m => ?_) (.inr (rowsB_bad (d := .int 2) (by simp) fun w => rfl))
    simp only [List.mem_cons, List.not_mem_nil, or_false] at m
    rcases m with rfl | rfl
    · refine ⟨rfl, fun z m => ?_⟩
      rw [List.mem_singleton.mp m]; rfl
    · exact ⟨rfl, trivial⟩
  · exact ⟨rfl, trivial, rfl⟩
theorem bad_rds : ∀ d ∈ [D.int (-1), .int 1000, .bl true, .str "1", .tup [.int 1]], plain d = true ∧ rdB d = false := by
  intro d m
  simp only [List.mem_cons, List.not_mem_nil, or_false] at m
  rcases m with rfl | rfl | rfl | rfl | rfl <;> exact ⟨rfl, by decide⟩
/-- rows of twelve and thirteen -/
theorem side_ok {l : List Nat} (hn : nmL l = true) {k : Nat} (hk : k = 12 ∨ k = 13) :
    (viewOk (.tup [.str (mkS l), .tup [.tup (List.replicate k (.int 7))]]) ∧ viewB (.tup [.str (mkS l), .tup [.tup (List.replicate k (.int 7))]]) = decide (k = 12))
    ∧ viewOk (.tup [.str (mkS l), .tup (List.replicate k (.tup [.int 7]))]) ∧ viewB (.tup [.str (mkS l), .tup (List.replicate k (.tup [.int 7]))]) = decide (k = 12) := by
  have hb : nameB (.str (mkS l)) = true := by show nmB (mkS l) = true; rw [nmB_mk]; exact hn
  have e1 : rowsB (.tup [.tup (List.replicate k (.int 7))]) = decide (k = 12) := by rcases hk with rfl | rfl <;> decide
  have e2 : rowsB (.tup (List.replicate k (.tup [.int 7]))) = decide (k = 12) := by rcases hk with rfl | rfl <;> decide
  refine ⟨⟨⟨rfl, nm_ok hn, rfl, fun z m => ?_⟩, ?_⟩, ⟨rfl, nm_ok hn, rfl, fun z m => ?_⟩, ?_⟩
  · rw [List.mem_singleton.mp m]
    refine ⟨rfl, fun z m => ?_⟩
    rw [(List.mem_replicate.mp m).2]; rfl
  · show (nameB (.str (mkS l)) && _) = _
    rw [hb, e1, Bool.true_and]
  · rw [(List.mem_replicate.mp m).2]
    refine ⟨rfl, fun z m => ?_⟩
    rw [List.mem_singleton.mp m]; rfl
  · show (nameB (.str (mkS l)) && _) = _
    rw [hb, e2, Bool.true_and]
end M
set_option Elab.async false
set_option linter.all false
set_option maxRecDepth 100000
set_option maxHeartbeats 4000000
namespace M
open PySem L2
local macro_rules
  | `(tactic| simp! only [$as,*]) => `(tactic| simp only [x_bind, bk_ok, bk_ite, x_ret, x_lift, lk_some, lk_ite, app_ite, x_eC, x_eV, vk_imm, vk_own, vk_bor, x_give, gk_own, x_bin, x_un, x_ix, x_tru, x_eB, dBl_bl, dTru_bl, dTru_int, dTru_lst, x_and, x_or, x_not, x_eAnd, x_eOr, x_eNot, x_eIf, x_chain, x_aNil, x_aCons, x_aVr, rk_own, rk_io, x_aVb, tk_own, tk_io, tk_imm, tk_bor, x_eTup, x_eLst, imms_nil, imms_im, x_eF, x_call, ixV_C, jk_imm, jk_own, jk_io, jk_bor, flk_int, x_lenV, nk_imm, nk_own, nk_io, nk_bor, x_inV, hk_imm, hk_own, hk_io, hk_bor, x_sNx, x_pass, x_cont, x_brk, x_seq, sk_nx, sk_rt, sk_rtO, sk_ct, sk_bk, sk_ite, x_drop, x_sRet, x_sRetO, x_sIf, x_asg, x_asgO, x_gN, x_gO, x_gNil, x_gCons, x_gTt, x_gTl, x_sApp, x_sSet, x_chM, ck_own, ck_io, x_iOf, x_iRg, x_fn, fk_rt, fk_nx, fk_ite, ios_z, ios_s, keep_io, keep_imm, keep_own, keep_bor, keep_no, dSub_i, dAdd_i, dLt_i, dLe_i, dGt_i, dGe_i, dEq_int, dNe_int, ix_lst, ix_scr, ix_tup, atI_0, atI_1, atI_2, atI_3, List.getElem?_cons_zero, List.getElem?_cons_succ, List.set_cons_zero, List.set_cons_succ, List.length_cons, List.length_nil, List.cons_append, List.nil_append, List.replicate_succ, List.replicate_zero, Option.map_some, Option.bind_some, Nat.reduceAdd, Nat.reduceSub, Nat.reduceLT, Nat.reduceLeDiff, if_true, if_false, Bool.false_eq_true, decide_eq_true_eq, reduceIte, ne_eq, not_false_eq_true, Nat.lt_add_left_iff_pos, Nat.zero_lt_succ, x_call1, x_call2, x_call3, x_call4, dk1, dk2, dk3, dk4, ixV_V, Nat.reduceEqDiff, not_false_eq_true, x_isLst, x_isSet, List.map_cons, List.map_nil, Option.map_none, Option.bind_none, x_eSl, x_eP0, x_eP1, part_i, $as,*])
noncomputable def sideS : Mo Out := (sIf (tOrM (eB (eBin dNe (eCall m_is_view (aCons (eTup (aCons (eV 2) (aCons (eTup (aCons (eBin dMulX (eTup (aCons (eC (.int 7)) aNil)) (eV 12)) aNil)) aNil))) aNil)) (eBin dEq (eV 12) (eC (.int 12))))) (eB (eBin dNe (eCall m_is_view (aCons (eTup (aCons (eV 2) (aCons (eBin dMulX (eTup (aCons (eTup (aCons (eC (.int 7)) aNil)) aNil)) (eV 12)) aNil))) aNil)) (eBin dEq (eV 12) (eC (.int 12))))))
 (sRet (eC (.bl false)))
 sNx)
noncomputable def viewS : Mo Out := (sIf (eB (eBin (dIsB true) (eCall m_is_view (aCons (eV 13) aNil)) (eC (.bl false))))
 (sRet (eC (.bl false)))
 sNx)
noncomputable def readS : Mo Out := (sIf (eB (eBin (dIsB true) (eCall m_is_reading (aCons (eV 13) aNil)) (eC (.bl false))))
 (sRet (eC (.bl false)))
 sNx)
noncomputable def tailM : Mo Out := (sSeq (sFor (iOf (eLst (aCons (eC (.int 12)) (aCons (eC (.int 13)) aNil)))) (gN 12) sideS)
 (sSeq (sFor (iOf (eLst (aCons (eC .non) (aCons (eC (.int 5)) (aCons (eC (.str "a")) (aCons (eTup aNil) (aCons (eLst aNil) (aCons (eTup (aCons (eC (.str "a")) (aCons (eC (.int 1)) aNil))) (aCons (eTup (aCons (eC (.str "a")) (aCons (eTup (aCons (eTup (aCons (eC (.int 1)) aNil)) (aCons (eC (.int 2)) aNil))) aNil))) (aCons (eC (.bl true)) aNil)))))))))) (gN 13) viewS)
 (sSeq (sFor (iOf (eLst (aCons (eUn dNeg (eC (.int 1))) (aCons (eC (.int 1000)) (aCons (eC (.bl true)) (aCons (eC (.str "1")) (aCons (eTup (aCons (eC (.int 1)) aNil)) aNil))))))) (gN 13) readS)
 (sRet (eAnd (eBin (dIsB false) (eCall m_is_reading (aCons (eC .non) aNil)) (eC (.bl true))) (eAnd (eBin (dIsB false) (eCall m_is_reading (aCons (eC (.int 999)) aNil)) (eC (.bl true))) (eBin (dIsB false) (eCall m_is_reading (aCons (eC (.int 0)) aNil)) (eC (.bl true)))))))))
theorem isB_t {a b : Bool} : dIsB true (.bl a) (.bl b) = some (.bl (!decide (a = b))) := rfl
theorem isB_f {a b : Bool} : dIsB false (.bl a) (.bl b) = some (.bl (decide (a = b))) := rfl
theorem ev_sideS {S p RS V : D} {l : List Nat} (hn : nmL l = true) {k : Nat} (hk : k = 12 ∨ k = 13) {s5 s6 s7 s8 s9 s10 s11 s13 s14 s15 s16 s17 : Sl} :
    sideS (kE S p (.str (mkS l)) RS V s5 s6 s7 s8 s9 s10 s11 (.imm (.int (k : Nat))) s13 s14 s15 s16 s17) = some (.ok .nx, kE S p (.str (mkS l)) RS V s5 s6 s7 s8 s9 s10 s11 (.imm (.int (k : Nat))) s13 s14 s15 s16 s17) := by
  obtain ⟨⟨o1, b1⟩, o2, b2⟩ := side_ok hn hk
  have e1 := ev_isvw (d := .tup [.str (mkS l), .tup [.tup (List.replicate k (.int 7))]]) rfl o1
  have e2 := ev_isvw (d := .tup [.str (mkS l), .tup (List.replicate k (.tup [.int 7]))]) rfl o2
  have m1 := mul_tup1 (x := .int 7) (k := k) (by omega) (by omega)
  have m2 := mul_tup1 (x := .tup [.int 7]) (k := k) (by omega) (by omega)
  have dq : decide ((k : Int) = 12) = decide (k = 12) := by rcases hk with rfl | rfl <;> rfl
  rw [b1] at e1
  rw [b2] at e2
  have nb : dNe (.bl (decide (k = 12))) (.bl (decide (k = 12))) = some (.bl false) := by rw [dNe_bl]; simp
  unfold sideS
  generalize List.replicate k (D.int 7) = A at *
  generalize List.replicate k (D.tup [.int 7]) = B at *
  generalize decide (k = 12) = bb at *
  generalize (k : Int) = K at *
  refine s1f (by simp! only [m1, m2, e1, e2, dq, nb] <;> rfl)
theorem ev_tailM {S p RS V : D} {l : List Nat} (hn : nmL l = true) {s5 s6 s7 s8 s9 s10 s11 s12 s13 s14 s15 s16 s17 : Sl} :
    ∃ y12 y13, tailM (kE S p (.str (mkS l)) RS V s5 s6 s7 s8 s9 s10 s11 s12 s13 s14 s15 s16 s17) = some (.ok (.rt (.bl true)), kE S p (.str (mkS l)) RS V s5 s6 s7 s8 s9 s10 s11 y12 y13 s14 s15 s16 s17) := by
  obtain ⟨δ', f1, y12, rfl⟩ := sFor_inv (I := iOf (eLst (aCons (eC (.int 12)) (aCons (eC (.int 13)) aNil)))) (T := gN 12) (S := sideS) (ds := [.int 12, .int 13])
    (δ := kE S p (.str (mkS l)) RS V s5 s6 s7 s8 s9 s10 s11 s12 s13 s14 s15 s16 s17) (δ0 := kE S p (.str (mkS l)) RS V s5 s6 s7 s8 s9 s10 s11 s12 s13 s14 s15 s16 s17)
    (fun _ δ => ∃ y12, δ = kE S p (.str (mkS l)) RS V s5 s6 s7 s8 s9 s10 s11 y12 s13 s14 s15 s16 s17) (by simp! only [] <;> rfl) ⟨s12, rfl⟩ (fun k x δ hk hδ => by
      obtain ⟨y12, rfl⟩ := hδ
      obtain ⟨n, hn', rfl⟩ : ∃ n : Nat, (n = 12 ∨ n = 13) ∧ x = .int (n : Nat) := by
        have := List.mem_of_getElem? hk
        simp only [List.mem_cons, List.not_mem_nil, or_false] at this
        rcases this with rfl | rfl
        · exact ⟨12, .inl rfl, rfl⟩
        · exact ⟨13, .inr rfl, rfl⟩
      exact ⟨kE S p (.str (mkS l)) RS V s5 s6 s7 s8 s9 s10 s11 (.imm (.int (n : Nat))) s13 s14 s15 s16 s17, _, rfl, .inl (ev_sideS hn hn'), _, rfl⟩)
  obtain ⟨δ', f2, y13, rfl⟩ := sFor_inv (I := (iOf (eLst (aCons (eC .non) (aCons (eC (.int 5)) (aCons (eC (.str "a")) (aCons (eTup aNil) (aCons (eLst aNil) (aCons (eTup (aCons (eC (.str "a")) (aCons (eC (.int 1)) aNil))) (aCons (eTup (aCons (eC (.str "a")) (aCons (eTup (aCons (eTup (aCons (eC (.int 1)) aNil)) (aCons (eC (.int 2)) aNil))) aNil))) (aCons (eC (.bl true)) aNil))))))))))) (T := gN 13) (S := viewS) (ds := [D.non, .int 5, .str "a", .tup [], .lst [], .tup [.str "a", .int 1], .tup [.str "a", .tup [.tup [.int 1], .int 2]], .bl true])
    (δ := kE S p (.str (mkS l)) RS V s5 s6 s7 s8 s9 s10 s11 y12 s13 s14 s15 s16 s17) (δ0 := kE S p (.str (mkS l)) RS V s5 s6 s7 s8 s9 s10 s11 y12 s13 s14 s15 s16 s17)
    (fun _ δ => ∃ y13, δ = kE S p (.str (mkS l)) RS V s5 s6 s7 s8 s9 s10 s11 y12 y13 s14 s15 s16 s17) (by simp! only [] <;> rfl) ⟨s13, rfl⟩ (fun k x δ hk hδ => by
      obtain ⟨y13, rfl⟩ := hδ
      have B := bad_list x (List.mem_of_getElem? hk)
      have e := ev_isvw B.p B.ok
      rw [B.b] at e
      refine ⟨kE S p (.str (mkS l)) RS V s5 s6 s7 s8 s9 s10 s11 y12 (.imm x) s14 s15 s16 s17, kE S p (.str (mkS l)) RS V s5 s6 s7 s8 s9 s10 s11 y12 (.imm x) s14 s15 s16 s17, rfl, .inl ?_, _, rfl⟩
      unfold viewS
      refine s1f (by simp! only [e, isB_t, decide_true, Bool.not_true] <;> rfl))
  obtain ⟨δ', f3, y13', rfl⟩ := sFor_inv (I := (iOf (eLst (aCons (eUn dNeg (eC (.int 1))) (aCons (eC (.int 1000)) (aCons (eC (.bl true)) (aCons (eC (.str "1")) (aCons (eTup (aCons (eC (.int 1)) aNil)) aNil)))))))) (T := gN 13) (S := readS) (ds := [D.int (-1), .int 1000, .bl true, .str "1", .tup [.int 1]])
    (δ := kE S p (.str (mkS l)) RS V s5 s6 s7 s8 s9 s10 s11 y12 y13 s14 s15 s16 s17) (δ0 := kE S p (.str (mkS l)) RS V s5 s6 s7 s8 s9 s10 s11 y12 y13 s14 s15 s16 s17)
    (fun _ δ => ∃ y13, δ = kE S p (.str (mkS l)) RS V s5 s6 s7 s8 s9 s10 s11 y12 y13 s14 s15 s16 s17) (by
      have dn : dNeg (.int 1) = some (.int (-1)) := rfl
      simp! only [dn] <;> rfl) ⟨y13, rfl⟩ (fun k x δ hk hδ => by
      obtain ⟨y13, rfl⟩ := hδ
      obtain ⟨hp, hb⟩ := bad_rds x (List.mem_of_getElem? hk)
      have e := ev_isrd hp
      rw [hb] at e
      refine ⟨kE S p (.str (mkS l)) RS V s5 s6 s7 s8 s9 s10 s11 y12 (.imm x) s14 s15 s16 s17, kE S p (.str (mkS l)) RS V s5 s6 s7 s8 s9 s10 s11 y12 (.imm x) s14 s15 s16 s17, rfl, .inl ?_, _, rfl⟩
      unfold readS
      refine s1f (by simp! only [e, isB_t, decide_true, Bool.not_true] <;> rfl))
  refine ⟨y12, y13', ?_⟩
  unfold tailM
  refine ssq f1 ?_
  refine ssq f2 ?_
  refine ssq f3 ?_
  have e1 : m_is_reading [.imm .non] = some (.ok (.bl true), [.no]) := ev_isrd rfl
  have e2 : m_is_reading [.imm (.int 999)] = some (.ok (.bl true), [.no]) := ev_isrd rfl
  have e3 : m_is_reading [.imm (.int 0)] = some (.ok (.bl true), [.no]) := ev_isrd rfl
  simp! only [e1, e2, e3, isB_f, decide_true]
theorem seq_assoc {a b c : Mo Out} {δ : Env} : sSeq (sSeq a b) c δ = sSeq a (sSeq b c) δ := by
  simp only [x_seq]
  cases a δ with
  | none => rfl
  | some z =>
    obtain ⟨r, δ'⟩ := z
    cases r with
    | error e => rfl
    | ok o => cases o <;> rfl
theorem kb_ll : kitB "list" "list" = some true := by decide +kernel
theorem isi_ll {l : List D} : isiV' "list" (.lst l) = some (.bl true) := by
  show (kitB "list" "list").map D.bl = _
  rw [kb_ll]; rfl
theorem law_true (ns : List Int) (hl : ns.length ≤ 63) : m_law [.imm (.scr (ns.map D.int))] = some (.ok (.bl true), [.no]) := by
  obtain ⟨d0, e0, i0⟩ := ev_pool (ns := ns)
  obtain ⟨l, d1, en, i1, dr⟩ := ev_name i0
  have hn : nmL l = true := dr.1
  obtain ⟨w, h, rs, d2, er, i2, R, g1, g2, g3, g4⟩ := ev_rows (most := 5) i1 (by omega) (by omega)
  obtain ⟨v, d3, es, i3, B⟩ := ev_spoilt i2 hn R g1 g2 g3 g4
  obtain ⟨t1, d4, c4, i4, a4, b4⟩ := ev_tk1 i3 (m := 2001) (by omega) (by omega)
  obtain ⟨t2, d5, c5, i5, a5, b5⟩ := ev_tk1 i4 (m := 7) (by omega) (by omega)
  obtain ⟨lg, hlg, lg1, lg2⟩ := lights (v := t1 - 1000) a5 b5 (by omega) (by omega)
  have vn : vals rs = vals rs := rfl
  have hvl : (vals rs).length ≤ 1000 := by
    have := vals_len R
    have : w * h ≤ 5 * 5 := Nat.mul_le_mul g2 g4
    omega
  have hrl : (rds rs).length ≤ 1000 := by rw [← rds_vals, List.length_map] at hvl; exact hvl
  obtain ⟨vb, vo⟩ := view_ok hn R g1 (by omega) g3 (by omega)
  have ev := ev_isvw (d := vwD (mkS l) rs) rfl vo
  rw [vb] at ev
  have enm : m_is_name [.imm (.str (mkS l))] = some (.ok (.bl true), [.no]) := by
    have := ev_isnm (d := .str (mkS l)) rfl (nm_ok hn)
    rw [show nameB (.str (mkS l)) = true by show nmB (mkS l) = true; rw [nmB_mk]; exact hn] at this
    exact this
  have esz := ev_size (s := mkS l) R g3
  have h0 : 0 < rs.length := by rw [R.len]; exact g3
  have e30 : dIx (rowsT rs) (.int 0) = some (rowT (rs.getD 0 [])) := ix_rows h0
  have l0 := @len_row (rs.getD 0 [])
  rw [R.wid _ (getD_mem h0).2] at l0
  have l3 := @len_rows rs
  rw [R.len] at l3
  have nsz : ∀ a b : Int, dNe (.tup [.int a, .int b]) (.tup [.int a, .int b]) = some (.bl false) := fun a b => dNe_rfl (fine_tup (k := 0) (by omega) fun d m => by
    simp only [List.mem_cons, List.not_mem_nil, or_false] at m
    rcases m with rfl | rfl <;> exact fine_int' _).1
  have erd := ev_readings (s := mkS l) R (by omega) (by omega)
  have nrd := dNe_rfl (fine_t3s (rds rs))
  have evs := ev_isvw B.p B.ok
  rw [B.b] at evs
  have dn1 : dNeg (.int 1) = some (.int (-1)) := rfl
  have dn2 : dNeg (.int 1000) = some (.int (-1000)) := rfl
  have en : ∀ s0 δ, callM m__law_name [.vr 1] (s0 :: .own d0 :: δ) = some (.ok (.str (mkS l)), s0 :: .own d1 :: δ) := fun s0 δ => call_u1 en
  have er : ∀ s0 δ, callM m__law_rows [.vr 1, .im (.int 5)] (s0 :: .own d1 :: δ) = some (.ok (rowsT rs), s0 :: .own d2 :: δ) := fun s0 δ => call_w1 er
  have es : ∀ s0 δ, callM m__law_spoilt [.vr 1, .im (.str (mkS l)), .im (rowsT rs)] (s0 :: .own d2 :: δ) = some (.ok v, s0 :: .own d3 :: δ) := fun s0 δ => call_w2 es
  have vw : D.tup [.str (mkS l), rowsT rs] = vwD (mkS l) rs := rfl
  generalize hS : D.scr (ns.map D.int) = S at *
  suffices hs : ∃ δ', b_law ([.imm S] ++ List.replicate (18 - 1) Sl.no) = some (.ok (.rt (.bl true)), .imm S :: δ') by
    obtain ⟨δ', e⟩ := hs
    refine (fn_rt e).trans ?_
    rw [ios_s, ios_z]; rfl
  obtain ⟨y6, fd⟩ := due_loop (S := S) (p := d2) (nm := .str (mkS l)) (V := vwD (mkS l) rs) R (by omega) (by omega) g3 (s6 := .no) (s7 := .no) (s8 := .no) (s9 := .no) (s10 := .no) (s11 := .no) (s12 := .no) (s13 := .no) (s15 := .no) (s16 := .no) (s17 := .no)
  have em := ev_movedL (S := S) (p := d5) (nm := .str (mkS l)) (RS := rowsT rs) (V := vwD (mkS l) rs) (l := lg) hrl (s6 := y6) (s8 := .no) (s9 := .no) (s10 := .no) (s11 := .no) (s12 := .no) (s13 := .no) (s14 := .no) (s16 := .no) (s17 := .no)
  suffices hs : ∃ δ', (sSeq (sIf (eTru (eLc (iOf (eV 8)) (gN 16) (tOrM (eB (eBin dLt (eV 16) (eC (.int 0)))) (eB (eBin dGt (eV 16) (eC (.int 999))))) (eV 16) [16]))
 (sIf (eB (eBin dNe (eV 9) (eC (.str "light"))))
 (sRet (eC (.bl false)))
 sNx)
 (sSeq (sAsgO 10 (eF fList' (aCons (eV 8) aNil)))
 (sSeq (sAsg (gN 11) (eF fTuple (aCons newC aNil)))
 (sIf (eB (eBin dNe (eV 9) (eTup (aCons (eV 2) (aCons (eV 11) aNil)))))
 (sRet (eC (.bl false)))
 sNx)))) tailM) (kE S d5 (.str (mkS l)) (rowsT rs) (vwD (mkS l) rs) (.imm (.lst ((rds rs).map t3D))) y6 (.imm (.int lg)) (.own (plus lg (vals rs))) (.imm (if movB lg rs = true then vwD (mkS l) (movR lg rs) else .str "light")) .no .no .no .no .no .no .no .no) = some (.ok (.rt (.bl true)), .imm S :: δ') by
    obtain ⟨δ', e⟩ := hs
    refine ⟨δ', ?_⟩
    have el : m__law_lighter [.imm (vwD (mkS l) rs), .imm (.int lg)] = some (.ok (if movB lg rs = true then vwD (mkS l) (movR lg rs) else .str "light"), [.no, .no]) := by
      by_cases c : movB lg rs = true
      · rw [if_pos c]; exact ev_lawlight R (by omega) (by omega) c
      · rw [if_neg c]; exact ev_lawlightE R (by omega) (by omega) (by simpa using c)
    generalize (if movB lg rs = true then vwD (mkS l) (movR lg rs) else D.str "light") = told at *
    unfold b_law
    generalize ((w : Nat) : Int) = W at *
    generalize ((h : Nat) : Int) = H at *
    refine ssq (δ1 := [.imm S, .own d0, .no, .no, .no, .no, .no, .no, .no, .no, .no, .no, .no, .no, .no, .no, .no, .no]) (by simp! only [e0]) ?_
    refine ssq (by simp! only [en] <;> rfl) ?_
    refine ssq (by simp! only [er] <;> rfl) ?_
    refine ssq (by simp! only [vw] <;> rfl) ?_
    refine ssq_f (by simp! only [ev, enm, esz, e30, l0, l3, isB_t, decide_true, Bool.not_true, nsz] <;> rfl) ?_
    refine ssq (by simp! only [] <;> rfl) ?_
    refine ssq fd ?_
    generalize plus lg (vals rs) = PL at *
    generalize hRD : (rds rs).map t3D = RD at *
    refine ssq_f (by simp! only [erd, nrd, x_isi2', isi_ll, Bool.not_true] <;> rfl) ?_
    refine ssq_f (by simp! only [es, evs, isB_t, decide_true, Bool.not_true] <;> rfl) ?_
    refine ssq (by simp! only [dn1, dn2, c4, c5, hlg] <;> rfl) ?_
    refine ssq (by rw [x_asgO, em]; rfl) ?_
    refine ssq (by simp! only [el] <;> rfl) ?_
    exact e
  have eb := ev_badL (S := S) (p := d5) (nm := .str (mkS l)) (RS := rowsT rs) (V := vwD (mkS l) rs) (l := lg) (vs := vals rs) hvl (s5 := .imm (.lst ((rds rs).map t3D))) (s6 := y6) (s7 := .imm (.int lg)) (s9 := .imm (if movB lg rs = true then vwD (mkS l) (movR lg rs) else .str "light")) (s10 := .no) (s11 := .no) (s12 := .no) (s13 := .no) (s14 := .no) (s15 := .no) (s17 := .no)
  by_cases c : movB lg rs = true
  · rw [bad_iff.mp c] at eb
    rw [if_pos c] at eb ⊢
    have enw := ev_newC (S := S) (p := d5) (nm := .str (mkS l)) (V := vwD (mkS l) rs) (l := lg) R (by omega) (by omega) (s5 := .imm (.lst ((rds rs).map t3D))) (s6 := y6) (s7 := .imm (.int lg)) (s8 := .imm (plus lg (vals rs))) (s9 := .imm (vwD (mkS l) (movR lg rs))) (s11 := .no) (s12 := .no) (s13 := .no) (s14 := .no) (s16 := .no)
    obtain ⟨y12, y13, et⟩ := ev_tailM (S := S) (p := d5) (RS := rowsT rs) (V := vwD (mkS l) rs) hn (s5 := .imm (.lst ((rds rs).map t3D))) (s6 := y6) (s7 := .imm (.int lg)) (s8 := .imm (plus lg (vals rs))) (s9 := .imm (vwD (mkS l) (movR lg rs))) (s10 := .own (plus lg [])) (s11 := .imm (rowsT (movR lg rs))) (s12 := .no) (s13 := .no) (s14 := .no) (s15 := .no) (s16 := .no) (s17 := .no)
    have fl : fList' [plus lg (vals rs)] = some (plus lg (vals rs)) := rfl
    have ft : fTuple [.lst ((movR lg rs).map rowT)] = some (rowsT (movR lg rs)) := rfl
    have nq := dNe_rfl (fine_vw hn (movR lg rs))
    have vq : D.tup [.str (mkS l), rowsT (movR lg rs)] = vwD (mkS l) (movR lg rs) := rfl
    generalize plus lg (vals rs) = PL at *
    generalize plus lg [] = PE at *
    generalize (rds rs).map t3D = RD at *
    generalize (movR lg rs).map rowT = MR at *
    refine ⟨(kE S d5 (.str (mkS l)) (rowsT rs) (vwD (mkS l) rs) (.imm (.lst RD)) y6 (.imm (.int lg)) (.imm PL) (.imm (vwD (mkS l) (movR lg rs))) (.own PE) (.imm (rowsT (movR lg rs))) y12 y13 .no .no .no .no).tail, ssq_e (δ1 := kE S d5 (.str (mkS l)) (rowsT rs) (vwD (mkS l) rs) (.imm (.lst RD)) y6 (.imm (.int lg)) (.imm PL) (.imm (vwD (mkS l) (movR lg rs))) .no .no .no .no .no .no .no .no) (by rw [x_tru, eb]; rfl) ?_⟩
    rw [seq_assoc]
    refine ssq (by simp! only [fl] <;> rfl) ?_
    rw [seq_assoc]
    refine ssq (by rw [x_asg, x_eF, x_aCons, enw]; simp! only [ft] <;> rfl) ?_
    refine ssq_f (by simp! only [vq, nq] <;> rfl) ?_
    exact et
  · have c' : movB lg rs = false := by simpa using c
    rw [if_neg c] at eb ⊢
    obtain ⟨b0, bs, hb⟩ : ∃ b0 bs, (vals rs).filter (fun v => decide (v + lg < 0) || decide (999 < v + lg)) = b0 :: bs := by
      cases q : (vals rs).filter (fun v => decide (v + lg < 0) || decide (999 < v + lg)) with
      | nil => exact absurd (bad_iff.mpr q) c
      | cons a b => exact ⟨a, b, rfl⟩
    rw [hb] at eb
    obtain ⟨y12, y13, et⟩ := ev_tailM (S := S) (p := d5) (RS := rowsT rs) (V := vwD (mkS l) rs) hn (s5 := .imm (.lst ((rds rs).map t3D))) (s6 := y6) (s7 := .imm (.int lg)) (s8 := .imm (plus lg (vals rs))) (s9 := .imm (.str "light")) (s10 := .no) (s11 := .no) (s12 := .no) (s13 := .no) (s14 := .no) (s15 := .no) (s16 := .no) (s17 := .no)
    have nq : dNe (.str "light") (.str "light") = some (.bl false) := dNe_rfl (fine_s (s := "light") (by decide +kernel)).1
    generalize plus lg (vals rs) = PL at *
    generalize (rds rs).map t3D = RD at *
    refine ⟨(kE S d5 (.str (mkS l)) (rowsT rs) (vwD (mkS l) rs) (.imm (.lst RD)) y6 (.imm (.int lg)) (.imm PL) (.imm (.str "light")) .no .no y12 y13 .no .no .no .no).tail, ssq_t (δ1 := kE S d5 (.str (mkS l)) (rowsT rs) (vwD (mkS l) rs) (.imm (.lst RD)) y6 (.imm (.int lg)) (.imm PL) (.imm (.str "light")) .no .no .no .no .no .no .no .no) (by rw [x_tru, eb]; rfl) ?_⟩
    refine ssq_f (by simp! only [nq] <;> rfl) ?_
    exact et
end M
set_option Elab.async false
set_option linter.all false
set_option maxRecDepth 100000
set_option maxHeartbeats 0
namespace M
open PySem L2 PySem.Spec PyProof.Rows
theorem walk {l : PySem.W.OpenLaw} {q : Program} {loose : List Str} {XP : (Str → Option Value) → Heap → Prop} {YP : World → Heap → Prop} {d : DefRec} {K : Params → PySem.W.Frag} (hz : ∀ p, tabOf (K p) = none) (hn : l.most = some 63) (hdf : d.params.defaults = [])
    (hY : ∀ (w : World) (h : Heap), YP w h → (K w.params).In h)
    (F : ∀ (w : World) (mg : Str → Option Value) (fa : Addr) (h : Heap), (K w.params).In h → h.Ns mainGlobals mg → mg d.name = some (.ref fa) →
      ∃ fd : FuncData, (∀ (s : Shared) (u : Value), BindsTo s fd ⟨[u], []⟩ [("_law_script", u)]) ∧ ∀ base : Heap, (K w.params).In base → base.Ns mainGlobals mg → FnOk l.prog w (K w.params) mg base CX0 6 fa fd ["_law_script"] (spM Wn (K w.params) 1 false m_law)) :
    PySem.W.WalkO q loose XP YP l.row.toRowW d [] (fun f vs => PySem.call f vs) :=
  L2.walk_of (n := 63) (k := 6) (x := "_law_script") (CX := fun _ => CX0) (sp := fun w => spM Wn (K w.params) 1 false m_law) hn (by decide) hdf ⟨rfl, by decide, by decide⟩ hY F (fun _ H a ns hl on hS => law_sp (fun P hP => by rw [hz] at hP; cases hP) hS hl (law_true ns hl)) fun _ _ _ _ _ z => z
end M
open PySem PySem.W PyProof.Rows in
set_option maxRecDepth 100000 in
set_option maxHeartbeats 0 in
theorem PySem.Challenge.cw_laidviews_k00_views_holds : PySem.Challenge.rw_laidviews_k00_views.Holds := by
  w_on; o_law; k_head; (case hw => w_witness2)
  k_fill
  refine M.walk (l := PySem.Challenge.rw_laidviews_k00_views) (fun _ => rfl) rfl rfl (fun w h Y => PySem.W.kIn_of Y) ?F
  case F =>
    intro w mg fa h KX G hmg
    refine' M.all_mk KX G hmg ?a0 ?l0 ?c0 ?k0 ?a1 ?l1 ?c1 ?k1 ?a2 ?l2 ?c2 ?k2 ?a3 ?l3 ?c3 ?k3 ?a4 ?l4 ?c4 ?k4 ?a5 ?l5 ?c5 ?k5 ?a6 ?l6 ?c6 ?k6 ?a7 ?l7 ?c7 ?k7 ?a8 ?l8 ?c8 ?k8 ?a9 ?l9 ?c9 ?k9 ?a10 ?l10 ?c10 ?k10 ?a11 ?l11 ?c11 ?k11 ?a12 ?l12 ?c12 ?k12 ?a13 ?l13 ?c13 ?k13 ?a14 ?l14 ?c14 ?k14 ?a15 ?l15 ?c15 ?k15 ?a16 ?l16 ?c16 ?k16 ?x_gC ?x_cl ?x_sa ?x_ga ?x_gg ?x_no ?x_iC ?x_tC ?x_kC ?x_eC ?x_ty ?x_hd ?x_is ?x_sC ?x_su ?x_sB ?x_mC ?x_ei ?x_an ?x_gS ?x_gT ?x_tp ?x_fn ?x_cd ?x_ce ?x_co ?x_vs ?x_fl ?x_cc ?x_sn ?x_tk ?x_mo ?x_gD ?x_ki ?z_abs ?z_all ?z_bool ?z_int ?z_isinstance ?z_len ?z_list ?z_range ?z_str ?z_tuple ?q_MOST ?q_MAX_NAME ?q_MAX_SIDE
    (case a0 => k_is)
    (case l0 => k_is)
    (case c0 => k_is)
    (case k0 => k_is)
    (case a1 => k_is)
    (case l1 => k_is)
    (case c1 => k_is)
    (case k1 => k_is)
    (case a2 => k_is)
    (case l2 => k_is)
    (case c2 => k_is)
    (case k2 => k_is)
    (case a3 => k_is)
    (case l3 => k_is)
    (case c3 => k_is)
    (case k3 => k_is)
    (case a4 => k_is)
    (case l4 => k_is)
    (case c4 => k_is)
    (case k4 => k_is)
    (case a5 => k_is)
    (case l5 => k_is)
    (case c5 => k_is)
    (case k5 => k_is)
    (case a6 => k_is)
    (case l6 => k_is)
    (case c6 => k_is)
    (case k6 => k_is)
    (case a7 => k_is)
    (case l7 => k_is)
    (case c7 => k_is)
    (case k7 => k_is)
    (case a8 => k_is)
    (case l8 => k_is)
    (case c8 => k_is)
    (case k8 => k_is)
    (case a9 => k_is)
    (case l9 => k_is)
    (case c9 => k_is)
    (case k9 => k_is)
    (case a10 => k_is)
    (case l10 => k_is)
    (case c10 => k_is)
    (case k10 => k_is)
    (case a11 => k_is)
    (case l11 => k_is)
    (case c11 => k_is)
    (case k11 => k_is)
    (case a12 => k_is)
    (case l12 => k_is)
    (case c12 => k_is)
    (case k12 => k_is)
    (case a13 => k_is)
    (case l13 => k_is)
    (case c13 => k_is)
    (case k13 => k_is)
    (case a14 => k_is)
    (case l14 => k_is)
    (case c14 => k_is)
    (case k14 => k_is)
    (case a15 => k_is)
    (case l15 => k_is)
    (case c15 => k_is)
    (case k15 => k_is)
    (case a16 => k_is)
    (case l16 => k_is)
    (case c16 => k_is)
    (case k16 => k_is)
    (case x_gC => k_is)
    (case x_cl => k_is)
    (case x_sa => k_is)
    (case x_ga => k_is)
    (case x_gg => k_is)
    (case x_no => k_is)
    (case x_iC => k_is)
    (case x_tC => k_is)
    (case x_kC => k_is)
    (case x_eC => k_is)
    (case x_ty => k_is)
    (case x_hd => k_is)
    (case x_is => k_is)
    (case x_sC => first | rfl | k_is)
    (case x_su => ks_is)
    (case x_sB => k_is)
    (case x_mC => k_is)
    (case x_ei => kx_is)
    (case x_an => k_is)
    (case x_gS => k_is)
    (case x_gT => k_is)
    (case x_tp => decide +kernel)
    (case x_fn => k_is)
    (case x_cd => k_is)
    (case x_ce => k_is)
    (case x_co => k_is)
    (case x_vs => rfl)
    (case x_fl => decide +kernel)
    (case x_cc => k_is)
    (case x_sn => k_is)
    (case x_tk => k_is)
    (case x_mo => k_is)
    (case x_gD => k_is)
    (case x_ki => kit_is)
    (case z_abs => k_is)
    (case z_all => k_is)
    (case z_bool => k_is)
    (case z_int => k_is)
    (case z_isinstance => k_is)
    (case z_len => k_is)
    (case z_list => k_is)
    (case z_range => k_is)
    (case z_str => k_is)
    (case z_tuple => k_is)
    (case q_MOST => k_is)
    (case q_MAX_NAME => k_is)
    (case q_MAX_SIDE => k_is)
