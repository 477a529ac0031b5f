import PyProof.Rows.All
import Wide.All
import OpenK.AllK
import Wide.FinOn
import HandS.ForMost
import HandS.TupAny
import HandS.TupMul
import HandS.TupLen
import HandS.DictComp
import HandS.SortRule
import HandS.SortInts
import HandS.Deep
import HandS.Flow
import HandS.IsInst
import HandS.Style
import HandS.Conv
import HandS.NoneIn
import HandS.Lambda
import HandS.EndTab
import KE.KDictOf
import KE.KDictKeyed
import HandS.More
import KE.SortData
import HandS.AnyAll
import KE.SortKeyHeap
import HandS.DictEq
import HandS.DeepEq
import HandS.SetFor
import HandS.Strs
import KE.KNestM
import HandS.SetBool
import HandS.Rev
import HandS.RevTup
import HandS.DictTup
import HandS.OwnEq
import KE.KExcSuper
import HandS.ExcInit
import HandS.WordsExc
import HandS.ExcOwn
import KE.KExcIs
import KE.RegKIsAll
import HandS.Defaults
import PyProof.StrOps2
import HandS.Star
import PyProof.DictUpdate
import PyProof.Rows.StrMeet
import KE.KDictSum
import KE.KDictCopyH
import KE.KDictWalk
import PySem.Challenge.RW_laidviews_k15_gathered_grounds
set_option Elab.async false
set_option linter.all false
set_option maxRecDepth 100000
namespace M
open PySem L2
abbrev St := L2.St
/-- data, without addresses -/
inductive D where
  | non | bl (b : Bool) | int (i : Int) | str (s : Str)
  | tup (l : List D) | lst (l : List D) | scr (l : List D)
  | dK (l : List (Key × D)) | dT (l : List (List Key × D))
  /-- an album: its views, its links -/
  | alb (vs ls : List D)
  deriving Inhabited
mutual
inductive R (K : PySem.W.Frag) (G : Hp) : V → D → Prop
  | non : R K G .non .non
  | bl (b : Bool) : R K G (.bl b) (.bl b)
  | int (i : Int) : R K G (.int i) (.int i)
  | str (s : Str) : R K G (.str s) (.str s)
  | tup {a : Addr} {xs : List V} {ds : List D} : G a = some (.tup xs) → xs.length ≤ sizeLine → RL K G xs ds → R K G (.ref a) (.tup ds)
  | lst {a : Addr} {xs : List V} {ds : List D} : G a = some (.lst xs) → xs.length ≤ sizeLine → RL K G xs ds → R K G (.ref a) (.lst ds)
  | scr {a : Addr} {xs : List V} {ds : List D} : SqL K G a xs → xs.length ≤ sizeLine → RL K G xs ds → R K G (.ref a) (.scr ds)
  | dK {a : Addr} {kvs : List (Key × V)} {ds : List (Key × D)} : G a = some (.dK kvs) → kvs.length ≤ sizeLine → kvs.map (·.1) = ds.map (·.1) → RL K G (kvs.map (·.2)) (ds.map (·.2)) → R K G (.ref a) (.dK ds)
  | dT {a : Addr} {kvs : List (List Key × V)} {ds : List (List Key × D)} : G a = some (.dT kvs) → kvs.length ≤ sizeLine → kvs.map (·.1) = ds.map (·.1) → RL K G (kvs.map (·.2)) (ds.map (·.2)) → R K G (.ref a) (.dT ds)
  | alb {p av al C dx : Addr} {xs ys : List V} {vs ls : List D} : PySem.W.nsIn K mainGlobals "Album" = some (some (.ref C)) → G p = some (.ins C dx [("_views", .ref av), ("_links", .ref al)]) → G av = some (.lst xs) → G al = some (.lst ys) → xs.length ≤ sizeLine → ys.length ≤ sizeLine → RL K G xs vs → RL K G ys ls → R K G (.ref p) (.alb vs ls)
inductive RL (K : PySem.W.Frag) (G : Hp) : List V → List D → Prop
  | nil : RL K G [] []
  | cons {v : V} {vs : List V} {d : D} {ds : List D} : R K G v d → RL K G vs ds → RL K G (v :: vs) (d :: ds)
end
def Ext (G G' : Hp) : Prop := ∀ a o, G a = some o → G' a = some o
theorem Ext.refl (G : Hp) : Ext G G := fun _ _ h => h
theorem Ext.trans {G G1 G2 : Hp} (a : Ext G G1) (b : Ext G1 G2) : Ext G G2 := fun x o h => b x o (a x o h)
theorem Ext.new {G : Hp} {p : Addr} {o : HO} (h : G p = none) : Ext G (upd G p o) := fun a u e => by
  rw [upd_ne (ne_of_none e h)]; exact e
theorem Ext.sql {K : PySem.W.Frag} {G G' : Hp} {a : Addr} {xs : List V} (e : Ext G G') (h : SqL K G a xs) : SqL K G' a xs := by
  rcases h with (h | ⟨o, h⟩) | h
  · exact .inl (.inl (e _ _ h))
  · exact .inl (.inr ⟨o, e _ _ h⟩)
  · exact .inr h
section
variable {K : PySem.W.Frag} {G G' : Hp}
mutual
theorem R.mono (e : Ext G G') : ∀ {v : V} {d : D}, R K G v d → R K G' v d
  | _, _, .non => .non
  | _, _, .bl b => .bl b
  | _, _, .int i => .int i
  | _, _, .str s => .str s
  | _, _, .tup h l r => .tup (e _ _ h) l (RL.mono e r)
  | _, _, .lst h l r => .lst (e _ _ h) l (RL.mono e r)
  | _, _, .scr h l r => .scr (e.sql h) l (RL.mono e r)
  | _, _, .dK h l k r => .dK (e _ _ h) l k (RL.mono e r)
  | _, _, .dT h l k r => .dT (e _ _ h) l k (RL.mono e r)
  | _, _, .alb c h1 h2 h3 l1 l2 r1 r2 => .alb c (e _ _ h1) (e _ _ h2) (e _ _ h3) l1 l2 (RL.mono e r1) (RL.mono e r2)
theorem RL.mono (e : Ext G G') : ∀ {vs : List V} {ds : List D}, RL K G vs ds → RL K G' vs ds
  | _, _, .nil => .nil
  | _, _, .cons h t => .cons (R.mono e h) (RL.mono e t)
end
theorem RL.length : ∀ {vs : List V} {ds : List D}, RL K G vs ds → vs.length = ds.length
  | _, _, .nil => rfl
  | _, _, .cons _ t => by rw [List.length_cons, List.length_cons, RL.length t]
theorem RL.get : ∀ {vs : List V} {ds : List D} {i : Nat} {d : D}, RL K G vs ds → ds[i]? = some d → ∃ v, vs[i]? = some v ∧ R K G v d
  | _, _, _, _, .nil, e => by simp at e
  | _, _, 0, _, .cons h _, e => by simp at e; subst e; exact ⟨_, rfl, h⟩
  | _, _, i + 1, d, .cons _ t, e => by
    obtain ⟨v, h1, h2⟩ := RL.get (i := i) (d := d) t (by simpa using e)
    exact ⟨v, by simpa using h1, h2⟩
theorem RL.append : ∀ {vs ws : List V} {ds es : List D}, RL K G vs ds → RL K G ws es → RL K G (vs ++ ws) (ds ++ es)
  | _, _, _, _, .nil, s => s
  | _, _, _, _, .cons h t, s => .cons h (RL.append t s)
theorem RL.set : ∀ {vs : List V} {ds : List D} (i : Nat) {v : V} {d : D}, RL K G vs ds → R K G v d → RL K G (vs.set i v) (ds.set i d)
  | _, _, _, _, _, .nil, _ => .nil
  | _, _, 0, _, _, .cons _ t, r => .cons r t
  | _, _, i + 1, _, _, .cons h t, r => .cons h (RL.set i t r)
theorem RL.take : ∀ {vs : List V} {ds : List D} (n : Nat), RL K G vs ds → RL K G (vs.take n) (ds.take n)
  | _, _, 0, _ => .nil
  | _, _, _ + 1, .nil => .nil
  | _, _, n + 1, .cons h t => .cons h (RL.take n t)
theorem RL.drop : ∀ {vs : List V} {ds : List D} (n : Nat), RL K G vs ds → RL K G (vs.drop n) (ds.drop n)
  | _, _, 0, r => r
  | _, _, _ + 1, .nil => .nil
  | _, _, n + 1, .cons _ t => RL.drop n t
theorem RL.reverse {vs : List V} {ds : List D} (h : RL K G vs ds) : RL K G vs.reverse ds.reverse := by
  induction h using RL.rec (motive_1 := fun _ _ _ => True) with
  | nil => exact .nil
  | cons a t _ ih => rw [List.reverse_cons, List.reverse_cons]; exact RL.append ih (.cons a .nil)
  | _ => trivial
theorem RL.rep {vs : List V} {ds : List D} (h : RL K G vs ds) : ∀ k : Nat, RL K G (List.replicate k vs).flatten (List.replicate k ds).flatten
  | 0 => .nil
  | k + 1 => by
    rw [List.replicate_succ, List.replicate_succ, List.flatten_cons, List.flatten_cons]
    exact RL.append h (RL.rep h k)
end
/-- objects that are dicts -/
def isD : HO → Bool
  | .dK _ => true
  | .dT _ => true
  | _ => false
/-- G is a view of H: dicts of it may be locked in H -/
def Vw (G H : Hp) : Prop := ∀ a o, G a = some o → H a = some o ∨ (isD o = true ∧ ∃ x, H a = some (.frz x o))
theorem Vw.there {G H : Hp} (h : Vw G H) {a : Addr} {o : HO} (e : G a = some o) : H a ≠ none := by
  rcases h a o e with h | ⟨_, x, h⟩ <;> rw [h] <;> simp
theorem Vw.none {G H : Hp} (h : Vw G H) {a : Addr} (e : H a = none) : G a = Option.none := by
  cases q : G a with
  | none => rfl
  | some o => exact absurd e (h.there q)
theorem Vw.tup {G H : Hp} (h : Vw G H) {a : Addr} {xs : List V} (e : G a = some (.tup xs)) : H a = some (.tup xs) := by
  rcases h a _ e with h | ⟨h, _⟩
  · exact h
  · cases h
theorem Vw.lst {G H : Hp} (h : Vw G H) {a : Addr} {xs : List V} (e : G a = some (.lst xs)) : H a = some (.lst xs) := by
  rcases h a _ e with h | ⟨h, _⟩
  · exact h
  · cases h
theorem Vw.rd {G H : Hp} (h : Vw G H) {a : Addr} {o : HO} (e : G a = some o) : Rd H a o := by
  rcases h a _ e with h | ⟨_, x, h⟩
  · exact .inl h
  · exact .inr ⟨x, h⟩
theorem Vw.frz {G H : Hp} (h : Vw G H) {a : Addr} {x : Obj} {o : HO} (e : G a = some (.frz x o)) : H a = some (.frz x o) := by
  rcases h a _ e with h | ⟨h, _⟩
  · exact h
  · cases h
theorem Vw.sql {K : PySem.W.Frag} {G H : Hp} (h : Vw G H) {a : Addr} {xs : List V} (e : SqL K G a xs) : SqL K H a xs := by
  rcases e with (e | ⟨o, e⟩) | e
  · exact .inl (.inl (h.lst e))
  · exact .inl (.inr ⟨o, h.frz e⟩)
  · exact .inr e
/-- a slot of a def's frame: nothing known; data that stay; data at an object of the frame's own; at an object that the caller lent to be changed; at one lent to be read -/
inductive Sl where
  | no | imm (d : D) | own (d : D) | io (d : D) | bor (d : D)
  deriving Inhabited
abbrev Env := List Sl
structure Bs where
  H0 : Hp
  G0 : Hp
  Bo : Nat → Hp
  IO : List (Nat × Addr)
inductive Ow (K : PySem.W.Frag) (G H : Hp) (p : Addr) : D → Prop
  | lst {xs : List V} {ds : List D} : H p = some (.lst xs) → xs.length ≤ sizeLine → RL K G xs ds → Ow K G H p (.lst ds)
  | dK {kvs : List (Key × V)} {ds : List (Key × D)} : H p = some (.dK kvs) → kvs.length ≤ sizeLine → kvs.map (·.1) = ds.map (·.1) → RL K G (kvs.map (·.2)) (ds.map (·.2)) → Ow K G H p (.dK ds)
  | dT {kvs : List (List Key × V)} {ds : List (List Key × D)} : H p = some (.dT kvs) → kvs.length ≤ sizeLine → kvs.map (·.1) = ds.map (·.1) → RL K G (kvs.map (·.2)) (ds.map (·.2)) → Ow K G H p (.dT ds)
section
variable {K : PySem.W.Frag} {G G' H H' : Hp} {p : Addr} {d : D}
theorem Ow.mono (e : Ext G G') (h : Ow K G H p d) : Ow K G' H p d := by
  cases h with
  | lst a l r => exact .lst a l (r.mono e)
  | dK a l k r => exact .dK a l k (r.mono e)
  | dT a l k r => exact .dT a l k (r.mono e)
theorem Ow.at' (e : H' p = H p) (h : Ow K G H p d) : Ow K G H' p d := by
  cases h with
  | lst a l r => exact .lst (e.trans a) l r
  | dK a l k r => exact .dK (e.trans a) l k r
  | dT a l k r => exact .dT (e.trans a) l k r
/-- the object there -/
theorem Ow.obj (h : Ow K G H p d) : ∃ o, H p = some o ∧ Mut (some o) ∧ ∀ G', G' p = some o → Ext G G' → R K G' (.ref p) d := by
  cases h with
  | lst a l r => exact ⟨_, a, trivial, fun G' g e => .lst g l (r.mono e)⟩
  | dK a l k r => exact ⟨_, a, trivial, fun G' g e => .dK g l k (r.mono e)⟩
  | dT a l k r => exact ⟨_, a, trivial, fun G' g e => .dT g l k (r.mono e)⟩
end
/-- the slot i holds an object of the frame's own (or lent) at p -/
def OwnAt (δ : Env) (σ : St) (i : Nat) (p : Addr) : Prop := (∃ d, δ[i]? = some (.own d) ∨ δ[i]? = some (.io d)) ∧ σ[i]? = some (some (.ref p))
def SlOk (K : PySem.W.Frag) (B : Bs) (G H : Hp) (i : Nat) (ov : Option V) : Sl → Prop
  | .no => True
  | .imm d => ∃ v, ov = some v ∧ R K G v d
  | .own d => ∃ p, ov = some (.ref p) ∧ G p = none ∧ Ow K G H p d ∧ B.H0 p = none
  | .io d => ∃ p, ov = some (.ref p) ∧ G p = none ∧ Ow K G H p d ∧ (i, p) ∈ B.IO
  | .bor d => ∃ v, ov = some v ∧ R K (B.Bo i) v d
/-- the table of by_rows's code object, by the known objects -/
def codeTab (o : Obj) : Option Addr := match o with
  | ⟨_, _, .fields vs, _⟩ => match vs.toList with
    | _ :: .str n _ :: _ => if (n == ("" : Str)) = true then (match (vs[11]? : Option Value) with
      | some (Value.ref P) => some P
      | _ => none) else none
    | _ => none
  | _ => none
def tabOf (K : PySem.W.Frag) : Option Addr := K.findSome? fun p => codeTab p.2
abbrev tabQ : Str := "by_rows.<locals>.<lambda>"
/-- neither a tuple nor a table nor a code object -/
structure NT (o : HO) : Prop where
  tup : ∀ xs, o ≠ .tup xs
  tbl : ∀ ps, o ≠ .tbl ps
  code : ∀ c q, o ≠ LamX.CodeO c q
theorem nt_lst {xs : List V} : NT (.lst xs) := ⟨fun _ e => (by cases e), fun _ e => (by cases e), fun _ _ e => (by unfold LamX.CodeO at e; cases e)⟩
theorem nt_dK {xs : List (Key × V)} : NT (.dK xs) := ⟨fun _ e => (by cases e), fun _ e => (by cases e), fun _ _ e => (by unfold LamX.CodeO at e; cases e)⟩
theorem nt_dT {xs : List (List Key × V)} : NT (.dT xs) := ⟨fun _ e => (by cases e), fun _ e => (by cases e), fun _ _ e => (by unfold LamX.CodeO at e; cases e)⟩
theorem tabS_upd {H : Hp} {P p : Addr} {q : Str} {o o' : HO} (t : LamX.TabS H P q) (h : H p = some o) (n : NT o) : LamX.TabS (upd H p o') P q := by
  obtain ⟨ps, h1, h2, h3⟩ := t
  have c1 : P ≠ p := fun c => by subst c; rw [h] at h1; cases h1; exact n.tbl _ rfl
  refine ⟨ps, by rw [upd_ne c1]; exact h1, h2, fun pos cv hc => ?_⟩
  obtain ⟨c, e1, e2⟩ := h3 pos cv hc
  have c2 : c ≠ p := fun z => by subst z; rw [h] at e2; cases e2; exact n.code _ _ rfl
  exact ⟨c, e1, by rw [upd_ne c2]; exact e2⟩
theorem tabS_new {H : Hp} {P p : Addr} {q : Str} {o' : HO} (t : LamX.TabS H P q) (h : H p = none) : LamX.TabS (upd H p o') P q := t.ext fun b o e => by rw [upd_ne (ne_of_none e h)]; exact e
theorem Ow.nt {K : PySem.W.Frag} {G H : Hp} {p : Addr} {d : D} (h : Ow K G H p d) : ∃ o, H p = some o ∧ NT o := by
  cases h with
  | lst a l r => exact ⟨_, a, nt_lst⟩
  | dK a l k r => exact ⟨_, a, nt_dK⟩
  | dT a l k r => exact ⟨_, a, nt_dT⟩
theorem notbl_upd {G : Hp} {p : Addr} {o : HO} (h : ∀ b ps, G b ≠ some (.tbl ps)) (n : ∀ ps, o ≠ .tbl ps) : ∀ b ps, upd G p o b ≠ some (.tbl ps) := fun b ps e => by
  by_cases c : b = p
  · rw [c, upd_same] at e; cases e; exact n _ rfl
  · rw [upd_ne c] at e; exact h b ps e
theorem mut_notbl {o : HO} (h : Mut (some o)) : ∀ ps, o ≠ .tbl ps := fun xs e => by subst e; exact h
structure At (K : PySem.W.Frag) (B : Bs) (G : Hp) (δ : Env) (σ : St) (H : Hp) : Prop where
  vw : Vw G H
  g0 : Ext B.G0 G
  keep : ∀ a o, B.H0 a = some o → (∀ i, (i, a) ∉ B.IO) → H a = some o
  dom : ∀ a, B.H0 a ≠ none → H a ≠ none
  leak : ∀ a o, B.H0 a = some o → (∀ xs, o ≠ .tup xs) → B.G0 a = none → G a = none
  iok : ∀ i a, (i, a) ∈ B.IO → B.G0 a = none ∧ B.H0 a ≠ none ∧ (∀ j, B.Bo j a = none) ∧ ∃ o, H a = some o ∧ Mut (some o)
  bo : ∀ j, Vw (B.Bo j) H
  bod : ∀ j a, B.Bo j a ≠ none → B.H0 a ≠ none
  len : δ.length = σ.length
  sl : ∀ i s, δ[i]? = some s → ∃ ov, σ[i]? = some ov ∧ SlOk K B G H i ov s
  apart : ∀ i j p, OwnAt δ σ i p → OwnAt δ σ j p → i = j
  tb : (∀ P, tabOf K = some P → LamX.TabS H P tabQ) ∧ (∀ b ps, B.H0 b ≠ some (.tbl ps)) ∧ (∀ b ps, G b ≠ some (.tbl ps)) ∧ (∀ j b ps, B.Bo j b ≠ some (.tbl ps)) ∧ ∀ i b xs, (i, b) ∈ B.IO → B.H0 b ≠ some (.tup xs)
section
variable {K : PySem.W.Frag} {B : Bs} {G G' H H' : Hp} {δ : Env} {σ : St} {i : Nat} {p : Addr} {o : HO} {d : D} {v : V}
theorem mut_notup (h : Mut (some o)) : ∀ xs, o ≠ .tup xs := fun xs e => by subst e; exact h
theorem At.imm (h : At K B G δ σ H) (e : δ[i]? = some (.imm d)) : ∃ v, σ[i]? = some (some v) ∧ R K G v d := by
  obtain ⟨ov, h1, v, rfl, r⟩ := h.sl i _ e
  exact ⟨v, h1, r⟩
theorem At.bor (h : At K B G δ σ H) (e : δ[i]? = some (.bor d)) : ∃ v, σ[i]? = some (some v) ∧ R K (B.Bo i) v d := by
  obtain ⟨ov, h1, v, rfl, r⟩ := h.sl i _ e
  exact ⟨v, h1, r⟩
theorem At.own (h : At K B G δ σ H) (e : δ[i]? = some (.own d)) : ∃ p, σ[i]? = some (some (.ref p)) ∧ G p = none ∧ Ow K G H p d ∧ B.H0 p = none := by
  obtain ⟨ov, h1, p, rfl, r⟩ := h.sl i _ e
  exact ⟨p, h1, r⟩
theorem At.io (h : At K B G δ σ H) (e : δ[i]? = some (.io d)) : ∃ p, σ[i]? = some (some (.ref p)) ∧ G p = none ∧ Ow K G H p d ∧ (i, p) ∈ B.IO := by
  obtain ⟨ov, h1, p, rfl, r⟩ := h.sl i _ e
  exact ⟨p, h1, r⟩
/-- own or lent -/
theorem At.ownAt (h : At K B G δ σ H) {j : Nat} (e : OwnAt δ σ j p) : G p = none ∧ ∃ d, Ow K G H p d := by
  obtain ⟨⟨d, e | e⟩, e2⟩ := e
  · obtain ⟨q, h1, h2, h3, _⟩ := h.own e
    rw [h1] at e2; cases e2
    exact ⟨h2, d, h3⟩
  · obtain ⟨q, h1, h2, h3, _⟩ := h.io e
    rw [h1] at e2; cases e2
    exact ⟨h2, d, h3⟩
theorem At.lt (h : At K B G δ σ H) {s : Sl} (e : δ[i]? = some s) : i < σ.length := by
  have := (List.getElem?_eq_some_iff.mp e).1
  rw [← h.len]; exact this
/-- H grows by an object that nobody knows -/
theorem At.alloc (h : At K B G δ σ H) (n : H p = none) : At K B G δ σ (upd H p o) := by
  have ne : ∀ a, H a ≠ none → a ≠ p := fun a q z => q (by rw [z]; exact n)
  have vw : ∀ F, Vw F H → Vw F (upd H p o) := fun F q a u e => by rw [upd_ne (ne a (q.there e))]; exact q a u e
  refine ⟨vw _ h.vw, h.g0, fun a u e z => ?_, fun a e => ?_, h.leak, fun i a e => ?_, fun j => vw _ (h.bo j), h.bod, h.len, fun i s e => ?_, h.apart, ⟨fun P hP => tabS_new (h.tb.1 P hP) n, h.tb.2⟩⟩
  · have q := h.keep a u e z
    rw [upd_ne (ne a (by rw [q]; simp))]; exact q
  · rw [upd_ne (ne a (h.dom a e))]; exact h.dom a e
  · obtain ⟨a1, a2, a3, u, a4, a5⟩ := h.iok i a e
    exact ⟨a1, a2, a3, u, by rw [upd_ne (ne a (by rw [a4]; simp))]; exact a4, a5⟩
  · obtain ⟨ov, h1, h2⟩ := h.sl i s e
    refine ⟨ov, h1, ?_⟩
    cases s with
    | no => trivial
    | imm d => exact h2
    | bor d => exact h2
    | own d =>
      obtain ⟨q, a1, a2, a3, a4⟩ := h2
      obtain ⟨u, b1, _⟩ := a3.obj
      exact ⟨q, a1, a2, a3.at' (upd_ne (ne q (by rw [b1]; simp))), a4⟩
    | io d =>
      obtain ⟨q, a1, a2, a3, a4⟩ := h2
      obtain ⟨u, b1, _⟩ := a3.obj
      exact ⟨q, a1, a2, a3.at' (upd_ne (ne q (by rw [b1]; simp))), a4⟩
theorem At.fresh0 (h : At K B G δ σ H) (n : H p = none) : B.H0 p = none := by
  cases q : B.H0 p with
  | none => rfl
  | some u => exact absurd n (h.dom p (by rw [q]; simp))
theorem At.noOwn (h : At K B G δ σ H) (n : H p = none) : ∀ j, ¬ OwnAt δ σ j p := fun j e => by
  obtain ⟨_, d, w⟩ := h.ownAt e
  obtain ⟨u, b, _⟩ := w.obj
  rw [n] at b; cases b
/-- an object that H has, nobody's own, is told to be fixed -/
theorem At.fix (h : At K B G δ σ H) (e : H p = some o) (g : G p = none) (h0 : B.H0 p = none) (no : ∀ j, ¬ OwnAt δ σ j p) (nt : ∀ ps, o ≠ .tbl ps) : At K B (upd G p o) δ σ H := by
  have ex : Ext G (upd G p o) := Ext.new g
  refine ⟨fun a u q => ?_, h.g0.trans ex, h.keep, h.dom, fun a u q t z => ?_, h.iok, h.bo, h.bod, h.len, fun i s q => ?_, h.apart, ⟨h.tb.1, h.tb.2.1, notbl_upd h.tb.2.2.1 nt, h.tb.2.2.2⟩⟩
  · by_cases c : a = p
    · subst c; rw [upd_same] at q; cases q; exact .inl e
    · rw [upd_ne c] at q; exact h.vw a u q
  · have c : a ≠ p := fun c => by rw [c, h0] at q; cases q
    rw [upd_ne c]; exact h.leak a u q t z
  · obtain ⟨ov, h1, h2⟩ := h.sl i s q
    refine ⟨ov, h1, ?_⟩
    cases s with
    | no => trivial
    | imm d => obtain ⟨v, a, r⟩ := h2; exact ⟨v, a, r.mono ex⟩
    | bor d => exact h2
    | own d =>
      obtain ⟨b, a1, a2, a3, a4⟩ := h2
      subst a1
      have c : b ≠ p := fun c => by subst c; exact no i ⟨⟨d, .inl q⟩, h1⟩
      exact ⟨b, rfl, by rw [upd_ne c]; exact a2, a3.mono ex, a4⟩
    | io d =>
      obtain ⟨b, a1, a2, a3, a4⟩ := h2
      subst a1
      have c : b ≠ p := fun c => by subst c; exact no i ⟨⟨d, .inr q⟩, h1⟩
      exact ⟨b, rfl, by rw [upd_ne c]; exact a2, a3.mono ex, a4⟩
/-- a new object, told to be fixed -/
theorem At.laid (h : At K B G δ σ H) (n : H p = none) (nt : ∀ ps, o ≠ .tbl ps) : At K B (upd G p o) δ σ (upd H p o) :=
  (h.alloc n).fix upd_same (h.vw.none n) (h.fresh0 n) (h.noOwn n) nt
/-- tuples that H has may always be told -/
theorem At.tuple (h : At K B G δ σ H) {xs : List V} (e : H p = some (.tup xs)) : ∃ G', At K B G' δ σ H ∧ Ext G G' ∧ G' p = some (.tup xs) := by
  cases g : G p with
  | some u =>
    have q : u = .tup xs := by
      rcases h.vw p u g with z | ⟨_, x, z⟩
      · rw [e] at z; exact (Option.some.inj z).symm
      · rw [e] at z; cases z
    subst q
    exact ⟨G, h, Ext.refl G, g⟩
  | none =>
    have ex : Ext G (upd G p (.tup xs)) := Ext.new g
    have no : ∀ j, ¬ OwnAt δ σ j p := fun j q => by
      obtain ⟨_, d, w⟩ := h.ownAt q
      obtain ⟨u, b, m, _⟩ := w.obj
      rw [e] at b; cases b; exact m
    refine ⟨upd G p (.tup xs), ⟨fun a u q => ?_, h.g0.trans ex, h.keep, h.dom, fun a u q t z => ?_, h.iok, h.bo, h.bod, h.len, fun i s q => ?_, h.apart, ⟨h.tb.1, h.tb.2.1, notbl_upd h.tb.2.2.1 (fun _ z => by cases z), h.tb.2.2.2⟩⟩, ex, upd_same⟩
    · by_cases c : a = p
      · subst c; rw [upd_same] at q; cases q; exact .inl e
      · rw [upd_ne c] at q; exact h.vw a u q
    · have c : a ≠ p := fun c => by
        subst c
        by_cases io : ∀ i, (i, a) ∉ B.IO
        · have := h.keep a u q io
          rw [e] at this; cases this
          exact t xs rfl
        · have ⟨i, io⟩ : ∃ i, (i, a) ∈ B.IO := Classical.byContradiction fun z => io fun i hi => z ⟨i, hi⟩
          obtain ⟨_, _, _, u', z1, z2⟩ := h.iok i a io
          rw [e] at z1; cases z1; exact z2
      rw [upd_ne c]; exact h.leak a u q t z
    · obtain ⟨ov, h1, h2⟩ := h.sl i s q
      refine ⟨ov, h1, ?_⟩
      cases s with
      | no => trivial
      | imm d => obtain ⟨v, a, r⟩ := h2; exact ⟨v, a, r.mono ex⟩
      | bor d => exact h2
      | own d =>
        obtain ⟨b, a1, a2, a3, a4⟩ := h2
        subst a1
        have c : b ≠ p := fun c => by subst c; exact no i ⟨⟨d, .inl q⟩, h1⟩
        exact ⟨b, rfl, by rw [upd_ne c]; exact a2, a3.mono ex, a4⟩
      | io d =>
        obtain ⟨b, a1, a2, a3, a4⟩ := h2
        subst a1
        have c : b ≠ p := fun c => by subst c; exact no i ⟨⟨d, .inr q⟩, h1⟩
        exact ⟨b, rfl, by rw [upd_ne c]; exact a2, a3.mono ex, a4⟩
theorem get_set {α : Type} {l : List α} {i j : Nat} {x y : α} (h : (l.set i x)[j]? = some y) : (i = j ∧ y = x ∧ i < l.length) ∨ (i ≠ j ∧ l[j]? = some y) := by
  by_cases c : i = j
  · subst c
    by_cases z : i < l.length
    · rw [List.getElem?_set_self z] at h; exact .inl ⟨rfl, (Option.some.inj h).symm, z⟩
    · rw [List.getElem?_eq_none (by rw [List.length_set]; omega)] at h; cases h
  · rw [List.getElem?_set_ne c] at h; exact .inr ⟨c, h⟩
/-- a slot is stored: data that stay -/
theorem At.setImm (h : At K B G δ σ H) (r : R K G v d) (i : Nat) : At K B G (δ.set i (.imm d)) (σ.set i (some v)) H := by
  refine ⟨h.vw, h.g0, h.keep, h.dom, h.leak, h.iok, h.bo, h.bod, by rw [List.length_set, List.length_set]; exact h.len, fun j s e => ?_, fun j k p e1 e2 => ?_, h.tb⟩
  · rcases get_set e with ⟨rfl, rfl, z⟩ | ⟨c, e⟩
    · exact ⟨some v, List.getElem?_set_self (by rw [← h.len]; exact z), v, rfl, r⟩
    · obtain ⟨ov, h1, h2⟩ := h.sl j s e
      exact ⟨ov, by rw [List.getElem?_set_ne c]; exact h1, h2⟩
  · have back : ∀ j, OwnAt (δ.set i (.imm d)) (σ.set i (some v)) j p → OwnAt δ σ j p := fun j e => by
      obtain ⟨⟨d', e | e⟩, e2⟩ := e
      · rcases get_set e with ⟨_, q, _⟩ | ⟨c, e⟩
        · cases q
        · rw [List.getElem?_set_ne c] at e2; exact ⟨⟨d', .inl e⟩, e2⟩
      · rcases get_set e with ⟨_, q, _⟩ | ⟨c, e⟩
        · cases q
        · rw [List.getElem?_set_ne c] at e2; exact ⟨⟨d', .inr e⟩, e2⟩
    exact h.apart j k p (back j e1) (back k e2)
/-- .. an object of its own -/
theorem At.setOwn (h : At K B G δ σ H) (g : G p = none) (w : Ow K G H p d) (h0 : B.H0 p = none) (no : ∀ j, ¬ OwnAt δ σ j p) (i : Nat) : At K B G (δ.set i (.own d)) (σ.set i (some (.ref p))) H := by
  refine ⟨h.vw, h.g0, h.keep, h.dom, h.leak, h.iok, h.bo, h.bod, by rw [List.length_set, List.length_set]; exact h.len, fun j s e => ?_, fun j k q e1 e2 => ?_, h.tb⟩
  · rcases get_set e with ⟨rfl, rfl, z⟩ | ⟨c, e⟩
    · exact ⟨some (.ref p), List.getElem?_set_self (by rw [← h.len]; exact z), p, rfl, g, w, h0⟩
    · obtain ⟨ov, h1, h2⟩ := h.sl j s e
      exact ⟨ov, by rw [List.getElem?_set_ne c]; exact h1, h2⟩
  · have back : ∀ j, OwnAt (δ.set i (.own d)) (σ.set i (some (.ref p))) j q → (i = j ∧ q = p) ∨ (i ≠ j ∧ OwnAt δ σ j q) := fun j e => by
      obtain ⟨⟨d', e⟩, e2⟩ := e
      by_cases c : i = j
      · subst c
        rcases get_set e2 with ⟨_, q2, _⟩ | ⟨c, _⟩
        · cases q2; exact .inl ⟨rfl, rfl⟩
        · exact absurd rfl c
      · rw [List.getElem?_set_ne c] at e2
        refine .inr ⟨c, ⟨d', ?_⟩, e2⟩
        rcases e with e | e
        · rw [List.getElem?_set_ne c] at e; exact .inl e
        · rw [List.getElem?_set_ne c] at e; exact .inr e
    rcases back j e1 with ⟨a1, a2⟩ | ⟨a1, a2⟩ <;> rcases back k e2 with ⟨b1, b2⟩ | ⟨b1, b2⟩
    · omega
    · subst a2; exact absurd b2 (no k)
    · subst b2; exact absurd a2 (no j)
    · exact h.apart j k q a2 b2
/-- forgetting -/
theorem At.forget (h : At K B G δ σ H) {δ' : Env} {σ' : St} (hl : δ'.length = σ'.length) (w : ∀ (i : Nat) (s : Sl), δ'[i]? = some s → s = Sl.no ∨ (δ[i]? = some s ∧ σ'[i]? = σ[i]?)) : At K B G δ' σ' H := by
  refine ⟨h.vw, h.g0, h.keep, h.dom, h.leak, h.iok, h.bo, h.bod, hl, fun j s e => ?_, fun j k q e1 e2 => ?_, h.tb⟩
  · rcases w j s e with rfl | ⟨e1, e2⟩
    · have : j < σ'.length := by rw [← hl]; exact (List.getElem?_eq_some_iff.mp e).1
      exact ⟨σ'[j], List.getElem?_eq_getElem this, trivial⟩
    · obtain ⟨ov, h1, h2⟩ := h.sl j s e1
      exact ⟨ov, e2.trans h1, h2⟩
  · have back : ∀ j, OwnAt δ' σ' j q → OwnAt δ σ j q := fun j e => by
      obtain ⟨⟨d', e | e⟩, e2⟩ := e
      · rcases w j _ e with z | ⟨z1, z2⟩
        · cases z
        · exact ⟨⟨d', .inl z1⟩, z2 ▸ e2⟩
      · rcases w j _ e with z | ⟨z1, z2⟩
        · cases z
        · exact ⟨⟨d', .inr z1⟩, z2 ▸ e2⟩
    exact h.apart j k q (back j e1) (back k e2)
/-- a slot's own object is told to be fixed from now on -/
theorem At.freeze (h : At K B G δ σ H) (e : δ[i]? = some (.own d)) : ∃ G' p, σ[i]? = some (some (.ref p)) ∧ R K G' (.ref p) d ∧ Ext G G' ∧ At K B G' (δ.set i (.imm d)) σ H := by
  obtain ⟨p, h1, h2, h3, h4⟩ := h.own e
  obtain ⟨o, b1, bm, b2⟩ := h3.obj
  have ex : Ext G (upd G p o) := Ext.new h2
  have hf : At K B G (δ.set i .no) σ H := h.forget (by rw [List.length_set]; exact h.len) fun j s q => by
    rcases get_set q with ⟨rfl, rfl, _⟩ | ⟨c, q⟩
    · exact .inl rfl
    · exact .inr ⟨q, rfl⟩
  have hg := hf.fix b1 h2 h4 (fun j q => by
    have c : i ≠ j := fun c => by
      subst c
      obtain ⟨⟨d', z | z⟩, _⟩ := q
      · rcases get_set z with ⟨_, y, _⟩ | ⟨y, _⟩
        · cases y
        · exact y rfl
      · rcases get_set z with ⟨_, y, _⟩ | ⟨y, _⟩
        · cases y
        · exact y rfl
    have q' : OwnAt δ σ j p := by
      obtain ⟨⟨d', z⟩, y⟩ := q
      rw [List.getElem?_set_ne c] at z
      exact ⟨⟨d', z⟩, y⟩
    exact c (h.apart i j p ⟨⟨d, .inl e⟩, h1⟩ q')) (mut_notbl bm)
  have hr : R K (upd G p o) (.ref p) d := b2 _ upd_same ex
  refine ⟨upd G p o, p, h1, hr, ex, ?_⟩
  have hi := hg.setImm hr i
  rw [List.set_set] at hi
  have : σ.set i (some (.ref p)) = σ := by
    apply List.ext_getElem?
    intro j
    by_cases c : i = j
    · subst c
      rw [List.getElem?_set_self (h.lt e)]; exact h1.symm
    · rw [List.getElem?_set_ne c]
  rw [this] at hi
  exact hi
/-- an own (or lent) object is changed -/
theorem At.change (h : At K B G δ σ H) {d' : D} {s s' : Sl} (e : δ[i]? = some s) (hs : (s = .own d ∧ s' = .own d') ∨ (s = .io d ∧ s' = .io d')) (hp : σ[i]? = some (some (.ref p))) (m : Mut (some o)) (w : Ow K G (upd H p o) p d') :
    At K B G (δ.set i s') σ (upd H p o) := by
  have oa : OwnAt δ σ i p := by
    rcases hs with ⟨rfl, _⟩ | ⟨rfl, _⟩
    · exact ⟨⟨d, .inl e⟩, hp⟩
    · exact ⟨⟨d, .inr e⟩, hp⟩
  obtain ⟨gp, dd, w0⟩ := h.ownAt oa
  obtain ⟨o0, hp0, m0, _⟩ := w0.obj
  have back : ∀ j q, OwnAt (δ.set i s') σ j q → OwnAt δ σ j q := fun j q z => by
    by_cases c : i = j
    · subst c
      obtain ⟨_, z2⟩ := z
      rw [hp] at z2; cases z2; exact oa
    · obtain ⟨⟨d', z⟩, y⟩ := z
      rw [List.getElem?_set_ne c] at z
      exact ⟨⟨d', z⟩, y⟩
  have bop : ∀ j, B.Bo j p = none := fun j => by
    rcases hs with ⟨rfl, _⟩ | ⟨rfl, _⟩
    · obtain ⟨q, h1, _, _, h4⟩ := h.own e
      rw [hp] at h1; cases h1
      cases z : B.Bo j p with
      | none => rfl
      | some u => exact absurd h4 (h.bod j p (by rw [z]; simp))
    · obtain ⟨q, h1, _, _, h4⟩ := h.io e
      rw [hp] at h1; cases h1
      exact (h.iok i p h4).2.2.1 j
  refine ⟨fun a u q => ?_, h.g0, fun a u q z => ?_, fun a q => ?_, h.leak, fun j a q => ?_, fun jj a u q => ?_, h.bod, by rw [List.length_set]; exact h.len, fun j t q => ?_, fun j k q e1 e2 => h.apart j k q (back j q e1) (back k q e2), ⟨fun P hP => (by obtain ⟨oo, x1, x2⟩ := w0.nt; exact tabS_upd (h.tb.1 P hP) x1 x2), h.tb.2⟩⟩
  · rw [upd_ne (fun c => by rw [c, gp] at q; cases q)]; exact h.vw a u q
  · have c : a ≠ p := fun c => by
      subst c
      rcases hs with ⟨rfl, _⟩ | ⟨rfl, _⟩
      · obtain ⟨b, h1, _, _, h4⟩ := h.own e
        rw [hp] at h1; cases h1
        rw [h4] at q; cases q
      · obtain ⟨b, h1, _, _, h4⟩ := h.io e
        rw [hp] at h1; cases h1
        exact z i h4
    rw [upd_ne c]; exact h.keep a u q z
  · by_cases c : a = p
    · rw [c, upd_same]; simp
    · rw [upd_ne c]; exact h.dom a q
  · obtain ⟨a1, a2, a3, u, a4, a5⟩ := h.iok j a q
    refine ⟨a1, a2, a3, ?_⟩
    by_cases c : a = p
    · exact ⟨o, by rw [c, upd_same], m⟩
    · exact ⟨u, by rw [upd_ne c]; exact a4, a5⟩
  · rw [upd_ne (fun c => by rw [c, bop] at q; cases q)]; exact h.bo jj a u q
  · rcases get_set q with ⟨rfl, rfl, _⟩ | ⟨c, q⟩
    · refine ⟨some (.ref p), hp, ?_⟩
      rcases hs with ⟨rfl, rfl⟩ | ⟨rfl, rfl⟩
      · obtain ⟨b, h1, _, _, h4⟩ := h.own e
        rw [hp] at h1; cases h1
        exact ⟨p, rfl, gp, w, h4⟩
      · obtain ⟨b, h1, _, _, h4⟩ := h.io e
        rw [hp] at h1; cases h1
        exact ⟨p, rfl, gp, w, h4⟩
    · obtain ⟨ov, h1, h2⟩ := h.sl j t q
      refine ⟨ov, h1, ?_⟩
      cases t with
      | no => trivial
      | imm d => exact h2
      | bor d => exact h2
      | own d =>
        obtain ⟨b, a1, a2, a3, a4⟩ := h2
        subst a1
        have cb : b ≠ p := fun cb => by subst cb; exact c (h.apart i j b oa ⟨⟨d, .inl q⟩, h1⟩)
        exact ⟨b, rfl, a2, a3.at' (upd_ne cb), a4⟩
      | io d =>
        obtain ⟨b, a1, a2, a3, a4⟩ := h2
        subst a1
        have cb : b ≠ p := fun cb => by subst cb; exact c (h.apart i j b oa ⟨⟨d, .inr q⟩, h1⟩)
        exact ⟨b, rfl, a2, a3.at' (upd_ne cb), a4⟩
end
end M
set_option Elab.async false
set_option linter.all false
set_option maxRecDepth 100000
namespace M
open PySem L2 PySem.Spec PyProof.Rows
structure Exn where
  cls : Str
  val : D
abbrev Mo (α : Type) := Env → Option (Except Exn α × Env)
def Mo.ret {α : Type} (a : α) : Mo α := fun δ => some (.ok a, δ)
def Mo.bind {α β : Type} (m : Mo α) (k : α → Mo β) : Mo β := fun δ => match m δ with
  | none => none
  | some (.error x, δ') => some (.error x, δ')
  | some (.ok a, δ') => k a δ'
def Mo.lift {α : Type} (o : Option α) : Mo α := fun δ => match o with
  | none => none
  | some a => some (.ok a, δ)
theorem bind_ok {α β : Type} {m : Mo α} {k : α → Mo β} {δ δ1 : Env} {a : α} (h : m δ = some (.ok a, δ1)) : Mo.bind m k δ = k a δ1 := by unfold Mo.bind; rw [h]
theorem lift_some {α : Type} {o : Option α} {δ : Env} {r : Except Exn α × Env} (h : Mo.lift o δ = some r) : ∃ a, o = some a ∧ r = (.ok a, δ) := by
  unfold Mo.lift at h
  cases o with
  | none => cases h
  | some a => exact ⟨a, rfl, (Option.some.inj h).symm⟩
/-- what is wanted where an exception leaves -/
abbrev WK := Exn → Env → St → Hp → Hp → Prop
def W0 : WK := fun _ _ _ _ _ => False
def Post {α : Type} (K : PySem.W.Frag) (W : WK) (B : Bs) (G : Hp) (σ : St) (r : Except Exn α) (δ' : Env) (ok : α → Hp → Hp → Prop) : Prop := match r with
  | .ok a => ∀ G' H', At K B G' δ' σ H' → Ext G G' → ok a G' H'
  | .error x => ∀ G' σ' H', At K B G' δ' σ' H' → Ext G G' → W x δ' σ' G' H'
theorem Post.mono {α : Type} {K : PySem.W.Frag} {W : WK} {B : Bs} {G G1 : Hp} {σ : St} {r : Except Exn α} {δ' : Env} {ok : α → Hp → Hp → Prop} (h : Post K W B G σ r δ' ok) (e : Ext G G1) : Post K W B G1 σ r δ' ok := by
  cases r with
  | ok a => exact fun G' H' a1 e1 => h G' H' a1 (e.trans e1)
  | error x => exact fun G' σ' H' a1 e1 => h G' σ' H' a1 (e.trans e1)
/-- a result of its own: a new object that nobody else has -/
def Fr1 (K : PySem.W.Frag) (B : Bs) (G : Hp) (δ : Env) (σ : St) (H : Hp) (p : Addr) (d : D) : Prop := G p = none ∧ B.H0 p = none ∧ (∀ j, ¬ OwnAt δ σ j p) ∧ Ow K G H p d
def tE (K : PySem.W.Frag) (W : WK) (E : Mo D) : TE := fun σ H Q => ∃ B G δ r δ', At K B G δ σ H ∧ E δ = some (r, δ') ∧ Post K W B G σ r δ' (fun d G' H' => ∀ v, R K G' v d → Q v H')
def tO (K : PySem.W.Frag) (W : WK) (E : Mo D) : TE := fun σ H Q => ∃ B G δ r δ', At K B G δ σ H ∧ E δ = some (r, δ') ∧ Post K W B G σ r δ' (fun d G' H' => ∀ p, Fr1 K B G' δ' σ H' p d → Q (.ref p) H')
def tT (K : PySem.W.Frag) (W : WK) (T : Mo Bool) : TT := fun σ H Q => ∃ B G δ r δ', At K B G δ σ H ∧ T δ = some (r, δ') ∧ Post K W B G σ r δ' (fun b G' H' => Q b H')
/-- an argument: data; a slot's object to be changed; a slot's object to be read -/
inductive Ag where
  | im (d : D) | vr (i : Nat) | vb (i : Nat)
def AgOk (K : PySem.W.Frag) (G : Hp) (σ : St) (v : V) : Ag → Prop
  | .im d => R K G v d
  | .vr i => σ[i]? = some (some v)
  | .vb i => σ[i]? = some (some v)
abbrev AgsOk (K : PySem.W.Frag) (G : Hp) (σ : St) : List V → List Ag → Prop := Paired (AgOk K G σ)
def tA (K : PySem.W.Frag) (W : WK) (A : Mo (List Ag)) : TA := fun σ H Q => ∃ B G δ r δ', At K B G δ σ H ∧ A δ = some (r, δ') ∧ Post K W B G σ r δ' (fun as G' H' => ∀ vs, AgsOk K G' σ vs as → Q vs H')
section
variable (X : Cx) (W : WK)
def DE (e : Expr) (E : Mo D) : Prop := PE X e (tE X.K W E)
def DO (e : Expr) (E : Mo D) : Prop := PE X e (tO X.K W E)
def DT (e : Expr) (T : Mo Bool) : Prop := PT X e (tT X.K W T)
def DW (e : Expr) (T : Mo Bool) : Prop := PW X e (tT X.K W T)
def DA (es : List Expr) (A : Mo (List Ag)) : Prop := PA X es (tA X.K W A)
end
section
variable {K : PySem.W.Frag} {W : WK} {B : Bs} {G G' H H' : Hp} {δ δ' : Env} {σ : St} {α β : Type} {r : Except Exn β} {ok : β → Hp → Hp → Prop}
theorem tE_bind {E : Mo D} {k : D → Mo β} {Q : VK} (a : At K B G δ σ H) (h : Mo.bind E k δ = some (r, δ')) (post : Post K W B G σ r δ' ok)
    (q : ∀ v H1 G1 δ1 d, At K B G1 δ1 σ H1 → Ext G G1 → R K G1 v d → k d δ1 = some (r, δ') → Post K W B G1 σ r δ' ok → Q v H1) : tE K W E σ H Q := by
  unfold Mo.bind at h
  cases e : E δ with
  | none => rw [e] at h; cases h
  | some z =>
    obtain ⟨x, δ1⟩ := z
    rw [e] at h
    cases x with
    | error x => cases h; exact ⟨B, G, δ, .error x, _, a, e, post⟩
    | ok d => exact ⟨B, G, δ, .ok d, δ1, a, e, fun G1 H1 a1 e1 v rv => q v H1 G1 δ1 d a1 e1 rv h (post.mono e1)⟩
theorem tT_bind {E : Mo Bool} {k : Bool → Mo β} {Q : Bool → Hp → Prop} (a : At K B G δ σ H) (h : Mo.bind E k δ = some (r, δ')) (post : Post K W B G σ r δ' ok)
    (q : ∀ H1 G1 δ1 d, At K B G1 δ1 σ H1 → Ext G G1 → k d δ1 = some (r, δ') → Post K W B G1 σ r δ' ok → Q d H1) : tT K W E σ H Q := by
  unfold Mo.bind at h
  cases e : E δ with
  | none => rw [e] at h; cases h
  | some z =>
    obtain ⟨x, δ1⟩ := z
    rw [e] at h
    cases x with
    | error x => cases h; exact ⟨B, G, δ, .error x, _, a, e, post⟩
    | ok d => exact ⟨B, G, δ, .ok d, δ1, a, e, fun G1 H1 a1 e1 => q H1 G1 δ1 d a1 e1 h (post.mono e1)⟩
theorem tA_bind {E : Mo (List Ag)} {k : List Ag → Mo β} {Q : List V → Hp → Prop} (a : At K B G δ σ H) (h : Mo.bind E k δ = some (r, δ')) (post : Post K W B G σ r δ' ok)
    (q : ∀ vs H1 G1 δ1 d, At K B G1 δ1 σ H1 → Ext G G1 → AgsOk K G1 σ vs d → k d δ1 = some (r, δ') → Post K W B G1 σ r δ' ok → Q vs H1) : tA K W E σ H Q := by
  unfold Mo.bind at h
  cases e : E δ with
  | none => rw [e] at h; cases h
  | some z =>
    obtain ⟨x, δ1⟩ := z
    rw [e] at h
    cases x with
    | error x => cases h; exact ⟨B, G, δ, .error x, _, a, e, post⟩
    | ok d => exact ⟨B, G, δ, .ok d, δ1, a, e, fun G1 H1 a1 e1 v rv => q v H1 G1 δ1 d a1 e1 rv h (post.mono e1)⟩
end
section
variable {X : Cx} {W : WK} {e a b c : Expr} {pos : Pos} {E Ea Eb Ec : Mo D} {T Ta Tb : Mo Bool}
theorem PE.weak {t t' : TE} (h : PE X e t) (w : ∀ σ H Q, t' σ H Q → t σ H Q) : PE X e t' := ⟨fun pins s σ H Q I q => h.run pins s σ H Q I (w σ H Q q)⟩
theorem PT.weak {t t' : TT} (h : PT X e t) (w : ∀ σ H Q, t' σ H Q → t σ H Q) : PT X e t' := ⟨fun pins s σ H Q I q => h.run pins s σ H Q I (w σ H Q q)⟩
theorem PW.weak {t t' : TT} (h : PW X e t) (w : ∀ σ H Q, t' σ H Q → t σ H Q) : PW X e t' := ⟨fun wh pins s σ H Q I q => h.run wh pins s σ H Q I (w σ H Q q)⟩
theorem PA.weak {es : List Expr} {t t' : TA} (h : PA X es t) (w : ∀ σ H Q, t' σ H Q → t σ H Q) : PA X es t' := ⟨fun po pins s σ H Q I q => h.run po pins s σ H Q I (w σ H Q q)⟩
theorem PS.weak {st : Stmt} {t t' : TS} (h : PS X st t) (w : ∀ D σ H, t' D σ H → t D σ H) : PS X st t' := ⟨fun pins s σ H D I q => h.run pins s σ H D I (w D σ H q)⟩
theorem PSs.weak {st : List Stmt} {t t' : TS} (h : PSs X st t) (w : ∀ D σ H, t' D σ H → t D σ H) : PSs X st t' := ⟨fun pins s σ H D I q => h.run pins s σ H D I (w D σ H q)⟩
theorem PE.or {t u : TE} (h : PE X e t) (h' : PE X e u) : PE X e (fun σ H Q => t σ H Q ∨ u σ H Q) := ⟨fun pins s σ H Q I q => q.elim (h.run pins s σ H Q I) (h'.run pins s σ H Q I)⟩
theorem PS.or {st : Stmt} {t u : TS} (h : PS X st t) (h' : PS X st u) : PS X st (fun D σ H => t D σ H ∨ u D σ H) := ⟨fun pins s σ H D I q => q.elim (h.run pins s σ H D I) (h'.run pins s σ H D I)⟩
theorem PI.or {tg it : Expr} {t u : TI} (h : PI X tg it t) (h' : PI X tg it u) : PI X tg it (fun σ H R => t σ H R ∨ u σ H R) := ⟨fun pins s σ H R I q => q.elim (h.run pins s σ H R I) (h'.run pins s σ H R I)⟩
theorem PG.or {tg : Expr} {t u : TG} (h : PG X tg t) (h' : PG X tg u) : PG X tg (fun v σ H Q => t v σ H Q ∨ u v σ H Q) := ⟨fun pins s σ H v uu Q I rv q => q.elim (h.run pins s σ H v uu Q I rv) (h'.run pins s σ H v uu Q I rv)⟩
/-- a new object as data -/
theorem DO.de (h : DO X W e E) : DE X W e E := PE.weak h fun σ H Q ⟨B, G, δ, r, δ', a, e1, post⟩ => by
  refine ⟨B, G, δ, r, δ', a, e1, ?_⟩
  cases r with
  | error x => exact post
  | ok d =>
    refine fun G' H' a' ex p hp => ?_
    obtain ⟨h1, h2, h3, h4⟩ := hp
    obtain ⟨o, q1, qm, q2⟩ := h4.obj
    exact post (upd G' p o) H' (a'.fix q1 h1 h2 h3 (mut_notbl qm)) (ex.trans (Ext.new h1)) (.ref p) (q2 _ upd_same (Ext.new h1))
def eC (d : D) : Mo D := Mo.ret d
theorem de_c {v : V} {d : D} (h : PE X e (tC v)) (hr : ∀ G, R X.K G v d) : DE X W e (eC d) := PE.weak h fun σ H Q ⟨B, G, δ, r, δ', a, e1, post⟩ => by
  cases e1
  exact post G H a (Ext.refl G) v (hr G)
theorem de_int {i j} : DE X W (.Constant (.int i) j pos) (eC (.int i)) := de_c pe_int fun _ => .int i
theorem de_bl {i j} : DE X W (.Constant (.bool i) j pos) (eC (.bl i)) := de_c pe_bl fun _ => .bl i
theorem de_non {j} : DE X W (.Constant .none j pos) (eC .non) := de_c pe_non fun _ => .non
theorem de_str {x j} : DE X W (.Constant (.str x) j pos) (eC (.str x)) := de_c pe_str fun _ => .str x
/-- a name: what a slot holds; an object of its own is fixed by that -/
def flatD : D → Bool
  | .non => true | .bl _ => true | .int _ => true | .str _ => true
  | _ => false
theorem R.flat {K : PySem.W.Frag} {G G' : Hp} {v : V} {d : D} (h : R K G v d) (f : flatD d = true) : R K G' v d := by
  cases h with
  | non => exact .non
  | bl b => exact .bl b
  | int i => exact .int i
  | str s => exact .str s
  | _ => cases f
def eV (i : Nat) : Mo D := fun δ => match δ[i]? with
  | some (.imm d) => some (.ok d, δ)
  | some (.own d) => some (.ok d, δ.set i (.imm d))
  | some (.bor d) => if flatD d then some (.ok d, δ) else none
  | _ => none
theorem de_v {i : Nat} (h : PE X e (tVar i)) : DE X W e (eV i) := PE.weak h fun σ H Q ⟨B, G, δ, r, δ', a, e1, post⟩ => by
  unfold eV at e1
  split at e1
  · rename_i d h
    cases e1
    obtain ⟨v, h1, h2⟩ := a.imm h
    exact ⟨v, h1, post G H a (Ext.refl G) v h2⟩
  · rename_i d h
    cases e1
    obtain ⟨G', p, h1, h2, h3, h4⟩ := a.freeze h
    exact ⟨.ref p, h1, post G' H h4 h3 _ h2⟩
  · rename_i d h
    split at e1
    · rename_i f
      cases e1
      obtain ⟨v, h1, h2⟩ := a.bor h
      exact ⟨v, h1, post G H a (Ext.refl G) v (h2.flat f)⟩
    · cases e1
  · cases e1
/-- a rule by values that gives f -/
def Snd2 (K : PySem.W.Frag) (f : D → D → Option D) (r : R2) : Prop := ∀ (B : Bs) (G H : Hp) (δ : Env) (σ : St) (x y : V) (a b d : D) (Q : VK), At K B G δ σ H → R K G x a → R K G y b → f a b = some d →
  (∀ v G' H', At K B G' δ σ H' → Ext G G' → R K G' v d → Q v H') → r x y H Q
def eBin (f : D → D → Option D) (A B : Mo D) : Mo D := A.bind fun x => B.bind fun y => Mo.lift (f x y)
theorem de_tOp {f : D → D → Option D} {r : R2} (hf : Snd2 X.K f r) (h : PE X e (tOp r (tE X.K W Ea) (tE X.K W Eb))) : DE X W e (eBin f Ea Eb) := PE.weak h fun σ H Q ⟨B, G, δ, r', δ', a, e1, post⟩ => by
  refine tE_bind a e1 post fun v H1 G1 δ1 d a1 x1 r1 e2 post => ?_
  refine tE_bind a1 e2 post fun w H2 G2 δ2 d2 a2 x2 r2 e3 post => ?_
  obtain ⟨z, hz, hr⟩ := lift_some e3
  cases hr
  exact hf B G2 H2 δ' σ v w d d2 z Q a2 (r1.mono x2) r2 hz fun v G' H' a' x' r' => post G' H' a' x' v r'
theorem de_bin {op : Operator} {f : D → D → Option D} {r : R2} (ho : OpR X (binaryOp op) r) (hf : Snd2 X.K f r) (ha : DE X W a Ea) (hb : DE X W b Eb) : DE X W (.BinOp a op b pos) (eBin f Ea Eb) := de_tOp hf (pe_op ho ha hb)
theorem de_cmp {op : CmpOp} {f : D → D → Option D} {r : R2} (ho : OpR X (compareOp op) r) (hf : Snd2 X.K f r) (ha : DE X W a Ea) (hb : DE X W b Eb) (hm : behindInMarks op b = false) : DE X W (.Compare a [op] [b] pos) (eBin f Ea Eb) := de_tOp hf (pe_cmpR ho ha hb hm)
/-- an object just laid -/
theorem At.own1 {K : PySem.W.Frag} {B : Bs} {G H : Hp} {δ : Env} {σ : St} {p : Addr} {o : HO} {d : D} (a : At K B G δ σ H) (n : H p = none) (w : Ow K G (upd H p o) p d) : At K B G δ σ (upd H p o) ∧ Fr1 K B G δ σ (upd H p o) p d :=
  ⟨a.alloc n, a.vw.none n, a.fresh0 n, a.noOwn n, w⟩
def dTru : D → Option Bool
  | .non => some false
  | .bl b => some b
  | .int i => some (i != 0)
  | .str y => if y.length ≤ sizeLine then some ((y.length : Int) != 0) else none
  | .tup l => some (!l.isEmpty)
  | .lst l => some (!l.isEmpty)
  | .scr l => some (!l.isEmpty)
  | .dK l => some (!l.isEmpty)
  | .dT l => some (!l.isEmpty)
  | .alb _ _ => none
def eTru (E : Mo D) : Mo Bool := E.bind fun d => Mo.lift (dTru d)
theorem truthy_dictH {prog : Program} {w : World} {κ : Type} [DecidableEq κ] {knd : HeapKind prog w κ} {A : Around} {s : Shared} {E : Value → Shared → Prop} {d : Addr} {xs : List (κ × Addr × Value)} {Q : Bool → Shared → Prop} (hd : (d == sysModules) = false) (hm : s.heap.DictOfH knd d xs) (hfit : (xs.length : Int) < 2 ^ 63)
    (h : Q (!xs.isEmpty) { s with toks := s.toks + 1 + 1 }) : wpAny (model prog w) A (truthy (.ref d)) Q E s := by
  have hne : ((xs.length : Int) != 0) = !xs.isEmpty := by cases xs <;> simp <;> omega
  have key : wpAny (model prog w) A (runValue (.builtin "len" ⟨[.ref d], []⟩)) (fun r s' => r = .int xs.length (s.toks + 1) ∧ Q (!xs.isEmpty) s') E s := by
    refine wpAny_runValue (codeAny_builtin entry_len ?_)
    rw [Around.under_plainId plain_len _]
    exact wpAny_mono (wpAny_len_body_dictH (Q := fun r s' => r = .int xs.length (s.toks + 1) ∧ Q (!xs.isEmpty) s') hd hm hfit ⟨rfl, h⟩)
      (fun fin s' h' => by obtain ⟨r, rfl, hq⟩ := h'; exact hq) fun _ _ e => e
  unfold truthy
  first
    | refine wpAny_bind (wpAny_callSpecial?_none (name := Str.ofString "__bool__") hm.typeIs noBool_dict ?_)
    | refine wpAny_bind (wpAny_pure (wpAny_bind (wpAny_callSpecial?_none (name := Str.ofString "__bool__") hm.typeIs noBool_dict ?_)))
  first
    | refine wpAny_bind (wpAny_specialOf (name := Str.ofString "__len__") hm.typeIs F.slot_dict_len.lookup ?_)
    | refine wpAny_bind (wpAny_pure (wpAny_bind (wpAny_specialOf (name := Str.ofString "__len__") hm.typeIs F.slot_dict_len.lookup ?_)))
  first
    | exact wpAny_bind (wpAny_mono key (fun r s' h' => by obtain ⟨rfl, hq⟩ := h'; exact wpAny_pure (hne ▸ hq)) fun _ _ e => e)
    | exact wpAny_bind (wpAny_pure (wpAny_bind (wpAny_mono key (fun r s' h' => by obtain ⟨rfl, hq⟩ := h'; exact wpAny_pure (hne ▸ hq)) fun _ _ e => e)))
theorem isEmpty_len {α β : Type} {l : List α} {m : List β} (h : l.length = m.length) : l.isEmpty = m.isEmpty := by
  cases l <;> cases m <;> first | rfl | (simp at h)
theorem tru_all : TruR X (fun x H Q => ∃ B G δ σ d k, At X.K B G δ σ H ∧ R X.K G x d ∧ dTru d = some k ∧ Q k H) := by
  intro pins s σ H x v Q I rx h
  obtain ⟨B, G, δ, σ', d, k, a, r, hk, q⟩ := h
  cases r with
  | non => cases hk; exact tru_ok pins s σ H _ v Q I rx ⟨_, rfl, q⟩
  | bl b => cases hk; exact tru_ok pins s σ H _ v Q I rx ⟨_, rfl, q⟩
  | int i => cases hk; exact tru_ok pins s σ H _ v Q I rx ⟨_, rfl, q⟩
  | str y =>
    have hk : (if y.length ≤ sizeLine then some ((y.length : Int) != 0) else none) = some k := hk
    split at hk
    · rename_i hl
      cases hk; exact tru_ok pins s σ H _ v Q I rx ⟨_, ⟨hl, rfl⟩, q⟩
    · cases hk
  | tup h1 h2 h3 =>
    cases hk
    exact tru_ok pins s σ H _ v Q I rx ⟨_, Or.inr (Or.inl ⟨_, SqT.of (a.vw.tup h1), by rw [isEmpty_len h3.length]⟩), q⟩
  | lst h1 h2 h3 =>
    cases hk
    exact tru_ok pins s σ H _ v Q I rx ⟨_, Or.inl ⟨_, SqL.of (a.vw.lst h1), by rw [isEmpty_len h3.length]⟩, q⟩
  | scr h1 h2 h3 =>
    cases hk
    exact tru_ok pins s σ H _ v Q I rx ⟨_, Or.inl ⟨_, a.vw.sql h1, by rw [isEmpty_len h3.length]⟩, q⟩
  | alb => cases hk
  | dK h1 h2 h3 h4 =>
    cases hk
    cases rx
    have hl := congrArg List.length h3
    rw [List.length_map, List.length_map] at hl
    exact d_truth I (a.vw.rd h1) fun s' I' => ⟨H, I', by rw [isEmpty_len hl]; exact q⟩
  | dT h1 h2 h3 h4 =>
    cases hk
    cases rx
    have hl := congrArg List.length h3
    rw [List.length_map, List.length_map] at hl
    obtain ⟨z, hd, ys, rel, dd⟩ := dt_rd I.hok (a.vw.rd h1)
    have hl2 := Paired.length rel
    refine truthy_dictH hd dd (by rw [← hl2]; rw [sizeLine_eq] at z; omega) ⟨H, I.tok _, ?_⟩
    rw [isEmpty_len (hl2.symm.trans hl)]; exact q
theorem dt_tru (ha : DE X W a Ea) (he : ∀ whole, isTrue a X.env whole = (do let v ← whole; standAt a.pos; holding [v] (truthy v)) := by intro _; rfl) : DT X W a (eTru Ea) := by
  refine PT.weak (t := fun σ H Q => tE X.K W Ea σ H fun x H' => ∃ B G δ σ' d k, At X.K B G δ σ' H' ∧ R X.K G x d ∧ dTru d = some k ∧ Q k H') ⟨fun pins s σ H Q I h => ?_⟩ fun σ H Q ⟨B, G, δ, r', δ', at', e1, post⟩ => ?_
  · exact isTrue_plain (thn (ha.run pins s σ H _ I h) fun v s1 ⟨x, H1, I1, r1, q1⟩ => tru_all pins s1 σ H1 x v Q I1 r1 q1) (he _)
  · refine tE_bind at' e1 post fun v H1 G1 δ1 d a1 x1 r1 e2 post => ?_
    obtain ⟨z, hz, hr⟩ := lift_some e2
    cases hr
    exact ⟨B, G1, δ', σ, d, z, a1, r1, hz, post G1 H1 a1 (Ext.refl _)⟩
def tAndM (A B : Mo Bool) : Mo Bool := A.bind fun a => if a = true then B else Mo.ret false
def tOrM (A B : Mo Bool) : Mo Bool := A.bind fun a => if a = true then Mo.ret true else B
def tNotM (A : Mo Bool) : Mo Bool := A.bind fun a => Mo.ret (!a)
theorem dw_or1 (ha : DT X W a Ta) : DW X W (.BoolOp .Or [a] pos) Ta := pw_or1 ha
theorem tT_of {K : PySem.W.Frag} {B : Bs} {G : Hp} {δ δ' : Env} {σ : St} {H : Hp} {r : Except Exn Bool} {Q : Bool → Hp → Prop} (a : At K B G δ σ H) (e : T δ = some (r, δ')) (post : Post K W B G σ r δ' (fun b G' H' => Q b H')) : tT K W T σ H Q := ⟨B, G, δ, r, δ', a, e, post⟩
theorem tE_of {K : PySem.W.Frag} {B : Bs} {G : Hp} {δ δ' : Env} {σ : St} {H : Hp} {r : Except Exn D} {Q : VK} (a : At K B G δ σ H) (e : E δ = some (r, δ')) (post : Post K W B G σ r δ' (fun d G' H' => ∀ v, R K G' v d → Q v H')) : tE K W E σ H Q := ⟨B, G, δ, r, δ', a, e, post⟩
theorem dw_or {rest : List Expr} (ha : DT X W a Ta) (hb : DW X W (.BoolOp .Or (b :: rest) pos) Tb) : DW X W (.BoolOp .Or (a :: b :: rest) pos) (tOrM Ta Tb) := PW.weak (pw_or ha hb) fun σ H Q ⟨B, G, δ, r', δ', at', e1, post⟩ => by
  refine tT_bind at' e1 post fun H1 G1 δ1 d a1 x1 e2 post => ?_
  cases d with
  | true => rw [if_pos rfl] at e2 ⊢; cases e2; exact post G1 H1 a1 (Ext.refl _)
  | false => rw [if_neg Bool.false_ne_true] at e2 ⊢; exact tT_of a1 e2 post
theorem dw_t (h : DW X W a Ta) : DT X W a Ta := PW.pt h
theorem dt_not (ha : DT X W a Ta) : DT X W (.UnaryOp .Not a pos) (tNotM Ta) := PT.weak (pt_not ha) fun σ H Q ⟨B, G, δ, r', δ', at', e1, post⟩ => by
  refine tT_bind at' e1 post fun H1 G1 δ1 d a1 x1 e2 post => ?_
  cases e2; exact post G1 H1 a1 (Ext.refl _)
/-- a bool as a test, without asking for its truth -/
def dBl : D → Option Bool
  | .bl b => some b
  | _ => none
def eB (E : Mo D) : Mo Bool := E.bind fun d => Mo.lift (dBl d)
theorem dBl_some {d : D} {b : Bool} (h : dBl d = some b) : d = .bl b := by
  cases d <;> first | (cases h; rfl) | cases h
/-- and, or, not of bools as values -/
def eAnd (A B : Mo D) : Mo D := A.bind fun x => (Mo.lift (dBl x)).bind fun b => if b = true then B else Mo.ret (.bl false)
def eOr (A B : Mo D) : Mo D := A.bind fun x => (Mo.lift (dBl x)).bind fun b => if b = true then Mo.ret (.bl true) else B
def eNot (A : Mo D) : Mo D := A.bind fun x => (Mo.lift (dBl x)).bind fun b => Mo.ret (.bl (!b))
theorem liftB {β : Type} {x : D} {k : Bool → Mo β} {δ : Env} {r : Except Exn β × Env} (h : ((Mo.lift (dBl x)).bind k) δ = some r) : ∃ b, x = .bl b ∧ k b δ = some r := by
  unfold Mo.bind Mo.lift at h
  cases e : dBl x with
  | none => rw [e] at h; cases h
  | some b => rw [e] at h; exact ⟨b, dBl_some e, h⟩
theorem de_one {op} (h : DE X W a Ea) : DE X W (.BoolOp op [a] pos) Ea := pe_one h
theorem de_and {rest : List Expr} (ha : DE X W a Ea) (hb : DE X W (.BoolOp .And (b :: rest) pos) Eb) : DE X W (.BoolOp .And (a :: b :: rest) pos) (eAnd Ea Eb) := PE.weak (pe_and ha hb) fun σ H Q ⟨B, G, δ, r', δ', at', e1, post⟩ => by
  refine tE_bind at' e1 post fun v H1 G1 δ1 d a1 x1 r1 e2 post => ?_
  obtain ⟨z, rfl, e3⟩ := liftB e2
  cases r1
  refine ⟨z, rfl, ?_⟩
  cases z with
  | true => rw [if_pos rfl] at e3 ⊢; exact tE_of a1 e3 post
  | false => rw [if_neg Bool.false_ne_true] at e3 ⊢; cases e3; exact post G1 H1 a1 (Ext.refl _) _ (.bl false)
theorem de_or {rest : List Expr} (ha : DE X W a Ea) (hb : DE X W (.BoolOp .Or (b :: rest) pos) Eb) : DE X W (.BoolOp .Or (a :: b :: rest) pos) (eOr Ea Eb) := PE.weak (pe_or ha hb) fun σ H Q ⟨B, G, δ, r', δ', at', e1, post⟩ => by
  refine tE_bind at' e1 post fun v H1 G1 δ1 d a1 x1 r1 e2 post => ?_
  obtain ⟨z, rfl, e3⟩ := liftB e2
  cases r1
  refine ⟨z, rfl, ?_⟩
  cases z with
  | true => rw [if_pos rfl] at e3 ⊢; cases e3; exact post G1 H1 a1 (Ext.refl _) _ (.bl true)
  | false => rw [if_neg Bool.false_ne_true] at e3 ⊢; exact tE_of a1 e3 post
theorem de_not (ha : DE X W a Ea) : DE X W (.UnaryOp .Not a pos) (eNot Ea) := PE.weak (pe_not ha) fun σ H Q ⟨B, G, δ, r', δ', at', e1, post⟩ => by
  refine tE_bind at' e1 post fun v H1 G1 δ1 d a1 x1 r1 e2 post => ?_
  obtain ⟨z, rfl, e3⟩ := liftB e2
  cases r1
  cases e3
  exact ⟨z, rfl, post G1 H1 a1 (Ext.refl _) _ (.bl _)⟩
/-- not e, by the truth of e (a list, a dict ..) -/
def eIf (T : Mo Bool) (A B : Mo D) : Mo D := T.bind fun b => if b = true then A else B
end
section
variable {X : Cx} {W : WK} {e : Expr} {es : List Expr} {pos : Pos} {E : Mo D} {A : Mo (List Ag)}
def aNil : Mo (List Ag) := Mo.ret []
def aCons (E : Mo D) (A : Mo (List Ag)) : Mo (List Ag) := E.bind fun d => A.bind fun as => Mo.ret (.im d :: as)
def aVr (i : Nat) (A : Mo (List Ag)) : Mo (List Ag) := fun δ => match δ[i]? with
  | some (.own _) => (A.bind fun as => Mo.ret (.vr i :: as)) δ
  | some (.io _) => (A.bind fun as => Mo.ret (.vr i :: as)) δ
  | _ => none
def aVb (i : Nat) (A : Mo (List Ag)) : Mo (List Ag) := fun δ => match δ[i]? with
  | some (.own _) => (A.bind fun as => Mo.ret (.vb i :: as)) δ
  | some (.io _) => (A.bind fun as => Mo.ret (.vb i :: as)) δ
  | some (.imm _) => (A.bind fun as => Mo.ret (.vb i :: as)) δ
  | some (.bor _) => (A.bind fun as => Mo.ret (.vb i :: as)) δ
  | _ => none
theorem AgOk.mono {K : PySem.W.Frag} {G G' : Hp} {σ : St} (e : Ext G G') : ∀ {v : V} {a : Ag}, AgOk K G σ v a → AgOk K G' σ v a
  | _, .im _, h => R.mono e h
  | _, .vr _, h => h
  | _, .vb _, h => h
theorem AgsOk.mono {K : PySem.W.Frag} {G G' : Hp} {σ : St} (e : Ext G G') {vs : List V} {as : List Ag} (h : AgsOk K G σ vs as) : AgsOk K G' σ vs as := Paired.mapP h fun _ _ => AgOk.mono e
theorem da_nil : DA X W [] aNil := PA.weak pa_nil fun σ H Q ⟨B, G, δ, r, δ', a, e1, post⟩ => by
  cases e1
  exact post G H a (Ext.refl _) _ .nil
theorem da_cons (ha : DE X W e E) (hr : DA X W es A) (hs : starEach (e :: es) X.env = (false, eval e X.env) :: starEach es X.env := by rfl) : DA X W (e :: es) (aCons E A) := PA.weak (pa_cons ha hr hs) fun σ H Q ⟨B, G, δ, r, δ', a, e1, post⟩ => by
  refine tE_bind a e1 post fun v H1 G1 δ1 d a1 x1 r1 e2 post => ?_
  refine tA_bind a1 e2 post fun vs H2 G2 δ2 ds a2 x2 r2 e3 post => ?_
  cases e3
  exact post G2 H2 a2 (Ext.refl _) _ (.cons (R.mono x2 r1) r2)
/-- the argument at slot i: the slot must hold something -/
theorem da_vr {i : Nat} (h : PE X e (tVar i)) (hr : DA X W es A) (hs : starEach (e :: es) X.env = (false, eval e X.env) :: starEach es X.env := by rfl) : DA X W (e :: es) (aVr i A) := PA.weak (pa_cons h hr hs) fun σ H Q ⟨B, G, δ, r, δ', a, e1, post⟩ => by
  unfold aVr at e1
  split at e1
  · rename_i d h
    obtain ⟨p, h1, _⟩ := a.own h
    refine ⟨_, h1, ?_⟩
    refine tA_bind a e1 post fun vs H2 G2 δ2 ds a2 x2 r2 e3 post => ?_
    cases e3
    exact post G2 H2 a2 (Ext.refl _) _ (.cons h1 r2)
  · rename_i d h
    obtain ⟨p, h1, _⟩ := a.io h
    refine ⟨_, h1, ?_⟩
    refine tA_bind a e1 post fun vs H2 G2 δ2 ds a2 x2 r2 e3 post => ?_
    cases e3
    exact post G2 H2 a2 (Ext.refl _) _ (.cons h1 r2)
  · cases e1
theorem da_vb {i : Nat} (h : PE X e (tVar i)) (hr : DA X W es A) (hs : starEach (e :: es) X.env = (false, eval e X.env) :: starEach es X.env := by rfl) : DA X W (e :: es) (aVb i A) := PA.weak (pa_cons h hr hs) fun σ H Q ⟨B, G, δ, r, δ', a, e1, post⟩ => by
  have fin : ∀ v, σ[i]? = some (some v) → (A.bind fun as => Mo.ret (.vb i :: as)) δ = some (r, δ') → tVar i σ H fun x H1 => tA X.K W A σ H1 fun xs H2 => Q (x :: xs) H2 := fun v h1 e1 => by
    refine ⟨_, h1, ?_⟩
    refine tA_bind a e1 post fun vs H2 G2 δ2 ds a2 x2 r2 e3 post => ?_
    cases e3
    exact post G2 H2 a2 (Ext.refl _) _ (.cons h1 r2)
  unfold aVb at e1
  split at e1
  · rename_i d h
    obtain ⟨p, h1, _⟩ := a.own h
    exact fin _ h1 e1
  · rename_i d h
    obtain ⟨p, h1, _⟩ := a.io h
    exact fin _ h1 e1
  · rename_i d h
    obtain ⟨p, h1, _⟩ := a.imm h
    exact fin _ h1 e1
  · rename_i d h
    obtain ⟨p, h1, _⟩ := a.bor h
    exact fin _ h1 e1
  · cases e1
/-- arguments that are data -/
def imms : List Ag → Option (List D)
  | [] => some []
  | .im d :: as => (imms as).map (d :: ·)
  | _ :: _ => none
theorem imms_ok {K : PySem.W.Frag} {G : Hp} {σ : St} : ∀ {as : List Ag} {vs : List V} {ds : List D}, AgsOk K G σ vs as → imms as = some ds → RL K G vs ds
  | _, _, _, .nil, e => by cases e; exact .nil
  | .im d :: as, _, _, .cons h t, e => by
    unfold imms at e
    cases q : imms as with
    | none => rw [q] at e; cases e
    | some ds => rw [q] at e; cases e; exact .cons h (imms_ok t q)
  | .vr i :: as, _, _, .cons h t, e => by cases e
  | .vb i :: as, _, _, .cons h t, e => by cases e
def eTup (A : Mo (List Ag)) : Mo D := A.bind fun as => Mo.lift ((imms as).bind fun ds => if ds.length ≤ 1000 then some (.tup ds) else none)
def eLst (A : Mo (List Ag)) : Mo D := A.bind fun as => Mo.lift ((imms as).bind fun ds => if ds.length ≤ 1000 then some (.lst ds) else none)
theorem small_line {n : Nat} (h : n ≤ 1000) : n ≤ sizeLine := Nat.le_of_lt (small1000 h)
theorem de_tup {x1} (h : DA X W es A) : DE X W (.Tuple es x1 pos) (eTup A) := PE.weak (pe_tup h) fun σ H Q ⟨B, G, δ, r, δ', a, e1, post⟩ => by
  refine tA_bind a e1 post fun vs H1 G1 δ1 as a1 x1 r1 e2 post => ?_
  obtain ⟨z, hz, hr⟩ := lift_some e2
  cases hr
  cases q : imms as with
  | none => rw [q] at hz; cases hz
  | some ds =>
    rw [q] at hz
    have r2 := imms_ok r1 q
    rw [Option.bind_some] at hz
    split at hz
    · rename_i hl
      cases hz
      have hv : vs.length ≤ sizeLine := by rw [r2.length]; exact small_line hl
      exact ⟨hv, fun p hp => post (upd G1 p (.tup vs)) _ (a1.laid hp fun _ z => by cases z) (Ext.new (a1.vw.none hp)) _ (.tup upd_same hv (r2.mono (Ext.new (a1.vw.none hp))))⟩
    · cases hz
theorem do_lst (h : DA X W es A) : DO X W (.List es pos) (eLst A) := PE.weak (pe_lst h) fun σ H Q ⟨B, G, δ, r, δ', a, e1, post⟩ => by
  refine tA_bind a e1 post fun vs H1 G1 δ1 as a1 x1 r1 e2 post => ?_
  obtain ⟨z, hz, hr⟩ := lift_some e2
  cases hr
  cases q : imms as with
  | none => rw [q] at hz; cases hz
  | some ds =>
    rw [q] at hz
    have r2 := imms_ok r1 q
    rw [Option.bind_some] at hz
    split at hz
    · rename_i hl
      cases hz
      have hv : vs.length ≤ sizeLine := by rw [r2.length]; exact small_line hl
      refine ⟨hv, fun p hp => ?_⟩
      obtain ⟨b1, b2⟩ := a1.own1 (p := p) (o := .lst vs) hp (Ow.lst upd_same hv r2)
      exact post G1 _ b1 (Ext.refl _) p b2
    · cases hz
end
end M
set_option Elab.async false
set_option linter.all false
set_option maxRecDepth 100000
namespace M
open PySem L2 PySem.Spec PyProof.Rows
inductive Out where
  | nx | bk | ct | rt (d : D) | rtO (d : D)
def PostS (K : PySem.W.Frag) (W : WK) (B : Bs) (G : Hp) (Dn : Ends) (r : Except Exn Out) (δ' : Env) : Prop := match r with
  | .error x => ∀ G' σ' H', At K B G' δ' σ' H' → Ext G G' → W x δ' σ' G' H'
  | .ok .nx => ∀ G' σ' H', At K B G' δ' σ' H' → Ext G G' → Dn.nx σ' H'
  | .ok .bk => ∀ G' σ' H', At K B G' δ' σ' H' → Ext G G' → Dn.bk σ' H'
  | .ok .ct => ∀ G' σ' H', At K B G' δ' σ' H' → Ext G G' → Dn.ct σ' H'
  | .ok (.rt d) => ∀ G' σ' H', At K B G' δ' σ' H' → Ext G G' → ∀ v, R K G' v d → Dn.rt v H'
  | .ok (.rtO d) => ∀ G' σ' H', At K B G' δ' σ' H' → Ext G G' → ∀ p, Fr1 K B G' δ' σ' H' p d → Dn.rt (.ref p) H'
theorem PostS.mono {K : PySem.W.Frag} {W : WK} {B : Bs} {G G1 : Hp} {Dn : Ends} {r : Except Exn Out} {δ' : Env} (h : PostS K W B G Dn r δ') (e : Ext G G1) : PostS K W B G1 Dn r δ' := by
  cases r with
  | error x => exact fun G' σ' H' a1 e1 => h G' σ' H' a1 (e.trans e1)
  | ok o => cases o <;> exact fun G' σ' H' a1 e1 => h G' σ' H' a1 (e.trans e1)
def tS (K : PySem.W.Frag) (W : WK) (S : Mo Out) : TS := fun Dn σ H => ∃ B G δ r δ', At K B G δ σ H ∧ S δ = some (r, δ') ∧ PostS K W B G Dn r δ'
/-- what a target does with data -/
def OnlyAt (sl : List Nat) (σ σ' : St) : Prop := σ'.length = σ.length ∧ ∀ j, j ∉ sl → σ'[j]? = σ[j]?
def tG (K : PySem.W.Frag) (sl : List Nat) (T : D → Mo Unit) : TG := fun v σ H Q => ∃ B G δ d δ', At K B G δ σ H ∧ R K G v d ∧ T d δ = some (.ok (), δ') ∧ ∀ σ', At K B G δ' σ' H → OnlyAt sl σ σ' → Q σ' H
def tGs (K : PySem.W.Frag) (sl : List Nat) (Ts : List D → Mo Unit) : TGs := fun vs σ H Q => ∃ B G δ ds δ', At K B G δ σ H ∧ RL K G vs ds ∧ Ts ds δ = some (.ok (), δ') ∧ ∀ σ', At K B G δ' σ' H → OnlyAt sl σ σ' → Q σ' H
section
variable (X : Cx) (W : WK)
def DS (st : Stmt) (S : Mo Out) : Prop := PS X st (tS X.K W S)
def DSs (st : List Stmt) (S : Mo Out) : Prop := PSs X st (tS X.K W S)
def DG (tg : Expr) (sl : List Nat) (T : D → Mo Unit) : Prop := PG X tg (tG X.K sl T)
def DGs (tgs : List Expr) (sl : List Nat) (T : List D → Mo Unit) : Prop := PGs X tgs (tGs X.K sl T)
end
section
variable {X : Cx} {W : WK} {st : Stmt} {rest : List Stmt} {e c tg : Expr} {pos : Pos} {E : Mo D} {T : Mo Bool} {S S' : Mo Out}
theorem tS_of {K : PySem.W.Frag} {B : Bs} {G : Hp} {δ δ' : Env} {σ : St} {H : Hp} {r : Except Exn Out} {Dn : Ends} (a : At K B G δ σ H) (e : S δ = some (r, δ')) (post : PostS K W B G Dn r δ') : tS K W S Dn σ H := ⟨B, G, δ, r, δ', a, e, post⟩
def sNx : Mo Out := Mo.ret .nx
def sSeq (a b : Mo Out) : Mo Out := fun δ => match a δ with
  | some (.ok .nx, δ') => b δ'
  | r => r
theorem dss_nil : DSs X W [] sNx := PSs.weak pss_nil fun Dn σ H ⟨B, G, δ, r, δ', a, e1, post⟩ => by
  cases e1; exact post G σ H a (Ext.refl _)
theorem dss_one (h : DS X W st S) : DSs X W [st] S := pss_one h
theorem dss_cons (h : DS X W st S) (h' : DSs X W rest S') : DSs X W (st :: rest) (sSeq S S') := PSs.weak (pss_cons h h') fun Dn σ H ⟨B, G, δ, r, δ', a, e1, post⟩ => by
  unfold sSeq at e1
  cases q : S δ with
  | none => rw [q] at e1; cases e1
  | some z =>
    obtain ⟨x, δ1⟩ := z
    rw [q] at e1
    cases x with
    | error x => cases e1; exact ⟨B, G, δ, .error x, _, a, q, post⟩
    | ok o =>
      cases o with
      | nx => exact ⟨B, G, δ, .ok .nx, δ1, a, q, fun G1 σ1 H1 a1 x1 => tS_of a1 e1 (post.mono x1)⟩
      | bk => cases e1; exact ⟨B, G, δ, .ok .bk, _, a, q, post⟩
      | ct => cases e1; exact ⟨B, G, δ, .ok .ct, _, a, q, post⟩
      | rt d => cases e1; exact ⟨B, G, δ, .ok (.rt d), _, a, q, post⟩
      | rtO d => cases e1; exact ⟨B, G, δ, .ok (.rtO d), _, a, q, post⟩
/-- from an expression's ends to a statement's -/
theorem tE_bindS {K : PySem.W.Frag} {B : Bs} {G H : Hp} {δ δ' : Env} {σ : St} {r : Except Exn Out} {Dn : Ends} {k : D → Mo Out} {Q : VK} (a : At K B G δ σ H) (h : Mo.bind E k δ = some (r, δ')) (post : PostS K W B G Dn r δ')
    (q : ∀ v H1 G1 δ1 d, At K B G1 δ1 σ H1 → Ext G G1 → R K G1 v d → k d δ1 = some (r, δ') → PostS K W B G1 Dn r δ' → Q v H1) : tE K W E σ H Q := by
  unfold Mo.bind at h
  cases e : E δ with
  | none => rw [e] at h; cases h
  | some z =>
    obtain ⟨x, δ1⟩ := z
    rw [e] at h
    cases x with
    | error x => cases h; exact ⟨B, G, δ, .error x, _, a, e, post⟩
    | ok d => exact ⟨B, G, δ, .ok d, δ1, a, e, fun G1 H1 a1 e1 v rv => q v H1 G1 δ1 d a1 e1 rv h (post.mono e1)⟩
theorem tO_bindS {K : PySem.W.Frag} {B : Bs} {G H : Hp} {δ δ' : Env} {σ : St} {r : Except Exn Out} {Dn : Ends} {k : D → Mo Out} {Q : VK} (a : At K B G δ σ H) (h : Mo.bind E k δ = some (r, δ')) (post : PostS K W B G Dn r δ')
    (q : ∀ p H1 G1 δ1 d, At K B G1 δ1 σ H1 → Ext G G1 → Fr1 K B G1 δ1 σ H1 p d → k d δ1 = some (r, δ') → PostS K W B G1 Dn r δ' → Q (.ref p) H1) : tO K W E σ H Q := by
  unfold Mo.bind at h
  cases e : E δ with
  | none => rw [e] at h; cases h
  | some z =>
    obtain ⟨x, δ1⟩ := z
    rw [e] at h
    cases x with
    | error x => cases h; exact ⟨B, G, δ, .error x, _, a, e, post⟩
    | ok d => exact ⟨B, G, δ, .ok d, δ1, a, e, fun G1 H1 a1 e1 v rv => q v H1 G1 δ1 d a1 e1 rv h (post.mono e1)⟩
theorem tT_bindS {K : PySem.W.Frag} {B : Bs} {G H : Hp} {δ δ' : Env} {σ : St} {r : Except Exn Out} {Dn : Ends} {k : Bool → Mo Out} {Q : Bool → Hp → Prop} (a : At K B G δ σ H) (h : Mo.bind T k δ = some (r, δ')) (post : PostS K W B G Dn r δ')
    (q : ∀ H1 G1 δ1 d, At K B G1 δ1 σ H1 → Ext G G1 → k d δ1 = some (r, δ') → PostS K W B G1 Dn r δ' → Q d H1) : tT K W T σ H Q := by
  unfold Mo.bind at h
  cases e : T δ with
  | none => rw [e] at h; cases h
  | some z =>
    obtain ⟨x, δ1⟩ := z
    rw [e] at h
    cases x with
    | error x => cases h; exact ⟨B, G, δ, .error x, _, a, e, post⟩
    | ok d => exact ⟨B, G, δ, .ok d, δ1, a, e, fun G1 H1 a1 e1 => q H1 G1 δ1 d a1 e1 h (post.mono e1)⟩
def sPass : Mo Out := Mo.ret .nx
def sBreak : Mo Out := Mo.ret .bk
def sCont : Mo Out := Mo.ret .ct
def sDrop (E : Mo D) : Mo Out := E.bind fun _ => Mo.ret .nx
def sRet (E : Mo D) : Mo Out := E.bind fun d => Mo.ret (.rt d)
def sRetO (E : Mo D) : Mo Out := E.bind fun d => Mo.ret (.rtO d)
theorem ds_ret (he : DE X W e E) : DS X W (.Return (some e) pos) (sRet E) := PS.weak (ps_ret he) fun Dn σ H ⟨B, G, δ, r, δ', a, e1, post⟩ => by
  refine tE_bindS a e1 post fun v H1 G1 δ1 d a1 x1 r1 e2 post => ?_
  cases e2; exact post G1 σ H1 a1 (Ext.refl _) v r1
theorem ds_retO (he : DO X W e E) : DS X W (.Return (some e) pos) (sRetO E) := PS.weak (ps_ret he) fun Dn σ H ⟨B, G, δ, r, δ', a, e1, post⟩ => by
  refine tO_bindS a e1 post fun v H1 G1 δ1 d a1 x1 r1 e2 post => ?_
  cases e2; exact post G1 σ H1 a1 (Ext.refl _) v r1
/-- return of a slot's own object: the slot gives it away -/
def eGive (i : Nat) : Mo D := fun δ => match δ[i]? with
  | some (.own d) => some (.ok d, δ.set i .no)
  | _ => none
def sIf (T : Mo Bool) (a b : Mo Out) : Mo Out := T.bind fun k => if k = true then a else b
theorem ds_if {a b : List Stmt} (hc : DT X W c T) (ha : DSs X W a S) (hb : DSs X W b S') : DS X W (.If c a b pos) (sIf T S S') := PS.weak (ps_if hc ha hb) fun Dn σ H ⟨B, G, δ, r, δ', a, e1, post⟩ => by
  refine tT_bindS a e1 post fun H1 G1 δ1 d a1 x1 e2 post => ?_
  cases d with
  | true => rw [if_pos rfl] at e2 ⊢; exact tS_of a1 e2 post
  | false => rw [if_neg Bool.false_ne_true] at e2 ⊢; exact tS_of a1 e2 post
def gN (i : Nat) (d : D) : Mo Unit := fun δ => if i < δ.length then some (.ok (), δ.set i (.imm d)) else none
theorem dg_name {i : Nat} {x : Str} (hN : X.N.Nodup) (hi : X.N[i]? = some x) (hx : Loc X.env.scope x) (hf : X.fn x = true ∨ X.env.scope.names.lookup x = some .local := by first | exact .inl rfl | exact .inr rfl | assumption) : DG X (.Name x pos) [i] (gN i) :=
  let h := pg_name (X := X) (pos := pos) hN hi hx hf
  ⟨fun pins s σ H v u Q I rv q => h.run pins s σ H v u Q I rv (by
    obtain ⟨B, G, δ, d, δ', a, r, e1, k⟩ := q
    unfold gN at e1
    split at e1
    · cases e1
      exact k _ (a.setImm r i) ⟨List.length_set, fun j hj => List.getElem?_set_ne (fun c => hj (by rw [c]; exact List.mem_singleton_self _))⟩
    · cases e1)⟩
def gNil : List D → Mo Unit
  | [] => Mo.ret ()
  | _ => fun _ => none
def gCons (T : D → Mo Unit) (Ts : List D → Mo Unit) : List D → Mo Unit
  | d :: ds => (T d).bind fun _ => Ts ds
  | [] => fun _ => none
theorem dgs_nil : DGs X [] [] gNil :=
  ⟨fun pins s σ H vs us Q I rv q => pgs_nil.run pins s σ H vs us Q I rv (by
    obtain ⟨B, G, δ, ds, δ', a, r, e1, k⟩ := q
    cases r with
    | nil => cases e1; exact ⟨rfl, k _ a ⟨rfl, fun _ _ => rfl⟩⟩
    | cons _ _ => cases e1)⟩
theorem dgs_cons {es : List Expr} {sl sl' : List Nat} {T : D → Mo Unit} {Ts : List D → Mo Unit} (h1 : DG X e sl T) (h2 : DGs X es sl' Ts) (hs : (assignEach (e :: es) X.env).map (·.2) = assign e X.env :: (assignEach es X.env).map (·.2) := by rfl) : DGs X (e :: es) (sl ++ sl') (gCons T Ts) :=
  ⟨fun pins s σ H vs us Q I rv q => (pgs_cons h1 h2 hs).run pins s σ H vs us Q I rv (by
    obtain ⟨B, G, δ, ds, δ', a, r, e1, k⟩ := q
    cases r with
    | nil => cases e1
    | cons r0 r1 =>
      rename_i v vs d ds
      have e1 : Mo.bind (T d) (fun _ => Ts ds) δ = some (.ok (), δ') := e1
      unfold Mo.bind at e1
      cases q : T d δ with
      | none => rw [q] at e1; cases e1
      | some z =>
        obtain ⟨x, δ1⟩ := z
        rw [q] at e1
        cases x with
        | error x => cases e1
        | ok x => exact ⟨v, vs, rfl, B, G, δ, d, δ1, a, r0, q, fun σ1 a1 o1 => ⟨B, G, δ1, ds, δ', a1, r1, e1, fun σ2 a2 o2 => k σ2 a2 ⟨o2.1.trans o1.1, fun j hj => (o2.2 j fun c => hj (List.mem_append_right _ c)).trans (o1.2 j fun c => hj (List.mem_append_left _ c))⟩⟩⟩)⟩
/-- (a, b, ..) = a tuple or a list of that length -/
def gT (n : Nat) (Ts : List D → Mo Unit) : D → Mo Unit
  | .tup ds => if ds.length = n then Ts ds else fun _ => none
  | .lst ds => if ds.length = n then Ts ds else fun _ => none
  | _ => fun _ => none
theorem dg_tup {es : List Expr} {k : Nat} {sl : List Nat} {Ts : List D → Mo Unit} {n : Nat} (hc : X.calm = true) (h : DGs X es sl Ts) (hn : (assignEach es X.env).length = n := by rfl) (hst : (assignEach es X.env).findIdx? (·.1) = none := by rfl) : DG X (.Tuple es k pos) sl (gT n Ts) :=
  let h1 := PG.or (pg_tup (pos := pos) (k := k) hc h hn hst) (pg_unl (pos := pos) (k := k) hc h hn hst)
  ⟨fun pins s σ H v u Q I rv q => h1.run pins s σ H v u Q I rv (by
    obtain ⟨B, G, δ, d, δ', a, r, e1, k⟩ := q
    cases r with
    | tup g l rl =>
      rename_i p xs ds
      have e1 : (if ds.length = n then Ts ds else fun _ => none) δ = some (.ok (), δ') := e1
      by_cases q : ds.length = n
      · rw [if_pos q] at e1
        exact .inl ⟨p, xs, rfl, SqT.of (a.vw.tup g), rl.length.trans q, B, G, δ, ds, δ', a, rl, e1, k⟩
      · rw [if_neg q] at e1; cases e1
    | lst g l rl =>
      rename_i p xs ds
      have e1 : (if ds.length = n then Ts ds else fun _ => none) δ = some (.ok (), δ') := e1
      by_cases q : ds.length = n
      · rw [if_pos q] at e1
        exact .inr ⟨p, xs, rfl, SqL.of (a.vw.lst g), rl.length.trans q, B, G, δ, ds, δ', a, rl, e1, k⟩
      · rw [if_neg q] at e1; cases e1
    | _ => cases e1)⟩
/-- target = value -/
def sAsg (T : D → Mo Unit) (E : Mo D) : Mo Out := E.bind fun d => (T d).bind fun _ => Mo.ret .nx
theorem unit_bind {T : Mo Unit} {δ δ' : Env} {r : Except Exn Out} (h : Mo.bind T (fun _ => Mo.ret Out.nx) δ = some (r, δ')) : (T δ = some (.ok (), δ') ∧ r = .ok .nx) ∨ ∃ x, T δ = some (.error x, δ') ∧ r = .error x := by
  unfold Mo.bind at h
  cases q : T δ with
  | none => rw [q] at h; cases h
  | some z =>
    obtain ⟨x, δ1⟩ := z
    rw [q] at h
    cases x with
    | error x => cases h; exact .inr ⟨x, rfl, rfl⟩
    | ok x => cases h; exact .inl ⟨rfl, rfl⟩
/-- a target that never raises -/
def Calm (T : D → Mo Unit) : Prop := ∀ d δ x δ', T d δ ≠ some (.error x, δ')
theorem calm_N {i : Nat} : Calm (gN i) := fun d δ x δ' h => by
  unfold gN at h; split at h <;> cases h
theorem tAsg_ok {K : PySem.W.Frag} {sl : List Nat} {T : D → Mo Unit} (hT : Calm T) {Dn : Ends} {σ : St} {H : Hp} (q : tS K W (sAsg T E) Dn σ H) : tAsg (tE K W E) (tG K sl T) Dn σ H := by
  obtain ⟨B, G, δ, r, δ', a, e1, post⟩ := q
  refine tE_bindS a e1 post fun v H1 G1 δ1 d a1 x1 r1 e2 post => ?_
  rcases unit_bind e2 with ⟨q, rfl⟩ | ⟨x, q, rfl⟩
  · exact ⟨B, G1, δ1, d, δ', a1, r1, q, fun σ' a' _ => post G1 σ' H1 a' (Ext.refl _)⟩
  · exact absurd q (hT _ _ _ _)
theorem ds_asg {sl : List Nat} {T : D → Mo Unit} (hT : Calm T) (he : DE X W e E) (hg : DG X tg sl T) (hs : swapsWithSole [tg] e pos.line X.env = pure false := by rfl) (hw : swappedStores [tg] e X.env = pure none := by rfl)
    (h1 : (assignEach [tg] X.env).map (·.2) = [assign tg X.env] := by rfl) : DS X W (.Assign [tg] e pos) (sAsg T E) := PS.weak (ps_asg he hg hs hw h1) fun Dn σ H q => tAsg_ok hT q
theorem ds_set {i : Nat} {x : Str} {pos' : Pos} (hN : X.N.Nodup) (hi : X.N[i]? = some x) (hx : Loc X.env.scope x) (he : DE X W e E) (hs : swapsWith e (some (.Name x pos')) pos.line X.env = pure false := by rfl) (hf : X.fn x = true ∨ X.env.scope.names.lookup x = some .local := by first | exact .inl rfl | exact .inr rfl | assumption) :
    DS X W (.Assign [.Name x pos'] e pos) (sAsg (gN i) E) := PS.weak (ps_set hN hi hx he hs hf) fun Dn σ H ⟨B, G, δ, r, δ', a, e1, post⟩ => by
  refine tE_bindS a e1 post fun v H1 G1 δ1 d a1 x1 r1 e2 post => ?_
  rcases unit_bind e2 with ⟨q, rfl⟩ | ⟨x, q, rfl⟩
  · unfold gN at q
    split at q
    · cases q
      exact post G1 _ H1 (a1.setImm r1 i) (Ext.refl _)
    · cases q
  · exact absurd q (calm_N _ _ _ _)
/-- name = a new object, kept as the frame's own -/
def gO (i : Nat) (d : D) : Mo Unit := fun δ => if i < δ.length then some (.ok (), δ.set i (.own d)) else none
def sAsgO (i : Nat) (E : Mo D) : Mo Out := E.bind fun d => (gO i d).bind fun _ => Mo.ret .nx
theorem ds_setO {i : Nat} {x : Str} {pos' : Pos} (hN : X.N.Nodup) (hi : X.N[i]? = some x) (hx : Loc X.env.scope x) (he : DO X W e E) (hs : swapsWith e (some (.Name x pos')) pos.line X.env = pure false := by rfl) (hf : X.fn x = true ∨ X.env.scope.names.lookup x = some .local := by first | exact .inl rfl | exact .inr rfl | assumption) :
    DS X W (.Assign [.Name x pos'] e pos) (sAsgO i E) := PS.weak (ps_set hN hi hx he hs hf) fun Dn σ H ⟨B, G, δ, r, δ', a, e1, post⟩ => by
  refine tO_bindS a e1 post fun v H1 G1 δ1 d a1 x1 r1 e2 post => ?_
  obtain ⟨w1, w2, w3, w4⟩ := r1
  rcases unit_bind e2 with ⟨q, rfl⟩ | ⟨x, q, rfl⟩
  · unfold gO at q
    split at q
    · cases q
      exact post G1 _ H1 (a1.setOwn w1 w4 w2 w3 i) (Ext.refl _)
    · cases q
  · unfold gO at q; split at q <;> cases q
end
/-- the iterator J yields the data ds, one by one, whatever else is laid meanwhile -/
def BLe (B B' : Bs) : Prop := Ext B.H0 B'.H0 ∧ B'.IO = B.IO
theorem BLe.refl (B : Bs) : BLe B B := ⟨Ext.refl _, rfl⟩
def Yl (K : PySem.W.Frag) (B : Bs) (J : It) (G : Hp) (ds : List D) : Prop := ∀ (B' : Bs) (G2 H : Hp) (δ : Env) (σ : St), BLe B B' → At K B' G2 δ σ H → Ext G G2 → ∀ i : Nat,
  (∀ d, ds[i]? = some d → J.go i H ∧ ∀ x H', J.yld i H x H' → H' = H ∧ ∃ G3, At K B' G3 δ σ H ∧ Ext G2 G3 ∧ R K G3 x d) ∧ (ds.length ≤ i → J.stop i H)
def tI (K : PySem.W.Frag) (W : WK) (I : Mo (List D)) : TI := fun σ H R' => ∃ B G δ r δ', At K B G δ σ H ∧ I δ = some (r, δ') ∧ Post K W B G σ r δ' (fun ds G' H' => ∀ J, Yl K B J G' ds → R' J H')
section
variable (X : Cx) (W : WK)
def DI (tg e : Expr) (I : Mo (List D)) : Prop := PI X tg e (tI X.K W I)
end
section
variable {X : Cx} {W : WK} {e c tg : Expr} {pos : Pos} {E : Mo D} {T : Mo Bool} {S S' : Mo Out}
theorem yl_list {K : PySem.W.Frag} {B : Bs} {G : Hp} {a : Addr} {xs : List V} {ds : List D} (h : SqL K G a xs) (r : RL K G xs ds) : Yl K B (Itl K a) G ds := fun B' G2 H δ σ _ at' ex i => by
  have hq : SqL K H a xs := at'.vw.sql (ex.sql h)
  refine ⟨fun d hd => ?_, fun hl => ⟨xs, hq, by rw [r.length]; exact hl⟩⟩
  obtain ⟨x, h1, h2⟩ := r.get hd
  refine ⟨⟨xs, x, hq, h1⟩, fun y H' ⟨e1, e2⟩ => ⟨e1, G2, at', Ext.refl _, ?_⟩⟩
  have := e2 xs hq
  rw [h1] at this; cases this
  exact h2.mono ex
theorem yl_tup {K : PySem.W.Frag} {B : Bs} {G : Hp} {a : Addr} {xs : List V} {ds : List D} (h : G a = some (.tup xs)) (r : RL K G xs ds) : Yl K B (Itt K a) G ds := fun B' G2 H δ σ _ at' ex i => by
  have hq : SqT K H a xs := SqT.of (at'.vw.tup (ex _ _ h))
  refine ⟨fun d hd => ?_, fun hl => ⟨xs, hq, by rw [r.length]; exact hl⟩⟩
  obtain ⟨x, h1, h2⟩ := r.get hd
  refine ⟨⟨xs, x, hq, h1⟩, fun y H' ⟨e1, e2⟩ => ⟨e1, G2, at', Ext.refl _, ?_⟩⟩
  have := e2 xs hq
  rw [h1] at this; cases this
  exact h2.mono ex
def rgD (lo : Int) (n : Nat) : List D := (List.range n).map fun i => D.int (lo + (i : Nat))
theorem yl_rng {K : PySem.W.Frag} {B : Bs} {G : Hp} {lo : Int} {n : Nat} : Yl K B (Itr lo n) G (rgD lo n) := fun B' G2 H δ σ _ at' ex i => by
  refine ⟨fun d hd => ?_, fun hl => by unfold rgD at hl; rw [List.length_map, List.length_range] at hl; exact hl⟩
  unfold rgD at hd
  rw [List.getElem?_map] at hd
  by_cases c : i < n
  · rw [List.getElem?_range c] at hd
    cases hd
    exact ⟨c, fun y H' ⟨e1, e2⟩ => ⟨e1, G2, at', Ext.refl _, by rw [e2]; exact .int _⟩⟩
  · rw [List.getElem?_eq_none (by rw [List.length_range]; omega)] at hd; cases hd
def stD (x : Str) : List D := x.cps.toList.map fun c => D.str ⟨#[c]⟩
theorem yl_str {K : PySem.W.Frag} {B : Bs} {G : Hp} {x : Str} : Yl K B (Its x) G (stD x) := fun B' G2 H δ σ _ at' ex i => by
  refine ⟨fun d hd => ?_, fun hl => by unfold stD at hl; rw [List.length_map, Array.length_toList] at hl; exact hl⟩
  unfold stD at hd
  rw [List.getElem?_map] at hd
  cases q : x.cps.toList[i]? with
  | none => rw [q] at hd; cases hd
  | some c =>
    rw [q] at hd; cases hd
    have hc := (List.getElem?_eq_some_iff.mp q).1
    rw [Array.length_toList] at hc
    refine ⟨hc, fun y H' ⟨e1, c', e2, e3⟩ => ⟨e1, G2, at', Ext.refl _, ?_⟩⟩
    rw [Array.getElem?_toList] at q
    rw [q] at e2; cases e2
    rw [e3]; exact .str _
/-- over a list, a tuple, a text -/
def itD : D → Option (List D)
  | .lst l => some l
  | .scr l => some l
  | .tup l => some l
  | .str x => some (stD x)
  | _ => none
def iOf (E : Mo D) : Mo (List D) := E.bind fun d => Mo.lift (itD d)
theorem di_of (h : DE X W e E) : DI X W tg e (iOf E) :=
  let h1 := PI.or (PI.or (pi_list (tg := tg) h) (pi_tup (tg := tg) h)) (pi_str (tg := tg) h)
  ⟨fun pins s σ H R' I ⟨B, G, δ, r, δ', a, e1, post⟩ => h1.run pins s σ H R' I (by
    -- which of the three: by what the expression gives
    unfold iOf Mo.bind at e1
    cases q : E δ with
    | none => rw [q] at e1; cases e1
    | some z =>
      obtain ⟨x, δ1⟩ := z
      rw [q] at e1
      cases x with
      | error x => cases e1; exact .inl (.inl ⟨B, G, δ, .error x, _, a, q, post⟩)
      | ok d =>
        obtain ⟨ds, hz, hr⟩ := lift_some e1
        cases hr
        cases d with
        | lst l =>
          cases hz
          refine .inl (.inl ⟨B, G, δ, .ok (.lst _), _, a, q, fun G1 H1 a1 x1 v rv => ?_⟩)
          cases rv with
          | lst g hl rl => exact ⟨_, rfl, ⟨_, SqL.of (a1.vw.lst g)⟩, post G1 H1 a1 x1 _ (yl_list (SqL.of g) rl)⟩
        | scr l =>
          cases hz
          refine .inl (.inl ⟨B, G, δ, .ok (.scr _), _, a, q, fun G1 H1 a1 x1 v rv => ?_⟩)
          cases rv with
          | scr g hl rl => exact ⟨_, rfl, ⟨_, a1.vw.sql g⟩, post G1 H1 a1 x1 _ (yl_list g rl)⟩
        | tup l =>
          cases hz
          refine .inl (.inr ⟨B, G, δ, .ok (.tup _), _, a, q, fun G1 H1 a1 x1 v rv => ?_⟩)
          cases rv with
          | tup g hl rl => exact ⟨_, rfl, ⟨_, SqT.of (a1.vw.tup g)⟩, post G1 H1 a1 x1 _ (yl_tup g rl)⟩
        | str x =>
          cases hz
          refine .inr ⟨B, G, δ, .ok (.str x), _, a, q, fun G1 H1 a1 x1 v rv => ?_⟩
          cases rv with
          | str => exact ⟨_, rfl, post G1 H1 a1 x1 _ yl_str⟩
        | _ => cases hz)⟩
/-- over range(n), range(a, b) -/
def rg1 : List D → Option (List D)
  | [.int j] => if j ≤ 16777216 ∧ -16777216 ≤ j then some (rgD 0 j.toNat) else none
  | _ => none
def iRg (f : List D → Option (List D)) (A : Mo (List Ag)) : Mo (List D) := A.bind fun as => Mo.lift ((imms as).bind f)
theorem di_rg1 {a : Expr} {A : Mo (List Ag)} {p pos : Pos} (hg : Gl X "range") (hm : X.mg "range" = none) (ha : DA X W [a] A) (hs : starEach [a] X.env = [(false, eval a X.env)] := by rfl) : DI X W tg (.Call (.Name "range" p) [a] [] pos) (iRg rg1 A) :=
  let h1 := pi_range1 (tg := tg) (pos := pos) (p := p) hg hm ha hs
  ⟨fun pins s σ H R' I ⟨B, G, δ, r, δ', a, e1, post⟩ => h1.run pins s σ H R' I (by
    refine tA_bind a e1 post fun vs H1 G1 δ1 as a1 x1 r1 e2 post => ?_
    obtain ⟨z, hz, hr⟩ := lift_some e2
    cases hr
    cases q : imms as with
    | none => rw [q] at hz; cases hz
    | some ds =>
      rw [q] at hz
      have r2 := imms_ok r1 q
      unfold rg1 at hz
      rw [Option.bind_some] at hz
      split at hz
      · split at hz
        · rename_i j hj
          cases hz
          cases r2 with
          | cons ra rb =>
            cases ra; cases rb
            exact ⟨j, rfl, by omega, by omega, post G1 H1 a1 (Ext.refl _) _ yl_rng⟩
        · cases hz
      · cases hz)⟩
def forM (T : D → Mo Unit) (S : Mo Out) : List D → Mo Out
  | [] => Mo.ret .nx
  | d :: ds => (T d).bind fun _ => fun δ => match S δ with
    | some (.ok .nx, δ') => forM T S ds δ'
    | some (.ok .ct, δ') => forM T S ds δ'
    | some (.ok .bk, δ') => some (.ok .nx, δ')
    | r => r
def sFor (I : Mo (List D)) (T : D → Mo Unit) (S : Mo Out) : Mo Out := I.bind fun ds => forM T S ds
theorem tI_bindS {K : PySem.W.Frag} {B : Bs} {G H : Hp} {δ δ' : Env} {σ : St} {r : Except Exn Out} {Dn : Ends} {I : Mo (List D)} {k : List D → Mo Out} {Q : It → Hp → Prop} (a : At K B G δ σ H) (h : Mo.bind I k δ = some (r, δ')) (post : PostS K W B G Dn r δ')
    (q : ∀ J H1 G1 δ1 d, At K B G1 δ1 σ H1 → Ext G G1 → Yl K B J G1 d → k d δ1 = some (r, δ') → PostS K W B G1 Dn r δ' → Q J H1) : tI K W I σ H Q := by
  unfold Mo.bind at h
  cases e : I δ with
  | none => rw [e] at h; cases h
  | some z =>
    obtain ⟨x, δ1⟩ := z
    rw [e] at h
    cases x with
    | error x => cases h; exact ⟨B, G, δ, .error x, _, a, e, post⟩
    | ok d => exact ⟨B, G, δ, .ok d, δ1, a, e, fun G1 H1 a1 e1 J rv => q J H1 G1 δ1 d a1 e1 rv h (post.mono e1)⟩
/-- the iterator is J -/
def wiJ (J : It) : TI := fun _ H R => R J H
theorem tFor_at {K : PySem.W.Frag} {B : Bs} {G1 : Hp} {δ1 δ' : Env} {J : It} {ds : List D} {r : Except Exn Out} {sl : List Nat} {T : D → Mo Unit} (hT : Calm T) {Dn : Ends} {σ : St} {H1 : Hp} (a1 : At K B G1 δ1 σ H1) (yl : Yl K B J G1 ds) (e2 : forM T S ds δ1 = some (r, δ')) (post : PostS K W B G1 Dn r δ') : tFor (wiJ J) (tG K sl T) (tS K W S) Dn σ H1 := by
  refine ⟨fun i m σ2 H2 => m + i = ds.length ∧ ∃ G2 δ2, At K B G2 δ2 σ2 H2 ∧ Ext G1 G2 ∧ forM T S (ds.drop i) δ2 = some (r, δ'), ⟨ds.length, by omega, G1, δ1, a1, Ext.refl _, e2⟩, ?_⟩
  rintro i m σ2 H2 ⟨hm, G2, δ2, a2, x2, e3⟩
  obtain ⟨y1, y2⟩ := yl B G2 H2 δ2 σ2 (BLe.refl B) a2 x2 i
  by_cases hi : ds.length ≤ i
  · refine .inl ⟨y2 hi, ?_⟩
    rw [List.drop_eq_nil_of_le hi] at e3
    cases e3
    exact post G2 σ2 H2 a2 x2
  · have hlt : i < ds.length := by omega
    obtain ⟨g1, g2⟩ := y1 ds[i] (List.getElem?_eq_getElem hlt)
    rw [List.drop_eq_getElem_cons hlt] at e3
    refine .inr ⟨g1, fun σ' H' => ∃ m', m' < m ∧ (m' + (i + 1) = ds.length ∧ ∃ G2 δ2, At K B G2 δ2 σ' H' ∧ Ext G1 G2 ∧ forM T S (ds.drop (i + 1)) δ2 = some (r, δ')), fun σ' H' z => z, fun x H' hy => ?_⟩
    obtain ⟨rfl, G3, a3, x3, r3⟩ := g2 x H' hy
    unfold forM Mo.bind at e3
    cases q : T ds[i] δ2 with
    | none => rw [q] at e3; cases e3
    | some z =>
      obtain ⟨u, δ3⟩ := z
      rw [q] at e3
      cases u with
      | error u => exact absurd q (hT _ _ _ _)
      | ok u =>
        refine ⟨B, G3, δ2, ds[i], δ3, a3, r3, q, fun σ4 a4 _ => ?_⟩
        cases q2 : S δ3 with
        | none => simp only [q2] at e3; cases e3
        | some z =>
          obtain ⟨u, δ4⟩ := z
          simp only [q2] at e3
          have x13 := x2.trans x3
          cases u with
          | error u => cases e3; exact ⟨B, G3, δ3, .error u, _, a4, q2, post.mono x13⟩
          | ok o =>
            cases o with
            | nx => exact ⟨B, G3, δ3, .ok .nx, δ4, a4, q2, fun G5 σ5 H5 a5 x5 => ⟨m - 1, by omega, by omega, G5, δ4, a5, x13.trans x5, e3⟩⟩
            | ct => exact ⟨B, G3, δ3, .ok .ct, δ4, a4, q2, fun G5 σ5 H5 a5 x5 => ⟨m - 1, by omega, by omega, G5, δ4, a5, x13.trans x5, e3⟩⟩
            | bk => cases e3; exact ⟨B, G3, δ3, .ok .bk, _, a4, q2, fun G5 σ5 H5 a5 x5 => post G5 σ5 H5 a5 (x13.trans x5)⟩
            | rt d => cases e3; exact ⟨B, G3, δ3, .ok (.rt d), _, a4, q2, post.mono x13⟩
            | rtO d => cases e3; exact ⟨B, G3, δ3, .ok (.rtO d), _, a4, q2, post.mono x13⟩
theorem tFor_ok {K : PySem.W.Frag} {I : Mo (List D)} {sl : List Nat} {T : D → Mo Unit} (hT : Calm T) {Dn : Ends} {σ : St} {H : Hp} (q : tS K W (sFor I T S) Dn σ H) : tFor (tI K W I) (tG K sl T) (tS K W S) Dn σ H := by
  obtain ⟨B, G, δ, r, δ', a, e1, post⟩ := q
  exact tI_bindS a e1 post fun J H1 G1 δ1 ds a1 x1 yl e2 post => tFor_at hT a1 yl e2 post
theorem ds_for {iter : Expr} {body : List Stmt} {I : Mo (List D)} {sl : List Nat} {T : D → Mo Unit} (hp : PassesOwn (model X.prog X.w) X.A X.env X.xe) (hc : X.calm = true) (hT : Calm T) (hi : DI X W tg iter I) (hg : DG X tg sl T) (hb : DSs X W body S)
    (hs : ∀ x, foldedSetIterable iter X.env x = pure x := by intro _; rfl) : DS X W (.For tg iter body [] pos) (sFor I T S) := PS.weak (ps_for hp hc hi hg hb hs) fun Dn σ H q => tFor_ok hT q
theorem calm_nil : ∀ ds δ x δ', gNil ds δ ≠ some (.error x, δ') := fun ds δ x δ' h => by cases ds <;> cases h
theorem calm_cons {T : D → Mo Unit} {Ts : List D → Mo Unit} (h1 : Calm T) (h2 : ∀ ds δ x δ', Ts ds δ ≠ some (.error x, δ')) : ∀ ds δ x δ', gCons T Ts ds δ ≠ some (.error x, δ') := fun ds δ x δ' h => by
  cases ds with
  | nil => cases h
  | cons d ds =>
    have h : Mo.bind (T d) (fun _ => Ts ds) δ = some (.error x, δ') := h
    unfold Mo.bind at h
    cases q : T d δ with
    | none => rw [q] at h; cases h
    | some z =>
      obtain ⟨u, δ1⟩ := z
      rw [q] at h
      cases u with
      | error u => exact h1 _ _ _ _ q
      | ok u => exact h2 _ _ _ _ h
theorem calm_T {n : Nat} {Ts : List D → Mo Unit} (h2 : ∀ ds δ x δ', Ts ds δ ≠ some (.error x, δ')) : Calm (gT n Ts) := fun d δ x δ' h => by
  cases d with
  | tup ds =>
    have h : (if ds.length = n then Ts ds else fun _ => none) δ = some (.error x, δ') := h
    split at h
    · exact h2 _ _ _ _ h
    · cases h
  | lst ds =>
    have h : (if ds.length = n then Ts ds else fun _ => none) δ = some (.error x, δ') := h
    split at h
    · exact h2 _ _ _ _ h
    · cases h
  | _ => cases h
end
end M
set_option Elab.async false
set_option linter.all false
set_option maxRecDepth 100000
namespace M
open PySem L2 PySem.Spec PyProof.Rows
def argSl (δ : Env) : Ag → Option Sl
  | .im d => some (.imm d)
  | .vr i => match δ[i]? with
    | some (.own d) => some (.io d)
    | some (.io d) => some (.io d)
    | _ => none
  | .vb i => match δ[i]? with
    | some (.own d) => some (.bor d)
    | some (.io d) => some (.bor d)
    | some (.imm d) => some (.bor d)
    | some (.bor d) => some (.bor d)
    | _ => none
def argSls (δ : Env) : List Ag → Option Env
  | [] => some []
  | a :: as => match argSl δ a with
    | none => none
    | some s => match argSls δ as with
      | none => none
      | some ss => some (s :: ss)
def vrs : List Ag → List Nat
  | [] => []
  | .vr i :: as => i :: vrs as
  | _ :: as => vrs as
def vbs : List Ag → List Nat
  | [] => []
  | .vb i :: as => i :: vbs as
  | _ :: as => vbs as
def backs : List Ag → Env → Env → Option Env
  | [], _, δ => some δ
  | .vr i :: as, .io d :: δc, δ => match δ[i]? with
    | some (.own _) => backs as δc (δ.set i (.own d))
    | some (.io _) => backs as δc (δ.set i (.io d))
    | _ => none
  | .vr _ :: _, _, _ => none
  | .im _ :: as, _ :: δc, δ => backs as δc δ
  | .vb _ :: as, _ :: δc, δ => backs as δc δ
  | _ :: _, [], _ => none
def callM (m : Mo D) (as : List Ag) : Mo D := fun δ => match argSls δ as with
  | none => none
  | some δc => if (vrs as).Nodup ∧ (∀ i ∈ vbs as, i ∉ vrs as) then match m δc with
      | none => none
      | some (r, δc') => match backs as δc' δ with
        | none => none
        | some δ' => some (r, δ')
    else none
theorem argSl_vr {δ : Env} {i : Nat} {s : Sl} (h : argSl δ (.vr i) = some s) : ∃ d, s = .io d ∧ (δ[i]? = some (.own d) ∨ δ[i]? = some (.io d)) := by
  have h : (match δ[i]? with
    | some (.own d) => some (Sl.io d)
    | some (.io d) => some (Sl.io d)
    | _ => none) = some s := h
  split at h
  · rename_i d q; cases h; exact ⟨d, rfl, .inl q⟩
  · rename_i d q; cases h; exact ⟨d, rfl, .inr q⟩
  · cases h
theorem argSl_vb {δ : Env} {i : Nat} {s : Sl} (h : argSl δ (.vb i) = some s) : ∃ d, s = .bor d ∧ (δ[i]? = some (.own d) ∨ δ[i]? = some (.io d) ∨ δ[i]? = some (.imm d) ∨ δ[i]? = some (.bor d)) := by
  have h : (match δ[i]? with
    | some (.own d) => some (Sl.bor d)
    | some (.io d) => some (Sl.bor d)
    | some (.imm d) => some (Sl.bor d)
    | some (.bor d) => some (Sl.bor d)
    | _ => none) = some s := h
  split at h
  · rename_i d q; cases h; exact ⟨d, rfl, .inl q⟩
  · rename_i d q; cases h; exact ⟨d, rfl, .inr (.inl q)⟩
  · rename_i d q; cases h; exact ⟨d, rfl, .inr (.inr (.inl q))⟩
  · rename_i d q; cases h; exact ⟨d, rfl, .inr (.inr (.inr q))⟩
  · cases h
theorem argSls_len {δ : Env} : ∀ {as : List Ag} {δc : Env}, argSls δ as = some δc → δc.length = as.length
  | [], _, h => by cases h; rfl
  | a :: as, δc, h => by
    unfold argSls at h
    cases q : argSl δ a with
    | none => rw [q] at h; cases h
    | some s =>
      rw [q] at h
      cases q2 : argSls δ as with
      | none => simp only [q2] at h; cases h
      | some ss => simp only [q2] at h; cases h; rw [List.length_cons, List.length_cons, argSls_len q2]
theorem argSls_get {δ : Env} : ∀ {as : List Ag} {δc : Env}, argSls δ as = some δc → ∀ {k : Nat} {s : Sl}, δc[k]? = some s → ∃ a, as[k]? = some a ∧ argSl δ a = some s
  | [], _, h, k, s, e => by cases h; simp at e
  | a :: as, δc, h, k, s, e => by
    unfold argSls at h
    cases q : argSl δ a with
    | none => rw [q] at h; cases h
    | some s0 =>
      rw [q] at h
      cases q2 : argSls δ as with
      | none => simp only [q2] at h; cases h
      | some ss =>
        simp only [q2] at h; cases h
        cases k with
        | zero => simp at e; subst e; exact ⟨a, rfl, q⟩
        | succ k =>
          obtain ⟨b, h1, h2⟩ := argSls_get q2 (k := k) (s := s) (by simpa using e)
          exact ⟨b, by simpa using h1, h2⟩
theorem argSls_get' {δ : Env} : ∀ {as : List Ag} {δc : Env}, argSls δ as = some δc → ∀ {k : Nat} {a : Ag}, as[k]? = some a → ∃ s, δc[k]? = some s ∧ argSl δ a = some s := fun {as δc} h k a e => by
  have hl := argSls_len h
  have hk := (List.getElem?_eq_some_iff.mp e).1
  have hk2 : k < δc.length := by omega
  obtain ⟨b, h1, h2⟩ := argSls_get h (List.getElem?_eq_getElem hk2)
  rw [e] at h1; cases h1
  exact ⟨_, List.getElem?_eq_getElem hk2, h2⟩
theorem vrs_mem : ∀ {as : List Ag} {i : Nat}, i ∈ vrs as ↔ ∃ k : Nat, as[k]? = some (.vr i)
  | [], i => by simp [vrs]
  | .vr j :: as, i => by
    unfold vrs
    rw [List.mem_cons, vrs_mem]
    refine ⟨fun h => ?_, fun ⟨k, h⟩ => ?_⟩
    · rcases h with rfl | ⟨k, h⟩
      · exact ⟨0, rfl⟩
      · exact ⟨k + 1, by simpa using h⟩
    · cases k with
      | zero => simp at h; exact .inl h.symm
      | succ k => exact .inr ⟨k, by simpa using h⟩
  | .im d :: as, i => by
    unfold vrs
    rw [vrs_mem]
    refine ⟨fun ⟨k, h⟩ => ⟨k + 1, by simpa using h⟩, fun ⟨k, h⟩ => ?_⟩
    cases k with
    | zero => simp at h
    | succ k => exact ⟨k, by simpa using h⟩
  | .vb j :: as, i => by
    unfold vrs
    rw [vrs_mem]
    refine ⟨fun ⟨k, h⟩ => ⟨k + 1, by simpa using h⟩, fun ⟨k, h⟩ => ?_⟩
    cases k with
    | zero => simp at h
    | succ k => exact ⟨k, by simpa using h⟩
theorem vbs_mem : ∀ {as : List Ag} {i k : Nat}, as[k]? = some (.vb i) → i ∈ vbs as
  | [], i, k, h => by simp at h
  | .vb j :: as, i, k, h => by
    unfold vbs
    cases k with
    | zero => simp at h; rw [h]; exact List.mem_cons_self
    | succ k => exact List.mem_cons_of_mem _ (vbs_mem (k := k) (by simpa using h))
  | .im d :: as, i, k, h => by
    unfold vbs
    cases k with
    | zero => simp at h
    | succ k => exact vbs_mem (k := k) (by simpa using h)
  | .vr j :: as, i, k, h => by
    unfold vbs
    cases k with
    | zero => simp at h
    | succ k => exact vbs_mem (k := k) (by simpa using h)
theorem vrs_inj : ∀ {as : List Ag} {i k l : Nat}, (vrs as).Nodup → as[k]? = some (.vr i) → as[l]? = some (.vr i) → k = l
  | [], i, k, l, _, h, _ => by simp at h
  | a :: as, i, k, l, nd, h1, h2 => by
    have nd' : (vrs as).Nodup := by
      cases a <;> unfold vrs at nd <;> first | exact nd | exact (List.nodup_cons.mp nd).2
    cases k with
    | zero =>
      cases l with
      | zero => rfl
      | succ l =>
        simp at h1; subst h1
        unfold vrs at nd
        exact absurd (vrs_mem.mpr ⟨l, by simpa using h2⟩) (List.nodup_cons.mp nd).1
    | succ k =>
      cases l with
      | zero =>
        simp at h2; subst h2
        unfold vrs at nd
        exact absurd (vrs_mem.mpr ⟨k, by simpa using h1⟩) (List.nodup_cons.mp nd).1
      | succ l =>
        have := vrs_inj (as := as) (i := i) (k := k) (l := l) nd' (by simpa using h1) (by simpa using h2)
        rw [this]
theorem backs_len : ∀ {as : List Ag} {δc δ δ' : Env}, backs as δc δ = some δ' → δ'.length = δ.length
  | [], _, _, _, h => by cases h; rfl
  | .vr i :: as, [], _, _, h => by cases h
  | .vr i :: as, .no :: _, _, _, h => by cases h
  | .vr i :: as, .imm _ :: _, _, _, h => by cases h
  | .vr i :: as, .own _ :: _, _, _, h => by cases h
  | .vr i :: as, .bor _ :: _, _, _, h => by cases h
  | .vr i :: as, .io d :: δc, δ, δ', h => by
    unfold backs at h
    split at h
    · rw [backs_len h, List.length_set]
    · rw [backs_len h, List.length_set]
    · cases h
  | .im _ :: as, [], _, _, h => by cases h
  | .im _ :: as, _ :: δc, δ, δ', h => by unfold backs at h; exact backs_len h
  | .vb _ :: as, [], _, _, h => by cases h
  | .vb _ :: as, _ :: δc, δ, δ', h => by unfold backs at h; exact backs_len h
/-- what a slot is behind the call -/
def BackAt (as : List Ag) (δc δ : Env) (j : Nat) (s : Sl) : Prop := (j ∉ vrs as ∧ δ[j]? = some s) ∨
  ∃ (k : Nat) (d : D), as[k]? = some (.vr j) ∧ δc[k]? = some (.io d) ∧ ((∃ d0, δ[j]? = some (.own d0) ∧ s = .own d) ∨ ∃ d0, δ[j]? = some (.io d0) ∧ s = .io d)
theorem BackAt.step {a : Ag} {as : List Ag} {s0 : Sl} {δc δ : Env} {j : Nat} {s : Sl} (ha : ∀ i, a ≠ .vr i) (h : BackAt as δc δ j s) : BackAt (a :: as) (s0 :: δc) δ j s := by
  rcases h with ⟨h1, h2⟩ | ⟨k, d, h1, h2, h3⟩
  · refine .inl ⟨fun q => ?_, h2⟩
    obtain ⟨k, q⟩ := vrs_mem.mp q
    cases k with
    | zero => simp at q; exact ha _ q
    | succ k => exact h1 (vrs_mem.mpr ⟨k, by simpa using q⟩)
  · exact .inr ⟨k + 1, d, by simpa using h1, by simpa using h2, h3⟩
theorem backs_get : ∀ {as : List Ag} {δc δ δ' : Env}, (vrs as).Nodup → backs as δc δ = some δ' → ∀ {j : Nat} {s : Sl}, δ'[j]? = some s → BackAt as δc δ j s
  | [], _, _, _, _, h, j, s, e => by cases h; exact .inl ⟨by simp [vrs], e⟩
  | .vr i :: as, [], _, _, _, h, _, _, _ => by cases h
  | .vr i :: as, .no :: _, _, _, _, h, _, _, _ => by cases h
  | .vr i :: as, .imm _ :: _, _, _, _, h, _, _, _ => by cases h
  | .vr i :: as, .own _ :: _, _, _, _, h, _, _, _ => by cases h
  | .vr i :: as, .bor _ :: _, _, _, _, h, _, _, _ => by cases h
  | .vr i :: as, .io d :: δc, δ, δ', nd, h, j, s, e => by
    unfold vrs at nd
    obtain ⟨n1, n2⟩ := List.nodup_cons.mp nd
    have go : ∀ s0, (s0 = .own d ∧ (∃ d0, δ[i]? = some (.own d0)) ∨ s0 = .io d ∧ ∃ d0, δ[i]? = some (.io d0)) → backs as δc (δ.set i s0) = some δ' → BackAt (.vr i :: as) (.io d :: δc) δ j s := fun s0 hs0 h => by
      have ih := backs_get n2 h e
      by_cases c : i = j
      · subst c
        rcases ih with ⟨h1, h2⟩ | ⟨k, d', h1, _⟩
        · rcases get_set h2 with ⟨_, rfl, _⟩ | ⟨z, _⟩
          · refine .inr ⟨0, d, rfl, rfl, ?_⟩
            rcases hs0 with ⟨rfl, d0, q⟩ | ⟨rfl, d0, q⟩
            · exact .inl ⟨d0, q, rfl⟩
            · exact .inr ⟨d0, q, rfl⟩
          · exact absurd rfl z
        · exact absurd (vrs_mem.mpr ⟨k, h1⟩) n1
      · rcases ih with ⟨h1, h2⟩ | ⟨k, d', h1, h2, h3⟩
        · rw [List.getElem?_set_ne c] at h2
          refine .inl ⟨fun q => ?_, h2⟩
          unfold vrs at q
          rcases List.mem_cons.mp q with q | q
          · exact c q.symm
          · exact h1 q
        · rw [List.getElem?_set_ne c] at h3
          exact .inr ⟨k + 1, d', by simpa using h1, by simpa using h2, h3⟩
    unfold backs at h
    split at h
    · rename_i d0 q; exact go _ (.inl ⟨rfl, d0, q⟩) h
    · rename_i d0 q; exact go _ (.inr ⟨rfl, d0, q⟩) h
    · cases h
  | .im _ :: as, [], _, _, _, h, _, _, _ => by cases h
  | .im _ :: as, _ :: δc, δ, δ', nd, h, j, s, e => by
    unfold backs at h
    have nd : (vrs as).Nodup := nd
    exact (backs_get (as := as) nd h e).step (fun i q => by cases q)
  | .vb _ :: as, [], _, _, _, h, _, _, _ => by cases h
  | .vb _ :: as, _ :: δc, δ, δ', nd, h, j, s, e => by
    unfold backs at h
    have nd : (vrs as).Nodup := nd
    exact (backs_get (as := as) nd h e).step (fun i q => by cases q)
/-- the lent objects by the argument's place -/
def ioList (as : List Ag) (vs : List V) : List (Nat × Addr) := (List.range as.length).filterMap fun (k : Nat) => match as[k]?, vs[k]? with
  | some (.vr _), some (.ref p) => some (k, p)
  | _, _ => none
theorem ioList_mem {as : List Ag} {vs : List V} {k : Nat} {p : Addr} : (k, p) ∈ ioList as vs ↔ ∃ i, as[k]? = some (.vr i) ∧ vs[k]? = some (.ref p) := by
  unfold ioList
  rw [List.mem_filterMap]
  constructor
  · rintro ⟨m, _, h⟩
    split at h
    · rename_i i q h1 h2
      cases h
      exact ⟨i, h1, h2⟩
    · cases h
  · rintro ⟨i, h1, h2⟩
    refine ⟨k, List.mem_range.mpr (List.getElem?_eq_some_iff.mp h1).1, ?_⟩
    rw [h1, h2]
section
variable {K : PySem.W.Frag} {B : Bs} {G G' H H' : Hp} {δ δ' δc δc' : Env} {σ : St} {as : List Ag} {vs : List V}
theorem ags_get {k : Nat} {a : Ag} (h : AgsOk K G σ vs as) (e : as[k]? = some a) : ∃ v, vs[k]? = some v ∧ AgOk K G σ v a := by
  induction h generalizing k with
  | nil => simp at e
  | cons h t ih =>
    cases k with
    | zero => simp at e; subst e; exact ⟨_, rfl, h⟩
    | succ k => obtain ⟨v, h1, h2⟩ := ih (k := k) (by simpa using e); exact ⟨v, by simpa using h1, h2⟩
theorem ags_len (h : AgsOk K G σ vs as) : vs.length = as.length := Paired.length h
/-- a lent slot -/
theorem vr_own (a : At K B G δ σ H) (hδ : argSls δ as = some δc) {k i : Nat} (e : as[k]? = some (.vr i)) : ∃ p, OwnAt δ σ i p ∧ (∀ j, B.Bo j p = none) ∧ (B.H0 p = none ∨ (i, p) ∈ B.IO) ∧ ∃ d, δc[k]? = some (.io d) ∧ Ow K G H p d ∧ G p = none := by
  obtain ⟨s, h1, h2⟩ := argSls_get' hδ e
  obtain ⟨d, rfl, q | q⟩ := argSl_vr h2
  · obtain ⟨p, q1, q2, q3, q4⟩ := a.own q
    refine ⟨p, ⟨⟨d, .inl q⟩, q1⟩, fun j => ?_, .inl q4, d, h1, q3, q2⟩
    cases z : B.Bo j p with
    | none => rfl
    | some u => exact absurd q4 (a.bod j p (by rw [z]; simp))
  · obtain ⟨p, q1, q2, q3, q4⟩ := a.io q
    exact ⟨p, ⟨⟨d, .inr q⟩, q1⟩, (a.iok i p q4).2.2.1, .inr q4, d, h1, q3, q2⟩
theorem io_slot (a : At K B G δ σ H) (g : AgsOk K G σ vs as) (hδ : argSls δ as = some δc) {k : Nat} {p : Addr} (e : (k, p) ∈ ioList as vs) : ∃ i, as[k]? = some (.vr i) ∧ OwnAt δ σ i p ∧ (∀ j, B.Bo j p = none) ∧ (B.H0 p = none ∨ (i, p) ∈ B.IO) := by
  obtain ⟨i, h1, h2⟩ := ioList_mem.mp e
  obtain ⟨q, h3, h4, h5, d, _⟩ := vr_own a hδ h1
  obtain ⟨v, h6, h7⟩ := ags_get g h1
  have h7 : σ[i]? = some (some v) := h7
  rw [h2] at h6; cases h6
  have := h3.2
  rw [h7] at this; cases this
  exact ⟨i, h1, h3, h4, h5⟩
/-- what a borrowed argument is read by -/
theorem bo_one (a : At K B G δ σ H) (g : AgsOk K G σ vs as) (hδ : argSls δ as = some δc) (nb : ∀ i ∈ vbs as, i ∉ vrs as) (k : Nat) :
    ∃ Bk : Hp, (Vw Bk H ∧ ∀ b ps, Bk b ≠ some (.tbl ps)) ∧ (∀ j p, (j, p) ∈ ioList as vs → Bk p = none) ∧ ∀ d, δc[k]? = some (.bor d) → ∃ v, vs[k]? = some v ∧ R K Bk v d := by
  have ioG : ∀ j p, (j, p) ∈ ioList as vs → G p = none := fun j p e => by
    obtain ⟨i, _, h3, _⟩ := io_slot a g hδ e
    exact (a.ownAt h3).1
  by_cases c : ∃ d, δc[k]? = some (.bor d)
  · obtain ⟨d, hd⟩ := c
    obtain ⟨x, h1, h2⟩ := argSls_get hδ hd
    have key : (∃ v Bk, vs[k]? = some v ∧ (Vw Bk H ∧ ∀ b ps, Bk b ≠ some (.tbl ps)) ∧ (∀ j p, (j, p) ∈ ioList as vs → Bk p = none) ∧ R K Bk v d) → ∃ Bk : Hp, (Vw Bk H ∧ ∀ b ps, Bk b ≠ some (.tbl ps)) ∧ (∀ j p, (j, p) ∈ ioList as vs → Bk p = none) ∧ ∀ d, δc[k]? = some (.bor d) → ∃ v, vs[k]? = some v ∧ R K Bk v d := fun ⟨v, Bk, z1, z2, z3, z4⟩ => ⟨Bk, z2, z3, fun d' e => by rw [hd] at e; cases e; exact ⟨v, z1, z4⟩⟩
    refine key ?_
    cases x with
    | im d' => cases h2
    | vr i => obtain ⟨_, q, _⟩ := argSl_vr h2; cases q
    | vb i =>
      obtain ⟨v, h3, h4⟩ := ags_get g h1
      have h4 : σ[i]? = some (some v) := h4
      have own : ∀ p, v = .ref p → OwnAt δ σ i p → Ow K G H p d → G p = none → ∃ v Bk, vs[k]? = some v ∧ (Vw Bk H ∧ ∀ b ps, Bk b ≠ some (.tbl ps)) ∧ (∀ j p, (j, p) ∈ ioList as vs → Bk p = none) ∧ R K Bk v d := fun p hv ho w gp => by
        obtain ⟨o, b1, bm, b2⟩ := w.obj
        refine ⟨v, upd G p o, h3, ⟨fun b u e => ?_, notbl_upd a.tb.2.2.1 (mut_notbl bm)⟩, fun j q e => ?_, by rw [hv]; exact b2 _ upd_same (Ext.new gp)⟩
        · by_cases z : b = p
          · subst z; rw [upd_same] at e; cases e; exact .inl b1
          · rw [upd_ne z] at e; exact a.vw b u e
        · have z : q ≠ p := fun z => by
            subst z
            obtain ⟨l, y1, y2, _⟩ := io_slot a g hδ e
            have := a.apart i l q ho y2
            subst this
            exact nb i (vbs_mem h1) (vrs_mem.mpr ⟨j, y1⟩)
          rw [upd_ne z]; exact ioG j q e
      obtain ⟨d', q', q⟩ := argSl_vb h2
      cases q'
      rcases q with q | q | q | q
      · obtain ⟨p, q1, q2, q3, _⟩ := a.own q
        have q5 : v = .ref p := by rw [h4] at q1; cases q1; rfl
        exact own p q5 ⟨⟨_, .inl q⟩, q1⟩ q3 q2
      · obtain ⟨p, q1, q2, q3, _⟩ := a.io q
        have q5 : v = .ref p := by rw [h4] at q1; cases q1; rfl
        exact own p q5 ⟨⟨_, .inr q⟩, q1⟩ q3 q2
      · obtain ⟨u, q1, q2⟩ := a.imm q
        rw [h4] at q1; cases q1
        exact ⟨_, G, h3, ⟨a.vw, a.tb.2.2.1⟩, ioG, q2⟩
      · obtain ⟨u, q1, q2⟩ := a.bor q
        rw [h4] at q1; cases q1
        exact ⟨_, B.Bo i, h3, ⟨a.bo i, a.tb.2.2.2.1 i⟩, fun j p e => by
          obtain ⟨l, _, _, y, _⟩ := io_slot a g hδ e
          exact y i, q2⟩
  · exact ⟨fun _ => none, ⟨fun _ _ e => (by cases e), fun _ _ e => (by cases e)⟩, fun _ _ _ => rfl, fun d e => absurd ⟨d, e⟩ c⟩
/-- all but tables -/
def hid (H : Hp) : Hp := fun b => match H b with
  | some (.tbl _) => none
  | o => o
theorem hid_of {b : Addr} {o : HO} (h : hid H b = some o) : H b = some o ∧ ∀ ps, o ≠ .tbl ps := by
  unfold hid at h
  split at h
  · cases h
  · rename_i n
    exact ⟨h, fun ps c => n ps (by rw [h, c])⟩
theorem hid_nt {b : Addr} {o : HO} (h : H b = some o) (n : ∀ ps, o ≠ .tbl ps) : hid H b = some o := by
  unfold hid
  rw [h]
  cases o with
  | tbl ps => exact absurd rfl (n ps)
  | _ => rfl
theorem hid_ne {b : Addr} (h : hid H b ≠ none) : H b ≠ none := fun c => h (by unfold hid; rw [c])
/-- what was there from the start is there, and is no table -/
theorem At.was (a : At K B G δ σ H) {p : Addr} (h : B.H0 p ≠ none) : ∃ o, H p = some o ∧ ∀ ps, o ≠ .tbl ps := by
  cases z : B.H0 p with
  | none => exact absurd z h
  | some o =>
    by_cases io : ∀ i, (i, p) ∉ B.IO
    · exact ⟨o, a.keep p o z io, fun ps c => a.tb.2.1 p ps (by rw [z, c])⟩
    · have ⟨i, io⟩ : ∃ i, (i, p) ∈ B.IO := Classical.byContradiction fun q => io fun i hi => q ⟨i, hi⟩
      obtain ⟨_, _, _, u, z1, z2⟩ := a.iok i p io
      exact ⟨u, z1, mut_notbl z2⟩
theorem At.fresh1 (a : At K B G δ σ H) {p : Addr} (h : ∀ o, H p = some o → ∃ ps, o = .tbl ps) : B.H0 p = none := by
  cases z : B.H0 p with
  | none => rfl
  | some u =>
    obtain ⟨o, q1, q2⟩ := a.was (p := p) (by rw [z]; simp)
    obtain ⟨ps, e⟩ := h o q1
    exact absurd e (q2 ps)
theorem At.noOwn1 (a : At K B G δ σ H) {p : Addr} (h : ∀ o, H p = some o → ∃ ps, o = .tbl ps) : ∀ j, ¬ OwnAt δ σ j p := fun j e => by
  obtain ⟨_, d, w⟩ := a.ownAt e
  obtain ⟨u, b, n⟩ := w.nt
  obtain ⟨ps, e⟩ := h u b
  exact n.tbl ps e
theorem call_enter (a : At K B G δ σ H) (g : AgsOk K G σ vs as) (hδ : argSls δ as = some δc) (nd : (vrs as).Nodup) (nb : ∀ i ∈ vbs as, i ∉ vrs as) :
    ∃ Bc : Bs, Bc.H0 = hid H ∧ Bc.G0 = G ∧ Bc.IO = ioList as vs ∧ At K Bc G δc (vs.map some) H := by
  obtain ⟨Bo, hBo⟩ := Classical.axiomOfChoice (bo_one a g hδ nb)
  refine ⟨⟨hid H, G, Bo, ioList as vs⟩, rfl, rfl, rfl, ⟨a.vw, Ext.refl G, fun _ _ e _ => (hid_of e).1, fun _ e => hid_ne e, fun _ _ _ _ e => e, fun k p e => ?_, fun j => (hBo j).1.1, fun j b e => ?_, ?_, fun k s e => ?_, fun k l p e1 e2 => ?_, ⟨a.tb.1, fun b ps e => (hid_of e).2 ps rfl, a.tb.2.2.1, (fun j => (hBo j).1.2), fun k p xs e z => (by
    obtain ⟨i, h1, h2, h3, h4⟩ := io_slot a g hδ e
    obtain ⟨_, d, w⟩ := a.ownAt h2
    obtain ⟨o, b1, m⟩ := w.nt
    have z2 := (hid_of z).1
    rw [b1] at z2; cases z2; exact m.tup _ rfl)⟩⟩⟩
  · obtain ⟨i, h1, h2, h3, h4⟩ := io_slot a g hδ e
    obtain ⟨g1, d, w⟩ := a.ownAt h2
    obtain ⟨o, b1, m, _⟩ := w.obj
    exact ⟨g1, by show hid H p ≠ none; rw [hid_nt b1 (mut_notbl m)]; simp, fun j => (hBo j).2.1 k p e, o, b1, m⟩
  · cases z : Bo j b with
    | none => exact absurd z e
    | some u =>
      have nu : ∀ ps, u ≠ .tbl ps := fun ps c => (hBo j).1.2 b ps (by rw [z, c])
      show hid H b ≠ none
      rcases (hBo j).1.1 b u z with q | ⟨_, x, q⟩
      · rw [hid_nt q nu]; simp
      · rw [hid_nt q (fun ps c => by cases c)]; simp
  · rw [List.length_map, argSls_len hδ, ags_len g]
  · obtain ⟨x, h1, h2⟩ := argSls_get hδ e
    obtain ⟨v, h3, h4⟩ := ags_get g h1
    refine ⟨some v, by rw [List.getElem?_map, h3]; rfl, ?_⟩
    cases x with
    | im d => cases h2; exact ⟨v, rfl, h4⟩
    | vr i =>
      obtain ⟨p, q1, q2, q3, d, q4, q5, q6⟩ := vr_own a hδ h1
      rw [e] at q4; cases q4
      have h4 : σ[i]? = some (some v) := h4
      have := q1.2
      rw [h4] at this; cases this
      exact ⟨p, rfl, q6, q5, ioList_mem.mpr ⟨i, h1, h3⟩⟩
    | vb i =>
      obtain ⟨d, rfl, _⟩ := argSl_vb h2
      obtain ⟨u, z1, z2⟩ := (hBo k).2.2 d e
      rw [h3] at z1; cases z1
      exact ⟨v, rfl, z2⟩
  · have lent : ∀ k, OwnAt δc (vs.map some) k p → ∃ i, as[k]? = some (.vr i) ∧ OwnAt δ σ i p := fun k z => by
      obtain ⟨⟨d, z1⟩, z2⟩ := z
      have hs : ∃ s, δc[k]? = some s ∧ (s = .own d ∨ s = .io d) := by
        rcases z1 with z1 | z1
        · exact ⟨_, z1, .inl rfl⟩
        · exact ⟨_, z1, .inr rfl⟩
      obtain ⟨s, y1, y2⟩ := hs
      obtain ⟨x, h1, h2⟩ := argSls_get hδ y1
      cases x with
      | im d => cases h2; rcases y2 with y2 | y2 <;> cases y2
      | vb i => obtain ⟨_, rfl, _⟩ := argSl_vb h2; rcases y2 with y2 | y2 <;> cases y2
      | vr i =>
        obtain ⟨q, q1, _⟩ := vr_own a hδ h1
        obtain ⟨v, h3, h4⟩ := ags_get g h1
        have h4 : σ[i]? = some (some v) := h4
        rw [List.getElem?_map, h3] at z2
        have z2 : v = .ref p := Option.some.inj (Option.some.inj z2)
        subst z2
        exact ⟨i, h1, ⟨q1.1, h4⟩⟩
    obtain ⟨i, x1, x2⟩ := lent k e1
    obtain ⟨j, y1, y2⟩ := lent l e2
    have := a.apart i j p x2 y2
    subst this
    exact vrs_inj nd x1 y1
theorem call_leave {Bc : Bs} (a : At K B G δ σ H) (g : AgsOk K G σ vs as) (hδ : argSls δ as = some δc) (nd : (vrs as).Nodup) (e1 : Bc.H0 = hid H) (e2 : Bc.G0 = G) (e3 : Bc.IO = ioList as vs)
    (ac : At K Bc G' δc' (vs.map some) H') (hb : backs as δc' δ = some δ') : At K B G' δ' σ H' := by
  have ex : Ext G G' := by rw [← e2]; exact ac.g0
  have noIO : ∀ p, (∀ j, ¬ OwnAt δ σ j p) → ∀ k, (k, p) ∉ Bc.IO := fun p h k z => by
    rw [e3] at z
    obtain ⟨i, _, h2, _⟩ := io_slot a g hδ z
    exact h i h2
  have kp : ∀ p o, (∀ ps, o ≠ .tbl ps) → H p = some o → (∀ k, (k, p) ∉ Bc.IO) → H' p = some o := fun p o t z n => ac.keep p o (by rw [e1]; exact hid_nt z t) n
  have gNone : ∀ p o, (∀ ps, o ≠ .tbl ps) → H p = some o → (∀ xs, o ≠ .tup xs) → G p = none → G' p = none := fun p o h z t n => ac.leak p o (by rw [e1]; exact hid_nt z h) t (by rw [e2]; exact n)
  have zT : ∀ p o, B.H0 p = some o → ∀ ps, o ≠ .tbl ps := fun p o h ps c => a.tb.2.1 p ps (by rw [h, c])
  have noOf : ∀ p, (B.H0 p ≠ none ∧ ∀ i, (i, p) ∉ B.IO) → ∀ k, (k, p) ∉ Bc.IO := fun p h k z => by
    rw [e3] at z
    obtain ⟨i, _, _, _, h4⟩ := io_slot a g hδ z
    rcases h4 with h4 | h4
    · exact h.1 h4
    · exact h.2 i h4
  refine ⟨ac.vw, a.g0.trans ex, fun p o z n => ?_, fun p z => ?_, fun p o z t n => ?_, fun i p z => ?_, fun j p o z => ?_, a.bod, ?_, fun j s z => ?_, fun i j p z1 z2 => ?_, ⟨ac.tb.1, a.tb.2.1, ac.tb.2.2.1, a.tb.2.2.2⟩⟩
  · exact kp p o (zT p o z) (a.keep p o z n) (noOf p ⟨by rw [z]; simp, n⟩)
  · obtain ⟨o, q1, q2⟩ := a.was z
    exact ac.dom p (by rw [e1, hid_nt q1 q2]; simp)
  · have gp := a.leak p o z t n
    by_cases io : ∀ i, (i, p) ∉ B.IO
    · exact gNone p o (zT p o z) (a.keep p o z io) t gp
    · have ⟨i, io⟩ : ∃ i, (i, p) ∈ B.IO := Classical.byContradiction fun q => io fun i hi => q ⟨i, hi⟩
      obtain ⟨_, _, _, u, z1, z2⟩ := a.iok i p io
      exact gNone p u (mut_notbl z2) z1 (mut_notup z2) gp
  · obtain ⟨a1, a2, a3, u, a4, a5⟩ := a.iok i p z
    refine ⟨a1, a2, a3, ?_⟩
    by_cases io : ∀ k, (k, p) ∉ Bc.IO
    · exact ⟨u, kp p u (mut_notbl a5) a4 io, a5⟩
    · have ⟨k, io⟩ : ∃ i, (i, p) ∈ Bc.IO := Classical.byContradiction fun q => io fun i hi => q ⟨i, hi⟩
      obtain ⟨_, _, _, v, z1, z2⟩ := ac.iok k p io
      exact ⟨v, z1, z2⟩
  · have nio : ∀ k, (k, p) ∉ Bc.IO := fun k y => by
      rw [e3] at y
      obtain ⟨_, _, _, h3, _⟩ := io_slot a g hδ y
      rw [h3 j] at z; cases z
    rcases a.bo j p o z with q | ⟨q1, x, q⟩
    · exact .inl (kp p o (fun ps c => a.tb.2.2.2.1 j p ps (by rw [z, c])) q nio)
    · exact .inr ⟨q1, x, kp p _ (fun ps c => by cases c) q nio⟩
  · rw [backs_len hb]; exact a.len
  · rcases backs_get nd hb z with ⟨h1, h2⟩ | ⟨k, d, h1, h2, h3⟩
    · obtain ⟨ov, q1, q2⟩ := a.sl j s h2
      refine ⟨ov, q1, ?_⟩
      have own : ∀ p, OwnAt δ σ j p → ∀ k, (k, p) ∉ Bc.IO := fun p h k y => by
        rw [e3] at y
        obtain ⟨i, y1, y2, _⟩ := io_slot a g hδ y
        have := a.apart j i p h y2
        subst this
        exact h1 (vrs_mem.mpr ⟨k, y1⟩)
      cases s with
      | no => trivial
      | imm d => obtain ⟨v, r1, r2⟩ := q2; exact ⟨v, r1, r2.mono ex⟩
      | bor d => exact q2
      | own d =>
        obtain ⟨p, r1, r2, r3, r4⟩ := q2
        subst r1
        obtain ⟨o, b1, m, _⟩ := r3.obj
        have hk := kp p o (mut_notbl m) b1 (own p ⟨⟨d, .inl h2⟩, q1⟩)
        exact ⟨p, rfl, gNone p o (mut_notbl m) b1 (mut_notup m) r2, (r3.mono ex).at' (hk.trans b1.symm), r4⟩
      | io d =>
        obtain ⟨p, r1, r2, r3, r4⟩ := q2
        subst r1
        obtain ⟨o, b1, m, _⟩ := r3.obj
        have hk := kp p o (mut_notbl m) b1 (own p ⟨⟨d, .inr h2⟩, q1⟩)
        exact ⟨p, rfl, gNone p o (mut_notbl m) b1 (mut_notup m) r2, (r3.mono ex).at' (hk.trans b1.symm), r4⟩
    · obtain ⟨p, q1, q2, q3, q4⟩ := ac.io h2
      obtain ⟨v, h5, h6⟩ := ags_get g h1
      have h6 : σ[j]? = some (some v) := h6
      rw [List.getElem?_map, h5] at q1
      have q1 : v = .ref p := Option.some.inj (Option.some.inj q1)
      subst q1
      refine ⟨some (.ref p), h6, ?_⟩
      rcases h3 with ⟨d0, y1, rfl⟩ | ⟨d0, y1, rfl⟩
      · obtain ⟨p', r1, _, _, r4⟩ := a.own y1
        rw [h6] at r1; cases r1
        exact ⟨p, rfl, q2, q3, r4⟩
      · obtain ⟨p', r1, _, _, r4⟩ := a.io y1
        rw [h6] at r1; cases r1
        exact ⟨p, rfl, q2, q3, r4⟩
  · have back : ∀ j, OwnAt δ' σ j p → OwnAt δ σ j p := fun j y => by
      obtain ⟨⟨d, y1⟩, y2⟩ := y
      have hs : ∃ s, δ'[j]? = some s ∧ (s = .own d ∨ s = .io d) := by
        rcases y1 with y1 | y1
        · exact ⟨_, y1, .inl rfl⟩
        · exact ⟨_, y1, .inr rfl⟩
      obtain ⟨s, x1, x2⟩ := hs
      rcases backs_get nd hb x1 with ⟨_, h2⟩ | ⟨k, d', _, _, h3⟩
      · rcases x2 with rfl | rfl
        · exact ⟨⟨d, .inl h2⟩, y2⟩
        · exact ⟨⟨d, .inr h2⟩, y2⟩
      · rcases h3 with ⟨d0, y1, _⟩ | ⟨d0, y1, _⟩
        · exact ⟨⟨d0, .inl y1⟩, y2⟩
        · exact ⟨⟨d0, .inr y1⟩, y2⟩
    exact a.apart i j p (back i z1) (back j z2)
end
def PostF (K : PySem.W.Frag) (W : WK) (B : Bs) (G : Hp) (σ : St) (ro : Bool) (r : Except Exn D) (δ' : Env) (Q : VK) : Prop := match r with
  | .ok d => ∀ G' H', At K B G' δ' σ H' → Ext G G' → if ro = true then ∀ p, Fr1 K B G' δ' σ H' p d → Q (.ref p) H' else ∀ v, R K G' v d → Q v H'
  | .error x => ∀ G' H', At K B G' δ' σ H' → Ext G G' → W x δ' σ G' H'
/-- a def's promise: it does what the mirror m does -/
def spM (Wf : XK → WK) (K : PySem.W.Frag) (n : Nat) (ro : Bool) (m : Mo D) : Sp := fun vs H Q E => vs.length = n ∧ ∃ B G δ r δ', (∀ k p, (k, p) ∈ B.IO → vs[k]? = some (.ref p)) ∧ At K B G δ (vs.map some) H ∧ m δ = some (r, δ') ∧ PostF K (Wf E) B G (vs.map some) ro r δ' Q
/-- the lent slots among the parameters -/
def keepIo : Sl → Sl
  | .io d => .io d
  | _ => .no
def ios : Nat → Env → Env
  | 0, _ => []
  | n + 1, s :: δ => keepIo s :: ios n δ
  | n + 1, [] => .no :: ios n []
theorem ios_len : ∀ (n : Nat) (δ : Env), (ios n δ).length = n
  | 0, _ => rfl
  | n + 1, s :: δ => by unfold ios; rw [List.length_cons, ios_len]
  | n + 1, [] => by unfold ios; rw [List.length_cons, ios_len]
theorem ios_get : ∀ {n : Nat} {δ : Env} {j : Nat} {s : Sl}, (ios n δ)[j]? = some s → s = .no ∨ ∃ d, s = .io d ∧ δ[j]? = some (.io d)
  | 0, _, _, _, e => by simp [ios] at e
  | n + 1, s0 :: δ, 0, s, e => by
    unfold ios at e
    simp at e; subst e
    cases s0 with
    | io d => exact .inr ⟨d, rfl, rfl⟩
    | _ => exact .inl rfl
  | n + 1, s0 :: δ, j + 1, s, e => by
    unfold ios at e
    have := ios_get (n := n) (δ := δ) (j := j) (s := s) (by simpa using e)
    simpa using this
  | n + 1, [], 0, s, e => by unfold ios at e; simp at e; exact .inl e.symm
  | n + 1, [], j + 1, s, e => by
    unfold ios at e
    have := ios_get (n := n) (δ := []) (j := j) (s := s) (by simpa using e)
    rcases this with h | ⟨d, _, h⟩
    · exact .inl h
    · simp at h
/-- a def's mirror by its body's: N names, n parameters -/
def fnM (N n : Nat) (body : Mo Out) : Mo D := fun δ => match body (δ ++ List.replicate (N - n) .no) with
  | some (.ok (.rt d), δ') => some (.ok d, ios n δ')
  | some (.ok (.rtO d), δ') => some (.ok d, ios n δ')
  | some (.ok .nx, δ') => some (.ok .non, ios n δ')
  | some (.error x, δ') => some (.error x, ios n δ')
  | _ => none
def fnO (N n : Nat) (body : Mo Out) : Mo D := fun δ => match body (δ ++ List.replicate (N - n) .no) with
  | some (.ok (.rtO d), δ') => some (.ok d, ios n δ')
  | some (.error x, δ') => some (.error x, ios n δ')
  | _ => none
section
variable {K : PySem.W.Frag} {B : Bs} {G G' H H' : Hp} {δ δ' : Env} {σ σ' : St} {vs : List V} {n N : Nat}
theorem At.start (a : At K B G δ (vs.map some) H) (m : Nat) : At K B G (δ ++ List.replicate m .no) (vs.map some ++ List.replicate m none) H := by
  have hl : δ.length = vs.length := by rw [a.len, List.length_map]
  have back : ∀ {j : Nat} {s : Sl}, (δ ++ List.replicate m .no)[j]? = some s → s = .no ∨ (δ[j]? = some s ∧ (vs.map some ++ List.replicate m none)[j]? = (vs.map some)[j]?) := fun {j s} e => by
    by_cases c : j < δ.length
    · rw [List.getElem?_append_left c] at e
      exact .inr ⟨e, List.getElem?_append_left (by rw [List.length_map]; omega)⟩
    · rw [List.getElem?_append_right (by omega)] at e
      have := List.mem_of_getElem? e
      exact .inl (List.eq_of_mem_replicate this)
  exact a.forget (by rw [List.length_append, List.length_append, List.length_replicate, List.length_replicate, List.length_map, hl]) fun j s e => back e
/-- the frame is left: its lent slots, at the values that were handed in -/
theorem ios_slot (hio : ∀ k p, (k, p) ∈ B.IO → vs[k]? = some (.ref p)) (a : At K B G' δ' σ' H') : ∀ (j : Nat) (s : Sl), (ios n δ')[j]? = some s → s = .no ∨ ∃ d, s = .io d ∧ δ'[j]? = some (.io d) ∧ ∃ p, (vs.map some)[j]? = some (some (.ref p)) ∧ σ'[j]? = some (some (.ref p)) := fun j s e => by
  rcases ios_get e with rfl | ⟨d, rfl, q⟩
  · exact .inl rfl
  · obtain ⟨p, q1, _, _, q4⟩ := a.io q
    exact .inr ⟨d, rfl, q, p, by rw [List.getElem?_map, hio j p q4]; rfl, q1⟩
theorem ios_back (hio : ∀ k p, (k, p) ∈ B.IO → vs[k]? = some (.ref p)) (a : At K B G' δ' σ' H') {j : Nat} {p : Addr} (z : OwnAt (ios n δ') (vs.map some) j p) : OwnAt δ' σ' j p := by
  obtain ⟨⟨d, z1⟩, z2⟩ := z
  have hs : ∃ s, (ios n δ')[j]? = some s ∧ (s = .own d ∨ s = .io d) := by
    rcases z1 with z1 | z1
    · exact ⟨_, z1, .inl rfl⟩
    · exact ⟨_, z1, .inr rfl⟩
  obtain ⟨s, y1, y2⟩ := hs
  rcases ios_slot hio a j s y1 with rfl | ⟨d', rfl, q, p', q1, q2⟩
  · rcases y2 with y2 | y2 <;> cases y2
  · rw [q1] at z2; cases z2
    exact ⟨⟨d', .inr q⟩, q2⟩
theorem At.leave (hn : vs.length = n) (hio : ∀ k p, (k, p) ∈ B.IO → vs[k]? = some (.ref p)) (a : At K B G' δ' σ' H') : At K B G' (ios n δ') (vs.map some) H' := by
  refine ⟨a.vw, a.g0, a.keep, a.dom, a.leak, a.iok, a.bo, a.bod, ?_, fun j s e => ?_, fun i j p e1 e2 => a.apart i j p (ios_back hio a e1) (ios_back hio a e2), a.tb⟩
  · rw [ios_len, List.length_map, hn]
  · rcases ios_slot hio a j s e with rfl | ⟨d, rfl, q, p, q1, q2⟩
    · have := (List.getElem?_eq_some_iff.mp e).1
      rw [ios_len] at this
      have hj : j < (vs.map some).length := by rw [List.length_map]; omega
      exact ⟨_, List.getElem?_eq_getElem hj, trivial⟩
    · obtain ⟨p', r1, r2, r3, r4⟩ := a.io q
      rw [q2] at r1; cases r1
      exact ⟨_, q1, p, rfl, r2, r3, r4⟩
end
section
variable {X : Cx} {W : WK} {e : Expr} {es : List Expr} {A : Mo (List Ag)} {CX : CXT} {k n : Nat} {f : Addr} {fd : FuncData} {ps : List Str} {ds : List Value} {x : Str} {p pos : Pos} {m : Mo D}
def eCall (m : Mo D) (A : Mo (List Ag)) : Mo D := A.bind fun as => callM m as
/-- default values: data -/
theorem call_ok {K : PySem.W.Frag} {Wf : XK → WK} {E : XK} {B : Bs} {G : Hp} {δ δ' : Env} {σ : St} {H : Hp} {as : List Ag} {vs : List V} {r : Except Exn D} {ro : Bool} {Q : VK} (hW : Wf E = W) (hW2 : ∀ x δ σ δ2 σ2 G H, W x δ σ G H → W x δ2 σ2 G H) (a : At K B G δ σ H) (g : AgsOk K G σ vs as) (h : callM m as δ = some (r, δ'))
    (post : match r with
      | .ok d => ∀ G' H', At K B G' δ' σ H' → Ext G G' → if ro = true then ∀ p, Fr1 K B G' δ' σ H' p d → Q (.ref p) H' else ∀ v, R K G' v d → Q v H'
      | .error x => ∀ G' H', At K B G' δ' σ H' → Ext G G' → W x δ' σ G' H')
    (hn : as.length = n) : spM Wf K n ro m vs H Q E := by
  unfold callM at h
  cases q : argSls δ as with
  | none => rw [q] at h; cases h
  | some δc =>
    rw [q] at h
    simp only [] at h
    split at h
    · rename_i c
      obtain ⟨nd, nb⟩ := c
      cases q2 : m δc with
      | none => rw [q2] at h; cases h
      | some z =>
        obtain ⟨r', δc'⟩ := z
        rw [q2] at h
        simp only [] at h
        cases q3 : backs as δc' δ with
        | none => rw [q3] at h; cases h
        | some δ2 =>
          rw [q3] at h
          cases h
          obtain ⟨Bc, e1, e2, e3, ac⟩ := call_enter a g q nd nb
          refine ⟨by rw [ags_len g]; exact hn, Bc, G, δc, r, δc', fun k p z => by rw [e3] at z; obtain ⟨_, _, y⟩ := ioList_mem.mp z; exact y, ac, q2, ?_⟩
          have lv : ∀ {G' H'}, At K Bc G' δc' (vs.map some) H' → At K B G' δ' σ H' := fun a' => call_leave a g q nd e1 e2 e3 a' q3
          cases r with
          | error y =>
            intro G' H' a' x'
            rw [hW]
            exact hW2 _ _ _ _ _ _ _ (post G' H' (lv a') x')
          | ok d =>
            intro G' H' a' x'
            have pp := post G' H' (lv a') x'
            cases ro with
            | false => rw [if_neg Bool.false_ne_true] at pp ⊢; exact pp
            | true =>
              rw [if_pos rfl] at pp ⊢
              rintro p ⟨w1, w2, w3, w4⟩
              have hp0 : ∀ o, H p = some o → ∃ ps, o = .tbl ps := fun u z => by
                have w2 : Bc.H0 p = none := w2
                rw [e1] at w2
                cases u with
                | tbl ps => exact ⟨ps, rfl⟩
                | _ => rw [hid_nt z (fun ps c => by cases c)] at w2; cases w2
              refine pp p ⟨w1, a.fresh1 hp0, fun j z => ?_, w4⟩
              -- a slot's own object was there ahead of the call
              have : OwnAt δ σ j p := by
                obtain ⟨⟨d', z1⟩, z2⟩ := z
                have hs : ∃ s, δ'[j]? = some s ∧ (s = .own d' ∨ s = .io d') := by
                  rcases z1 with z1 | z1
                  · exact ⟨_, z1, .inl rfl⟩
                  · exact ⟨_, z1, .inr rfl⟩
                obtain ⟨s, y1, y2⟩ := hs
                rcases backs_get nd q3 y1 with ⟨_, h2⟩ | ⟨k, d'', _, _, h3⟩
                · rcases y2 with rfl | rfl
                  · exact ⟨⟨_, .inl h2⟩, z2⟩
                  · exact ⟨⟨_, .inr h2⟩, z2⟩
                · rcases h3 with ⟨d0, y1, _⟩ | ⟨d0, y1, _⟩
                  · exact ⟨⟨d0, .inl y1⟩, z2⟩
                  · exact ⟨⟨d0, .inr y1⟩, z2⟩
              exact a.noOwn1 hp0 j this
    · cases h
/-- the arguments' number -/
def ALen (A : Mo (List Ag)) (n : Nat) : Prop := ∀ δ as δ', A δ = some (.ok as, δ') → as.length = n
theorem alen_nil : ALen aNil 0 := fun δ as δ' h => by cases h; rfl
theorem bind_okD {α β : Type} {m : Mo α} {k : α → Mo β} {δ δ' : Env} {b : β} (h : Mo.bind m k δ = some (.ok b, δ')) : ∃ a δ1, m δ = some (.ok a, δ1) ∧ k a δ1 = some (.ok b, δ') := by
  unfold Mo.bind at h
  cases q : m δ with
  | none => rw [q] at h; cases h
  | some z =>
    obtain ⟨u, δ1⟩ := z
    rw [q] at h
    cases u with
    | error u => cases h
    | ok u => exact ⟨u, δ1, rfl, h⟩
theorem alen_cons {E : Mo D} (h : ALen A n) : ALen (aCons E A) (n + 1) := fun δ as δ' q => by
  obtain ⟨d, δ1, _, q⟩ := bind_okD q
  obtain ⟨ds, δ2, q1, q⟩ := bind_okD q
  cases q
  rw [List.length_cons, h _ _ _ q1]
theorem alen_vr {i : Nat} (h : ALen A n) : ALen (aVr i A) (n + 1) := fun δ as δ' q => by
  unfold aVr at q
  split at q
  · obtain ⟨ds, δ2, q1, q⟩ := bind_okD q
    cases q
    rw [List.length_cons, h _ _ _ q1]
  · obtain ⟨ds, δ2, q1, q⟩ := bind_okD q
    cases q
    rw [List.length_cons, h _ _ _ q1]
  · cases q
theorem alen_vb {i : Nat} (h : ALen A n) : ALen (aVb i A) (n + 1) := fun δ as δ' q => by
  unfold aVb at q
  split at q
  all_goals first
    | cases q; done
    | (obtain ⟨ds, δ2, q1, q⟩ := bind_okD q
       cases q
       rw [List.length_cons, h _ _ _ q1])
theorem tA_bind' {K : PySem.W.Frag} {B : Bs} {G H : Hp} {δ δ' : Env} {σ : St} {β : Type} {r : Except Exn β} {ok : β → Hp → Hp → Prop} {kk : List Ag → Mo β} {Q : List V → Hp → Prop} (a : At K B G δ σ H) (h : Mo.bind A kk δ = some (r, δ')) (post : Post K W B G σ r δ' ok)
    (q : ∀ vs H1 G1 δ1 d, A δ = some (.ok d, δ1) → At K B G1 δ1 σ H1 → Ext G G1 → AgsOk K G1 σ vs d → kk d δ1 = some (r, δ') → Post K W B G1 σ r δ' ok → Q vs H1) : tA K W A σ H Q := by
  unfold Mo.bind at h
  cases e : A δ with
  | none => rw [e] at h; cases h
  | some z =>
    obtain ⟨x, δ1⟩ := z
    rw [e] at h
    cases x with
    | error x => cases h; exact ⟨B, G, δ, .error x, _, a, e, post⟩
    | ok d => exact ⟨B, G, δ, .ok d, δ1, a, e, fun G1 H1 a1 e1 v rv => q v H1 G1 δ1 d e a1 e1 rv h (post.mono e1)⟩
theorem tCall_ok {K : PySem.W.Frag} {Wf : XK → WK} {E : XK} (hW : Wf E = W) (hW2 : ∀ x δ σ δ2 σ2 G H, W x δ σ G H → W x δ2 σ2 G H) (hl : ALen A n) {σ : St} {H : Hp} {Q : VK} (q : tE K W (eCall m A) σ H Q) : tCall (spM Wf K n false m) [] E (tA K W A) σ H Q := by
  obtain ⟨B, G, δ, r, δ', a, e1, post⟩ := q
  refine tA_bind' a e1 post fun vs H1 G1 δ1 as ea a1 x1 r1 e2 post => ?_
  show spM Wf K n false m (vs ++ []) H1 Q E
  rw [List.append_nil]
  refine call_ok hW hW2 a1 r1 e2 ?_ (hl _ _ _ ea)
  cases r with
  | ok d => exact fun G' H' a' x' => by rw [if_neg Bool.false_ne_true]; exact fun v rv => post G' H' a' x' v rv
  | error x => exact fun G' H' a' x' => post G' σ H' a' x'
theorem tCallO_ok {K : PySem.W.Frag} {Wf : XK → WK} {E : XK} (hW : Wf E = W) (hW2 : ∀ x δ σ δ2 σ2 G H, W x δ σ G H → W x δ2 σ2 G H) (hl : ALen A n) {σ : St} {H : Hp} {Q : VK} (q : tO K W (eCall m A) σ H Q) : tCall (spM Wf K n true m) [] E (tA K W A) σ H Q := by
  obtain ⟨B, G, δ, r, δ', a, e1, post⟩ := q
  refine tA_bind' a e1 post fun vs H1 G1 δ1 as ea a1 x1 r1 e2 post => ?_
  show spM Wf K n true m (vs ++ []) H1 Q E
  rw [List.append_nil]
  refine call_ok hW hW2 a1 r1 e2 ?_ (hl _ _ _ ea)
  cases r with
  | ok d => exact fun G' H' a' x' => by rw [if_pos rfl]; exact fun v rv => post G' H' a' x' v rv
  | error x => exact fun G' H' a' x' => post G' σ H' a' x'
/-- no exception: the promise's fourth letter does not matter -/
def Wn : XK → WK := fun _ => W0
theorem de_call (F : FnOk X.prog X.w X.K X.mg X.base CX0 k f fd ps (spM Wn X.K n false m)) (hr : Room k X.A) (hg : Gl X x) (hm : X.mg x = some (.ref f)) (hk : PySem.W.keepIn X.K (.ref f) = true) (hb : Binds X.K fd ps []) (hl : ALen A n)
    (ha : DA X W0 (e :: es) A) (hdb : (x == ("__debug__" : Str)) = false := by decide) (he : starEach (e :: es) X.env = (false, eval e X.env) :: starEach es X.env := by rfl) (hpl : (backTo pos (starEach es X.env)).any (·.1) = false := by rfl) :
    DE X W0 (.Call (.Name x p) (e :: es) [] pos) (eCall m A) := PE.weak (pe_call (E := E0) F hr hg hm hk hb .nil pass0 ha hdb he hpl) fun σ H Q q => tCall_ok rfl (fun _ _ _ _ _ _ _ h => h) hl q
theorem do_call (F : FnOk X.prog X.w X.K X.mg X.base CX0 k f fd ps (spM Wn X.K n true m)) (hr : Room k X.A) (hg : Gl X x) (hm : X.mg x = some (.ref f)) (hk : PySem.W.keepIn X.K (.ref f) = true) (hb : Binds X.K fd ps []) (hl : ALen A n)
    (ha : DA X W0 (e :: es) A) (hdb : (x == ("__debug__" : Str)) = false := by decide) (he : starEach (e :: es) X.env = (false, eval e X.env) :: starEach es X.env := by rfl) (hpl : (backTo pos (starEach es X.env)).any (·.1) = false := by rfl) :
    DO X W0 (.Call (.Name x p) (e :: es) [] pos) (eCall m A) := PE.weak (pe_call (E := E0) F hr hg hm hk hb .nil pass0 ha hdb he hpl) fun σ H Q q => tCallO_ok rfl (fun _ _ _ _ _ _ _ h => h) hl q
end
theorem fn_len {Wf : XK → WK} {K : PySem.W.Frag} {n : Nat} {ro : Bool} {m : Mo D} {ps : List Str} (hn : ps.length = n) : ∀ vs H Q E, spM Wf K n ro m vs H Q E → vs.length = ps.length := fun _ _ _ _ h => h.1.trans hn.symm
theorem body_ok {Wf : XK → WK} {K : PySem.W.Frag} {n : Nat} {N : List Str} {body : Mo Out} {vs : List V} {H : Hp} {Q : VK} {E : XK} (hW2 : ∀ x δ σ δ2 σ2 G H, Wf E x δ σ G H → Wf E x δ2 σ2 G H) (h : spM Wf K n false (fnM N.length n body) vs H Q E) :
    tS K (Wf E) body { nx := fun _ H' => Q .non H', rt := Q } (L2.start N vs) H := by
  obtain ⟨hl, B, G, δ, r, δ', hio, a, hm, post⟩ := h
  unfold fnM at hm
  have a1 := a.start (N.length - n)
  have hs : L2.start N vs = vs.map some ++ List.replicate (N.length - n) none := by unfold L2.start; rw [hl]
  rw [hs]
  cases q : body (δ ++ List.replicate (N.length - n) .no) with
  | none => simp only [q] at hm; cases hm
  | some z =>
    obtain ⟨u, δ0⟩ := z
    simp only [q] at hm
    refine ⟨B, G, _, u, δ0, a1, q, ?_⟩
    cases u with
    | error x =>
      cases hm
      exact fun G' σ' H' a' x' => hW2 _ _ _ _ _ _ _ (post G' H' (a'.leave hl hio) x')
    | ok o =>
      cases o with
      | nx =>
        cases hm
        exact fun G' σ' H' a' x' => by
          have p := post G' H' (a'.leave hl hio) x'
          rw [if_neg Bool.false_ne_true] at p
          exact p _ .non
      | bk => cases hm
      | ct => cases hm
      | rt d =>
        cases hm
        exact fun G' σ' H' a' x' v rv => by
          have p := post G' H' (a'.leave hl hio) x'
          rw [if_neg Bool.false_ne_true] at p
          exact p v rv
      | rtO d =>
        cases hm
        refine fun G' σ' H' a' x' p hp => ?_
        obtain ⟨h1, h2, h3, h4⟩ := hp
        obtain ⟨ob, q1, qm, q2⟩ := h4.obj
        have pp := post (upd G' p ob) H' ((a'.fix q1 h1 h2 h3 (mut_notbl qm)).leave hl hio) (x'.trans (Ext.new h1))
        rw [if_neg Bool.false_ne_true] at pp
        exact pp _ (q2 _ upd_same (Ext.new h1))
theorem body_okO {Wf : XK → WK} {K : PySem.W.Frag} {n : Nat} {N : List Str} {body : Mo Out} {vs : List V} {H : Hp} {Q : VK} {E : XK} (hW2 : ∀ x δ σ δ2 σ2 G H, Wf E x δ σ G H → Wf E x δ2 σ2 G H) (h : spM Wf K n true (fnO N.length n body) vs H Q E) :
    tS K (Wf E) body { nx := fun _ H' => Q .non H', rt := Q } (L2.start N vs) H := by
  obtain ⟨hl, B, G, δ, r, δ', hio, a, hm, post⟩ := h
  unfold fnO at hm
  have a1 := a.start (N.length - n)
  have hs : L2.start N vs = vs.map some ++ List.replicate (N.length - n) none := by unfold L2.start; rw [hl]
  rw [hs]
  cases q : body (δ ++ List.replicate (N.length - n) .no) with
  | none => simp only [q] at hm; cases hm
  | some z =>
    obtain ⟨u, δ0⟩ := z
    simp only [q] at hm
    refine ⟨B, G, _, u, δ0, a1, q, ?_⟩
    cases u with
    | error x =>
      cases hm
      exact fun G' σ' H' a' x' => hW2 _ _ _ _ _ _ _ (post G' H' (a'.leave hl hio) x')
    | ok o =>
      cases o with
      | nx => cases hm
      | bk => cases hm
      | ct => cases hm
      | rt d => cases hm
      | rtO d =>
        cases hm
        refine fun G' σ' H' a' x' p hp => ?_
        have pp := post G' H' (a'.leave hl hio) x'
        rw [if_pos rfl] at pp
        exact pp p ⟨hp.1, hp.2.1, fun j z => hp.2.2.1 j (ios_back hio a' z), hp.2.2.2⟩
section
variable {P : Program} {w : World} {K : PySem.W.Frag} {mg : Str → Option Value} {base : Heap} {x qual : Str} {st : Stmt} {f : Addr} {fd : FuncData} {N ps : List Str} {k n : Nat} {body : Mo Out}
theorem fn_ok (F : Fun K x qual st f fd) (S : FnScope N ps (defScope st)) (hn : ps.length = n)
    (hb : ∀ (cdv : Value) (A : Around) (outer : List PySem.Env) (s : Shared) (H : Hp) (E : XK), Room k (A.deeper (envOfC qual (defScope st) s.heap.objs.size f cdv)) → DSs (cxOf CX0 P w K mg base N qual (defScope st) f cdv A outer s H E).nox W0 (defBody st) body) :
    FnOk P w K mg base CX0 (k + 1) f fd ps (spM Wn K n false (fnM N.length n body)) :=
  F.ok S (fn_len hn) fun cdv A outer s H vs Q E hr h => ⟨tS K W0 body, hb cdv A outer s H E hr, body_ok (E := E) (fun _ _ _ _ _ _ _ h => h) h⟩
theorem fn_okO (F : Fun K x qual st f fd) (S : FnScope N ps (defScope st)) (hn : ps.length = n)
    (hb : ∀ (cdv : Value) (A : Around) (outer : List PySem.Env) (s : Shared) (H : Hp) (E : XK), Room k (A.deeper (envOfC qual (defScope st) s.heap.objs.size f cdv)) → DSs (cxOf CX0 P w K mg base N qual (defScope st) f cdv A outer s H E).nox W0 (defBody st) body) :
    FnOk P w K mg base CX0 (k + 1) f fd ps (spM Wn K n true (fnO N.length n body)) :=
  F.ok S (fn_len hn) fun cdv A outer s H vs Q E hr h => ⟨tS K W0 body, hb cdv A outer s H E hr, body_okO (E := E) (fun _ _ _ _ _ _ _ h => h) h⟩
/-- the law: from the script to True -/
theorem sql_hid {H : Hp} {a : Addr} {xs : List V} (h : SqL K H a xs) : SqL K (hid H) a xs := by
  rcases h with (h | ⟨o, h⟩) | h
  · exact .inl (.inl (hid_nt h fun _ e => by cases e))
  · exact .inl (.inr ⟨o, hid_nt h fun _ e => by cases e⟩)
  · exact .inr h
theorem law_sp {m : Mo D} {H : Hp} {a : Addr} {ns : List Int} (tbs : ∀ P, tabOf K = some P → LamX.TabS H P tabQ) (hS : SqL K H a (ns.map V.int)) (hl : ns.length ≤ 63) (h : m [.imm (.scr (ns.map D.int))] = some (.ok (.bl true), [.no])) : spM Wn K 1 false m [.ref a] H (fun v _ => v = .bl true) fun _ _ _ => False := by
  have hS2 := sql_hid hS
  refine ⟨rfl, ⟨hid H, hid H, fun _ _ => none, []⟩, hid H, [.imm (.scr (ns.map D.int))], .ok (.bl true), [.no], (fun k p z => by cases z), ⟨fun b o e => .inl (hid_of e).1, Ext.refl _, fun _ _ e _ => (hid_of e).1, fun _ e => hid_ne e, fun _ _ _ _ e => e, fun _ _ e => (by cases e), fun _ _ _ e => (by cases e), fun _ _ e => absurd rfl e, rfl, fun i s e => ?_, fun i j p e1 _ => ?_, ⟨tbs, fun b ps e => (hid_of e).2 ps rfl, fun b ps e => (hid_of e).2 ps rfl, (fun _ _ _ e => (by cases e)), fun _ _ _ e => (by cases e)⟩⟩, h, fun G' H' a' x' => ?_⟩
  · cases i with
    | zero =>
      simp at e; subst e
      refine ⟨some (.ref a), rfl, .ref a, rfl, .scr hS2 ?_ ?_⟩
      · rw [List.length_map]; exact Nat.le_trans hl (by decide)
      · clear hS2 hS h hl
        induction ns with
        | nil => exact .nil
        | cons n ns ih => exact .cons (.int n) ih
    | succ i => simp at e
  · obtain ⟨⟨d, e | e⟩, _⟩ := e1
    · cases i with
      | zero => simp at e
      | succ i => simp at e
    · cases i with
      | zero => simp at e
      | succ i => simp at e
  · rw [if_neg Bool.false_ne_true]
    intro v rv
    cases rv
    rfl
end
end M
set_option Elab.async false
set_option linter.all false
set_option maxRecDepth 100000
namespace M
open PySem L2 PySem.Spec PyProof.Rows
section
variable {κ α : Type} [DecidableEq κ]
def lookA (l : List (κ × α)) (k : κ) : Option α := (l.find? fun kv => decide (kv.1 = k)).map (·.2)
def putA (l : List (κ × α)) (k : κ) (v : α) : List (κ × α) := if (l.any fun kv => decide (kv.1 = k)) = true then l.map (fun kv => if kv.1 = k then (kv.1, v) else kv) else l ++ [(k, v)]
variable {K : PySem.W.Frag} {G G' : Hp}
abbrev KVP (K : PySem.W.Frag) (G : Hp) : List (κ × V) → List (κ × D) → Prop := Paired fun p q => p.1 = q.1 ∧ R K G p.2 q.2
theorem kvp_of : ∀ {kvs : List (κ × V)} {ds : List (κ × D)}, kvs.map (·.1) = ds.map (·.1) → RL K G (kvs.map (·.2)) (ds.map (·.2)) → KVP K G kvs ds
  | [], [], _, _ => .nil
  | [], _ :: _, h, _ => by cases h
  | _ :: _, [], h, _ => by cases h
  | p :: kvs, q :: ds, h, r => by
    cases r with
    | cons r0 r1 =>
      have h1 : p.1 = q.1 := (List.cons.inj h).1
      exact .cons ⟨h1, r0⟩ (kvp_of (List.cons.inj h).2 r1)
theorem kvp_keys {kvs : List (κ × V)} {ds : List (κ × D)} (h : KVP K G kvs ds) : kvs.map (·.1) = ds.map (·.1) := by
  induction h with
  | nil => rfl
  | cons h _ ih => rw [List.map_cons, List.map_cons, h.1, ih]
theorem kvp_vals {kvs : List (κ × V)} {ds : List (κ × D)} (h : KVP K G kvs ds) : RL K G (kvs.map (·.2)) (ds.map (·.2)) := by
  induction h with
  | nil => exact .nil
  | cons h _ ih => exact .cons h.2 ih
theorem kvp_any {kvs : List (κ × V)} {ds : List (κ × D)} (h : KVP K G kvs ds) (k : κ) : (kvs.any fun kv => decide (kv.1 = k)) = (ds.any fun kv => decide (kv.1 = k)) := by
  induction h with
  | nil => rfl
  | cons h _ ih => rw [List.any_cons, List.any_cons, h.1, ih]
theorem kvp_look {kvs : List (κ × V)} {ds : List (κ × D)} (h : KVP K G kvs ds) (k : κ) : (∃ v d, valV kvs k = some v ∧ lookA ds k = some d ∧ R K G v d) ∨ (valV kvs k = none ∧ lookA ds k = none) := by
  induction h with
  | nil => exact .inr ⟨rfl, rfl⟩
  | cons h t ih =>
    rename_i p q kvs ds
    unfold valV lookA at ih ⊢
    rw [List.find?_cons, List.find?_cons, h.1]
    by_cases c : q.1 = k
    · rw [decide_eq_true c]
      exact .inl ⟨_, _, rfl, rfl, h.2⟩
    · rw [decide_eq_false c]
      exact ih
theorem kvp_map {f : κ × V → κ × V} {g : κ × D → κ × D} {kvs : List (κ × V)} {ds : List (κ × D)} (h : KVP K G kvs ds) (hf : ∀ p q, p.1 = q.1 → R K G p.2 q.2 → (f p).1 = (g q).1 ∧ R K G (f p).2 (g q).2) : KVP K G (kvs.map f) (ds.map g) := by
  induction h with
  | nil => exact .nil
  | cons h _ ih => exact .cons (hf _ _ h.1 h.2) ih
theorem kvp_append {kvs kvs' : List (κ × V)} {ds ds' : List (κ × D)} (h : KVP K G kvs ds) (h' : KVP K G kvs' ds') : KVP K G (kvs ++ kvs') (ds ++ ds') := by
  induction h with
  | nil => exact h'
  | cons h _ ih => exact .cons h ih
theorem kvp_put {kvs : List (κ × V)} {ds : List (κ × D)} (h : KVP K G kvs ds) (k : κ) {v : V} {d : D} (r : R K G v d) : KVP K G (putK kvs k v) (putA ds k d) := by
  unfold putK putA
  rw [kvp_any h k]
  split
  · refine kvp_map h fun p q e r' => ?_
    rw [e]
    split
    · exact ⟨rfl, r⟩
    · exact ⟨e, r'⟩
  · exact kvp_append h (.cons ⟨rfl, r⟩ .nil)
end
def keyK : D → Option Key
  | .int i => some (.inl i)
  | .str s => some (.inr s)
  | _ => none
def keysK : List D → Option (List Key)
  | [] => some []
  | d :: ds => match keyK d with
    | none => none
    | some k => match keysK ds with
      | none => none
      | some ks => some (k :: ks)
section
variable {K : PySem.W.Frag} {G G' H : Hp}
theorem keyK_ok {v : V} {d : D} {k : Key} (r : R K G v d) (h : keyK d = some k) : v = kV k := by
  cases r <;> cases h <;> rfl
theorem keysK_ok : ∀ {vs : List V} {ds : List D} {k : List Key}, RL K G vs ds → keysK ds = some k → vs = k.map kV
  | _, _, _, .nil, h => by cases h; rfl
  | _, d :: ds, _, .cons r t, h => by
    unfold keysK at h
    cases q : keyK d with
    | none => rw [q] at h; cases h
    | some k =>
      rw [q] at h
      simp only [] at h
      cases q2 : keysK ds with
      | none => rw [q2] at h; cases h
      | some ks => rw [q2] at h; cases h; rw [keyK_ok r q, keysK_ok t q2, List.map_cons]
/-- a key as data -/
def kD : Key → D
  | .inl i => .int i
  | .inr s => .str s
theorem kD_ok (k : Key) : R K G (kV k) (kD k) := by cases k <;> constructor
theorem kDs_ok : ∀ ks : List Key, RL K G (ks.map kV) (ks.map kD)
  | [] => .nil
  | k :: ks => .cons (kD_ok k) (kDs_ok ks)
end
/-- what a dict holds at a key; the key no key: none -/
def dGet : D → D → Option (Option D)
  | .dK l, k => (keyK k).map fun k => lookA l k
  | .dT l, .tup ks => (keysK ks).map fun k => lookA l k
  | _, _ => none
def dPut : D → D → D → Option D
  | .dK l, k, v => (keyK k).bind fun k => if l.length < sizeLine then some (.dK (putA l k v)) else none
  | .dT l, .tup ks, v => (keysK ks).bind fun k => if l.length < sizeLine then some (.dT (putA l k v)) else none
  | _, _, _ => none
section
variable {K : PySem.W.Frag} {B : Bs} {G H : Hp} {δ : Env} {σ : St}
/-- the own object p is stored into -/
theorem dPut_ok {p : Addr} {y v : V} {d k e d' : D} (vw : Vw G H) (w : Ow K G H p d) (ry : R K G y k) (rv : R K G v e) (h : dPut d k e = some d') : ∃ o, DPut H p y v (upd H p o) ∧ Mut (some o) ∧ Ow K G (upd H p o) p d' := by
  cases w with
  | lst => cases h
  | dK hp l hk r =>
    rename_i kvs ds
    have h : ((keyK k).bind fun k => if ds.length < sizeLine then some (D.dK (putA ds k e)) else none) = some d' := h
    cases q : keyK k with
    | none => rw [q] at h; cases h
    | some kk =>
      rw [q, Option.bind_some] at h
      split at h
      · rename_i hl
        cases h
        have kp := kvp_put (kvp_of hk r) kk rv
        have hlen := congrArg List.length hk
        rw [List.length_map, List.length_map] at hlen
        have := length_putK kvs kk v
        exact ⟨.dK (putK kvs kk v), .inl ⟨kvs, kk, hp, keyK_ok ry q, by omega, rfl⟩, trivial, .dK upd_same (by omega) (kvp_keys kp) (kvp_vals kp)⟩
      · cases h
  | dT hp l hk r =>
    rename_i kvs ds
    cases ry with
    | tup g2 l2 r2 =>
      rename_i b xs ks
      have h : ((keysK ks).bind fun k => if ds.length < sizeLine then some (D.dT (putA ds k e)) else none) = some d' := h
      cases q : keysK ks with
      | none => rw [q] at h; cases h
      | some kk =>
        rw [q, Option.bind_some] at h
        split at h
        · rename_i hl
          cases h
          have hx := keysK_ok r2 q
          subst hx
          have kp := kvp_put (kvp_of hk r) kk rv
          have hlen := congrArg List.length hk
          rw [List.length_map, List.length_map] at hlen
          have := length_putK kvs kk v
          exact ⟨.dT (putK kvs kk v), .inr ⟨kvs, kk, b, hp, rfl, vw.tup g2, by omega, rfl⟩, trivial, .dT upd_same (by omega) (kvp_keys kp) (kvp_vals kp)⟩
        · cases h
    | _ => cases h
end
def Bs.add (B : Bs) (D : Addr) (o : HO) : Bs := { B with H0 := upd B.H0 D o }
def Out1 (B : Bs) (D : Addr) : Prop := B.H0 D = none ∧ B.G0 D = none ∧ (∀ j, B.Bo j D = none) ∧ ∀ i, (i, D) ∉ B.IO
section
variable {K : PySem.W.Frag} {B : Bs} {G G' H H' : Hp} {δ δ' : Env} {σ σ' : St} {D1 : Addr} {o o' : HO}
theorem At.out1 (a : At K B G δ σ H) (h0 : B.H0 D1 = none) (g : G D1 = none) : Out1 B D1 := by
  refine ⟨h0, ?_, fun j => ?_, fun i e => (a.iok i D1 e).2.1 h0⟩
  · cases z : B.G0 D1 with
    | none => rfl
    | some u => rw [a.g0 D1 u z] at g; cases g
  · cases z : B.Bo j D1 with
    | none => rfl
    | some u => exact absurd h0 (a.bod j D1 (by rw [z]; simp))
theorem At.add (a : At K B G δ σ H) (nt : NT o) (h : H D1 = some o) (g : G D1 = none) (no : ∀ j, ¬ OwnAt δ σ j D1) : At K (B.add D1 o) G δ σ H := by
  refine ⟨a.vw, a.g0, fun b u e z => ?_, fun b e => ?_, fun b u e t z => ?_, fun i b e => ?_, a.bo, fun j b e => ?_, a.len, fun i s e => ?_, a.apart, ⟨a.tb.1, notbl_upd a.tb.2.1 nt.tbl, a.tb.2.2.1, a.tb.2.2.2.1, fun i b xs e z => (by
    have z : upd B.H0 D1 o b = some (.tup xs) := z
    by_cases c : b = D1
    · rw [c, upd_same] at z; cases z; exact nt.tup _ rfl
    · rw [upd_ne c] at z; exact a.tb.2.2.2.2 i b xs e z)⟩⟩
  · by_cases c : b = D1
    · subst c; have e : upd B.H0 b o b = some u := e; rw [upd_same] at e; cases e; exact h
    · have e : upd B.H0 D1 o b = some u := e; rw [upd_ne c] at e; exact a.keep b u e z
  · by_cases c : b = D1
    · rw [c, h]; simp
    · have e : upd B.H0 D1 o b ≠ none := e; rw [upd_ne c] at e; exact a.dom b e
  · by_cases c : b = D1
    · rw [c]; exact g
    · have e : upd B.H0 D1 o b = some u := e; rw [upd_ne c] at e; exact a.leak b u e t z
  · obtain ⟨a1, a2, a3, a4⟩ := a.iok i b e
    refine ⟨a1, ?_, a3, a4⟩
    show upd B.H0 D1 o b ≠ none
    by_cases c : b = D1
    · rw [c, upd_same]; simp
    · rw [upd_ne c]; exact a2
  · show upd B.H0 D1 o b ≠ none
    by_cases c : b = D1
    · rw [c, upd_same]; simp
    · rw [upd_ne c]; exact a.bod j b e
  · obtain ⟨ov, h1, h2⟩ := a.sl i s e
    refine ⟨ov, h1, ?_⟩
    cases s with
    | own d =>
      obtain ⟨p, q1, q2, q3, q4⟩ := h2
      subst q1
      have c : p ≠ D1 := fun c => by subst c; exact no i ⟨⟨d, .inl e⟩, h1⟩
      exact ⟨p, rfl, q2, q3, by show upd B.H0 D1 o p = none; rw [upd_ne c]; exact q4⟩
    | _ => exact h2
theorem At.drop (a : At K (B.add D1 o) G δ σ H) (b : Out1 B D1) (t : NT o) : H D1 = some o ∧ G D1 = none ∧ (∀ j, ¬ OwnAt δ σ j D1) ∧ ∀ o', At K B G δ σ (upd H D1 o') := by
  obtain ⟨b1, b2, b3, b4⟩ := b
  have hD : H D1 = some o := a.keep D1 o upd_same b4
  have gD : G D1 = none := a.leak D1 o upd_same t.tup b2
  have no : ∀ j, ¬ OwnAt δ σ j D1 := fun j z => by
    obtain ⟨⟨d, e | e⟩, z2⟩ := z
    · obtain ⟨p, q1, _, _, q4⟩ := a.own e
      rw [q1] at z2; cases z2
      have q4 : upd B.H0 D1 o D1 = none := q4
      rw [upd_same] at q4; cases q4
    · obtain ⟨p, q1, _, _, q4⟩ := a.io e
      rw [q1] at z2; cases z2
      exact b4 j q4
  refine ⟨hD, gD, no, fun o' => ⟨fun c u e => ?_, a.g0, fun c u e z => ?_, fun c e => ?_, fun c u e t z => ?_, fun i c e => ?_, fun j c u e => ?_, fun j c e => ?_, a.len, fun i s e => ?_, a.apart, ⟨fun P hP => tabS_upd (a.tb.1 P hP) hD t, fun b ps e => (by
    by_cases n : b = D1
    · rw [n, b1] at e; cases e
    · exact a.tb.2.1 b ps (by show upd B.H0 D1 o b = _; rw [upd_ne n]; exact e)), a.tb.2.2.1, a.tb.2.2.2.1, fun i b xs e z => (by
    by_cases n : b = D1
    · rw [n, b1] at z; cases z
    · exact a.tb.2.2.2.2 i b xs e (by show upd B.H0 D1 o b = _; rw [upd_ne n]; exact z))⟩⟩⟩
  · rw [upd_ne (fun q => by rw [q, gD] at e; cases e)]; exact a.vw c u e
  · have n : c ≠ D1 := fun q => by rw [q, b1] at e; cases e
    rw [upd_ne n]; exact a.keep c u (by show upd B.H0 D1 o c = some u; rw [upd_ne n]; exact e) z
  · by_cases n : c = D1
    · rw [n, upd_same]; simp
    · rw [upd_ne n]; exact a.dom c (by show upd B.H0 D1 o c ≠ none; rw [upd_ne n]; exact e)
  · have n : c ≠ D1 := fun q => by rw [q, b1] at e; cases e
    exact a.leak c u (by show upd B.H0 D1 o c = some u; rw [upd_ne n]; exact e) t z
  · obtain ⟨a1, a2, a3, u, a4, a5⟩ := a.iok i c e
    have n : c ≠ D1 := fun q => by rw [q] at e; exact b4 i e
    have a2 : upd B.H0 D1 o c ≠ none := a2
    rw [upd_ne n] at a2
    exact ⟨a1, a2, a3, u, by rw [upd_ne n]; exact a4, a5⟩
  · have n : c ≠ D1 := fun q => by rw [q, b3 j] at e; cases e
    rw [upd_ne n]; exact a.bo j c u e
  · have n : c ≠ D1 := fun q => by rw [q] at e; exact e (b3 j)
    have := a.bod j c e
    have this : upd B.H0 D1 o c ≠ none := this
    rw [upd_ne n] at this; exact this
  · obtain ⟨ov, h1, h2⟩ := a.sl i s e
    refine ⟨ov, h1, ?_⟩
    cases s with
    | no => trivial
    | imm d => exact h2
    | bor d => exact h2
    | own d =>
      obtain ⟨p, q1, q2, q3, q4⟩ := h2
      subst q1
      have c : p ≠ D1 := fun c => by subst c; exact no i ⟨⟨d, .inl e⟩, h1⟩
      have q4 : upd B.H0 D1 o p = none := q4
      rw [upd_ne c] at q4
      exact ⟨p, rfl, q2, q3.at' (upd_ne c), q4⟩
    | io d =>
      obtain ⟨p, q1, q2, q3, q4⟩ := h2
      subst q1
      have c : p ≠ D1 := fun c => by subst c; exact no i ⟨⟨d, .inr e⟩, h1⟩
      exact ⟨p, rfl, q2, q3.at' (upd_ne c), q4⟩
theorem BLe.add (h : B.H0 D1 = none) : BLe B (B.add D1 o) := ⟨Ext.new h, rfl⟩
/-- own slots of a comprehension are forgotten -/
def wipeE (δ : Env) : List Nat → Env
  | [] => δ
  | v :: vs => (wipeE δ vs).set v .no
theorem wipeE_len (δ : Env) : ∀ vs, (wipeE δ vs).length = δ.length
  | [] => rfl
  | v :: vs => by unfold wipeE; rw [List.length_set, wipeE_len]
theorem wipeE_get : ∀ {vs : List Nat} {j : Nat} {s : Sl}, (wipeE δ vs)[j]? = some s → s = .no ∨ (j ∉ vs ∧ δ[j]? = some s)
  | [], j, s, e => .inr ⟨by simp, e⟩
  | v :: vs, j, s, e => by
    unfold wipeE at e
    rcases get_set e with ⟨_, rfl, _⟩ | ⟨c, e⟩
    · exact .inl rfl
    · rcases wipeE_get e with h | ⟨h1, h2⟩
      · exact .inl h
      · exact .inr ⟨fun q => (List.mem_cons.mp q).elim (fun q => c q.symm) h1, h2⟩
theorem wipe_at : ∀ {vs : List Nat} (j : Nat), (wipe σ vs)[j]? = if j ∈ vs ∧ j < σ.length then some none else σ[j]?
  | [], j => by rw [if_neg (fun h => by cases h.1)]; rfl
  | v :: vs, j => by
    unfold wipe
    by_cases c : v = j
    · subst c
      by_cases z : v < σ.length
      · rw [List.getElem?_set_self (by rw [wipe_length]; exact z), if_pos ⟨List.mem_cons_self, z⟩]
      · rw [List.getElem?_eq_none (by rw [List.length_set, wipe_length]; omega), if_neg (fun h => z h.2), List.getElem?_eq_none (by omega)]
    · rw [List.getElem?_set_ne c, wipe_at j]
      have : (j ∈ v :: vs ∧ j < σ.length) ↔ (j ∈ vs ∧ j < σ.length) := by
        rw [List.mem_cons]
        exact ⟨fun ⟨h, z⟩ => ⟨h.elim (fun q => absurd q.symm c) id, z⟩, fun ⟨h, z⟩ => ⟨.inr h, z⟩⟩
      by_cases z : j ∈ vs ∧ j < σ.length
      · rw [if_pos z, if_pos (this.mpr z)]
      · rw [if_neg z, if_neg (fun q => z (this.mp q))]
theorem wipe_out {vs : List Nat} {j : Nat} (h : j ∉ vs) : (wipe σ vs)[j]? = σ[j]? := by rw [wipe_at, if_neg (fun q => h q.1)]
theorem wipe_eq {vs : List Nat} (hl : σ'.length = σ.length) (h : ∀ j, j ∉ vs → σ'[j]? = (wipe σ vs)[j]?) : wipe σ' vs = wipe σ vs := by
  apply List.ext_getElem?
  intro j
  by_cases c : j ∈ vs
  · rw [wipe_at, wipe_at, hl]
    by_cases z : j < σ.length
    · rw [if_pos ⟨c, z⟩, if_pos ⟨c, z⟩]
    · rw [if_neg (fun q => z q.2), if_neg (fun q => z q.2), List.getElem?_eq_none (by omega), List.getElem?_eq_none (by omega)]
  · rw [wipe_out c, h j c]
theorem At.wipe (a : At K B G δ σ H) (vs : List Nat) : At K B G (wipeE δ vs) (L2.wipe σ vs) H := a.forget (by rw [wipeE_len, wipe_length]; exact a.len) fun j s e => by
  rcases wipeE_get e with h | ⟨h1, h2⟩
  · exact .inl h
  · exact .inr ⟨h2, wipe_out h1⟩
/-- behind a turn: the slots of the comprehension's own names forgotten again -/
theorem At.wipe' {vs : List Nat} (a : At K B G δ σ' H) (hw : L2.wipe σ' vs = L2.wipe σ vs) : At K B G (wipeE δ vs) (L2.wipe σ vs) H := by rw [← hw]; exact a.wipe vs
theorem At.unwipe {vs : List Nat} (a : At K B G δ (L2.wipe σ vs) H) (hn : ∀ j ∈ vs, ∀ s, δ[j]? = some s → s = .no) : At K B G δ σ H := a.forget (by rw [a.len, wipe_length]) fun j s e => by
  by_cases c : j ∈ vs
  · exact .inl (hn j c s e)
  · exact .inr ⟨e, (wipe_out c).symm⟩
theorem wipeE_no {vs : List Nat} : ∀ j ∈ vs, ∀ s, (wipeE δ vs)[j]? = some s → s = .no := fun j hj s e => by
  rcases wipeE_get e with h | ⟨h, _⟩
  · exact h
  · exact absurd hj h
end
def lcM (T : D → Mo Unit) (C : Mo Bool) (E : Mo D) (vs : List Nat) : List D → List D → Mo D
  | [], acc => fun δ => some (.ok (.lst acc), δ)
  | d :: ds, acc => fun δ => match T d δ with
    | some (.ok (), δ1) => match C δ1 with
      | some (.ok true, δ2) => match E δ2 with
        | some (.ok x, δ3) => lcM T C E vs ds (acc ++ [x]) (wipeE δ3 vs)
        | _ => none
      | some (.ok false, δ2) => lcM T C E vs ds acc (wipeE δ2 vs)
      | _ => none
    | _ => none
def eLc (I : Mo (List D)) (T : D → Mo Unit) (C : Mo Bool) (E : Mo D) (vs : List Nat) : Mo D := I.bind fun ds => fun δ => if ds.length ≤ sizeLine then lcM T C E vs ds [] (wipeE δ vs) else none
section
variable {K : PySem.W.Frag} {W : WK} {B : Bs} {G H : Hp} {δ δ' : Env} {σ : St} {β : Type} {r : Except Exn β} {ok : β → Hp → Hp → Prop}
theorem tI_bind {E : Mo (List D)} {k : List D → Mo β} {Q : It → Hp → Prop} (a : At K B G δ σ H) (h : Mo.bind E k δ = some (r, δ')) (post : Post K W B G σ r δ' ok)
    (q : ∀ J H1 G1 δ1 d, At K B G1 δ1 σ H1 → Ext G G1 → Yl K B J G1 d → k d δ1 = some (r, δ') → Post K W B G1 σ r δ' ok → Q J H1) : tI K W E σ H Q := by
  unfold Mo.bind at h
  cases e : E δ with
  | none => rw [e] at h; cases h
  | some z =>
    obtain ⟨x, δ1⟩ := z
    rw [e] at h
    cases x with
    | error x => cases h; exact ⟨B, G, δ, .error x, _, a, e, post⟩
    | ok d => exact ⟨B, G, δ, .ok d, δ1, a, e, fun G1 H1 a1 e1 v rv => q v H1 G1 δ1 d a1 e1 rv h (post.mono e1)⟩
end
section
variable {K : PySem.W.Frag} {W : WK} {I : Mo (List D)} {sl vs : List Nat} {T : D → Mo Unit} {C : Mo Bool} {E Ek : Mo D} {σ : St} {H : Hp} {Q : VK}
theorem tLc_at {B : Bs} {G1 H1 : Hp} {δ1 δ' : Env} {J : It} {ds : List D} {r : Except Exn D} (hsl : ∀ j ∈ sl, j ∈ vs) (a1 : At K B G1 δ1 σ H1) (yl : Yl K B J G1 ds) (e2 : (if ds.length ≤ sizeLine then lcM T C E vs ds [] (wipeE δ1 vs) else none) = some (r, δ')) (post : Post K W B G1 σ r δ' (fun d G' H' => ∀ p, Fr1 K B G' δ' σ H' p d → Q (.ref p) H')) : tLc (wiJ J) (tG K sl T) (tT K W0 C) (tE K W0 E) vs σ H1 Q := by
  intro D1 hD
  split at e2
  · rename_i hlen
    have b0 := a1.fresh0 hD
    have ot := a1.out1 b0 (a1.vw.none hD)
    refine ⟨fun i m H2 => m + i = ds.length ∧ ∃ G2 δ2 acc xs, At K B G2 δ2 (wipe σ vs) H2 ∧ Ext G1 G2 ∧ H2 D1 = some (.lst xs) ∧ RL K G2 xs acc ∧ xs.length ≤ i ∧ G2 D1 = none ∧ (∀ j, ¬ OwnAt δ2 (wipe σ vs) j D1) ∧ (∀ j ∈ vs, ∀ s, δ2[j]? = some s → s = .no) ∧ lcM T C E vs (ds.drop i) acc δ2 = some (r, δ'),
      ⟨ds.length, by omega, G1, wipeE δ1 vs, [], [], (a1.alloc hD).wipe vs, Ext.refl _, upd_same, .nil, Nat.zero_le _, a1.vw.none hD, (a1.wipe vs).noOwn hD, wipeE_no, e2⟩, ?_⟩
    rintro i m H2 ⟨hm, G2, δ2, acc, xs, a2, x2, hx, rx, hxl, g2, no2, hno, e3⟩
    by_cases hi : ds.length ≤ i
    · refine .inl ⟨(yl B G2 H2 δ2 _ (BLe.refl B) a2 x2 i).2 hi, ?_⟩
      rw [List.drop_eq_nil_of_le hi] at e3
      cases e3
      have a3 := a2.unwipe hno
      refine post G2 H2 a3 x2 D1 ⟨g2, b0, fun j z => ?_, .lst hx (by omega) rx⟩
      obtain ⟨⟨d, z1⟩, z2⟩ := z
      by_cases c : j ∈ vs
      · rcases z1 with z1 | z1
        · cases hno j c _ z1
        · cases hno j c _ z1
      · exact no2 j ⟨⟨d, z1⟩, by rw [wipe_out c]; exact z2⟩
    · have hlt : i < ds.length := by omega
      have a2' := a2.add nt_lst hx g2 no2
      obtain ⟨y1, _⟩ := yl (B.add D1 (.lst xs)) G2 H2 δ2 _ (BLe.add b0) a2' x2 i
      obtain ⟨gg1, gg2⟩ := y1 ds[i] (List.getElem?_eq_getElem hlt)
      rw [List.drop_eq_getElem_cons hlt] at e3
      refine .inr ⟨gg1, fun H' => ∃ m', m' < m ∧ (m' + (i + 1) = ds.length ∧ ∃ G2 δ2 acc xs, At K B G2 δ2 (wipe σ vs) H' ∧ Ext G1 G2 ∧ H' D1 = some (.lst xs) ∧ RL K G2 xs acc ∧ xs.length ≤ i + 1 ∧ G2 D1 = none ∧ (∀ j, ¬ OwnAt δ2 (wipe σ vs) j D1) ∧ (∀ j ∈ vs, ∀ s, δ2[j]? = some s → s = .no) ∧ lcM T C E vs (ds.drop (i + 1)) acc δ2 = some (r, δ')), fun H' z => z, fun x H' hy => ?_⟩
      obtain ⟨rfl, G3, a3, x3, r3⟩ := gg2 x H' hy
      unfold lcM at e3
      cases q : T ds[i] δ2 with
      | none => simp only [q] at e3; cases e3
      | some z =>
        obtain ⟨u, δ3⟩ := z
        cases u with
        | error u => simp only [q] at e3; cases e3
        | ok u =>
          simp only [q] at e3
          refine ⟨B.add D1 (.lst xs), G3, δ2, ds[i], δ3, a3, r3, q, fun σ4 a4 oa => ?_⟩
          have hw : wipe σ4 vs = wipe σ vs := wipe_eq (oa.1.trans (wipe_length _ _)) fun j hj => oa.2 j fun c => hj (hsl j c)
          refine ⟨hw, ?_⟩
          -- the turn's end
          have fin : ∀ {G5 H5 δ5 ys acc'}, At K (B.add D1 (.lst xs)) G5 δ5 σ4 H5 → Ext G3 G5 → RL K G5 ys acc' → ys.length ≤ i + 1 → lcM T C E vs (ds.drop (i + 1)) acc' (wipeE δ5 vs) = some (r, δ') → ∃ m', m' < m ∧ (m' + (i + 1) = ds.length ∧ ∃ G2 δ2 acc xs, At K B G2 δ2 (wipe σ vs) (upd H5 D1 (.lst ys)) ∧ Ext G1 G2 ∧ (upd H5 D1 (.lst ys)) D1 = some (.lst xs) ∧ RL K G2 xs acc ∧ xs.length ≤ i + 1 ∧ G2 D1 = none ∧ (∀ j, ¬ OwnAt δ2 (wipe σ vs) j D1) ∧ (∀ j ∈ vs, ∀ s, δ2[j]? = some s → s = .no) ∧ lcM T C E vs (ds.drop (i + 1)) acc δ2 = some (r, δ')) := fun {G5 H5 δ5 ys acc'} a5 x5 r5 l5 e5 => by
            obtain ⟨h1, h2, h3, h4⟩ := (a5.wipe' hw).drop ot nt_lst
            exact ⟨m - 1, by omega, by omega, G5, wipeE δ5 vs, acc', ys, h4 _, (x2.trans x3).trans x5, upd_same, r5, l5, h2, h3, wipeE_no, e5⟩
          cases qc : C δ3 with
          | none => simp only [qc] at e3; cases e3
          | some z =>
            obtain ⟨u, δ4⟩ := z
            cases u with
            | error u => simp only [qc] at e3; cases e3
            | ok b =>
              refine ⟨_, G3, δ3, .ok b, δ4, a4, qc, fun G4 H4 a5 x5 => ?_⟩
              cases b with
              | false =>
                simp only [qc] at e3
                rw [if_neg Bool.false_ne_true]
                have f := fin a5 x5 (rx.mono ((x3).trans x5)) (by omega) e3
                have hk := (a5.drop ot nt_lst).1
                have : upd H4 D1 (.lst xs) = H4 := by
                  funext b; by_cases c : b = D1
                  · subst c; rw [upd_same, hk]
                  · rw [upd_ne c]
                rw [this] at f; exact f
              | true =>
                simp only [qc] at e3
                rw [if_pos rfl]
                cases qe : E δ4 with
                | none => simp only [qe] at e3; cases e3
                | some z =>
                  obtain ⟨u, δ5⟩ := z
                  cases u with
                  | error u => simp only [qe] at e3; cases e3
                  | ok xd =>
                    simp only [qe] at e3
                    refine ⟨_, G4, δ4, .ok xd, δ5, a5, qe, fun G6 H6 a6 x6 v rv => ?_⟩
                    refine ⟨xs, (a6.drop ot nt_lst).1, by omega, ?_⟩
                    exact fin a6 (x5.trans x6) (.append (rx.mono ((x3.trans x5).trans x6)) (.cons rv .nil)) (by rw [List.length_append]; show xs.length + 1 ≤ i + 1; omega) e3
  · cases e2
theorem tLc_ok (hsl : ∀ j ∈ sl, j ∈ vs) (q : tO K W (eLc I T C E vs) σ H Q) : tLc (tI K W I) (tG K sl T) (tT K W0 C) (tE K W0 E) vs σ H Q := by
  obtain ⟨B, G, δ, r, δ', a, e1, post⟩ := q
  exact tI_bind a e1 post fun J H1 G1 δ1 ds a1 x1 yl e2 post => tLc_at hsl a1 yl e2 post
end
section
variable {X : Cx} {W : WK} {elt tg iter : Expr} {ifs : List Expr} {scope : Scope} {own : List (Str × Nat)} {pos : Pos} {I : Mo (List D)} {sl : List Nat} {T : D → Mo Unit} {C : Mo Bool} {E : Mo D}
def DTs (X : Cx) (W : WK) (ifs : List Expr) (C : Mo Bool) : Prop := PTs X ifs (tT X.K W C)
def tYesM : Mo Bool := Mo.ret true
theorem dts_nil {X : Cx} {W : WK} : DTs X W [] tYesM := ⟨fun pins s σ H Q I ⟨B, G, δ, r, δ', a, e1, post⟩ => pts_nil.run pins s σ H Q I (by cases e1; exact post G H a (Ext.refl _))⟩
theorem dts_one {X : Cx} {W : WK} {c : Expr} {C : Mo Bool} (h : DT X W c C) : DTs X W [c] C := pts_one h
theorem do_lc (hc : X.calm = true) (hN : X.N.Nodup) (hi : DI X W tg iter I) (ok : BlkOk X.N X.env.scope scope own) (hsl : ∀ j ∈ sl, j ∈ own.map (·.2))
    (hg : ∀ (s : Shared) (H : Hp) (Ca : Addr) (cl : List (Str × Addr)) (fp : List Addr), DG (X.blk s H scope (compEnvC scope cl Ca X.env) fp) tg sl T) (ht : ∀ (s : Shared) (H : Hp) (Ca : Addr) (cl : List (Str × Addr)) (fp : List Addr), DTs (X.blk s H scope (compEnvC scope cl Ca X.env) fp) W0 ifs C)
    (he : ∀ (s : Shared) (H : Hp) (Ca : Addr) (cl : List (Str × Addr)) (fp : List Addr), DE (X.blk s H scope (compEnvC scope cl Ca X.env) fp) W0 elt E) (hs : ∀ x, foldedSetIterable iter X.env x = pure x := by intro _; rfl) :
    DO X W (.ListComp elt [⟨tg, iter, ifs, 0⟩] scope pos) (eLc I T C E (own.map (·.2))) := PE.weak (pe_lc (g := tG X.K sl T) (tt := tT X.K W0 C) (te := tE X.K W0 E) hc hN hi ok hg ht he hs) fun σ H Q q => tLc_ok hsl q
theorem tAsgO_ok {K : PySem.W.Frag} {t : TE} {i : Nat} {Dn : Ends} {σ : St} {H : Hp} (ht : ∀ Q, tO K W E σ H Q → t σ H Q) (q : tS K W (sAsgO i E) Dn σ H) : tAsg t (gName i) Dn σ H := by
  obtain ⟨B, G, δ, r, δ', a, e1, post⟩ := q
  refine ht _ (tO_bindS a e1 post fun v H1 G1 δ1 d a1 x1 r1 e2 post => ?_)
  obtain ⟨w1, w2, w3, w4⟩ := r1
  rcases unit_bind e2 with ⟨q, rfl⟩ | ⟨x, q, rfl⟩
  · unfold gO at q
    split at q
    · cases q
      exact post G1 _ H1 (a1.setOwn w1 w4 w2 w3 i) (Ext.refl _)
    · cases q
  · unfold gO at q; split at q <;> cases q
theorem ds_setLcO {i : Nat} {y : Str} {py spos : Pos} (hc : X.calm = true) (hN : X.N.Nodup) (hy : X.N[i]? = some y) (hyl : X.env.scope.names.lookup y = some .local)
    (hsw : swapsWith (.ListComp elt [⟨tg, iter, ifs, 0⟩] scope pos) (some (.Name y py)) spos.line X.env = pure true) (hi : DI X W tg iter I) (ok : BlkOk X.N X.env.scope scope own) (hsl : ∀ j ∈ sl, j ∈ own.map (·.2))
    (hg : ∀ (s : Shared) (H : Hp) (Ca : Addr) (cl : List (Str × Addr)) (fp : List Addr), DG (X.blk s H scope (compEnvC scope cl Ca X.env) fp) tg sl T) (ht : ∀ (s : Shared) (H : Hp) (Ca : Addr) (cl : List (Str × Addr)) (fp : List Addr), DTs (X.blk s H scope (compEnvC scope cl Ca X.env) fp) W0 ifs C)
    (he : ∀ (s : Shared) (H : Hp) (Ca : Addr) (cl : List (Str × Addr)) (fp : List Addr), DE (X.blk s H scope (compEnvC scope cl Ca X.env) fp) W0 elt E) (hs : ∀ x, foldedSetIterable iter X.env x = pure x := by intro _; rfl) :
    DS X W (.Assign [.Name y py] (.ListComp elt [⟨tg, iter, ifs, 0⟩] scope pos) spos) (sAsgO i (eLc I T C E (own.map (·.2)))) := PS.weak (ps_setLc (g := tG X.K sl T) (tt := tT X.K W0 C) (te := tE X.K W0 E) hc hN hy hyl hsw hi ok hg ht he hs) fun Dn σ H q => tAsgO_ok (fun Q z => tLc_ok hsl z) q
end
end M
set_option Elab.async false
set_option linter.all false
set_option maxRecDepth 100000
namespace M
open PySem L2 PySem.Spec PyProof.Rows
section
variable {X : Cx} {W : WK} {e a b c : Expr} {pos : Pos} {E Ea Eb Ec : Mo D}
def dAdd : D → D → Option D
  | .int i, .int j => some (.int (i + j))
  | .str x, .str y => if x.length + y.length ≤ sizeLine then some (.str (x ++ y)) else none
  | .lst x, .lst y => if x.length + y.length ≤ sizeLine then some (.lst (x ++ y)) else none
  | .tup x, .tup y => if x.length + y.length ≤ sizeLine then some (.tup (x ++ y)) else none
  | _, _ => none
abbrev rAddA (K : PySem.W.Frag) : R2 := fun x y H Q => (rI0 (fun i j => .int (i + j)) x y H Q ∨ (∃ i j, x = .str i ∧ y = .str j ∧ i.length + j.length ≤ sizeLine ∧ Q (.str (i ++ j)) H)) ∨ (rCat x y H Q ∨ rCatA K x y H Q)
theorem op_addA : OpR X (binaryOp .Add) (rAddA X.K) := OpR.or (OpR.or op_add op_add_str) (OpR.or op_cat op_catA)
theorem snd_add : Snd2 X.K dAdd (rAddA X.K) := fun B G H δ σ x y a b d Q at' rx ry h k => by
  cases rx with
  | int i =>
    cases ry with
    | int j => cases h; exact .inl (.inl ⟨i, j, rfl, rfl, k _ G H at' (Ext.refl _) (.int _)⟩)
    | _ => cases h
  | str i =>
    cases ry with
    | str j =>
      have h : (if i.length + j.length ≤ sizeLine then some (D.str (i ++ j)) else none) = some d := h
      split at h
      · rename_i hl; cases h; exact .inl (.inr ⟨i, j, rfl, rfl, hl, k _ G H at' (Ext.refl _) (.str _)⟩)
      · cases h
    | _ => cases h
  | lst g l r =>
    cases ry with
    | lst g2 l2 r2 =>
      rename_i p xs ds q ys es
      have h : (if ds.length + es.length ≤ sizeLine then some (D.lst (ds ++ es)) else none) = some d := h
      split at h
      · rename_i hl
        cases h
        rw [← r.length, ← r2.length] at hl
        refine .inr (.inl ⟨p, q, xs, ys, rfl, rfl, at'.vw.lst g, at'.vw.lst g2, hl, fun z hz => ?_⟩)
        have ex := Ext.new (o := .lst (xs ++ ys)) (at'.vw.none hz)
        exact k _ _ _ (at'.laid hz fun _ z => by cases z) ex (.lst upd_same (by rw [List.length_append]; exact hl) ((r.append r2).mono ex))
      · cases h
    | _ => cases h
  | tup g l r =>
    cases ry with
    | tup g2 l2 r2 =>
      rename_i p xs ds q ys es
      have h : (if ds.length + es.length ≤ sizeLine then some (D.tup (ds ++ es)) else none) = some d := h
      split at h
      · rename_i hl
        cases h
        rw [← r.length, ← r2.length] at hl
        refine .inr (.inr ⟨p, q, xs, ys, rfl, rfl, SqT.of (at'.vw.tup g), SqT.of (at'.vw.tup g2), hl, fun hx => ?_, fun hx hy => ?_, fun hx hy z hz => ?_⟩)
        · subst hx
          cases r
          exact k _ G H at' (Ext.refl _) (.tup g2 l2 r2)
        · subst hy
          cases r2
          exact k _ G H at' (Ext.refl _) (by rw [List.append_nil]; exact .tup g l r)
        · have ex := Ext.new (o := .tup (xs ++ ys)) (at'.vw.none hz)
          exact k _ _ _ (at'.laid hz fun _ z => by cases z) ex (.tup upd_same (by rw [List.length_append]; exact hl) ((r.append r2).mono ex))
      · cases h
    | _ => cases h
  | _ => cases h
theorem de_add (ha : DE X W a Ea) (hb : DE X W b Eb) : DE X W (.BinOp a .Add b pos) (eBin dAdd Ea Eb) := de_bin op_addA snd_add ha hb
/-- two ints under a condition -/
def dInt (C : Int → Int → Bool) (f : Int → Int → Int) : D → D → Option D
  | .int i, .int j => if C i j = true then some (.int (f i j)) else none
  | _, _ => none
theorem snd_int {C : Int → Int → Bool} {P : Int → Int → Prop} {f g : Int → Int → Int} (hC : ∀ i j, C i j = true → P i j ∧ g i j = f i j) : Snd2 X.K (dInt C f) (rI P fun i j => .int (g i j)) := fun B G H δ σ x y a b d Q at' rx ry h k => by
  cases rx with
  | int i =>
    cases ry with
    | int j =>
      have h : (if C i j = true then some (D.int (f i j)) else none) = some d := h
      split at h
      · rename_i hl; cases h
        obtain ⟨h1, h2⟩ := hC i j hl
        exact ⟨i, j, rfl, rfl, h1, by show Q (V.int (g i j)) H; rw [h2]; exact k _ G H at' (Ext.refl _) (.int _)⟩
      · cases h
    | _ => cases h
  | _ => cases h
def dSub : D → D → Option D
  | .int i, .int j => some (.int (i - j))
  | _, _ => none
theorem snd_sub : Snd2 X.K dSub (rI0 fun i j => .int (i - j)) := fun B G H δ σ x y a b d Q at' rx ry h k => by
  cases rx with
  | int i =>
    cases ry with
    | int j => cases h; exact ⟨i, j, rfl, rfl, k _ G H at' (Ext.refl _) (.int _)⟩
    | _ => cases h
  | _ => cases h
theorem de_sub (ha : DE X W a Ea) (hb : DE X W b Eb) : DE X W (.BinOp a .Sub b pos) (eBin dSub Ea Eb) := de_bin op_sub snd_sub ha hb
def cMul (i j : Int) : Bool := (decide (-18446744073709551616 < i) && decide (i < 18446744073709551616)) || (decide (-18446744073709551616 < j) && decide (j < 18446744073709551616))
def dMulI : D → D → Option D := dInt cMul (· * ·)
theorem cMul_ok (i j : Int) (h : cMul i j = true) : CMul i j := by
  unfold cMul at h
  unfold CMul
  simp only [Bool.or_eq_true, Bool.and_eq_true, decide_eq_true_eq] at h
  omega
def cMod (_ j : Int) : Bool := decide (0 < j)
def dMod : D → D → Option D := dInt cMod (· % ·)
theorem de_mod (ha : DE X W a Ea) (hb : DE X W b Eb) : DE X W (.BinOp a .Mod b pos) (eBin dMod Ea Eb) := de_bin op_mod (snd_int (C := cMod) fun i j h => ⟨of_decide_eq_true h, rfl⟩) ha hb
def cDiv (_ j : Int) : Bool := decide (0 < j) && decide (j < 1073741824)
def dDiv : D → D → Option D := dInt cDiv (· / ·)
theorem de_div (ha : DE X W a Ea) (hb : DE X W b Eb) : DE X W (.BinOp a .FloorDiv b pos) (eBin dDiv Ea Eb) := de_bin op_fdiv (snd_int (C := cDiv) fun i j h => ⟨by unfold cDiv at h; simp only [Bool.and_eq_true, decide_eq_true_eq] at h; exact h, rfl⟩) ha hb
/-- a product: ints; a list or a tuple, some times -/
def dMul : D → D → Option D
  | .int i, .int j => dMulI (.int i) (.int j)
  | .lst x, .int k => if 0 ≤ k ∧ k ≤ 16777216 ∧ x.length * k.toNat ≤ sizeLine then some (.lst (List.replicate k.toNat x).flatten) else none
  | .tup x, .int k => if x ≠ [] ∧ 2 ≤ k ∧ k ≤ 1000 ∧ x.length ≤ 1000 then some (.tup (List.replicate k.toNat x).flatten) else none
  | _, _ => none
theorem flat_len {α : Type} (k : Nat) (x : List α) : (List.replicate k x).flatten.length = x.length * k := by
  rw [List.length_flatten, List.map_replicate, List.sum_replicate_nat, Nat.mul_comm]
theorem snd_mul : Snd2 X.K dMul (fun x y H Q => rI CMul (fun i j => .int (i * j)) x y H Q ∨ (rRep x y H Q ∨ rRepT X.K x y H Q)) := fun B G H δ σ x y a b d Q at' rx ry h k => by
  cases ry with
  | int j =>
    cases rx with
    | int i => exact .inl (snd_int (X := X) (C := cMul) (P := CMul) (f := (· * ·)) (g := (· * ·)) (fun i j h => ⟨cMul_ok i j h, rfl⟩) B G H δ σ _ _ _ _ d Q at' (.int i) (.int j) h k)
    | lst g l r =>
      rename_i p xs ds
      have h : (if 0 ≤ j ∧ j ≤ 16777216 ∧ ds.length * j.toNat ≤ sizeLine then some (D.lst (List.replicate j.toNat ds).flatten) else none) = some d := h
      split at h
      · rename_i hl
        cases h
        obtain ⟨h1, h2, h3⟩ := hl
        rw [← r.length] at h3
        refine .inr (.inl ⟨p, j, xs, rfl, rfl, at'.vw.lst g, by omega, by omega, h3, fun z hz => ?_⟩)
        have ex := Ext.new (o := .lst (List.replicate j.toNat xs).flatten) (at'.vw.none hz)
        exact k _ _ _ (at'.laid hz fun _ z => by cases z) ex (.lst upd_same (by rw [flat_len]; exact h3) ((r.rep _).mono ex))
      · cases h
    | tup g l r =>
      rename_i p xs ds
      have h : (if ds ≠ [] ∧ 2 ≤ j ∧ j ≤ 1000 ∧ ds.length ≤ 1000 then some (D.tup (List.replicate j.toNat ds).flatten) else none) = some d := h
      split at h
      · rename_i hl
        cases h
        obtain ⟨h0, h1, h2, h3⟩ := hl
        rw [← r.length] at h3
        have hne : xs ≠ [] := fun z => by subst z; cases r; exact h0 rfl
        have hz : xs.length * j.toNat ≤ 1000 * 1000 := Nat.mul_le_mul h3 (by omega)
        refine .inr (.inr ⟨p, j, xs, rfl, rfl, SqT.of (at'.vw.tup g), hne, h1, h2, h3, fun z hz' => ?_⟩)
        have ex := Ext.new (o := .tup (List.replicate j.toNat xs).flatten) (at'.vw.none hz')
        exact k _ _ _ (at'.laid hz' fun _ z => by cases z) ex (.tup upd_same (by rw [flat_len, sizeLine_eq]; omega) ((r.rep _).mono ex))
      · cases h
    | _ => cases h
  | _ => cases rx <;> cases h
theorem de_mul (ha : DE X W a Ea) (hb : DE X W b Eb) : DE X W (.BinOp a .Mult b pos) (eBin dMul Ea Eb) := de_bin (OpR.or op_mul (OpR.or op_rep op_repT)) snd_mul ha hb
/-- one-place operations -/
def eUn (f : D → Option D) (A : Mo D) : Mo D := A.bind fun x => Mo.lift (f x)
def dNeg : D → Option D
  | .int i => some (.int (-i))
  | _ => none
theorem de_neg (ha : DE X W a Ea) : DE X W (.UnaryOp .USub a pos) (eUn dNeg Ea) := PE.weak (pe_un un_neg ha) fun σ H Q ⟨B, G, δ, r, δ', at', e1, post⟩ => by
  refine tE_bind at' e1 post fun v H1 G1 δ1 d a1 x1 r1 e2 post => ?_
  obtain ⟨z, hz, hr⟩ := lift_some e2
  cases hr
  cases r1 with
  | int i => cases hz; exact ⟨i, rfl, post G1 H1 a1 (Ext.refl _) _ (.int _)⟩
  | _ => cases hz
def dCmp (pI : Int → Int → Bool) (pS : List Nat → List Nat → Bool) : D → D → Option D
  | .int i, .int j => some (.bl (pI i j))
  | .str i, .str j => some (.bl (pS i.cps.toList j.cps.toList))
  | _, _ => none
theorem snd_cmp {pI : Int → Int → Bool} {pS : List Nat → List Nat → Bool} {r : R2} (h1 : ∀ i j H Q, Q (.bl (pI i j)) H → r (.int i) (.int j) H Q) (h2 : ∀ i j H Q, Q (.bl (pS i.cps.toList j.cps.toList)) H → r (.str i) (.str j) H Q) : Snd2 X.K (dCmp pI pS) r := fun B G H δ σ x y a b d Q at' rx ry h k => by
  cases rx with
  | int i =>
    cases ry with
    | int j => cases h; exact h1 _ _ _ _ (k _ G H at' (Ext.refl _) (.bl _))
    | _ => cases h
  | str i =>
    cases ry with
    | str j => cases h; exact h2 _ _ _ _ (k _ G H at' (Ext.refl _) (.bl _))
    | _ => cases h
  | _ => cases h
abbrev rCmp (pI : Int → Int → Bool) (pS : List Nat → List Nat → Bool) : R2 := fun x y H Q => rI0 (fun i j => .bl (pI i j)) x y H Q ∨ ∃ i j, x = .str i ∧ y = .str j ∧ Q (.bl (pS i.cps.toList j.cps.toList)) H
theorem snd_cmp' {pI : Int → Int → Bool} {pS : List Nat → List Nat → Bool} : Snd2 X.K (dCmp pI pS) (rCmp pI pS) := snd_cmp (fun i j H Q q => .inl ⟨i, j, rfl, rfl, q⟩) (fun i j H Q q => .inr ⟨i, j, rfl, rfl, q⟩)
def dLt := dCmp (fun i j => decide (i < j)) (fun i j => decide (i < j))
def dLe := dCmp (fun i j => decide (i ≤ j)) (fun i j => !decide (j < i))
def dGt := dCmp (fun i j => decide (j < i)) (fun i j => decide (j < i))
def dGe := dCmp (fun i j => decide (j ≤ i)) (fun i j => !decide (i < j))
theorem opc_lt : OpR X (compareOp .Lt) (rCmp (fun i j => decide (i < j)) (fun i j => decide (i < j))) := OpR.or op_lt op_lt_str
theorem opc_le : OpR X (compareOp .LtE) (rCmp (fun i j => decide (i ≤ j)) (fun i j => !decide (j < i))) := OpR.or op_le op_le_str
theorem opc_gt : OpR X (compareOp .Gt) (rCmp (fun i j => decide (j < i)) (fun i j => decide (j < i))) := OpR.or op_gt op_gt_str
theorem opc_ge : OpR X (compareOp .GtE) (rCmp (fun i j => decide (j ≤ i)) (fun i j => !decide (i < j))) := OpR.or op_ge op_ge_str
/-- a op b op' c -/
def eChain (f g : D → D → Option D) (A B C : Mo D) : Mo D := A.bind fun x => B.bind fun y => (Mo.lift ((f x y).bind dBl)).bind fun k => if k = true then C.bind fun z => Mo.lift (g y z) else Mo.ret (.bl false)
theorem de_chain {op op' : CmpOp} {f g : D → D → Option D} {r r' : R2} (ho : OpR X (compareOp op) r) (ho' : OpR X (compareOp op') r') (hf : Snd2 X.K f r) (hg : Snd2 X.K g r') (ha : DE X W a Ea) (hb : DE X W b Eb) (hc : DE X W c Ec)
    (hm : lastMarks [op, op'] [b, c] = false := by with_unfolding_all rfl) : DE X W (.Compare a [op, op'] [b, c] pos) (eChain f g Ea Eb Ec) := PE.weak (pe_chain ho ho' ha hb hc hm) fun σ H Q ⟨B, G, δ, r1, δ', at', e1, post⟩ => by
  refine tE_bind at' e1 post fun v H1 G1 δ1 d a1 x1 r1 e2 post => ?_
  refine tE_bind a1 e2 post fun w H2 G2 δ2 d2 a2 x2 r2 e3 post => ?_
  unfold Mo.bind Mo.lift at e3
  cases q : (f d d2).bind dBl with
  | none => rw [q] at e3; cases e3
  | some k =>
    rw [q] at e3
    simp only [] at e3
    cases q2 : f d d2 with
    | none => rw [q2] at q; cases q
    | some z =>
      rw [q2, Option.bind_some] at q
      obtain rfl := dBl_some q
      refine hf B G2 H2 δ2 σ v w d d2 _ _ a2 (r1.mono x2) r2 q2 fun v3 G3 H3 a3 x3 r3 => ?_
      cases r3
      refine ⟨k, rfl, ?_⟩
      cases k with
      | false => rw [if_neg Bool.false_ne_true] at e3 ⊢; cases e3; exact (post.mono x3) G3 H3 a3 (Ext.refl _) _ (.bl _)
      | true =>
        rw [if_pos rfl] at e3 ⊢
        refine tE_bind (k := fun z => Mo.lift (g d2 z)) a3 e3 (post.mono x3) fun u H4 G4 δ4 d4 a4 x4 r4 e4 post => ?_
        obtain ⟨z, hz, hr⟩ := lift_some e4
        cases hr
        exact hg B G4 H4 δ' σ w u d2 d4 z Q a4 (r2.mono (x3.trans x4)) r4 hz fun v G' H' a' x' r' => post G' H' a' x' v r'
end
inductive Sh (K : PySem.W.Frag) (G H : Hp) : V → D → Prop
  | lst {a : Addr} {xs : List V} {ds : List D} : H a = some (.lst xs) → xs.length ≤ sizeLine → RL K G xs ds → Sh K G H (.ref a) (.lst ds)
  | scr {a : Addr} {xs : List V} {ds : List D} : SqL K H a xs → xs.length ≤ sizeLine → RL K G xs ds → Sh K G H (.ref a) (.scr ds)
  | tup {a : Addr} {xs : List V} {ds : List D} : H a = some (.tup xs) → xs.length ≤ sizeLine → RL K G xs ds → Sh K G H (.ref a) (.tup ds)
  | dK {a : Addr} {kvs : List (Key × V)} {ds : List (Key × D)} : Rd H a (.dK kvs) → kvs.length ≤ sizeLine → KVP K G kvs ds → Sh K G H (.ref a) (.dK ds)
  | dT {a : Addr} {kvs : List (List Key × V)} {ds : List (List Key × D)} : Rd H a (.dT kvs) → kvs.length ≤ sizeLine → KVP K G kvs ds → Sh K G H (.ref a) (.dT ds)
  | flat {v : V} {d : D} : R K G v d → flatD d = true → Sh K G H v d
  | alb {p av al C dx : Addr} {xs ys : List V} {vs ls : List D} : PySem.W.nsIn K mainGlobals "Album" = some (some (.ref C)) → H p = some (.ins C dx [("_views", .ref av), ("_links", .ref al)]) → H av = some (.lst xs) → H al = some (.lst ys) → xs.length ≤ sizeLine → ys.length ≤ sizeLine → RL K G xs vs → RL K G ys ls → Sh K G H (.ref p) (.alb vs ls)
theorem Vw.ins {G H : Hp} (h : Vw G H) {a C dx : Addr} {fs : List (Str × V)} (e : G a = some (.ins C dx fs)) : H a = some (.ins C dx fs) := by
  rcases h a _ e with h | ⟨h, _⟩
  · exact h
  · cases h
section
variable {K : PySem.W.Frag} {B : Bs} {G G' H : Hp} {δ : Env} {σ : St} {i : Nat}
theorem R.sh (vw : Vw G H) {v : V} {d : D} (r : R K G v d) : Sh K G H v d := by
  cases r with
  | tup g l r => exact .tup (vw.tup g) l r
  | lst g l r => exact .lst (vw.lst g) l r
  | scr g l r => exact .scr (vw.sql g) l r
  | dK g l k r => exact .dK (vw.rd g) l (kvp_of k r)
  | dT g l k r => exact .dT (vw.rd g) l (kvp_of k r)
  | non => exact .flat .non rfl
  | bl b => exact .flat (.bl b) rfl
  | int i => exact .flat (.int i) rfl
  | str s => exact .flat (.str s) rfl
  | alb c h1 h2 h3 l1 l2 r1 r2 => exact .alb c (vw.ins h1) (vw.lst h2) (vw.lst h3) l1 l2 r1 r2
theorem Ow.sh {p : Addr} {d : D} (w : Ow K G H p d) : Sh K G H (.ref p) d := by
  cases w with
  | lst g l r => exact .lst g l r
  | dK g l k r => exact .dK (.inl g) l (kvp_of k r)
  | dT g l k r => exact .dT (.inl g) l (kvp_of k r)
/-- a slot's content, seen -/
def slD : Sl → Option D
  | .imm d => some d
  | .own d => some d
  | .io d => some d
  | .bor d => some d
  | .no => none
def isBor : Sl → Bool
  | .bor _ => true
  | _ => false
theorem At.see (a : At K B G δ σ H) {s : Sl} {d : D} (e : δ[i]? = some s) (hd : slD s = some d) : ∃ v Gc, σ[i]? = some (some v) ∧ Sh K Gc H v d ∧ Vw Gc H ∧ (isBor s = false → Gc = G) := by
  cases s with
  | no => cases hd
  | imm d' => cases hd; obtain ⟨v, h1, h2⟩ := a.imm e; exact ⟨v, G, h1, h2.sh a.vw, a.vw, fun _ => rfl⟩
  | own d' => cases hd; obtain ⟨p, h1, _, h2, _⟩ := a.own e; exact ⟨_, G, h1, h2.sh, a.vw, fun _ => rfl⟩
  | io d' => cases hd; obtain ⟨p, h1, _, h2, _⟩ := a.io e; exact ⟨_, G, h1, h2.sh, a.vw, fun _ => rfl⟩
  | bor d' => cases hd; obtain ⟨v, h1, h2⟩ := a.bor e; exact ⟨v, _, h1, h2.sh (a.bo i), a.bo i, fun h => by cases h⟩
end
def dIx : D → D → Option D
  | .lst l, .int i => atI l i
  | .scr l, .int i => atI l i
  | .tup l, .int i => atI l i
  | .str s, .int i => if s.length ≤ sizeLine then (atI s.cps.toList i).map fun c => .str ⟨#[c]⟩ else none
  | .dK l, k => (dGet (.dK l) k).bind id
  | .dT l, k => (dGet (.dT l) k).bind id
  | _, _ => none
def isDct : D → Bool
  | .dK _ => true
  | .dT _ => true
  | _ => false
section
variable {K : PySem.W.Frag} {B : Bs} {G G' H : Hp} {δ : Env} {σ : St} {i : Nat}
theorem atI_rl {xs : List V} {ds : List D} {i : Int} {d : D} (r : RL K G xs ds) (h : atI ds i = some d) : ∃ v, atI xs i = some v ∧ R K G v d := by
  unfold atI at h ⊢
  rw [r.length]
  cases q : ixN ds.length i with
  | none => rw [q] at h; cases h
  | some j => rw [q] at h; exact r.get h
/-- look-up in a dict that is seen -/
theorem sh_get {x y : V} {d k : D} {o : Option D} {G2 : Hp} (vw : Vw G2 H) (rx : Sh K G H x d) (ry : R K G2 y k) (h : dGet d k = some o) : ∃ a o', x = .ref a ∧ IsD H a ∧ DGet H a y o' ∧ ((∃ v d, o' = some v ∧ o = some d ∧ R K G v d) ∨ (o' = none ∧ o = none)) := by
  cases rx with
  | dK g l kp =>
    rename_i a kvs ds
    have h : (keyK k).map (fun k => lookA ds k) = some o := h
    cases q : keyK k with
    | none => rw [q] at h; cases h
    | some kk =>
      rw [q] at h; cases h
      refine ⟨a, valV kvs kk, rfl, .inl ⟨kvs, g⟩, .inl ⟨kvs, kk, g, keyK_ok ry q, rfl⟩, ?_⟩
      rcases kvp_look kp kk with ⟨v, d, h1, h2, h3⟩ | ⟨h1, h2⟩
      · exact .inl ⟨v, d, h1, h2, h3⟩
      · exact .inr ⟨h1, h2⟩
  | dT g l kp =>
    rename_i a kvs ds
    cases ry with
    | tup g2 l2 r2 =>
      rename_i b xs ks
      have h : (keysK ks).map (fun k => lookA ds k) = some o := h
      cases q : keysK ks with
      | none => rw [q] at h; cases h
      | some kk =>
        rw [q] at h; cases h
        have hx := keysK_ok r2 q
        subst hx
        refine ⟨a, valV kvs kk, rfl, .inr ⟨kvs, g⟩, .inr ⟨kvs, kk, b, g, rfl, vw.tup g2, rfl⟩, ?_⟩
        rcases kvp_look kp kk with ⟨v, d, h1, h2, h3⟩ | ⟨h1, h2⟩
        · exact .inl ⟨v, d, h1, h2, h3⟩
        · exact .inr ⟨h1, h2⟩
    | _ => cases h
  | flat r f => cases r <;> first | cases h | cases f
  | _ => cases h
theorem join_some {o : Option (Option D)} {d : D} (h : o.bind id = some d) : o = some (some d) := by
  cases o with
  | none => cases h
  | some o => cases o <;> cases h; rfl
/-- the rule for a subscript -/
theorem sh_ix {x y : V} {d k z : D} {G2 : Hp} {Q : VK} (vw : Vw G2 H) (rx : Sh K G H x d) (ry : R K G2 y k) (h : dIx d k = some z) (q : ∀ v, R K G v z → Q v H) :
    (isDct d = false → rIx K x y H Q) ∧ (isDct d = true → ∃ a v, x = .ref a ∧ DGet H a y (some v) ∧ Q v H) := by
  have dct : isDct d = true → ∃ a v, x = .ref a ∧ DGet H a y (some v) ∧ Q v H := fun hd => by
    have h' : (dGet d k).bind id = some z := by cases d <;> first | exact h | cases hd
    obtain ⟨a, o', e1, _, e2, e3⟩ := sh_get vw rx ry (join_some h')
    rcases e3 with ⟨v, d, rfl, e, r⟩ | ⟨_, e⟩
    · cases e; exact ⟨a, v, e1, e2, q v r⟩
    · cases e
  refine ⟨fun hd => ?_, dct⟩
  cases rx with
  | lst g l r =>
    cases ry with
    | int i => obtain ⟨v, h1, h2⟩ := atI_rl r h; exact .inl ⟨_, _, i, v, rfl, rfl, SqL.of g, h1, q v h2⟩
    | _ => cases h
  | scr g l r =>
    cases ry with
    | int i => obtain ⟨v, h1, h2⟩ := atI_rl r h; exact .inl ⟨_, _, i, v, rfl, rfl, g, h1, q v h2⟩
    | _ => cases h
  | tup g l r =>
    cases ry with
    | int i => obtain ⟨v, h1, h2⟩ := atI_rl r h; exact .inr (.inl ⟨_, _, i, v, rfl, rfl, SqT.of g, h1, q v h2⟩)
    | _ => cases h
  | dK => cases hd
  | dT => cases hd
  | alb => cases h
  | flat r f =>
    cases r with
    | str s =>
      cases ry with
      | int i =>
        have h : (if s.length ≤ sizeLine then (atI s.cps.toList i).map fun c => D.str ⟨#[c]⟩ else none) = some z := h
        split at h
        · rename_i hl
          cases q2 : atI s.cps.toList i with
          | none => rw [q2] at h; cases h
          | some c => rw [q2] at h; cases h; exact .inr (.inr ⟨s, i, c, rfl, rfl, hl, q2, q _ (.str _)⟩)
        · cases h
      | _ => cases h
    | _ => first | (cases f; done) | (cases h; done)
end
def eIx (A B : Mo D) : Mo D := A.bind fun x => B.bind fun y => Mo.lift (dIx x y)
def slotDct (δ : Env) (i : Nat) : Option Bool := match δ[i]? with
  | some s => (slD s).map isDct
  | none => none
/-- x[e], x a slot: what stands there behind e -/
def ixSl (i : Nat) (k : Bool) (y : D) : Mo D := fun δ => match δ[i]? with
    | some (.imm d) => if isDct d = k then Mo.lift (dIx d y) δ else none
    | some (.own d) => if isDct d = k then Mo.lift (dIx d y) δ else none
    | some (.io d) => if isDct d = k then Mo.lift (dIx d y) δ else none
    | some (.bor d) => if isDct d = k then (match dIx d y with
      | some z => if flatD z = true then some (.ok z, δ) else none
      | none => none) else none
    | _ => none
def eIxV (i : Nat) (B : Mo D) : Mo D := fun δ => match slotDct δ i with
  | some k => (B.bind fun y => ixSl i k y) δ
  | none => none
section
variable {X : Cx} {W : WK} {e a b : Expr} {pos : Pos} {E Ea Eb : Mo D}
theorem slotDct_ok {K : PySem.W.Frag} {B : Bs} {G H : Hp} {δ : Env} {σ : St} {i : Nat} {k : Bool} (at' : At K B G δ σ H) (h : slotDct δ i = some k) : ∃ v, σ[i]? = some (some v) := by
  unfold slotDct at h
  cases q : δ[i]? with
  | none => rw [q] at h; cases h
  | some s =>
    rw [q] at h
    cases q2 : slD s with
    | none => simp only [q2] at h; cases h
    | some d => obtain ⟨v, _, h1, _⟩ := at'.see q q2; exact ⟨v, h1⟩
theorem bind_error {α β : Type} {m : Mo α} {k : α → Mo β} {δ δ1 : Env} {x : Exn} (h : m δ = some (.error x, δ1)) : Mo.bind m k δ = some (.error x, δ1) := by unfold Mo.bind; rw [h]
theorem de_ix (hu : X.A.units + 1 < cLine) (ha : DE X W a Ea) (hb : DE X W b Eb) (h1 : PlainIx b := by intro _ _; rfl) (h2 : NoSl b := by intro _ _; rfl) : DE X W (.Subscript a b pos) (eIx Ea Eb) :=
  PE.weak (PE.or (pe_ix ix_seq ha hb h1) (pe_dget hu ha hb h2)) fun σ H Q ⟨B, G, δ, r, δ', at', e1, post⟩ => by
  unfold eIx at e1
  cases q : Ea δ with
  | none => unfold Mo.bind at e1; rw [q] at e1; cases e1
  | some z =>
    obtain ⟨x, δ1⟩ := z
    cases x with
    | error x => rw [bind_error q] at e1; cases e1; exact .inl ⟨B, G, δ, .error x, _, at', q, post⟩
    | ok d =>
      rw [bind_ok q] at e1
      cases hd : isDct d with
      | false =>
        refine .inl ⟨B, G, δ, .ok d, δ1, at', q, fun G1 H1 a1 x1 v rv => ?_⟩
        refine tE_bind a1 e1 (post.mono x1) fun w H2 G2 δ2 d2 a2 x2 r2 e3 post => ?_
        obtain ⟨z, hz, hr⟩ := lift_some e3
        cases hr
        exact (sh_ix a2.vw ((rv.mono x2).sh a2.vw) r2 hz fun v rv => post G2 H2 a2 (Ext.refl _) v rv).1 hd
      | true =>
        refine .inr ⟨B, G, δ, .ok d, δ1, at', q, fun G1 H1 a1 x1 v rv => ?_⟩
        refine tE_bind a1 e1 (post.mono x1) fun w H2 G2 δ2 d2 a2 x2 r2 e3 post => ?_
        obtain ⟨z, hz, hr⟩ := lift_some e3
        cases hr
        exact (sh_ix a2.vw ((rv.mono x2).sh a2.vw) r2 hz fun v rv => post G2 H2 a2 (Ext.refl _) v rv).2 hd
/-- behind the index, the slot's content -/
theorem ixV_ok {K : PySem.W.Frag} {B : Bs} {G H : Hp} {δ δ' : Env} {σ : St} {i : Nat} {y : V} {k : D} {kb : Bool} {r : Except Exn D} {Q : VK} (at' : At K B G δ σ H) (ry : R K G y k)
    (h : ixSl i kb k δ = some (r, δ')) (post : Post K W B G σ r δ' (fun d G' H' => ∀ v, R K G' v d → Q v H')) :
    ∃ v, σ[i]? = some (some v) ∧ (kb = false → rIx K v y H Q) ∧ (kb = true → ∃ a u, v = .ref a ∧ DGet H a y (some u) ∧ Q u H) := by
  have go : ∀ (s : Sl) (d : D), δ[i]? = some s → slD s = some d → isBor s = false → (if isDct d = kb then Mo.lift (dIx d k) δ else none) = some (r, δ') → ∃ v, σ[i]? = some (some v) ∧ (kb = false → rIx K v y H Q) ∧ (kb = true → ∃ a u, v = .ref a ∧ DGet H a y (some u) ∧ Q u H) := fun s d e1 e2 e3 e4 => by
    obtain ⟨v, Gc, h1, h2, h3, h4⟩ := at'.see e1 e2
    obtain rfl := h4 e3
    split at e4
    · rename_i c
      subst c
      obtain ⟨z, hz, hr⟩ := lift_some e4
      cases hr
      exact ⟨v, h1, sh_ix (Q := Q) at'.vw h2 ry hz fun v rv => post _ H at' (Ext.refl _) v rv⟩
    · cases e4
  unfold ixSl at h
  split at h
  · rename_i d q; exact go _ d q rfl rfl h
  · rename_i d q; exact go _ d q rfl rfl h
  · rename_i d q; exact go _ d q rfl rfl h
  · rename_i d q
    obtain ⟨v, Gc, h1, h2, h3, _⟩ := at'.see q rfl
    split at h
    · rename_i c
      subst c
      cases q2 : dIx d k with
      | none => rw [q2] at h; cases h
      | some z =>
        rw [q2] at h
        simp only [] at h
        split at h
        · rename_i f
          cases h
          exact ⟨v, h1, sh_ix (Q := Q) at'.vw h2 ry q2 fun v rv => post G H at' (Ext.refl _) v (rv.flat f)⟩
        · cases h
    · cases h
  · cases h
theorem de_ixV {i : Nat} (hu : X.A.units + 1 < cLine) (ha : PE X a (tVar i)) (hb : DE X W b Eb) (h1 : PlainIx b := by intro _ _; rfl) (h2 : NoSl b := by intro _ _; rfl) : DE X W (.Subscript a b pos) (eIxV i Eb) :=
  PE.weak (PE.or (pe_ix ix_seq ha hb h1) (pe_dget hu ha hb h2)) fun σ H Q ⟨B, G, δ, r, δ', at', e1, post⟩ => by
  unfold eIxV at e1
  split at e1
  · rename_i kb hs
    obtain ⟨v, hv⟩ := slotDct_ok at' hs
    cases kb with
    | false =>
      refine .inl ⟨v, hv, ?_⟩
      refine tE_bind at' e1 post fun w H2 G2 δ2 d2 a2 x2 r2 e3 post => ?_
      obtain ⟨v', k1, k2, _⟩ := ixV_ok a2 r2 e3 post
      rw [hv] at k1; cases k1
      exact k2 rfl
    | true =>
      refine .inr ⟨v, hv, ?_⟩
      refine tE_bind at' e1 post fun w H2 G2 δ2 d2 a2 x2 r2 e3 post => ?_
      obtain ⟨v', k1, _, k2⟩ := ixV_ok a2 r2 e3 post
      rw [hv] at k1; cases k1
      exact k2 rfl
  · cases e1
def dLen : D → Option D
  | .lst l => some (.int l.length)
  | .scr l => some (.int l.length)
  | .tup l => some (.int l.length)
  | .dK l => some (.int l.length)
  | .dT l => some (.int l.length)
  | .str s => if s.length ≤ sizeLine then some (.int s.length) else none
  | _ => none
theorem sh_len {K : PySem.W.Frag} {G H : Hp} {x : V} {d z : D} (rx : Sh K G H x d) (h : dLen d = some z) : ∃ n : Nat, z = .int n ∧ (LenV K x H n ∨ (∃ a kvs, x = .ref a ∧ Rd H a (.dK kvs) ∧ n = kvs.length) ∨ ∃ a kvs, x = .ref a ∧ Rd H a (.dT kvs) ∧ n = kvs.length) := by
  cases rx with
  | lst g l r => cases h; exact ⟨_, rfl, .inl (.inl ⟨_, SqL.of g, r.length.symm⟩)⟩
  | scr g l r => cases h; exact ⟨_, rfl, .inl (.inl ⟨_, g, r.length.symm⟩)⟩
  | tup g l r => cases h; exact ⟨_, rfl, .inl (.inr ⟨_, SqT.of g, r.length.symm⟩)⟩
  | dK g l r => cases h; exact ⟨_, rfl, .inr (.inl ⟨_, _, rfl, g, (Paired.length r).symm⟩)⟩
  | dT g l r => cases h; exact ⟨_, rfl, .inr (.inr ⟨_, _, rfl, g, (Paired.length r).symm⟩)⟩
  | alb => cases h
  | flat r f =>
    cases r with
    | str s =>
      have h : (if s.length ≤ sizeLine then some (D.int s.length) else none) = some z := h
      split at h
      · rename_i hl; cases h; exact ⟨_, rfl, .inl ⟨hl, rfl⟩⟩
      · cases h
    | _ => first | (cases f; done) | (cases h; done)
def rLenA (K : PySem.W.Frag) : List V → Hp → VK → Prop := fun xs H Q => ∃ x n, xs = [x] ∧ (LenV K x H n ∨ (∃ a kvs, x = .ref a ∧ Rd H a (.dK kvs) ∧ n = kvs.length) ∨ ∃ a kvs, x = .ref a ∧ Rd H a (.dT kvs) ∧ n = kvs.length) ∧ Q (.int (n : Nat)) H
theorem call_lenA : CallR X (.builtin "len") (rLenA X.K) := by
  intro pins s σ H xs us Q I rv h
  obtain ⟨x, n, rfl, h, q⟩ := h
  rcases h with h | ⟨a, kvs, rfl, h, rfl⟩ | ⟨a, kvs, rfl, h, rfl⟩
  · exact call_len pins s σ H _ us Q I rv ⟨x, n, rfl, h, q⟩
  · obtain ⟨u, rfl, rx⟩ := vals1 rv
    obtain rfl : u = .ref a := rx
    exact d_len I h fun t s' I' => ⟨.int kvs.length, H, I', ⟨t, rfl⟩, q⟩
  · obtain ⟨u, rfl, rx⟩ := vals1 rv
    obtain rfl : u = .ref a := rx
    obtain ⟨z, hd, ys, rel, dd⟩ := dt_rd I.hok h
    have hl : kvs.length = ys.length := Paired.length rel
    refine call_len_dictH hd dd (by rw [← hl]; rw [sizeLine_eq] at z; omega) ?_
    rw [← hl]
    exact ⟨.int ((kvs.length : Nat) : Int), H, I.tok _, ⟨_, rfl⟩, q⟩
end
section
variable {X : Cx} {W : WK} {e a b : Expr} {pos p : Pos} {x : Str} {es : List Expr} {E Ea Eb : Mo D} {A : Mo (List Ag)}
/-- a built-in function of data -/
def eF (f : List D → Option D) (A : Mo (List Ag)) : Mo D := A.bind fun as => Mo.lift ((imms as).bind f)
def SndF (K : PySem.W.Frag) (f : List D → Option D) (r : List V → Hp → VK → Prop) : Prop := ∀ (B : Bs) (G H : Hp) (δ : Env) (σ : St) (xs : List V) (as : List D) (d : D) (Q : VK), At K B G δ σ H → RL K G xs as → f as = some d →
  (∀ v G' H', At K B G' δ σ H' → Ext G G' → R K G' v d → Q v H') → r xs H Q
def SndFO (K : PySem.W.Frag) (f : List D → Option D) (r : List V → Hp → VK → Prop) : Prop := ∀ (B : Bs) (G H : Hp) (δ : Env) (σ : St) (xs : List V) (as : List D) (d : D) (Q : VK), At K B G δ σ H → RL K G xs as → f as = some d →
  (∀ p G' H', At K B G' δ σ H' → Ext G G' → Fr1 K B G' δ σ H' p d → Q (.ref p) H') → r xs H Q
theorem eF_some {f : List D → Option D} {as : List Ag} {δ δ' : Env} {r : Except Exn D} (h : Mo.lift ((imms as).bind f) δ = some (r, δ')) : ∃ ds d, imms as = some ds ∧ f ds = some d ∧ r = .ok d ∧ δ' = δ := by
  obtain ⟨z, hz, hr⟩ := lift_some h
  cases hr
  cases q : imms as with
  | none => rw [q] at hz; cases hz
  | some ds => rw [q] at hz; exact ⟨ds, z, rfl, hz, rfl, rfl⟩
theorem de_tCB {f : List D → Option D} {r : List V → Hp → VK → Prop} (hf : SndF X.K f r) (h : PE X e (tCB r (tA X.K W A))) : DE X W e (eF f A) := PE.weak h fun σ H Q ⟨B, G, δ, r', δ', at', e1, post⟩ => by
  refine tA_bind at' e1 post fun vs H1 G1 δ1 as a1 x1 r1 e2 post => ?_
  obtain ⟨ds, d, h1, h2, rfl, rfl⟩ := eF_some e2
  exact hf B G1 H1 δ' σ vs ds d Q a1 (imms_ok r1 h1) h2 fun v G' H' a' x' rv => post G' H' a' x' v rv
theorem do_tCB {f : List D → Option D} {r : List V → Hp → VK → Prop} (hf : SndFO X.K f r) (h : PE X e (tCB r (tA X.K W A))) : DO X W e (eF f A) := PE.weak h fun σ H Q ⟨B, G, δ, r', δ', at', e1, post⟩ => by
  refine tA_bind at' e1 post fun vs H1 G1 δ1 as a1 x1 r1 e2 post => ?_
  obtain ⟨ds, d, h1, h2, rfl, rfl⟩ := eF_some e2
  exact hf B G1 H1 δ' σ vs ds d Q a1 (imms_ok r1 h1) h2 fun v G' H' a' x' rv => post G' H' a' x' v rv
def fLen : List D → Option D
  | [d] => dLen d
  | _ => none
theorem snd_len : SndF X.K fLen (rLenA X.K) := fun B G H δ σ xs as d Q at' rx h k => by
  cases rx with
  | nil => cases h
  | cons r0 r1 =>
    cases r1 with
    | cons _ _ => cases h
    | nil =>
      obtain ⟨n, rfl, h2⟩ := sh_len (r0.sh at'.vw) h
      exact ⟨_, n, rfl, h2, k _ G H at' (Ext.refl _) (.int _)⟩
theorem de_len (hg : Gl X x) (hm : X.mg x = none) (hv : bootBuiltins x = some (.builtin "len")) (ha : DA X W (e :: es) A) (hn : x ≠ "__name__" := by decide) (hdb : (x == ("__debug__" : Str)) = false := by decide)
    (he : starEach (e :: es) X.env = (false, eval e X.env) :: starEach es X.env := by rfl) (hpl : (backTo pos (starEach es X.env)).any (·.1) = false := by rfl) : DE X W (.Call (.Name x p) (e :: es) [] pos) (eF fLen A) :=
  de_tCB snd_len (pe_callB call_lenA hg hm hv ha hn hdb he hpl)
/-- len(x), x a slot that keeps its object -/
def eLenV (i : Nat) : Mo D := fun δ => match δ[i]? with
  | some s => (slD s).bind dLen |>.map fun d => (.ok d, δ)
  | none => none
end
end M
set_option Elab.async false
set_option linter.all false
set_option maxRecDepth 100000
namespace M
open PySem L2 PySem.Spec PyProof.Rows
mutual
def toPy : D → PyData
  | .non => .none
  | .bl b => .bool b
  | .int i => .int i
  | .str s => .str s
  | .tup l => .tuple (toPys l)
  | .lst l => .list (toPys l)
  | .scr l => .list (toPys l)
  | .dK _ => .dict []
  | .dT _ => .dict []
  | .alb _ _ => .dict []
def toPys : List D → List PyData
  | [] => []
  | d :: ds => toPy d :: toPys ds
end
section
variable {K : PySem.W.Frag} {G H : Hp}
mutual
theorem R.dp (vw : Vw G H) : ∀ {v : V} {d : D}, R K G v d → (toPy d).canLay0 = true → Dp K H v (toPy d)
  | _, _, .non, _ => .non
  | _, _, .bl b, _ => .bl b
  | _, _, .int i, _ => .int i
  | _, _, .str s, _ => .str s
  | _, _, .tup g l r, h => .tup (SqT.of (vw.tup g)) (RL.dp vw r (by simpa [toPy, PyData.canLay0] using h))
  | _, _, .lst g l r, h => .lst (SqL.of (vw.lst g)) (RL.dp vw r (by simpa [toPy, PyData.canLay0] using h))
  | _, _, .scr g l r, h => .lst (vw.sql g) (RL.dp vw r (by simpa [toPy, PyData.canLay0] using h))
  | _, _, .dK _ _ _ _, h => by simp [toPy, PyData.canLay0] at h
  | _, _, .dT _ _ _ _, h => by simp [toPy, PyData.canLay0] at h
  | _, _, .alb _ _ _ _ _ _ _ _, h => by simp [toPy, PyData.canLay0] at h
theorem RL.dp (vw : Vw G H) : ∀ {vs : List V} {ds : List D}, RL K G vs ds → PyData.canLayAll0 (toPys ds) = true → DpAll K H vs (toPys ds)
  | _, _, .nil, _ => .nil
  | _, _, .cons r t, h => by
    simp only [toPys, PyData.canLayAll0, Bool.and_eq_true] at h
    exact .cons (R.dp vw r h.1) (RL.dp vw t h.2)
end
end
def shp (d : D) : Bool := SeqAt.shaped (toPy d)
theorem shp_dp {K : PySem.W.Frag} {G H : Hp} (vw : Vw G H) {v : V} {d : D} (r : R K G v d) (h : shp d = true) : Dp K H v (toPy d) := r.dp vw (SeqAt.canLay_of_shaped h)
/-- == where neither is a dict -/
def dEq (a b : D) : Option D := if shp a = true ∧ shp b = true then some (.bl (PyData.eqv (toPy a) (toPy b))) else none
def dNe (a b : D) : Option D := if shp a = true ∧ shp b = true then some (.bl (!PyData.eqv (toPy a) (toPy b))) else none
section
variable {X : Cx} {W : WK} {e a b c : Expr} {pos : Pos} {E Ea Eb Ec : Mo D}
theorem snd_eq : Snd2 X.K dEq (rEqD X.K) := fun B G H δ σ x y a b d Q at' rx ry h k => by
  unfold dEq at h
  split at h
  · rename_i q; cases h
    exact ⟨_, _, shp_dp at'.vw rx q.1, shp_dp at'.vw ry q.2, q.1, q.2, k _ G H at' (Ext.refl _) (.bl _)⟩
  · cases h
theorem snd_ne : Snd2 X.K dNe (rNeD X.K) := fun B G H δ σ x y a b d Q at' rx ry h k => by
  unfold dNe at h
  split at h
  · rename_i q; cases h
    exact ⟨_, _, shp_dp at'.vw rx q.1, shp_dp at'.vw ry q.2, q.1, q.2, k _ G H at' (Ext.refl _) (.bl _)⟩
  · cases h
theorem de_eq (hu : X.A.units + 64 < cLine) (ha : DE X W a Ea) (hb : DE X W b Eb) : DE X W (.Compare a [.Eq] [b] pos) (eBin dEq Ea Eb) := de_cmp (op_eqD hu) snd_eq ha hb (nomark _)
def hasPy (x : D) (l : List D) : Bool := (toPys l).any fun z => PyData.eqv z (toPy x)
/-- == of flat data -/
def eqF : D → D → Bool
  | .non, .non => true
  | .bl a, .bl b => a == b
  | .bl a, .int b => (if a then 1 else 0) == b
  | .int a, .bl b => a == (if b then 1 else 0)
  | .int a, .int b => a == b
  | .str a, .str b => a == b
  | _, _ => false
def hasF (x : D) (l : List D) : Bool := l.any fun y => eqF y x
def dIn (neg : Bool) : D → D → Option D
  | x, .lst l => if shp x = true ∧ shp (.lst l) = true then some (.bl (if neg then !hasPy x l else hasPy x l)) else none
  | x, .scr l => if shp x = true ∧ shp (.scr l) = true then some (.bl (if neg then !hasPy x l else hasPy x l)) else none
  | x, .tup l => if flatD x = true ∧ l.all flatD = true then some (.bl (if neg then !hasF x l else hasF x l)) else none
  | .non, .dK _ => some (.bl neg)
  | x, .dK l => (dGet (.dK l) x).map fun o => .bl (if neg then !o.isSome else o.isSome)
  | x, .dT l => (dGet (.dT l) x).map fun o => .bl (if neg then !o.isSome else o.isSome)
  | _, _ => none
def rDIn (neg : Bool) : R2 := fun y x H Q => ∃ a o, x = .ref a ∧ DGet H a y o ∧ Q (.bl (if neg then !o.isSome else o.isSome)) H
def rNIn (neg : Bool) : R2 := fun y x H Q => ∃ a kvs, x = .ref a ∧ y = .non ∧ Rd H a (.dK kvs) ∧ Q (.bl neg) H
theorem opd_in (hu : X.A.units + 1 < cLine) : OpR X (compareOp .In) (rDIn false) := fun pins s σ H y x u v Q I ry rx h => by
  obtain ⟨a, o, rfl, g, q⟩ := h
  cases rx
  exact d_in hu I g ry fun s' I' => ⟨.bl o.isSome, H, I', rfl, q⟩
theorem opd_notin (hu : X.A.units + 1 < cLine) : OpR X (compareOp .NotIn) (rDIn true) := fun pins s σ H y x u v Q I ry rx h => by
  obtain ⟨a, o, rfl, g, q⟩ := h
  cases rx
  exact d_notIn hu I g ry fun s' I' => ⟨.bl (!o.isSome), H, I', rfl, q⟩
theorem opn_in : OpR X (compareOp .In) (rNIn false) := fun pins s σ H y x u v Q I ry rx h => by
  obtain ⟨a, kvs, rfl, rfl, g, q⟩ := h
  cases rx; cases ry
  exact d_inNone I g fun s' I' => ⟨.bl false, H, I', rfl, q⟩
theorem opn_notin : OpR X (compareOp .NotIn) (rNIn true) := fun pins s σ H y x u v Q I ry rx h => by
  obtain ⟨a, kvs, rfl, rfl, g, q⟩ := h
  cases rx; cases ry
  exact d_notInNone I g fun s' I' => ⟨.bl true, H, I', rfl, q⟩
theorem flat_V {K : PySem.W.Frag} {G : Hp} {v : V} {d : D} (r : R K G v d) (f : flatD d = true) : flatV v = true := by
  cases r <;> first | rfl | (cases f; done)
theorem flat_Vs {K : PySem.W.Frag} {G : Hp} : ∀ {vs : List V} {ds : List D}, RL K G vs ds → ds.all flatD = true → vs.all flatV = true
  | _, _, .nil, _ => rfl
  | _, _, .cons r t, h => by
    rw [List.all_cons, Bool.and_eq_true] at h
    rw [List.all_cons, flat_V r h.1, flat_Vs t h.2]; rfl
theorem eqF_V {K : PySem.W.Frag} {G : Hp} {v w : V} {d e : D} (r : R K G v d) (s : R K G w e) (f : flatD d = true) (g : flatD e = true) : eqV v w = eqF d e := by
  cases r <;> first | (cases f; done) | (cases s <;> first | rfl | (cases g; done))
theorem hasF_V {K : PySem.W.Frag} {G : Hp} {w : V} {e : D} (s : R K G w e) (g : flatD e = true) : ∀ {vs : List V} {ds : List D}, RL K G vs ds → ds.all flatD = true → inV w vs = hasF e ds
  | _, _, .nil, _ => rfl
  | _, _, .cons r t, h => by
    rw [List.all_cons, Bool.and_eq_true] at h
    unfold inV hasF
    rw [List.any_cons, List.any_cons, eqF_V r s h.1 g]
    have := hasF_V s g t h.2
    unfold inV hasF at this
    rw [this]
abbrev rInA (K : PySem.W.Frag) (neg : Bool) : R2 := fun x y H Q => ((if neg then rNotInD K else rInD K) x y H Q ∨ rIn K neg x y H Q) ∨ (rDIn neg x y H Q ∨ rNIn neg x y H Q)
theorem opA_in (hu : X.A.units + 65 < cLine) : OpR X (compareOp .In) (rInA X.K false) := OpR.or (OpR.or (op_inD hu) op_in_seq) (OpR.or (opd_in (by omega)) opn_in)
theorem opA_notin (hu : X.A.units + 65 < cLine) : OpR X (compareOp .NotIn) (rInA X.K true) := OpR.or (OpR.or (op_notInD hu) op_notIn_seq) (OpR.or (opd_notin (by omega)) opn_notin)
/-- the container seen -/
theorem sh_in {K : PySem.W.Frag} {G Gc H : Hp} {neg : Bool} {x y : V} {d c z : D} {Q : VK} (vw : Vw G H) (vc : Vw Gc H) (rx : R K G x d) (ry : Sh K Gc H y c) (h : dIn neg d c = some z) (q : ∀ b, z = .bl b → Q (.bl b) H) : rInA K neg x y H Q := by
  have dct : ∀ o, dGet c d = some o → z = .bl (if neg then !o.isSome else o.isSome) → rInA K neg x y H Q := fun o h1 h2 => by
    obtain ⟨a, o', e1, _, e2, e3⟩ := sh_get vw ry rx h1
    have ho : o'.isSome = o.isSome := by
      rcases e3 with ⟨v, d, rfl, rfl, _⟩ | ⟨rfl, rfl⟩ <;> rfl
    exact .inr (.inl ⟨a, o', e1, e2, by rw [ho]; exact q _ h2⟩)
  cases ry with
  | alb => cases d <;> cases h
  | lst g l r =>
    rename_i a xs ds
    have h : (if shp d = true ∧ shp (.lst ds) = true then some (D.bl (if neg then !hasPy d ds else hasPy d ds)) else none) = some z := h
    split at h
    · rename_i c; cases h
      have d2 : Dp K H (.ref a) (.list (toPys ds)) := .lst (SqL.of g) (r.dp vc (by have := SeqAt.canLay_of_shaped c.2; simpa [toPy, PyData.canLay0] using this))
      refine .inl (.inl ?_)
      cases neg
      · exact ⟨_, _, shp_dp vw rx c.1, d2, c.1, c.2, q _ rfl⟩
      · exact ⟨_, _, shp_dp vw rx c.1, d2, c.1, c.2, q _ rfl⟩
    · cases h
  | scr g l r =>
    rename_i a xs ds
    have h : (if shp d = true ∧ shp (.scr ds) = true then some (D.bl (if neg then !hasPy d ds else hasPy d ds)) else none) = some z := h
    split at h
    · rename_i c; cases h
      have d2 : Dp K H (.ref a) (.list (toPys ds)) := .lst g (r.dp vc (by have := SeqAt.canLay_of_shaped c.2; simpa [toPy, PyData.canLay0] using this))
      refine .inl (.inl ?_)
      cases neg
      · exact ⟨_, _, shp_dp vw rx c.1, d2, c.1, c.2, q _ rfl⟩
      · exact ⟨_, _, shp_dp vw rx c.1, d2, c.1, c.2, q _ rfl⟩
    · cases h
  | tup g l r =>
    rename_i a xs ds
    have h : (if flatD d = true ∧ ds.all flatD = true then some (D.bl (if neg then !hasF d ds else hasF d ds)) else none) = some z := h
    split at h
    · rename_i c; cases h
      refine .inl (.inr ⟨a, xs, rfl, .inr (SqT.of g), flat_V rx c.1, flat_Vs r c.2, ?_⟩)
      rw [hasF_V (rx.flat c.1) c.1 r c.2]
      exact q _ rfl
    · cases h
  | dK g l r =>
    rename_i a kvs ds
    by_cases hn : d = .non
    · subst hn; cases h
      cases rx
      exact .inr (.inr ⟨a, kvs, rfl, rfl, g, q _ rfl⟩)
    · have h' : ((dGet (.dK ds) d).map fun o => D.bl (if neg then !o.isSome else o.isSome)) = some z := by
        cases d <;> first | exact absurd rfl hn | exact h
      cases q2 : dGet (.dK ds) d with
      | none => rw [q2] at h'; cases h'
      | some o => rw [q2] at h'; cases h'; exact dct o q2 rfl
  | dT g l r =>
    rename_i a kvs ds
    have h' : ((dGet (.dT ds) d).map fun o => D.bl (if neg then !o.isSome else o.isSome)) = some z := by
      cases d <;> exact h
    cases q2 : dGet (.dT ds) d with
    | none => rw [q2] at h'; cases h'
    | some o => rw [q2] at h'; cases h'; exact dct o q2 rfl
  | flat r f =>
    cases r with
    | _ => first | (cases f; done) | (cases d <;> cases h)
theorem snd_in {neg : Bool} : Snd2 X.K (dIn neg) (rInA X.K neg) := fun B G H δ σ x y a b d Q at' rx ry h k =>
  sh_in at'.vw at'.vw rx (ry.sh at'.vw) h fun b hb => by subst hb; exact k _ G H at' (Ext.refl _) (.bl _)
/-- e in x, x a slot that keeps its object -/
def eInV (neg : Bool) (A : Mo D) (i : Nat) : Mo D := A.bind fun x => fun δ => match δ[i]? with
  | some s => ((slD s).bind fun c => dIn neg x c).map fun d => (.ok d, δ)
  | none => none
def dIs (neg : Bool) : D → D → Option D
  | .non, .non => some (.bl (!neg))
  | _, .non => some (.bl neg)
  | _, _ => none
def rIsN (neg : Bool) : R2 := fun x y H Q => y = .non ∧ Q (.bl (if neg then !decide (x = .non) else decide (x = .non))) H
theorem snd_is {neg : Bool} : Snd2 X.K (dIs neg) (rIsN neg) := fun B G H δ σ x y a b d Q at' rx ry h k => by
  cases ry with
  | non =>
    refine ⟨rfl, ?_⟩
    cases rx with
    | non => cases h; have := k (.bl (!neg)) G H at' (Ext.refl _) (.bl _); cases neg <;> exact this
    | _ => cases h; have := k (.bl neg) G H at' (Ext.refl _) (.bl _); cases neg <;> exact this
  | _ => cases rx <;> cases h
theorem de_isN (ha : DE X W a Ea) (hb : DE X W b Eb) : DE X W (.Compare a [.Is] [b] pos) (eBin (dIs false) Ea Eb) := de_cmp (r := rIsN false) op_isN snd_is ha hb (nomark _)
end
def chM (i : Nat) (f : D → Option D) : Mo Unit := fun δ => match δ[i]? with
  | some (.own d) => (f d).map fun d' => (.ok (), δ.set i (.own d'))
  | some (.io d) => (f d).map fun d' => (.ok (), δ.set i (.io d'))
  | _ => none
theorem chM_ok {K : PySem.W.Frag} {B : Bs} {G H : Hp} {δ δ' : Env} {σ : St} {i : Nat} {f : D → Option D} {u : Except Exn Unit} (a : At K B G δ σ H) (h : chM i f δ = some (u, δ')) :
    u = .ok () ∧ ∃ p d d', σ[i]? = some (some (.ref p)) ∧ Ow K G H p d ∧ f d = some d' ∧ ∀ o, Mut (some o) → Ow K G (upd H p o) p d' → At K B G δ' σ (upd H p o) := by
  unfold chM at h
  split at h
  · rename_i d q
    cases q2 : f d with
    | none => rw [q2] at h; cases h
    | some d' =>
      rw [q2] at h; cases h
      obtain ⟨p, h1, h2, h3, h4⟩ := a.own q
      exact ⟨rfl, p, d, d', h1, h3, q2, fun o m w => a.change q (.inl ⟨rfl, rfl⟩) h1 m w⟩
  · rename_i d q
    cases q2 : f d with
    | none => rw [q2] at h; cases h
    | some d' =>
      rw [q2] at h; cases h
      obtain ⟨p, h1, h2, h3, h4⟩ := a.io q
      exact ⟨rfl, p, d, d', h1, h3, q2, fun o m w => a.change q (.inr ⟨rfl, rfl⟩) h1 m w⟩
  · cases h
def isSet (δ : Env) (i : Nat) : Bool := match δ[i]? with
  | some (.own _) => true
  | some (.io _) => true
  | _ => false
theorem isSet_ok {K : PySem.W.Frag} {B : Bs} {G H : Hp} {δ : Env} {σ : St} {i : Nat} (a : At K B G δ σ H) (h : isSet δ i = true) : ∃ p d, σ[i]? = some (some (.ref p)) ∧ Ow K G H p d := by
  unfold isSet at h
  split at h
  · rename_i d q; obtain ⟨p, h1, _, h3, _⟩ := a.own q; exact ⟨p, d, h1, h3⟩
  · rename_i d q; obtain ⟨p, h1, _, h3, _⟩ := a.io q; exact ⟨p, d, h1, h3⟩
  · cases h
def dAppend (x : D) : D → Option D
  | .lst l => if l.length < sizeLine then some (.lst (l ++ [x])) else none
  | _ => none
/-- x.append(e) -/
def isLst (δ : Env) (i : Nat) : Bool := match δ[i]? with
  | some (.own (.lst _)) => true
  | some (.io (.lst _)) => true
  | _ => false
theorem isLst_ok {K : PySem.W.Frag} {B : Bs} {G H : Hp} {δ : Env} {σ : St} {i : Nat} (a : At K B G δ σ H) (h : isLst δ i = true) : ∃ p xs, σ[i]? = some (some (.ref p)) ∧ H p = some (.lst xs) := by
  unfold isLst at h
  split at h
  · rename_i d q; obtain ⟨p, h1, _, h3, _⟩ := a.own q; cases h3 with | lst g l r => exact ⟨p, _, h1, g⟩
  · rename_i d q; obtain ⟨p, h1, _, h3, _⟩ := a.io q; cases h3 with | lst g l r => exact ⟨p, _, h1, g⟩
  · cases h
def sApp (i : Nat) (E : Mo D) : Mo Out := fun δ => if isLst δ i = true then (E.bind fun x => (chM i (dAppend x)).bind fun _ => Mo.ret .nx) δ else none
section
variable {X : Cx} {W : WK} {o e a b c : Expr} {pos apos cpos : Pos} {E Ea Eb Ec : Mo D}
theorem ds_app {i : Nat} (ho : PE X o (tVar i)) (he : DE X W e E) (hs : starEach [e] X.env = (false, eval e X.env) :: starEach [] X.env := by rfl)
    (hbase : attributeBase o "append" X.env (eval o X.env) = eval o X.env := by rfl)
    (hfew : ((backTo cpos (starEach [e] X.env)).all (fun x => !x.1) && (backToKw cpos (keywordEach [] X.env)).all (fun x => x.1.isSome)
      && decide (([e] : List Expr).length + ([] : List Keyword).length + (if ([] : List Keyword).isEmpty then 0 else 1) < 30)) = true := by rfl)
    (hline : (apos.endLine == cpos.line) = true := by rfl) (hplain : (backTo cpos (starEach [] X.env)).any (·.1) = false := by rfl)
    (hsw : swapsWith (.Call (.Attribute o "append" apos) [e] [] cpos) none pos.line X.env = pure false := by rfl) :
    DS X W (.Expr (.Call (.Attribute o "append" apos) [e] [] cpos) pos) (sApp i E) :=
  PS.weak (ps_expr (pe_bm PySem.F.plainAttrs_list PySem.F.slot_list_append PySem.F.type_list_append mt_append ho (pa_cons he pa_nil hs) hbase hfew hline hs hplain) hsw) fun Dn σ H ⟨B, G, δ, r, δ', at', e1, post⟩ => by
  unfold sApp at e1
  split at e1
  · rename_i hi
    obtain ⟨p, xs, hp, hx⟩ := isLst_ok at' hi
    refine ⟨_, hp, .inl ⟨rfl, xs, SqL.of hx⟩, ?_⟩
    refine tE_bindS at' e1 post fun v H1 G1 δ1 d a1 x1 r1 e2 post => ?_
    rcases unit_bind e2 with ⟨q, rfl⟩ | ⟨x, q, rfl⟩
    · obtain ⟨_, p', dd, d', h1, h2, h3, h4⟩ := chM_ok a1 q
      rw [hp] at h1; cases h1
      cases h2 with
      | lst g l rl =>
        rename_i ys ds
        have h3 : (if ds.length < sizeLine then some (D.lst (ds ++ [d])) else none) = some d' := h3
        split at h3
        · rename_i hl
          cases h3
          rw [← rl.length] at hl
          refine ⟨p, ys, v, rfl, rfl, g, hl, ?_⟩
          exact post G1 σ _ (h4 (.lst (ys ++ [v])) trivial (.lst upd_same (by rw [List.length_append]; exact hl) (rl.append (.cons r1 .nil)))) (Ext.refl _)
        · cases h3
      | dK => cases h3
      | dT => cases h3
    · have := (chM_ok a1 q).1; cases this
  · cases e1
/-- o[e] = v -/
def dSet (k v : D) : D → Option D
  | .lst l => match k with
    | .int i => (ixN l.length i).map fun j => .lst (l.set j v)
    | _ => none
  | .dK l => dPut (.dK l) k v
  | .dT l => dPut (.dT l) k v
  | _ => none
def sSet (i : Nat) (Ek Ev : Mo D) : Mo Out := Ev.bind fun v => fun δ => if isSet δ i = true then (Ek.bind fun k => (chM i (dSet k v)).bind fun _ => Mo.ret .nx) δ else none
abbrev rSetA : TSet := fun o i v H Q => rSetL o i v H Q ∨ ∃ a H', o = .ref a ∧ DPut H a i v H' ∧ Q H'
theorem set_all (hu : X.A.units + 1 < cLine) : PSet X rSetA := fun pins s σ H o i v ov iv u Q I ro ri rv h => by
  rcases h with h | ⟨a, H', rfl, g, q⟩
  · exact set_list pins s σ H o i v ov iv u Q I ro ri rv h
  · cases ro
    exact d_setItem hu I g ri rv fun s' I' => ⟨H', I', q⟩
theorem ds_sub {i : Nat} {pos' : Pos} (hu : X.A.units + 1 < cLine) (ho : PE X o (tVar i)) (hk : DE X W a Ea) (hv : DE X W b Eb) (hs : swapsWithSole [.Subscript o a pos'] b pos.line X.env = pure false := by rfl) (hw : swappedStores [.Subscript o a pos'] b X.env = pure none := by rfl)
    (h1 : (assignEach [.Subscript o a pos'] X.env).map (·.2) = [assign (.Subscript o a pos') X.env] := by rfl)
    (ha : ∀ v, assign (.Subscript o a pos') X.env v = (do
      let ov ← holding [v] (eval o X.env)
      let iv ← holding [v, ov] (eval a X.env)
      standAt pos'
      holding [v, ov, iv] (setItem ov iv v)
      release [v, ov, iv] []) := by intro _; rfl) :
    DS X W (.Assign [.Subscript o a pos'] b pos) (sSet i Ea Eb) := PS.weak (ps_asg hv (pg_sub ho hk (set_all hu) ha) hs hw h1) fun Dn σ H ⟨B, G, δ, r, δ', at', e1, post⟩ => by
  refine tE_bindS at' e1 post fun v H1 G1 δ1 vd a1 x1 r1 e2 post => ?_
  split at e2
  · rename_i hi
    obtain ⟨p, d0, hp, _⟩ := isSet_ok a1 hi
    refine ⟨_, hp, ?_⟩
    refine tE_bindS a1 e2 post fun y H2 G2 δ2 kd a2 x2 r2 e3 post => ?_
    rcases unit_bind e3 with ⟨q, rfl⟩ | ⟨x, q, rfl⟩
    · obtain ⟨_, p', dd, d', h1, h2, h3, h4⟩ := chM_ok a2 q
      rw [hp] at h1; cases h1
      have rv := r1.mono x2
      have dct : dPut dd kd vd = some d' → rSetA (.ref p) y v H2 fun H3 => Dn.nx σ H3 := fun hh => by
        obtain ⟨o1, g1, g2, g3⟩ := dPut_ok a2.vw h2 r2 rv hh
        exact .inr ⟨p, _, rfl, g1, post G2 σ _ (h4 o1 g2 g3) (Ext.refl _)⟩
      cases h2 with
      | lst g l rl =>
        rename_i ys ds
        cases r2 with
        | int j =>
          have h3 : (ixN ds.length j).map (fun m => D.lst (ds.set m vd)) = some d' := h3
          cases q2 : ixN ds.length j with
          | none => rw [q2] at h3; cases h3
          | some m =>
            rw [q2] at h3; cases h3
            refine .inl ⟨p, ys, j, m, rfl, rfl, g, by rw [rl.length]; exact q2, ?_⟩
            exact post G2 σ _ (h4 (.lst (ys.set m v)) trivial (.lst upd_same (by rw [List.length_set]; exact l) (rl.set m rv))) (Ext.refl _)
        | _ => cases h3
      | dK => exact dct h3
      | dT => exact dct h3
    · have := (chM_ok a2 q).1; cases this
  · cases e2
end
section
variable {X : Cx} {W : WK} {e a b c : Expr} {pos p : Pos} {x : Str} {es : List Expr} {E Ea Eb Ec : Mo D} {A : Mo (List Ag)}
def fAbs : List D → Option D
  | [.int i] => some (.int (if i < 0 then -i else i))
  | _ => none
theorem rl1 {K : PySem.W.Frag} {G : Hp} {xs : List V} {d : D} (h : RL K G xs [d]) : ∃ v, xs = [v] ∧ R K G v d := by
  cases h with
  | cons r t => cases t; exact ⟨_, rfl, r⟩
theorem r_int {K : PySem.W.Frag} {G : Hp} {v : V} {i : Int} (h : R K G v (.int i)) : v = .int i := by cases h; rfl
theorem r_bl {K : PySem.W.Frag} {G : Hp} {v : V} {i : Bool} (h : R K G v (.bl i)) : v = .bl i := by cases h; rfl
theorem snd_abs : SndF X.K fAbs (fun xs H Q => ∃ i, xs = [.int i] ∧ Q (.int (if i < 0 then -i else i)) H) := fun B G H δ σ xs as d Q at' rx h k => by
  unfold fAbs at h
  split at h
  · cases h
    obtain ⟨v, rfl, r⟩ := rl1 rx
    rw [r_int r]
    exact ⟨_, rfl, k _ G H at' (Ext.refl _) (.int _)⟩
  · cases h
theorem de_abs (hg : Gl X x) (hm : X.mg x = none) (hv : bootBuiltins x = some (.builtin "abs")) (ha : DA X W (e :: es) A) (hn : x ≠ "__name__" := by decide) (hdb : (x == ("__debug__" : Str)) = false := by decide)
    (he : starEach (e :: es) X.env = (false, eval e X.env) :: starEach es X.env := by rfl) (hpl : (backTo pos (starEach es X.env)).any (·.1) = false := by rfl) : DE X W (.Call (.Name x p) (e :: es) [] pos) (eF fAbs A) :=
  de_tCB snd_abs (pe_callB call_abs hg hm hv ha hn hdb he hpl)
def fInt : List D → Option D
  | [.int i] => some (.int i)
  | [.bl k] => some (.int (if k then 1 else 0))
  | _ => none
theorem snd_fint : SndF X.K fInt (fun xs H Q => (∃ i, xs = [.int i] ∧ Q (.int i) H) ∨ ∃ k, xs = [.bl k] ∧ Q (.int (if k then 1 else 0)) H) := fun B G H δ σ xs as d Q at' rx h k => by
  unfold fInt at h
  split at h
  · cases h
    obtain ⟨v, rfl, r⟩ := rl1 rx
    rw [r_int r]
    exact .inl ⟨_, rfl, k _ G H at' (Ext.refl _) (.int _)⟩
  · cases h
    obtain ⟨v, rfl, r⟩ := rl1 rx
    rw [r_bl r]
    exact .inr ⟨_, rfl, k _ G H at' (Ext.refl _) (.int _)⟩
  · cases h
theorem de_int1 (hg : Gl X x) (hm : X.mg x = none) (hv : bootBuiltins x = some (.type "int")) (ha : DA X W (e :: es) A) (hn : x ≠ "__name__" := by decide) (hdb : (x == ("__debug__" : Str)) = false := by decide)
    (he : starEach (e :: es) X.env = (false, eval e X.env) :: starEach es X.env := by rfl) (hpl : (backTo pos (starEach es X.env)).any (·.1) = false := by rfl) : DE X W (.Call (.Name x p) (e :: es) [] pos) (eF fInt A) :=
  de_tCB snd_fint (pe_callTy call_int1 hg hm hv ha hn hdb he hpl)
end
end M
set_option Elab.async false
set_option linter.all false
set_option maxRecDepth 100000
namespace M
open PySem L2 PySem.Spec PyProof.Rows
def ikHash (ks : List Key) : Int := reduceHash (Builtin.Tuple.tupleHashOf (ks.map fun k => match k with
  | .inl i => hashInt i
  | .inr _ => 0))
def intKey (ks : List Key) : Bool := ks.all fun k => match k with
  | .inl _ => true
  | .inr _ => false
/-- the keys' hashes differ: what a copy of such a dict asks -/
def apart (ks : List (List Key)) : Prop := (∀ k ∈ ks, intKey k = true) ∧ (ks.map ikHash).Nodup
section
variable {X : Cx} {W : WK} {e a b c : Expr} {pos p : Pos} {x : Str} {es : List Expr} {E Ea Eb Ec : Mo D} {A : Mo (List Ag)}
def fList : List D → Option D
  | [.lst l] => some (.lst l)
  | [.scr l] => some (.lst l)
  | [.tup l] => some (.lst l)
  | _ => none
def rListA (K : PySem.W.Frag) : List V → Hp → VK → Prop := fun xs H Q => (∃ p ys, xs = [.ref p] ∧ (SqL K H p ys ∨ SqT K H p ys) ∧ ∀ l, H l = none → Q (.ref l) (upd H l (.lst ys))) ∨
  ∃ d kvs, xs = [V.ref d] ∧ Rd H d (.dT kvs) ∧ ∀ p bs, H p = none → IsKeys H kvs bs → Q (.ref p) (upd H p (.lst (bs.map V.ref)))
theorem call_listA (hc : X.calm = true) : CallR X (.type "list") (rListA X.K) := fun pins s σ H xs us Q I rv h => by
  rcases h with h | h
  · exact call_list_of pins s σ H xs us Q I rv h
  · exact call_list_dT hc pins s σ H xs us Q I rv h
theorem keys_rl {K : PySem.W.Frag} {B : Bs} {H : Hp} {δ : Env} {σ : St} : ∀ {kvs : List (List Key × V)} {bs : List Addr}, IsKeys H kvs bs → kvs.length ≤ sizeLine → (∀ p ∈ kvs, p.1.length ≤ sizeLine) → ∀ {G : Hp}, At K B G δ σ H → ∃ G', At K B G' δ σ H ∧ Ext G G' ∧ RL K G' (bs.map V.ref) (kvs.map fun p => .tup (p.1.map kD))
  | _, _, .nil, _, _, G, a => ⟨G, a, Ext.refl _, .nil⟩
  | p :: kvs, b :: bs, .cons h t, hl, hk, G, a => by
    obtain ⟨G1, a1, x1, g1⟩ := a.tuple h
    obtain ⟨G2, a2, x2, r2⟩ := keys_rl t (by rw [List.length_cons] at hl; omega) (fun q hq => hk q (List.mem_cons_of_mem _ hq)) a1
    refine ⟨G2, a2, x1.trans x2, ?_⟩
    rw [List.map_cons, List.map_cons]
    exact .cons (.tup (x2 _ _ g1) (by rw [List.length_map]; exact hk p List.mem_cons_self) (kDs_ok _)) r2
/-- keys are short -/
def shortK (ks : List (List Key)) : Bool := ks.all fun k => decide (k.length ≤ 1000)
def fList' : List D → Option D
  | [.dT l] => if shortK (l.map (·.1)) = true then some (.lst (l.map fun p => .tup (p.1.map kD))) else none
  | as => fList as
theorem snd_list : SndFO X.K fList' (rListA X.K) := fun B G H δ σ xs as d Q at' rx h k => by
  have seq : ∀ v l, (∃ a ys, v = V.ref a ∧ (SqL X.K H a ys ∨ SqT X.K H a ys) ∧ ys.length ≤ sizeLine ∧ RL X.K G ys l) → d = .lst l → xs = [v] → rListA X.K xs H Q := fun v l hh hd hx => by
    obtain ⟨a, ys, rfl, h1, h2, h3⟩ := hh
    subst hd hx
    refine .inl ⟨a, ys, rfl, h1, fun q hq => ?_⟩
    obtain ⟨b1, b2⟩ := at'.own1 (p := q) (o := .lst _) hq (.lst upd_same h2 h3)
    exact k q _ _ b1 (Ext.refl _) b2
  unfold fList' at h
  split at h
  · rename_i l
    split at h
    · rename_i hs
      cases h
      obtain ⟨v, rfl, r⟩ := rl1 rx
      cases r with
      | dT g hl hk r =>
        rename_i a kvs
        refine .inr ⟨a, kvs, rfl, at'.vw.rd g, fun q bs hq hb => ?_⟩
        have hlen := congrArg List.length hk
        rw [List.length_map, List.length_map] at hlen
        obtain ⟨G2, a2, x2, r2⟩ := keys_rl hb hl (fun p hp => by
          have : p.1 ∈ l.map (·.1) := by rw [← hk]; exact List.mem_map.mpr ⟨p, hp, rfl⟩
          exact small_line (of_decide_eq_true (List.all_eq_true.mp hs p.1 this))) at'
        have e : (kvs.map fun p => D.tup (p.1.map kD)) = l.map fun p => D.tup (p.1.map kD) := by
          have : ∀ m : List (List Key × V), (m.map fun p => D.tup (p.1.map kD)) = (m.map (·.1)).map fun k => D.tup (k.map kD) := fun m => by rw [List.map_map]; rfl
          rw [this, hk, List.map_map]; rfl
        rw [e] at r2
        obtain ⟨b1, b2⟩ := a2.own1 (p := q) (o := .lst (bs.map V.ref)) hq (.lst upd_same (by rw [r2.length, List.length_map]; omega) r2)
        exact k q _ _ b1 x2 b2
    · cases h
  · unfold fList at h
    split at h
    · cases h
      obtain ⟨v, rfl, r⟩ := rl1 rx
      cases r with
      | lst g l r => exact seq _ _ ⟨_, _, rfl, .inl (SqL.of (at'.vw.lst g)), l, r⟩ rfl rfl
    · cases h
      obtain ⟨v, rfl, r⟩ := rl1 rx
      cases r with
      | scr g l r => exact seq _ _ ⟨_, _, rfl, .inl (at'.vw.sql g), l, r⟩ rfl rfl
    · cases h
      obtain ⟨v, rfl, r⟩ := rl1 rx
      cases r with
      | tup g l r => exact seq _ _ ⟨_, _, rfl, .inr (SqT.of (at'.vw.tup g)), l, r⟩ rfl rfl
    · cases h
theorem do_list (hc : X.calm = true) (hg : Gl X x) (hm : X.mg x = none) (hv : bootBuiltins x = some (.type "list")) (ha : DA X W (e :: es) A) (hn : x ≠ "__name__" := by decide) (hdb : (x == ("__debug__" : Str)) = false := by decide)
    (he : starEach (e :: es) X.env = (false, eval e X.env) :: starEach es X.env := by rfl) (hpl : (backTo pos (starEach es X.env)).any (·.1) = false := by rfl) : DO X W (.Call (.Name x p) (e :: es) [] pos) (eF fList' A) :=
  do_tCB snd_list (pe_callTy (call_listA hc) hg hm hv ha hn hdb he hpl)
def fTuple : List D → Option D
  | [.lst l] => some (.tup l)
  | [.tup l] => some (.tup l)
  | _ => none
theorem snd_tuple : SndF X.K fTuple (fun xs H Q => ∃ p ys, xs = [.ref p] ∧ ((SqL X.K H p ys ∧ ∀ l, H l = none → Q (.ref l) (upd H l (.tup ys))) ∨ (SqT X.K H p ys ∧ Q (.ref p) H))) := fun B G H δ σ xs as d Q at' rx h k => by
  unfold fTuple at h
  split at h
  · cases h
    obtain ⟨v, rfl, r⟩ := rl1 rx
    cases r with
    | lst g l r =>
      rename_i a xs
      refine ⟨_, _, rfl, .inl ⟨SqL.of (at'.vw.lst g), fun q hq => ?_⟩⟩
      have ex := Ext.new (o := .tup xs) (at'.vw.none hq)
      exact k _ _ _ (at'.laid hq fun _ z => by cases z) ex (.tup upd_same l (r.mono ex))
  · cases h
    obtain ⟨v, rfl, r⟩ := rl1 rx
    cases r with
    | tup g l r => exact ⟨_, _, rfl, .inr ⟨SqT.of (at'.vw.tup g), k _ G H at' (Ext.refl _) (.tup g l r)⟩⟩
  · cases h
theorem de_tuple (hg : Gl X x) (hm : X.mg x = none) (hv : bootBuiltins x = some (.type "tuple")) (ha : DA X W (e :: es) A) (hn : x ≠ "__name__" := by decide) (hdb : (x == ("__debug__" : Str)) = false := by decide)
    (he : starEach (e :: es) X.env = (false, eval e X.env) :: starEach es X.env := by rfl) (hpl : (backTo pos (starEach es X.env)).any (·.1) = false := by rfl) : DE X W (.Call (.Name x p) (e :: es) [] pos) (eF fTuple A) :=
  de_tCB snd_tuple (pe_callTy call_tuple_of hg hm hv ha hn hdb he hpl)
def intsD : List D → Option (List Int)
  | [] => some []
  | .int i :: l => (intsD l).map (i :: ·)
  | _ => none
theorem intsD_ok {K : PySem.W.Frag} {G : Hp} : ∀ {xs : List V} {l : List D} {ns : List Int}, RL K G xs l → intsD l = some ns → xs = ns.map V.int
  | _, _, _, .nil, h => by cases h; rfl
  | _, d :: l, _, .cons r t, h => by
    cases r with
    | int i =>
      unfold intsD at h
      cases q : intsD l with
      | none => rw [q] at h; cases h
      | some ns => rw [q] at h; cases h; rw [intsD_ok t q]; rfl
    | _ => cases h
theorem rl_ints {K : PySem.W.Frag} {G : Hp} : ∀ ns : List Int, RL K G (ns.map V.int) (ns.map D.int)
  | [] => .nil
  | n :: ns => .cons (.int n) (rl_ints ns)
/-- the list of ints that a value is -/
def lstInts : List D → Option (List Int)
  | [.lst l] => intsD l
  | _ => none
theorem lstInts_ok {K : PySem.W.Frag} {G H : Hp} {xs : List V} {as : List D} {ns : List Int} (vw : Vw G H) (rx : RL K G xs as) (h : lstInts as = some ns) : ∃ a, xs = [.ref a] ∧ SqL K H a (ns.map V.int) ∧ ns.length ≤ sizeLine := by
  unfold lstInts at h
  split at h
  · obtain ⟨v, rfl, r⟩ := rl1 rx
    cases r with
    | lst g l r =>
      have := intsD_ok r h
      subst this
      exact ⟨_, rfl, SqL.of (vw.lst g), by simpa using l⟩
  · cases h
def minL : List Int → Option Int
  | [] => none
  | n :: ns => some (ns.foldl min n)
def maxL : List Int → Option Int
  | [] => none
  | n :: ns => some (ns.foldl max n)
theorem foldl_min : ∀ (ns : List Int) (n : Int), (ns.foldl min n = n ∨ ns.foldl min n ∈ ns) ∧ ns.foldl min n ≤ n ∧ ∀ y ∈ ns, ns.foldl min n ≤ y
  | [], n => ⟨.inl rfl, Int.le_refl _, fun y h => by cases h⟩
  | m :: ns, n => by
    obtain ⟨h1, h2, h3⟩ := foldl_min ns (min n m)
    rw [List.foldl_cons]
    refine ⟨?_, by omega, fun y hy => ?_⟩
    · rcases h1 with h1 | h1
      · rw [h1]
        by_cases c : n ≤ m
        · exact .inl (by omega)
        · exact .inr (by rw [show min n m = m by omega]; exact List.mem_cons_self)
      · exact .inr (List.mem_cons_of_mem _ h1)
    · rcases List.mem_cons.mp hy with rfl | hy
      · omega
      · exact h3 y hy
theorem foldl_max : ∀ (ns : List Int) (n : Int), (ns.foldl max n = n ∨ ns.foldl max n ∈ ns) ∧ n ≤ ns.foldl max n ∧ ∀ y ∈ ns, y ≤ ns.foldl max n
  | [], n => ⟨.inl rfl, Int.le_refl _, fun y h => by cases h⟩
  | m :: ns, n => by
    obtain ⟨h1, h2, h3⟩ := foldl_max ns (max n m)
    rw [List.foldl_cons]
    refine ⟨?_, by omega, fun y hy => ?_⟩
    · rcases h1 with h1 | h1
      · rw [h1]
        by_cases c : m ≤ n
        · exact .inl (by omega)
        · exact .inr (by rw [show max n m = m by omega]; exact List.mem_cons_self)
      · exact .inr (List.mem_cons_of_mem _ h1)
    · rcases List.mem_cons.mp hy with rfl | hy
      · omega
      · exact h3 y hy
theorem minL_ok {ns : List Int} {m m' : Int} (h : minL ns = some m) (h1 : m' ∈ ns) (h2 : ∀ y ∈ ns, m' ≤ y) : m' = m := by
  cases ns with
  | nil => cases h
  | cons n ns =>
    cases h
    obtain ⟨a, b, c⟩ := foldl_min ns n
    have : m' ≤ ns.foldl min n := by
      rcases a with a | a
      · rw [a]; exact h2 _ List.mem_cons_self
      · exact h2 _ (List.mem_cons_of_mem _ a)
    have : ns.foldl min n ≤ m' := by
      rcases List.mem_cons.mp h1 with rfl | h1
      · exact b
      · exact c _ h1
    omega
theorem maxL_ok {ns : List Int} {m m' : Int} (h : maxL ns = some m) (h1 : m' ∈ ns) (h2 : ∀ y ∈ ns, y ≤ m') : m' = m := by
  cases ns with
  | nil => cases h
  | cons n ns =>
    cases h
    obtain ⟨a, b, c⟩ := foldl_max ns n
    have : ns.foldl max n ≤ m' := by
      rcases a with a | a
      · rw [a]; exact h2 _ List.mem_cons_self
      · exact h2 _ (List.mem_cons_of_mem _ a)
    have : m' ≤ ns.foldl max n := by
      rcases List.mem_cons.mp h1 with rfl | h1
      · exact b
      · exact c _ h1
    omega
theorem minL_some {ns : List Int} {m : Int} (h : minL ns = some m) : 0 < ns.length := by cases ns <;> first | cases h; done | simp
theorem maxL_some {ns : List Int} {m : Int} (h : maxL ns = some m) : 0 < ns.length := by cases ns <;> first | cases h; done | simp
def fMin (as : List D) : Option D := ((lstInts as).bind minL).map .int
def fMax (as : List D) : Option D := ((lstInts as).bind maxL).map .int
theorem snd_min : SndF X.K fMin (rMin X.K) := fun B G H δ σ xs as d Q at' rx h k => by
  unfold fMin at h
  cases q : lstInts as with
  | none => rw [q] at h; cases h
  | some ns =>
    rw [q, Option.bind_some] at h
    cases q2 : minL ns with
    | none => rw [q2] at h; cases h
    | some m =>
      rw [q2] at h; cases h
      obtain ⟨a, rfl, h1, _⟩ := lstInts_ok at'.vw rx q
      exact ⟨a, ns, rfl, h1, minL_some q2, fun m' z1 z2 => by rw [minL_ok q2 z1 z2]; exact k _ G H at' (Ext.refl _) (.int _)⟩
theorem snd_max : SndF X.K fMax (rMax X.K) := fun B G H δ σ xs as d Q at' rx h k => by
  unfold fMax at h
  cases q : lstInts as with
  | none => rw [q] at h; cases h
  | some ns =>
    rw [q, Option.bind_some] at h
    cases q2 : maxL ns with
    | none => rw [q2] at h; cases h
    | some m =>
      rw [q2] at h; cases h
      obtain ⟨a, rfl, h1, _⟩ := lstInts_ok at'.vw rx q
      exact ⟨a, ns, rfl, h1, maxL_some q2, fun m' z1 z2 => by rw [maxL_ok q2 z1 z2]; exact k _ G H at' (Ext.refl _) (.int _)⟩
theorem de_min (hc : X.calm = true) (hg : Gl X x) (hm : X.mg x = none) (hv : bootBuiltins x = some (.builtin "min")) (ha : DA X W (e :: es) A) (hn : x ≠ "__name__" := by decide) (hdb : (x == ("__debug__" : Str)) = false := by decide)
    (he : starEach (e :: es) X.env = (false, eval e X.env) :: starEach es X.env := by rfl) (hpl : (backTo pos (starEach es X.env)).any (·.1) = false := by rfl) : DE X W (.Call (.Name x p) (e :: es) [] pos) (eF fMin A) :=
  de_tCB snd_min (pe_callB (cr_min hc) hg hm hv ha hn hdb he hpl)
theorem de_max (hc : X.calm = true) (hg : Gl X x) (hm : X.mg x = none) (hv : bootBuiltins x = some (.builtin "max")) (ha : DA X W (e :: es) A) (hn : x ≠ "__name__" := by decide) (hdb : (x == ("__debug__" : Str)) = false := by decide)
    (he : starEach (e :: es) X.env = (false, eval e X.env) :: starEach es X.env := by rfl) (hpl : (backTo pos (starEach es X.env)).any (·.1) = false := by rfl) : DE X W (.Call (.Name x p) (e :: es) [] pos) (eF fMax A) :=
  de_tCB snd_max (pe_callB (cr_max hc) hg hm hv ha hn hdb he hpl)
/-- sorted ints: a list, or the keys of a dict -/
def sortI (ns : List Int) : List Int := ns.mergeSort (fun a b => decide (a ≤ b))
theorem sortI_perm (ns : List Int) : (sortI ns).Perm ns := List.mergeSort_perm _ _
theorem sortI_sorted (ns : List Int) : (sortI ns).Pairwise (· ≤ ·) := by
  have := List.pairwise_mergeSort (le := fun a b : Int => decide (a ≤ b)) (fun a b c h1 h2 => by simp only [decide_eq_true_eq] at *; omega) (fun a b => by simp only [Bool.or_eq_true, decide_eq_true_eq]; omega) ns
  exact this.imp (fun h => of_decide_eq_true h)
theorem sortI_uniq : ∀ {l m : List Int}, l.Perm m → l.Pairwise (· ≤ ·) → m.Pairwise (· ≤ ·) → l = m
  | [], m, p, _, _ => by rw [List.nil_perm.mp p]
  | x :: l, m, p, h1, h2 => by
    cases m with
    | nil => exact absurd p.length_eq (by simp)
    | cons y m =>
      obtain ⟨a1, a2⟩ := List.pairwise_cons.mp h1
      obtain ⟨b1, b2⟩ := List.pairwise_cons.mp h2
      have hx : x ∈ y :: m := p.mem_iff.mp List.mem_cons_self
      have hy : y ∈ x :: l := p.mem_iff.mpr List.mem_cons_self
      have e : x = y := by
        rcases List.mem_cons.mp hx with e | hx
        · exact e
        · rcases List.mem_cons.mp hy with e | hy
          · exact e.symm
          · have := b1 x hx; have := a1 y hy; omega
      subst e
      rw [sortI_uniq ((List.perm_cons x).mp p) a2 b2]
def keyInts : List Key → Option (List Int)
  | [] => some []
  | .inl i :: l => (keyInts l).map (i :: ·)
  | _ => none
theorem keyInts_ok : ∀ {l : List Key} {ns : List Int}, keyInts l = some ns → l = ns.map Sum.inl
  | [], _, h => by cases h; rfl
  | .inl i :: l, _, h => by
    unfold keyInts at h
    cases q : keyInts l with
    | none => rw [q] at h; cases h
    | some ns => rw [q] at h; cases h; rw [keyInts_ok q]; rfl
  | .inr _ :: _, _, h => by cases h
def fSortI : List D → Option D
  | [.lst l] => (intsD l).map fun ns => .lst ((sortI ns).map D.int)
  | [.dK l] => (keyInts (l.map (·.1))).bind fun ns => if ns.length < 64 then some (.lst ((sortI ns).map D.int)) else none
  | _ => none
def rSortA (K : PySem.W.Frag) : List V → Hp → VK → Prop := fun vs H Q => rSortedI K vs H Q ∨ ∃ (a : Addr) (kvs : List (Key × V)) (ks : List Int), vs = [.ref a] ∧ Rd H a (.dK kvs) ∧ kvs.map (·.1) = ks.map Sum.inl ∧ ks.length < 64 ∧
    ∀ (ys : List Int) (p : Addr), ys.Perm ks → ys.Pairwise (· ≤ ·) → H p = none → Q (.ref p) (upd H p (.lst (ys.map V.int)))
theorem call_sortA (hc : X.calm = true) : CallR X (.builtin "sorted") (rSortA X.K) := fun pins s σ H xs us Q I rv h => by
  rcases h with h | h
  · exact cr_sortedI pins s σ H xs us Q I rv h
  · exact call_sortedDI hc pins s σ H xs us Q I rv h
theorem snd_sortI : SndFO X.K fSortI (rSortA X.K) := fun B G H δ σ xs as d Q at' rx h k => by
  have fin : ∀ ns : List Int, d = .lst ((sortI ns).map D.int) → ns.length ≤ sizeLine → ∀ (ns' : List Int) (p : Addr), ns'.Perm ns → ns'.Pairwise (· ≤ ·) → H p = none → Q (.ref p) (upd H p (.lst (ns'.map V.int))) := fun ns hd hl ns' p z1 z2 z3 => by
    have e : ns' = sortI ns := sortI_uniq (z1.trans (sortI_perm ns).symm) z2 (sortI_sorted ns)
    subst e hd
    obtain ⟨b1, b2⟩ := at'.own1 (p := p) (o := .lst ((sortI ns).map V.int)) z3 (.lst upd_same (by rw [List.length_map, (sortI_perm ns).length_eq]; exact hl) (rl_ints _))
    exact k p _ _ b1 (Ext.refl _) b2
  unfold fSortI at h
  split at h
  · rename_i l
    cases q : intsD l with
    | none => rw [q] at h; cases h
    | some ns =>
      rw [q] at h; cases h
      obtain ⟨a, rfl, h1, h2⟩ := lstInts_ok (as := [.lst l]) at'.vw rx q
      exact .inl ⟨a, ns, rfl, h1, fin ns rfl h2⟩
  · rename_i l
    cases q : keyInts (l.map (·.1)) with
    | none => rw [q] at h; cases h
    | some ns =>
      rw [q, Option.bind_some] at h
      split at h
      · rename_i hl
        cases h
        obtain ⟨v, rfl, r⟩ := rl1 rx
        cases r with
        | dK g l hk r => exact .inr ⟨_, _, ns, rfl, at'.vw.rd g, by rw [hk]; exact keyInts_ok q, hl, fin ns rfl (small64 hl)⟩
      · cases h
  · cases h
theorem do_sortI (hc : X.calm = true) (hg : Gl X x) (hm : X.mg x = none) (hv : bootBuiltins x = some (.builtin "sorted")) (ha : DA X W (e :: es) A) (hn : x ≠ "__name__" := by decide) (hdb : (x == ("__debug__" : Str)) = false := by decide)
    (he : starEach (e :: es) X.env = (false, eval e X.env) :: starEach es X.env := by rfl) (hpl : (backTo pos (starEach es X.env)).any (·.1) = false := by rfl) : DO X W (.Call (.Name x p) (e :: es) [] pos) (eF fSortI A) :=
  do_tCB snd_sortI (pe_callB (call_sortA hc) hg hm hv ha hn hdb he hpl)
end
end M
set_option Elab.async false
set_option linter.all false
set_option maxRecDepth 100000
theorem L2.Room.u1 {k : Nat} {A : PySem.Around} (r : L2.Room k A) : A.units + 1 < PySem.cLine := by have := r.un; omega
theorem L2.Room.u65 {k : Nat} {A : PySem.Around} (r : L2.Room k A) : A.units + 65 < PySem.cLine := by have := r.un; omega
namespace M
open PySem L2 PySem.Spec PyProof.Rows
theorem bt_len : bootBuiltins "len" = some (.builtin "len") := by decide +kernel
theorem bt_abs : bootBuiltins "abs" = some (.builtin "abs") := by decide +kernel
theorem bt_min : bootBuiltins "min" = some (.builtin "min") := by decide +kernel
theorem bt_max : bootBuiltins "max" = some (.builtin "max") := by decide +kernel
theorem bt_sorted : bootBuiltins "sorted" = some (.builtin "sorted") := by decide +kernel
theorem bt_all : bootBuiltins "all" = some (.builtin "all") := by decide +kernel
theorem bt_isinstance : bootBuiltins "isinstance" = some (.builtin "isinstance") := by decide +kernel
theorem bt_int : bootBuiltins "int" = some (.type "int") := by decide +kernel
theorem bt_list : bootBuiltins "list" = some (.type "list") := by decide +kernel
theorem bt_tuple : bootBuiltins "tuple" = some (.type "tuple") := by decide +kernel
theorem bt_str : bootBuiltins "str" = some (.type "str") := by decide +kernel
/-- a def that may be called by its name -/
structure CalM (P : Program) (w : World) (K : PySem.W.Frag) (mg : Str → Option Value) (base : Heap) (k : Nat) (x : Str) (n : Nat) (ro : Bool) (m : Mo D) : Prop where
  ex : ∃ (f : Addr) (fd : FuncData) (ps : List Str), FnOk P w K mg base CX0 k f fd ps (spM Wn K n ro m) ∧ mg x = some (.ref f) ∧ PySem.W.keepIn K (.ref f) = true ∧ Binds K fd ps []
section
variable {X : Cx} {W : WK} {e : Expr} {es : List Expr} {A : Mo (List Ag)} {k n : Nat} {x : Str} {p pos : Pos} {m : Mo D} {st : Stmt}
theorem de_callC (C : CalM X.prog X.w X.K X.mg X.base k x n false m) (hr : Room k X.A) (hg : Gl X x) (hl : ALen A n) (ha : DA X W0 (e :: es) A) (hdb : (x == ("__debug__" : Str)) = false := by decide)
    (he : starEach (e :: es) X.env = (false, eval e X.env) :: starEach es X.env := by rfl) (hpl : (backTo pos (starEach es X.env)).any (·.1) = false := by rfl) : DE X W0 (.Call (.Name x p) (e :: es) [] pos) (eCall m A) := by
  obtain ⟨f, fd, ps, F, hm, hk, hb⟩ := C.ex
  exact de_call F hr hg hm hk hb hl ha hdb he hpl
theorem do_callC (C : CalM X.prog X.w X.K X.mg X.base k x n true m) (hr : Room k X.A) (hg : Gl X x) (hl : ALen A n) (ha : DA X W0 (e :: es) A) (hdb : (x == ("__debug__" : Str)) = false := by decide)
    (he : starEach (e :: es) X.env = (false, eval e X.env) :: starEach es X.env := by rfl) (hpl : (backTo pos (starEach es X.env)).any (·.1) = false := by rfl) : DO X W0 (.Call (.Name x p) (e :: es) [] pos) (eCall m A) := by
  obtain ⟨f, fd, ps, F, hm, hk, hb⟩ := C.ex
  exact do_call F hr hg hm hk hb hl ha hdb he hpl
/-- a statement that is never come to -/
def sNever : Mo Out := fun _ => none
theorem ds_never : DS X W st sNever := ⟨fun pins s σ H Dn I ⟨B, G, δ, r, δ', a, e1, post⟩ => by cases e1⟩
end
section
variable {X : Cx} {W : WK} {a b c : Expr} {pos : Pos} {Ea Eb Ec : Mo D}
theorem tOp_ok {K : PySem.W.Frag} {f : D → D → Option D} {r : R2} (hf : Snd2 K f r) {σ : St} {H : Hp} {Q : VK} (q : tE K W (eBin f Ea Eb) σ H Q) : tOp r (tE K W Ea) (tE K W Eb) σ H Q := by
  obtain ⟨B, G, δ, r', δ', a, e1, post⟩ := q
  refine tE_bind a e1 post fun v H1 G1 δ1 d a1 x1 r1 e2 post => ?_
  refine tE_bind a1 e2 post fun w H2 G2 δ2 d2 a2 x2 r2 e3 post => ?_
  obtain ⟨z, hz, hr⟩ := lift_some e3
  cases hr
  exact hf B G2 H2 δ' σ v w d d2 z Q a2 (r1.mono x2) r2 hz fun v G' H' a' x' r' => post G' H' a' x' v r'
theorem tTest_ok {K : PySem.W.Frag} {E : Mo D} {t : TE} (h : ∀ σ H Q, tE K W E σ H Q → t σ H Q) {σ : St} {H : Hp} {Q : Bool → Hp → Prop} (q : tT K W (eB E) σ H Q) : tTest t σ H Q := by
  obtain ⟨B, G, δ, r', δ', a, e1, post⟩ := q
  refine h _ _ _ (tE_bind a e1 post fun v H1 G1 δ1 d a1 x1 r1 e2 post => ?_)
  obtain ⟨z, hz, hr⟩ := lift_some e2
  cases hr
  obtain rfl := dBl_some hz
  cases r1
  exact ⟨z, rfl, post G1 H1 a1 (Ext.refl _)⟩
theorem dt_cmp {op : CmpOp} {f : D → D → Option D} {r : R2} (ho : OpR X (compareOp op) r) (hf : Snd2 X.K f r) (ha : DE X W a Ea) (hb : DE X W b Eb) (hm : behindInMarks op b = false) : DT X W (.Compare a [op] [b] pos) (eB (eBin f Ea Eb)) :=
  PT.weak (pt_cmpR ho ha hb hm) fun σ H Q q => tTest_ok (fun _ _ _ z => tOp_ok hf z) q
theorem dt_lt (ha : DE X W a Ea) (hb : DE X W b Eb) : DT X W (.Compare a [.Lt] [b] pos) (eB (eBin dLt Ea Eb)) := dt_cmp opc_lt snd_cmp' ha hb (nomark _)
theorem dt_gt (ha : DE X W a Ea) (hb : DE X W b Eb) : DT X W (.Compare a [.Gt] [b] pos) (eB (eBin dGt Ea Eb)) := dt_cmp opc_gt snd_cmp' ha hb (nomark _)
theorem dt_ge (ha : DE X W a Ea) (hb : DE X W b Eb) : DT X W (.Compare a [.GtE] [b] pos) (eB (eBin dGe Ea Eb)) := dt_cmp opc_ge snd_cmp' ha hb (nomark _)
theorem dt_eq (hu : X.A.units + 64 < cLine) (ha : DE X W a Ea) (hb : DE X W b Eb) : DT X W (.Compare a [.Eq] [b] pos) (eB (eBin dEq Ea Eb)) := dt_cmp (op_eqD hu) snd_eq ha hb (nomark _)
theorem dt_ne (hu : X.A.units + 64 < cLine) (ha : DE X W a Ea) (hb : DE X W b Eb) : DT X W (.Compare a [.NotEq] [b] pos) (eB (eBin dNe Ea Eb)) := dt_cmp (op_neD hu) snd_ne ha hb (nomark _)
theorem dt_in (hu : X.A.units + 65 < cLine) (ha : DE X W a Ea) (hb : DE X W b Eb) (hm : behindInMarks .In b = false := by rfl) : DT X W (.Compare a [.In] [b] pos) (eB (eBin (dIn false) Ea Eb)) := dt_cmp (opA_in hu) snd_in ha hb hm
theorem dt_notin (hu : X.A.units + 65 < cLine) (ha : DE X W a Ea) (hb : DE X W b Eb) (hm : behindInMarks .NotIn b = false := by rfl) : DT X W (.Compare a [.NotIn] [b] pos) (eB (eBin (dIn true) Ea Eb)) := dt_cmp (opA_notin hu) snd_in ha hb hm
theorem dt_notN (ha : DE X W a Ea) (hb : DE X W b Eb) : DT X W (.Compare a [.IsNot] [b] pos) (eB (eBin (dIs true) Ea Eb)) := dt_cmp (r := rIsN true) op_notN snd_is ha hb (nomark _)
theorem tInV_ok {K : PySem.W.Frag} {neg : Bool} {i : Nat} {σ : St} {H : Hp} {Q : VK} (q : tE K W (eInV neg Ea i) σ H Q) : tOp (rInA K neg) (tE K W Ea) (tVar i) σ H Q := by
  obtain ⟨B, G, δ, r', δ', at', e1, post⟩ := q
  refine tE_bind at' e1 post fun v H1 G1 δ1 d a1 x1 r1 e2 post => ?_
  cases q : δ1[i]? with
  | none => simp only [q] at e2; cases e2
  | some s =>
    simp only [q] at e2
    cases q2 : slD s with
    | none => rw [q2] at e2; cases e2
    | some c =>
      rw [q2, Option.bind_some] at e2
      cases q3 : dIn neg d c with
      | none => rw [q3] at e2; cases e2
      | some z =>
        rw [q3] at e2; cases e2
        obtain ⟨u, Gc, h1, h2, h3, _⟩ := a1.see q q2
        exact ⟨u, h1, sh_in a1.vw h3 r1 h2 q3 fun b hb => by subst hb; exact post G1 H1 a1 (Ext.refl _) _ (.bl _)⟩
theorem dt_inV {i : Nat} (hu : X.A.units + 65 < cLine) (ha : DE X W a Ea) (hb : PE X b (tVar i)) (hm : behindInMarks .In b = false := by rfl) : DT X W (.Compare a [.In] [b] pos) (eB (eInV false Ea i)) :=
  PT.weak (pt_cmpR (opA_in hu) ha hb hm) fun σ H Q q => tTest_ok (fun _ _ _ z => tInV_ok z) q
theorem dt_notinV {i : Nat} (hu : X.A.units + 65 < cLine) (ha : DE X W a Ea) (hb : PE X b (tVar i)) (hm : behindInMarks .NotIn b = false := by rfl) : DT X W (.Compare a [.NotIn] [b] pos) (eB (eInV true Ea i)) :=
  PT.weak (pt_cmpR (opA_notin hu) ha hb hm) fun σ H Q q => tTest_ok (fun _ _ _ z => tInV_ok z) q
theorem tChain_ok {K : PySem.W.Frag} {f g : D → D → Option D} {r r' : R2} (hf : Snd2 K f r) (hg : Snd2 K g r') {σ : St} {H : Hp} {Q : VK} (q : tE K W (eChain f g Ea Eb Ec) σ H Q) : tChain r r' (tE K W Ea) (tE K W Eb) (tE K W Ec) σ H Q := by
  obtain ⟨B, G, δ, r1, δ', at', e1, post⟩ := q
  refine tE_bind at' e1 post fun v H1 G1 δ1 d a1 x1 r1 e2 post => ?_
  refine tE_bind a1 e2 post fun w H2 G2 δ2 d2 a2 x2 r2 e3 post => ?_
  unfold Mo.bind Mo.lift at e3
  cases q : (f d d2).bind dBl with
  | none => rw [q] at e3; cases e3
  | some k =>
    rw [q] at e3
    simp only [] at e3
    cases q2 : f d d2 with
    | none => rw [q2] at q; cases q
    | some z =>
      rw [q2, Option.bind_some] at q
      obtain rfl := dBl_some q
      refine hf B G2 H2 δ2 σ v w d d2 _ _ a2 (r1.mono x2) r2 q2 fun v3 G3 H3 a3 x3 r3 => ?_
      cases r3
      refine ⟨k, rfl, ?_⟩
      cases k with
      | false => rw [if_neg Bool.false_ne_true] at e3 ⊢; cases e3; exact (post.mono x3) G3 H3 a3 (Ext.refl _) _ (.bl _)
      | true =>
        rw [if_pos rfl] at e3 ⊢
        refine tE_bind (k := fun z => Mo.lift (g d2 z)) a3 e3 (post.mono x3) fun u H4 G4 δ4 d4 a4 x4 r4 e4 post => ?_
        obtain ⟨z, hz, hr⟩ := lift_some e4
        cases hr
        exact hg B G4 H4 δ' σ w u d2 d4 z Q a4 (r2.mono (x3.trans x4)) r4 hz fun v G' H' a' x' r' => post G' H' a' x' v r'
theorem dt_chain {op op' : CmpOp} {f g : D → D → Option D} {r r' : R2} (ho : OpR X (compareOp op) r) (ho' : OpR X (compareOp op') r') (hf : Snd2 X.K f r) (hg : Snd2 X.K g r') (ha : DE X W a Ea) (hb : DE X W b Eb) (hc : DE X W c Ec)
    (hm : lastMarks [op, op'] [b, c] = false := by with_unfolding_all rfl) : DT X W (.Compare a [op, op'] [b, c] pos) (eB (eChain f g Ea Eb Ec)) := PT.weak (pt_chain ho ho' ha hb hc hm) fun σ H Q q => tTest_ok (fun _ _ _ z => tChain_ok hf hg z) q
end
end M
set_option Elab.async false
set_option linter.all false
set_option maxRecDepth 100000
namespace M
open PySem L2 PySem.Spec PyProof.Rows
theorem nodup_inj {α : Type} : ∀ {l : List α} {i j : Nat} {x : α}, l.Nodup → l[i]? = some x → l[j]? = some x → i = j
  | [], i, j, x, _, h, _ => by simp at h
  | y :: l, 0, 0, x, _, _, _ => rfl
  | y :: l, 0, j + 1, x, n, h1, h2 => by
    simp at h1 h2; subst h1
    exact absurd (List.mem_of_getElem? h2) (List.nodup_cons.mp n).1
  | y :: l, i + 1, 0, x, n, h1, h2 => by
    simp at h1 h2; subst h2
    exact absurd (List.mem_of_getElem? h1) (List.nodup_cons.mp n).1
  | y :: l, i + 1, j + 1, x, n, h1, h2 => by
    have := nodup_inj (i := i) (j := j) (x := x) (List.nodup_cons.mp n).2 (by simpa using h1) (by simpa using h2)
    rw [this]
def addAt (ls : List (List Int)) (i : Nat) (x : Int) : List (List Int) := ls.set i (ls.getD i [] ++ [x])
/-- the lists under construction -/
structure TL (H0 H : Hp) (D : Addr) (ps : List Addr) (ls : List (List Int)) : Prop where
  len : ps.length = ls.length
  d : H D = some (.lst (ps.map V.ref))
  nd : (D :: ps).Nodup
  el : ∀ (i : Nat) p l, ps[i]? = some p → ls[i]? = some l → H p = some (.lst (l.map V.int))
  fr : ∀ p ∈ D :: ps, H0 p = none
  out : ∀ p, p ∉ D :: ps → H p = H0 p
theorem TL.start {H0 : Hp} {D : Addr} (h : H0 D = none) : TL H0 (upd H0 D (.lst [])) D [] [] := by
  refine ⟨rfl, upd_same, by simp, fun i p l e => by simp at e, fun p hp => ?_, fun p hp => upd_ne fun c => hp (by rw [c]; simp)⟩
  simp at hp; rw [hp]; exact h
theorem TL.there {H0 H : Hp} {D : Addr} {ps : List Addr} {ls : List (List Int)} (t : TL H0 H D ps ls) {p : Addr} (h : p ∈ D :: ps) : H p ≠ none := by
  rcases List.mem_cons.mp h with rfl | h
  · rw [t.d]; simp
  · obtain ⟨i, hi, e⟩ := List.mem_iff_getElem.mp h
    have e2 : ps[i]? = some p := by rw [List.getElem?_eq_getElem hi, e]
    rw [t.el i p _ e2 (List.getElem?_eq_getElem (by rw [← t.len]; exact hi))]; simp
theorem TL.push {H0 H : Hp} {D : Addr} {ps : List Addr} {ls : List (List Int)} (t : TL H0 H D ps ls) {p : Addr} (hp : H p = none) : TL H0 (upd (upd H p (.lst [])) D (.lst (ps.map V.ref ++ [V.ref p]))) D (ps ++ [p]) (ls ++ [[]]) := by
  have nm : p ∉ D :: ps := fun m => t.there m hp
  have h0 : H0 p = none := by rw [← t.out p nm]; exact hp
  have nD : p ≠ D := fun c => nm (by rw [c]; simp)
  have nps : p ∉ ps := fun m => nm (List.mem_cons_of_mem _ m)
  obtain ⟨n1, n2⟩ := List.nodup_cons.mp t.nd
  refine ⟨by rw [List.length_append, List.length_append, t.len]; rfl, by rw [upd_same, List.map_append]; rfl, ?_, fun i q l e1 e2 => ?_, fun q hq => ?_, fun q hq => ?_⟩
  · refine List.nodup_cons.mpr ⟨fun m => ?_, ?_⟩
    · rcases List.mem_append.mp m with m | m
      · exact n1 m
      · simp at m; exact nD m.symm
    · refine List.nodup_append.mpr ⟨n2, by simp, fun x hx y hy => ?_⟩
      simp at hy; subst hy
      intro c; subst c; exact nps hx
  · have qD : q ≠ D := fun c => by
      have : q ∈ ps ++ [p] := List.mem_of_getElem? e1
      rcases List.mem_append.mp this with m | m
      · exact n1 (c ▸ m)
      · simp at m; exact nD (m ▸ c)
    rw [upd_ne qD]
    by_cases hi : i < ps.length
    · rw [List.getElem?_append_left hi] at e1
      rw [List.getElem?_append_left (by rw [← t.len]; exact hi)] at e2
      have qp : q ≠ p := fun c => nps (c ▸ List.mem_of_getElem? e1)
      rw [upd_ne qp]; exact t.el i q l e1 e2
    · rw [List.getElem?_append_right (by omega)] at e1
      rw [List.getElem?_append_right (by rw [← t.len]; omega), ← t.len] at e2
      cases hz : i - ps.length with
      | zero => rw [hz] at e1 e2; simp at e1 e2; subst e1 e2; rw [upd_same]; rfl
      | succ m => rw [hz] at e1; simp at e1
  · rcases List.mem_cons.mp hq with rfl | hq
    · exact t.fr _ List.mem_cons_self
    · rcases List.mem_append.mp hq with m | m
      · exact t.fr _ (List.mem_cons_of_mem _ m)
      · simp at m; subst m; exact h0
  · have a1 : q ≠ D := fun c => hq (by rw [c]; exact List.mem_cons_self)
    have a2 : q ∉ ps := fun m => hq (List.mem_cons_of_mem _ (List.mem_append_left _ m))
    have a3 : q ≠ p := fun c => hq (List.mem_cons_of_mem _ (List.mem_append_right _ (by rw [c]; simp)))
    rw [upd_ne a1, upd_ne a3]
    exact t.out q fun m => (List.mem_cons.mp m).elim a1 a2
theorem TL.add {H0 H : Hp} {D : Addr} {ps : List Addr} {ls : List (List Int)} (t : TL H0 H D ps ls) {i : Nat} {p : Addr} (x : Int) (hp : ps[i]? = some p) : TL H0 (upd H p (.lst ((ls.getD i []).map V.int ++ [V.int x]))) D ps (addAt ls i x) := by
  obtain ⟨n1, n2⟩ := List.nodup_cons.mp t.nd
  have hm := List.mem_of_getElem? hp
  have pD : p ≠ D := fun c => n1 (c ▸ hm)
  have hi : i < ps.length := (List.getElem?_eq_some_iff.mp hp).1
  have hil : i < ls.length := by rw [← t.len]; exact hi
  refine ⟨by unfold addAt; rw [List.length_set]; exact t.len, by rw [upd_ne pD.symm]; exact t.d, t.nd, fun j q l e1 e2 => ?_, t.fr, fun q hq => ?_⟩
  · unfold addAt at e2
    by_cases c : i = j
    · subst c
      rw [hp] at e1; cases e1
      rw [List.getElem?_set_self hil] at e2; cases e2
      rw [upd_same, List.map_append]; rfl
    · rw [List.getElem?_set_ne c] at e2
      have qp : q ≠ p := fun z => by
        subst z
        exact c (nodup_inj n2 hp e1)
      rw [upd_ne qp]; exact t.el j q l e1 e2
  · rw [upd_ne fun c => hq (by rw [c]; exact List.mem_cons_of_mem _ hm)]; exact t.out q hq
theorem atI_nat {α : Type} {l : List α} {n : Nat} {x : α} (h : l[n]? = some x) : atI l ((n : Nat) : Int) = some x := by
  have hn := (List.getElem?_eq_some_iff.mp h).1
  unfold atI ixN
  rw [if_pos (Int.natCast_nonneg n), if_pos (by omega)]
  simpa using h
end M
set_option Elab.async false
set_option linter.all false
set_option maxRecDepth 100000
namespace M
open PySem L2 PySem.Spec PyProof.Rows
def eP0 : Mo (Option Int) := Mo.ret none
def dPart : D → Option (Option Int)
  | .int i => some (some i)
  | _ => none
def eP1 (E : Mo D) : Mo (Option Int) := E.bind fun d => Mo.lift (dPart d)
def tP (K : PySem.W.Frag) (W : WK) (P : Mo (Option Int)) : TO := fun σ H Q => ∃ B G δ r δ', At K B G δ σ H ∧ P δ = some (r, δ') ∧ Post K W B G σ r δ' (fun o G' H' => Q o H')
def DP (X : Cx) (W : WK) (e : Option Expr) (P : Mo (Option Int)) : Prop := PO X e (tP X.K W P)
section
variable {X : Cx} {W : WK} {e : Expr} {E : Mo D} {P : Mo (Option Int)}
theorem PO.weak {e : Option Expr} {t t' : TO} (h : PO X e t) (w : ∀ σ H Q, t' σ H Q → t σ H Q) : PO X e t' := ⟨fun pins s σ H Q I q => h.run pins s σ H Q I (w σ H Q q)⟩
theorem dp_none : DP X W none eP0 := PO.weak po_none fun σ H Q ⟨B, G, δ, r, δ', a, e1, post⟩ => by
  cases e1; exact post G H a (Ext.refl _)
theorem dp_some (h : DE X W e E) : DP X W (some e) (eP1 E) := PO.weak (po_some h) fun σ H Q ⟨B, G, δ, r, δ', a, e1, post⟩ => by
  refine tE_bind a e1 post fun v H1 G1 δ1 d a1 x1 r1 e2 post => ?_
  obtain ⟨z, hz, hr⟩ := lift_some e2
  cases hr
  cases r1 with
  | int i => cases hz; exact ⟨i, rfl, post G1 H1 a1 (Ext.refl _)⟩
  | _ => cases hz
def cutD {α : Type} (xs : List α) (lo hi : Option Int) : List α := (xs.drop (HT.sIx xs.length 0 lo)).take (HT.sIx xs.length xs.length hi - HT.sIx xs.length 0 lo)
def dSlL : D → Option Int → Option Int → Option D
  | .lst l, lo, hi => some (.lst (cutD l lo hi))
  | .scr l, lo, hi => some (.lst (cutD l lo hi))
  | _, _, _ => none
def dSl : D → Option Int → Option Int → Option D
  | .tup l, lo, hi => some (.tup (cutD l lo hi))
  | .str s, lo, hi => if s.length ≤ sizeLine then some (.str (cutS s lo hi)) else none
  | _, _, _ => none
def eSl (f : D → Option Int → Option Int → Option D) (E : Mo D) (L U : Mo (Option Int)) : Mo D := E.bind fun d => L.bind fun l => U.bind fun u => Mo.lift (f d l u)
theorem tP_bind {K : PySem.W.Frag} {B : Bs} {G H : Hp} {δ δ' : Env} {σ : St} {β : Type} {r : Except Exn β} {ok : β → Hp → Hp → Prop} {k : Option Int → Mo β} {Q : Option Int → Hp → Prop} (a : At K B G δ σ H) (h : Mo.bind P k δ = some (r, δ')) (post : Post K W B G σ r δ' ok)
    (q : ∀ H1 G1 δ1 d, At K B G1 δ1 σ H1 → Ext G G1 → k d δ1 = some (r, δ') → Post K W B G1 σ r δ' ok → Q d H1) : tP K W P σ H Q := by
  unfold Mo.bind at h
  cases e : P δ with
  | none => rw [e] at h; cases h
  | some z =>
    obtain ⟨x, δ1⟩ := z
    rw [e] at h
    cases x with
    | error x => cases h; exact ⟨B, G, δ, .error x, _, a, e, post⟩
    | ok d => exact ⟨B, G, δ, .ok d, δ1, a, e, fun G1 H1 a1 e1 => q H1 G1 δ1 d a1 e1 h (post.mono e1)⟩
theorem rl_cut {K : PySem.W.Frag} {G : Hp} {xs : List V} {ds : List D} (r : RL K G xs ds) (lo hi : Option Int) : RL K G (cutV xs lo hi) (cutD ds lo hi) := by
  unfold cutV cutD
  rw [r.length]
  exact (r.drop _).take _
theorem do_sl {a : Expr} {lo hi : Option Expr} {p2 pos : Pos} {L U : Mo (Option Int)} (ha : DE X W a E) (hl : DP X W lo L) (hu : DP X W hi U) : DO X W (.Subscript a (.Slice lo hi none p2) pos) (eSl dSlL E L U) :=
  PE.weak (pe_slice sl_list ha hl hu) fun σ H Q ⟨B, G, δ, r, δ', at', e1, post⟩ => by
  refine tO_of_sl at' e1 post
where
  tO_of_sl {K : PySem.W.Frag} {B : Bs} {G H : Hp} {δ δ' : Env} {σ : St} {r : Except Exn D} {L U : Mo (Option Int)} {Q : VK} (a : At K B G δ σ H) (e1 : eSl dSlL E L U δ = some (r, δ')) (post : Post K W B G σ r δ' (fun d G' H' => ∀ p, Fr1 K B G' δ' σ H' p d → Q (.ref p) H')) : tSl (rSlL K) (tE K W E) (tP K W L) (tP K W U) σ H Q := by
    refine tE_bind a e1 post fun v H1 G1 δ1 d a1 x1 r1 e2 post => ?_
    refine tP_bind a1 e2 post fun H2 G2 δ2 l a2 x2 e3 post => ?_
    refine tP_bind a2 e3 post fun H3 G3 δ3 u a3 x3 e4 post => ?_
    obtain ⟨z, hz, hr⟩ := lift_some e4
    cases hr
    have fin : ∀ p xs ds, v = .ref p → SqL K H3 p xs → RL K G3 xs ds → xs.length ≤ sizeLine → z = .lst (cutD ds l u) → rSlL K v l u H3 Q := fun p xs ds hv hs hr hl hz => by
      subst hv hz
      refine ⟨p, xs, rfl, hs, fun q hq => ?_⟩
      obtain ⟨b1, b2⟩ := a3.own1 (p := q) (o := .lst _) hq (.lst upd_same (Nat.le_trans (cutV_length xs l u) hl) (rl_cut hr l u))
      exact post G3 _ b1 (Ext.refl _) q b2
    have r3 := r1.mono (x2.trans x3)
    cases r3 with
    | lst g hl rl => cases hz; exact fin _ _ _ rfl (SqL.of (a3.vw.lst g)) rl hl rfl
    | scr g hl rl => cases hz; exact fin _ _ _ rfl (a3.vw.sql g) rl hl rfl
    | _ => cases hz
theorem SlR.or2 {r r' : V → Option Int → Option Int → Hp → VK → Prop} (h : SlR X r) (h' : SlR X r') : SlR X (fun x lo hi H Q => r x lo hi H Q ∨ r' x lo hi H Q) := SlR.or h h'
theorem cut_all {α : Type} {xs : List α} {lo hi : Option Int} (h : HT.sIx xs.length 0 lo = 0 ∧ HT.sIx xs.length xs.length hi = xs.length) : cutD xs lo hi = xs := by
  unfold cutD; rw [h.1, h.2, List.drop_zero, Nat.sub_zero, List.take_length]
theorem de_sl {a : Expr} {lo hi : Option Expr} {p2 pos : Pos} {L U : Mo (Option Int)} (ha : DE X W a E) (hl : DP X W lo L) (hu : DP X W hi U) : DE X W (.Subscript a (.Slice lo hi none p2) pos) (eSl dSl E L U) :=
  PE.weak (pe_slice (SlR.or2 sl_tupA sl_str) ha hl hu) fun σ H Q ⟨B, G, δ, r, δ', at', e1, post⟩ => by
  refine tE_bind at' e1 post fun v H1 G1 δ1 d a1 x1 r1 e2 post => ?_
  refine tP_bind a1 e2 post fun H2 G2 δ2 l a2 x2 e3 post => ?_
  refine tP_bind a2 e3 post fun H3 G3 δ3 u a3 x3 e4 post => ?_
  obtain ⟨z, hz, hr⟩ := lift_some e4
  cases hr
  have r3 := r1.mono (x2.trans x3)
  cases r3 with
  | tup g hl rl =>
    rename_i p xs ds
    cases hz
    refine .inl ⟨p, xs, rfl, SqT.of (a3.vw.tup g), fun hh => ?_, fun _ q hq => ?_⟩
    · have hh2 : HT.sIx ds.length 0 l = 0 ∧ HT.sIx ds.length ds.length u = ds.length := by rw [← rl.length]; exact hh
      rw [cut_all hh2] at post
      exact post G3 H3 a3 (Ext.refl _) _ (.tup g hl rl)
    · have ex := Ext.new (o := .tup (cutV xs l u)) (a3.vw.none hq)
      exact post _ _ (a3.laid hq fun _ z => by cases z) ex _ (.tup upd_same (Nat.le_trans (cutV_length xs l u) hl) ((rl_cut rl l u).mono ex))
  | str s =>
    have hz : (if s.length ≤ sizeLine then some (D.str (cutS s l u)) else none) = some z := hz
    split at hz
    · rename_i hs
      cases hz
      exact .inr ⟨s, rfl, hs, post G3 H3 a3 (Ext.refl _) _ (.str _)⟩
    · cases hz
  | _ => cases hz
end
def blsD : List D → Option (List Bool)
  | [] => some []
  | .bl b :: l => (blsD l).map (b :: ·)
  | _ => none
theorem blsD_ok {K : PySem.W.Frag} {G : Hp} : ∀ {xs : List V} {l : List D} {bs : List Bool}, RL K G xs l → blsD l = some bs → xs = bs.map V.bl
  | _, _, _, .nil, h => by cases h; rfl
  | _, d :: l, _, .cons r t, h => by
    cases r with
    | bl i =>
      unfold blsD at h
      cases q : blsD l with
      | none => rw [q] at h; cases h
      | some ns => rw [q] at h; cases h; rw [blsD_ok t q]; rfl
    | _ => cases h
section
variable {X : Cx} {W : WK} {e a b c : Expr} {es : List Expr} {x : Str} {p pos : Pos} {E Ea Eb : Mo D} {A : Mo (List Ag)}
def tyN : D → String
  | .non => "NoneType" | .bl _ => "bool" | .int _ => "int" | .str _ => "str" | .tup _ => "tuple" | .lst _ => "list" | .scr _ => "list" | .dK _ => "dict" | .dT _ => "dict" | .alb _ _ => "object"
theorem ty_of {K : PySem.W.Frag} {G H : Hp} {v : V} {d : D} (vw : Vw G H) (r : R K G v d) (hk : isDct d = false) (hs : ∀ l, d ≠ .scr l) (hA : ∀ a b, d ≠ .alb a b) : TyX K H v (.type (tyN d)) := by
  cases r with
  | non => exact .base .non
  | bl b => exact .base (.bl b)
  | int i => exact .base (.int i)
  | str s => exact .base (.str s)
  | tup g => exact .base (.tup (vw.tup g))
  | lst g => exact .base (.lst (vw.lst g))
  | scr => exact absurd rfl (hs _)
  | dK => cases hk
  | dT => cases hk
  | alb => exact absurd rfl (hA _ _)
end
end M
set_option Elab.async false
set_option linter.all false
set_option maxRecDepth 100000
set_option Elab.async false
set_option linter.all false
set_option maxRecDepth 100000
set_option maxHeartbeats 1000000
namespace M
open PySem L2 PySem.Spec PyProof.Rows
section
variable {prog : Program} {w : World} {A : Around} {E : Value → Shared → Prop} {s : Shared} {env : PySem.Env} {x : Str} {m : Str → Option Value} {t : Addr} {items : Array Value}
theorem row_sub {i : Int} {j c : Nat} {v : Value} {p1 p2 p3 : Pos} {Q : Value → Shared → Prop} (hk : env.scope.kind = .function) (hl : env.kindOf x = some .local) (hn : s.heap.Ns env.locals m) (hv : m x = some (.ref t)) (ht : IsTup s.heap t items)
    (h0 : 0 ≤ i) (h1 : i < 100) (hj : seqIndex? i items.size = some j) (hx : items[j]? = some v) (hd : (x == ("__debug__" : Str)) = false) (h : ∀ tk, Q v { s with toks := tk }) :
    wpAny (model prog w) A (eval (.Subscript (.Name x p1) (.Constant (.int i) c p2) p3) env) Q E s := by
  refine Subscript_ (wpAny_Name (wpAny_loadName_local hk hl hn hv ?_) hd)
  refine wpAny_Constant_int ?_
  refine subscriptTail_builtin ht.typeIs slot_tuple_getitem.lookup (getItem_tuple ht (by omega) (by omega) hj hx (h _)) (by intros; rfl) (by intros; rfl)
theorem row_key {c1 c2 k : Nat} {v0 v1 : Value} {p1 p2 p3 p4 p5 p6 p7 : Pos} {Q : Value → Shared → Prop} (hk : env.scope.kind = .function) (hl : env.kindOf x = some .local) (hn : s.heap.Ns env.locals m) (hv : m x = some (.ref t)) (ht : IsTup s.heap t #[v0, v1])
    (hd : (x == ("__debug__" : Str)) = false) (h : ∀ tk, Q (.ref s.heap.objs.size) { s with heap := s.heap.push { cls := .type "tuple", data := .seq #[v1, v0] }, toks := tk }) :
    wpAny (model prog w) A (eval (.Tuple [.Subscript (.Name x p1) (.Constant (.int 1) c1 p2) p3, .Subscript (.Name x p4) (.Constant (.int 0) c2 p5) p6] k p7) env) Q E s := by
  refine wpAny_Tuple_spliced ?_
  show wpAny _ _ (spliced [(false, _), (false, _)]) _ _ _
  refine Calls.spliced_cons (row_sub (i := 1) (j := 1) hk hl hn hv ht (by decide) (by decide) rfl rfl hd fun tk => ?_)
  refine Calls.spliced_cons (row_sub (s := { s with toks := tk }) (i := 0) (j := 0) hk hl hn hv ht (by decide) (by decide) rfl rfl hd fun tk2 => ?_)
  exact Calls.spliced_nil ⟨small_line (by simp), h _⟩
end
def rowLe (p q : Int × Int) : Bool := decide (p.2 < q.2 ∨ (p.2 = q.2 ∧ p.1 ≤ q.1))
def byRows (ps : List (Int × Int)) : List (Int × Int) := ps.mergeSort rowLe
/-- the cells of ts, sorted -/
def SortedAs (ts : List Addr) (ps : List (Int × Int)) (ts' : List Addr) : Prop := PySem.W.EachIs (fun t p => ∃ i : Nat, ts[i]? = some t ∧ ps[i]? = some p) ts' (byRows ps)
theorem each_refs {ts : List Addr} {ps : List (Int × Int)} : ∀ {out : List Value} {ps' : List (Int × Int)}, PySem.W.EachIs (fun v p => ∃ (i : Nat) (t : Addr), v = .ref t ∧ ts[i]? = some t ∧ ps[i]? = some p) out ps' →
    ∃ ts', out = ts'.map Value.ref ∧ PySem.W.EachIs (fun t p => ∃ i : Nat, ts[i]? = some t ∧ ps[i]? = some p) ts' ps'
  | _, _, .nil => ⟨[], rfl, .nil⟩
  | _, _, .cons h hs => by
    obtain ⟨i, t, rfl, h1, h2⟩ := h
    obtain ⟨ts', rfl, h3⟩ := each_refs hs
    exact ⟨t :: ts', rfl, .cons ⟨i, h1, h2⟩ h3⟩
theorem each_self {ts : List Addr} {ps : List (Int × Int)} : ∀ (us : List Addr) (qs : List (Int × Int)) (k : Nat), us.length = qs.length → (∀ i, us[i]? = ts[k + i]?) → (∀ i, qs[i]? = ps[k + i]?) →
    PySem.W.EachIs (fun v p => ∃ (i : Nat) (t : Addr), v = .ref t ∧ ts[i]? = some t ∧ ps[i]? = some p) (us.map Value.ref) qs
  | [], [], _, _, _, _ => .nil
  | u :: us, q :: qs, k, hl, h1, h2 => .cons ⟨k, u, rfl, by have := h1 0; simpa using this.symm, by have := h2 0; simpa using this.symm⟩
      (each_self us qs (k + 1) (by simpa using hl) (fun i => by have := h1 (i + 1); rw [List.getElem?_cons_succ] at this; rw [this]; congr 1; omega) (fun i => by have := h2 (i + 1); rw [List.getElem?_cons_succ] at this; rw [this]; congr 1; omega))
  | [], _ :: _, _, hl, _, _ => by simp at hl
  | _ :: _, [], _, hl, _, _ => by simp at hl
theorem refs_vals : ∀ (ts : List Addr), Vals (ts.map V.ref) (ts.map Value.ref)
  | [] => .nil
  | t :: ts => .cons rfl (refs_vals ts)
def pairD : D → Option (Int × Int)
  | .tup [.int x, .int y] => some (x, y)
  | _ => none
def pairsD : List D → Option (List (Int × Int))
  | [] => some []
  | d :: l => (pairD d).bind fun p => (pairsD l).map (p :: ·)
def pD (p : Int × Int) : D := .tup [.int p.1, .int p.2]
theorem pairD_some {d : D} {p : Int × Int} (h : pairD d = some p) : d = pD p := by
  unfold pairD at h
  split at h
  · cases h; rfl
  · cases h
theorem pairsD_some : ∀ {l : List D} {ps : List (Int × Int)}, pairsD l = some ps → l = ps.map pD
  | [], ps, h => by cases h; rfl
  | d :: l, ps, h => by
    unfold pairsD at h
    cases q : pairD d with
    | none => rw [q] at h; cases h
    | some p =>
      rw [q, Option.bind_some] at h
      cases q2 : pairsD l with
      | none => rw [q2] at h; cases h
      | some ps' =>
        rw [q2] at h; cases h
        rw [pairD_some q, pairsD_some q2]; rfl
theorem pD_ref {K : PySem.W.Frag} {G : Hp} {v : V} {p : Int × Int} (r : R K G v (pD p)) : ∃ a, v = .ref a ∧ G a = some (.tup [.int p.1, .int p.2]) := by
  cases r with
  | tup g l rl =>
    cases rl with
    | cons r1 r2 =>
      cases r1
      cases r2 with
      | cons r3 r4 => cases r3; cases r4; exact ⟨_, rfl, g⟩
theorem cells_refs {K : PySem.W.Frag} {G : Hp} : ∀ {vs : List V} {ps : List (Int × Int)}, RL K G vs (ps.map pD) → ∃ ts : List Addr, vs = ts.map V.ref ∧ ts.length = ps.length ∧ ∀ (i : Nat) t p, ts[i]? = some t → ps[i]? = some p → G t = some (.tup [.int p.1, .int p.2])
  | [], [], _ => ⟨[], rfl, rfl, fun i t p h => by simp at h⟩
  | v :: vs, p :: ps, h => by
    rw [List.map_cons] at h
    cases h with
    | cons h1 h2 =>
      obtain ⟨a, rfl, ha⟩ := pD_ref h1
      obtain ⟨ts, rfl, hl, hc⟩ := cells_refs h2
      refine ⟨a :: ts, rfl, by rw [List.length_cons, List.length_cons, hl], fun i t q e1 e2 => ?_⟩
      cases i with
      | zero => simp at e1 e2; subst e1 e2; exact ha
      | succ i => exact hc i t q (by simpa using e1) (by simpa using e2)
  | [], p :: ps, h => by rw [List.map_cons] at h; cases h
  | v :: vs, [], h => by cases h
theorem rl_each {K : PySem.W.Frag} {G : Hp} {ts : List Addr} {ps : List (Int × Int)} (hc : ∀ (i : Nat) t p, ts[i]? = some t → ps[i]? = some p → G t = some (.tup [.int p.1, .int p.2])) : ∀ {us : List Addr} {qs : List (Int × Int)}, PySem.W.EachIs (fun t p => ∃ i : Nat, ts[i]? = some t ∧ ps[i]? = some p) us qs → RL K G (us.map V.ref) (qs.map pD)
  | _, _, .nil => .nil
  | _, _, .cons h hs => by
    obtain ⟨i, h1, h2⟩ := h
    exact .cons (.tup (hc i _ _ h1 h2) (small_line (by simp)) (.cons (.int _) (.cons (.int _) .nil))) (rl_each hc hs)
theorem byRows_len (ps : List (Int × Int)) : (byRows ps).length = ps.length := by unfold byRows; rw [List.length_mergeSort]
end M
set_option Elab.async false
set_option linter.all false
set_option maxRecDepth 100000
set_option maxHeartbeats 1000000
set_option Elab.async false
set_option linter.all false
set_option maxRecDepth 100000
set_option maxHeartbeats 1000000
namespace M
open PySem L2 PySem.Spec PyProof.Rows
/-- the dict at a is locked as od -/
def Bs.lock (B : Bs) (a : Addr) (od : Obj) (u : HO) : Bs := { B with H0 := upd B.H0 a (.frz od u), G0 := upd B.G0 a u }
theorem isD_nt {u : HO} (h : isD u = true) : NT u := by
  cases u with
  | dK l => exact nt_dK
  | dT l => exact nt_dT
  | _ => cases h
theorem nt_frz {od : Obj} {u : HO} : NT (.frz od u) := ⟨fun _ e => (by cases e), fun _ e => (by cases e), fun _ _ e => (by unfold LamX.CodeO at e; cases e)⟩
theorem tabS_same {H H2 : Hp} {P a : Addr} {q : Str} {o : HO} (t : LamX.TabS H P q) (h : H a = some o) (n : NT o) (h1 : ∀ b, b ≠ a → H2 b = H b) : LamX.TabS H2 P q := by
  obtain ⟨ps, e1, e2, e3⟩ := t
  have c1 : P ≠ a := fun c => by subst c; rw [h] at e1; cases e1; exact n.tbl _ rfl
  refine ⟨ps, by rw [h1 P c1]; exact e1, e2, fun pos cv hc => ?_⟩
  obtain ⟨c, x1, x2⟩ := e3 pos cv hc
  have c2 : c ≠ a := fun z => by subst z; rw [h] at x2; cases x2; exact n.code _ _ rfl
  exact ⟨c, x1, by rw [h1 c c2]; exact x2⟩
section
variable {K : PySem.W.Frag} {B : Bs} {G G' H H' Hl H2 : Hp} {δ δ' : Env} {σ σ' : St} {a : Addr} {od : Obj} {u : HO}
theorem At.noIO (a0 : At K B G δ σ H) (g : G a = some u) : ∀ i, (i, a) ∉ B.IO := fun i io => by
  obtain ⟨b1, b2, _⟩ := a0.iok i a io
  cases z : B.H0 a with
  | none => exact b2 z
  | some o =>
    have := a0.leak a o z (fun xs c => a0.tb.2.2.2.2 i a xs io (by rw [z, c])) b1
    rw [g] at this; cases this
theorem At.lock (a0 : At K B G δ σ H) (g : G a = some u) (hd : isD u = true) (h3 : H a = some u ∨ H a = some (.frz od u)) (h1 : ∀ b, b ≠ a → Hl b = H b) (h2 : Hl a = some (.frz od u)) : At K (B.lock a od u) G δ σ Hl := by
  have nio := a0.noIO g
  have hnt : ∃ o, H a = some o ∧ NT o := by
    rcases h3 with h | h
    · exact ⟨_, h, isD_nt hd⟩
    · exact ⟨_, h, nt_frz⟩
  obtain ⟨o, ho, no⟩ := hnt
  have vw : ∀ F : Hp, Vw F H → Vw F Hl := fun F v b x e => by
    by_cases cb : b = a
    · subst cb
      rcases h3 with h | h
      · rcases v b x e with q | ⟨_, y, q⟩
        · rw [h] at q; cases q; exact .inr ⟨hd, od, h2⟩
        · rw [h] at q; cases q; cases hd
      · rw [h2, ← h]; exact v b x e
    · rw [h1 b cb]; exact v b x e
  have neA : ∀ b x, H b = some x → Mut (some x) → (∀ j, ¬ OwnAt δ σ j b) ∨ b ≠ a := fun b x e m => by
    by_cases c : b = a
    · left
      intro j z
      have := (a0.ownAt z).1
      rw [c, g] at this; cases this
    · exact .inr c
  refine ⟨vw G a0.vw, fun b x e => ?_, fun b x e z => ?_, fun b e => ?_, fun b x e t z => ?_, fun i b e => ?_, fun j => vw _ (a0.bo j), fun j b e => ?_, a0.len, fun i s e => ?_, a0.apart, ⟨fun P hP => tabS_same (a0.tb.1 P hP) ho no h1, fun b ps e => ?_, a0.tb.2.2.1, a0.tb.2.2.2.1, fun i b xs e z => ?_⟩⟩
  · have e : upd B.G0 a u b = some x := e
    by_cases c : b = a
    · rw [c, upd_same] at e; cases e; rw [c]; exact g
    · rw [upd_ne c] at e; exact a0.g0 b x e
  · have e : upd B.H0 a (.frz od u) b = some x := e
    by_cases c : b = a
    · rw [c, upd_same] at e; cases e; rw [c]; exact h2
    · rw [upd_ne c] at e; rw [h1 b c]; exact a0.keep b x e z
  · have e : upd B.H0 a (.frz od u) b ≠ none := e
    by_cases c : b = a
    · rw [c, h2]; simp
    · rw [upd_ne c] at e; rw [h1 b c]; exact a0.dom b e
  · have e : upd B.H0 a (.frz od u) b = some x := e
    have z : upd B.G0 a u b = none := z
    by_cases c : b = a
    · rw [c, upd_same] at z; cases z
    · rw [upd_ne c] at e z; exact a0.leak b x e t z
  · obtain ⟨b1, b2, b3, x, b4, b5⟩ := a0.iok i b e
    have c : b ≠ a := fun c => nio i (by rw [← c]; exact e)
    exact ⟨by show upd B.G0 a u b = none; rw [upd_ne c]; exact b1, by show upd B.H0 a (.frz od u) b ≠ none; rw [upd_ne c]; exact b2, b3, x, by rw [h1 b c]; exact b4, b5⟩
  · show upd B.H0 a (.frz od u) b ≠ none
    by_cases c : b = a
    · rw [c, upd_same]; simp
    · rw [upd_ne c]; exact a0.bod j b e
  · obtain ⟨ov, q1, q2⟩ := a0.sl i s e
    refine ⟨ov, q1, ?_⟩
    cases s with
    | no => trivial
    | imm d => exact q2
    | bor d => exact q2
    | own d =>
      obtain ⟨p, r1, r2, r3, r4⟩ := q2
      have c : p ≠ a := fun c => by rw [c, g] at r2; cases r2
      exact ⟨p, r1, r2, r3.at' (h1 p c), by show upd B.H0 a (.frz od u) p = none; rw [upd_ne c]; exact r4⟩
    | io d =>
      obtain ⟨p, r1, r2, r3, r4⟩ := q2
      have c : p ≠ a := fun c => by rw [c, g] at r2; cases r2
      exact ⟨p, r1, r2, r3.at' (h1 p c), r4⟩
  · have e : upd B.H0 a (.frz od u) b = some (.tbl ps) := e
    by_cases c : b = a
    · rw [c, upd_same] at e; cases e
    · rw [upd_ne c] at e; exact a0.tb.2.1 b ps e
  · have z : upd B.H0 a (.frz od u) b = some (.tup xs) := z
    by_cases c : b = a
    · rw [c, upd_same] at z; cases z
    · rw [upd_ne c] at z; exact a0.tb.2.2.2.2 i b xs e z
theorem At.held (a1 : At K (B.lock a od u) G' δ' σ' H') (nio : ∀ i, (i, a) ∉ B.IO) : H' a = some (.frz od u) := a1.keep a _ upd_same nio
theorem At.unlock (a0 : At K B G δ σ H) (g : G a = some u) (hd : isD u = true) (h3 : H a = some u ∨ H a = some (.frz od u)) (a1 : At K (B.lock a od u) G' δ' σ' H') (h1 : ∀ b, b ≠ a → H2 b = H' b) (h2 : H2 a = H a) : At K B G' δ' σ' H2 := by
  have nio := a0.noIO g
  have hh := a1.held nio
  have g' : G' a = some u := a1.g0 a u upd_same
  have vw : ∀ F : Hp, Vw F H' → (∀ x, F a = some x → Vw F H) → Vw F H2 := fun F v w b x e => by
    by_cases cb : b = a
    · subst cb
      rw [h2]; exact w x e b x e
    · rw [h1 b cb]; exact v b x e
  refine ⟨fun b x e => ?_, fun b x e => ?_, fun b x e z => ?_, fun b e => ?_, fun b x e t z => ?_, fun i b e => ?_, fun j => vw _ (a1.bo j) fun _ _ => a0.bo j, a0.bod, a1.len, fun i s e => ?_, a1.apart, ⟨fun P hP => tabS_same (a1.tb.1 P hP) hh nt_frz h1, a0.tb.2.1, a1.tb.2.2.1, a0.tb.2.2.2.1, a0.tb.2.2.2.2⟩⟩
  · by_cases cb : b = a
    · subst cb
      rw [g'] at e; cases e
      rw [h2]
      rcases h3 with h | h
      · exact .inl h
      · exact .inr ⟨hd, od, h⟩
    · rw [h1 b cb]; exact a1.vw b x e
  · by_cases cb : b = a
    · subst cb
      have := a0.g0 b x e
      rw [g] at this; cases this
      exact g'
    · exact a1.g0 b x (by show upd B.G0 a u b = some x; rw [upd_ne cb]; exact e)
  · by_cases cb : b = a
    · subst cb
      rw [h2]; exact a0.keep b x e z
    · rw [h1 b cb]; exact a1.keep b x (by show upd B.H0 a (.frz od u) b = some x; rw [upd_ne cb]; exact e) z
  · by_cases cb : b = a
    · subst cb
      rw [h2]; exact a0.dom b e
    · rw [h1 b cb]; exact a1.dom b (by show upd B.H0 a (.frz od u) b ≠ none; rw [upd_ne cb]; exact e)
  · by_cases cb : b = a
    · subst cb
      have := a0.leak b x e t z
      rw [g] at this; cases this
    · exact a1.leak b x (by show upd B.H0 a (.frz od u) b = some x; rw [upd_ne cb]; exact e) t (by show upd B.G0 a u b = none; rw [upd_ne cb]; exact z)
  · have c : b ≠ a := fun c => nio i (by rw [← c]; exact e)
    obtain ⟨b1, b2, b3, x, b4, b5⟩ := a1.iok i b e
    have b1 : upd B.G0 a u b = none := b1
    have b2 : upd B.H0 a (.frz od u) b ≠ none := b2
    rw [upd_ne c] at b1 b2
    exact ⟨b1, b2, b3, x, by rw [h1 b c]; exact b4, b5⟩
  · obtain ⟨ov, q1, q2⟩ := a1.sl i s e
    refine ⟨ov, q1, ?_⟩
    cases s with
    | no => trivial
    | imm d => exact q2
    | bor d => exact q2
    | own d =>
      obtain ⟨p, r1, r2, r3, r4⟩ := q2
      have c : p ≠ a := fun c => by rw [c, g'] at r2; cases r2
      have r4 : upd B.H0 a (.frz od u) p = none := r4
      rw [upd_ne c] at r4
      exact ⟨p, r1, r2, r3.at' (h1 p c), r4⟩
    | io d =>
      obtain ⟨p, r1, r2, r3, r4⟩ := q2
      have c : p ≠ a := fun c => by rw [c, g'] at r2; cases r2
      exact ⟨p, r1, r2, r3.at' (h1 p c), r4⟩
/-- the keys of a dict, as data -/
def keysD : D → Option (List D)
  | .dK l => some (l.map fun p => kD p.1)
  | .dT l => if shortK (l.map (·.1)) = true then some (l.map fun p => .tup (p.1.map kD)) else none
  | _ => none
theorem yl_keys {kvs : List (Key × V)} {ds : List (Key × D)} (h : ∀ (B' : Bs) (G2 H : Hp) (δ : Env) (σ : St), BLe B B' → At K B' G2 δ σ H → H a = some (.frz od (.dK kvs))) (hk : kvs.map (·.1) = ds.map (·.1)) : Yl K B (Itk a od kvs) G (ds.map fun p => kD p.1) := fun B' G2 H2 δ2 σ2 le at' ex i => by
  have hq := h B' G2 H2 δ2 σ2 le at'
  have hl : kvs.length = ds.length := by have := congrArg List.length hk; rw [List.length_map, List.length_map] at this; exact this
  refine ⟨fun d hd => ⟨⟨hq, ?_⟩, ?_⟩, fun hs => ⟨hq, by rw [List.length_map] at hs; omega⟩⟩
  · have := (List.getElem?_eq_some_iff.mp hd).1
    rw [List.length_map] at this; omega
  · rintro x H3 ⟨rfl, k, v, e1, rfl⟩
    refine ⟨rfl, G2, at', Ext.refl _, ?_⟩
    rw [List.getElem?_map] at hd
    cases z : ds[i]? with
    | none => rw [z] at hd; cases hd
    | some p =>
      rw [z] at hd; cases hd
      have e2 : (kvs.map (·.1))[i]? = (ds.map (·.1))[i]? := by rw [hk]
      rw [List.getElem?_map, List.getElem?_map, e1, z] at e2
      have e2 : k = p.1 := Option.some.inj e2
      rw [e2]; exact kD_ok _
theorem yl_keysT {kvs : List (List Key × V)} {ds : List (List Key × D)} (h : ∀ (B' : Bs) (G2 H : Hp) (δ : Env) (σ : St), BLe B B' → At K B' G2 δ σ H → H a = some (.frz od (.dT kvs))) (hk : kvs.map (·.1) = ds.map (·.1)) (sk : shortK (ds.map (·.1)) = true) : Yl K B (Itkt a od kvs) G (ds.map fun p => .tup (p.1.map kD)) := fun B' G2 H2 δ2 σ2 le at' ex i => by
  have hq := h B' G2 H2 δ2 σ2 le at'
  have hl : kvs.length = ds.length := by have := congrArg List.length hk; rw [List.length_map, List.length_map] at this; exact this
  refine ⟨fun d hd => ⟨⟨hq, ?_⟩, ?_⟩, fun hs => ⟨hq, by rw [List.length_map] at hs; omega⟩⟩
  · have := (List.getElem?_eq_some_iff.mp hd).1
    rw [List.length_map] at this; omega
  · rintro x H3 ⟨rfl, k, v, q, e1, rfl, e3⟩
    obtain ⟨G3, a3, x3, g3⟩ := at'.tuple e3
    refine ⟨rfl, G3, a3, x3, ?_⟩
    rw [List.getElem?_map] at hd
    cases z : ds[i]? with
    | none => rw [z] at hd; cases hd
    | some p =>
      rw [z] at hd; cases hd
      have e2 : (kvs.map (·.1))[i]? = (ds.map (·.1))[i]? := by rw [hk]
      rw [List.getElem?_map, List.getElem?_map, e1, z] at e2
      have e2 : k = p.1 := Option.some.inj e2
      subst e2
      refine .tup g3 ?_ (kDs_ok _)
      rw [List.length_map]
      have := List.all_eq_true.mp sk p.1 (List.mem_map.mpr ⟨p, List.mem_of_getElem? z, rfl⟩)
      exact small_line (of_decide_eq_true this)
end
/-- the keys of the dict in the slot i -/
def iKy (i : Nat) : Mo (List D) := fun δ => match δ[i]? with
  | some (.imm d) => (keysD d).map fun ks => (.ok ks, δ)
  | some (.own d) => (keysD d).map fun ks => (.ok ks, δ.set i (.imm d))
  | _ => none
section
variable {K : PySem.W.Frag} {B : Bs} {G H : Hp} {δ : Env} {σ : St}
theorem iKy_ok {i : Nat} {β : Type} {r : Except Exn β} {δ' : Env} {k : List D → Mo β} (a : At K B G δ σ H) (h : Mo.bind (iKy i) k δ = some (r, δ')) :
    ∃ (G1 : Hp) (δ1 : Env) (d : D) (v : V) (ks : List D), At K B G1 δ1 σ H ∧ Ext G G1 ∧ σ[i]? = some (some v) ∧ R K G1 v d ∧ keysD d = some ks ∧ k ks δ1 = some (r, δ') := by
  unfold Mo.bind iKy at h
  cases q : δ[i]? with
  | none => rw [q] at h; cases h
  | some s =>
    rw [q] at h
    cases s with
    | imm d =>
      cases q2 : keysD d with
      | none => simp only [q2] at h; cases h
      | some ks =>
        simp only [q2, Option.map_some] at h
        obtain ⟨v, e1, e2⟩ := a.imm q
        exact ⟨G, δ, d, v, ks, a, Ext.refl _, e1, e2, q2, h⟩
    | own d =>
      cases q2 : keysD d with
      | none => simp only [q2] at h; cases h
      | some ks =>
        simp only [q2, Option.map_some] at h
        obtain ⟨G1, p, e1, e2, e3, e4⟩ := a.freeze q
        exact ⟨G1, _, d, _, ks, e4, e3, e1, e2, q2, h⟩
    | _ => cases h
/-- what a locked dict's walk needs -/
structure LockAt (K : PySem.W.Frag) (B : Bs) (G : Hp) (δ : Env) (σ : St) (H : Hp) (i : Nat) (ks : List D) (a : Addr) (u : HO) : Prop where
  at_ : At K B G δ σ H
  slot : σ[i]? = some (some (.ref a))
  g : G a = some u
  hd : isD u = true
  keys : (∃ (kvs : List (Key × V)) (ds : List (Key × D)), u = .dK kvs ∧ kvs.map (·.1) = ds.map (·.1) ∧ ks = ds.map fun p : Key × D => kD p.1) ∨ ∃ (kvs : List (List Key × V)) (ds : List (List Key × D)), u = .dT kvs ∧ kvs.map (·.1) = ds.map (·.1) ∧ shortK (ds.map (·.1)) = true ∧ ks = ds.map fun p : List Key × D => .tup (p.1.map kD)
theorem lockAt_of {i : Nat} {d : D} {v : V} {ks : List D} (a : At K B G δ σ H) (hs : σ[i]? = some (some v)) (r : R K G v d) (hk : keysD d = some ks) : ∃ a u, LockAt K B G δ σ H i ks a u := by
  cases r with
  | dK g l k rl => cases hk; exact ⟨_, _, a, hs, g, rfl, .inl ⟨_, _, rfl, k, rfl⟩⟩
  | dT g l k rl =>
    unfold keysD at hk
    simp only at hk
    split at hk
    · rename_i q
      cases hk
      exact ⟨_, _, a, hs, g, rfl, .inr ⟨_, _, rfl, k, q, rfl⟩⟩
    · cases hk
  | _ => cases hk
/-- the walk over the locked dict: J, its reading -/
theorem LockAt.walk {i : Nat} {ks : List D} {a : Addr} {u : HO} {od : Obj} {Hl : Hp} {R' : It → Hp → Prop} (L : LockAt K B G δ σ H i ks a u) (h2 : Hl a = some (.frz od u)) (q : ∀ J, Yl K (B.lock a od u) J G ks → R' J Hl) : iKeys (tVar i) σ Hl R' := by
  have nio := L.at_.noIO L.g
  have held : ∀ (B' : Bs) (G2 H : Hp) (δ : Env) (σ : St), BLe (B.lock a od u) B' → At K B' G2 δ σ H → H a = some (.frz od u) := fun B' G2 H δ σ le at' =>
    at'.keep a _ (le.1 a _ upd_same) fun j z => nio j (by rw [← show B'.IO = B.IO from le.2]; exact z)
  refine ⟨.ref a, L.slot, a, od, rfl, ?_⟩
  rcases L.keys with ⟨kvs, ds, rfl, k, rfl⟩ | ⟨kvs, ds, rfl, k, sk, rfl⟩
  · exact .inl ⟨kvs, h2, q _ (yl_keys held k)⟩
  · exact .inr ⟨kvs, h2, q _ (yl_keysT held k sk)⟩
theorem LockAt.two {i : Nat} {ks : List D} {a : Addr} {u : HO} (L : LockAt K B G δ σ H i ks a u) : (H a = some u ∧ Mut (some u)) ∨ ∃ od, H a = some (.frz od u) := by
  rcases L.at_.vw a u L.g with h | ⟨_, x, h⟩
  · left
    refine ⟨h, ?_⟩
    rcases L.keys with ⟨_, _, rfl, _⟩ | ⟨_, _, rfl, _⟩ <;> trivial
  · exact .inr ⟨x, h⟩
theorem post_lockS {G1 : Hp} {Dn Dn' : Ends} {r : Except Exn Out} {δ' : Env} {u : HO} {od : Obj} {a : Addr} (a0 : At K B G δ σ H) (x : Ext G G1) (g : G a = some u) (hd : isD u = true) (h3 : H a = some u ∨ H a = some (.frz od u)) (F : Hp → Hp) (h1 : ∀ H' b, b ≠ a → F H' b = H' b) (h2 : ∀ H', H' a = some (.frz od u) → F H' a = H a)
    (dn : ∀ σ' H', H' a = some (.frz od u) → Dn.nx σ' (F H') → Dn'.nx σ' H') (db : ∀ σ' H', H' a = some (.frz od u) → Dn.bk σ' (F H') → Dn'.bk σ' H') (dc : ∀ σ' H', H' a = some (.frz od u) → Dn.ct σ' (F H') → Dn'.ct σ' H') (dr : ∀ v H', H' a = some (.frz od u) → Dn.rt v (F H') → Dn'.rt v H')
    (post : PostS K W0 B G1 Dn r δ') : PostS K W0 (B.lock a od u) G1 Dn' r δ' := by
  have nio := a0.noIO g
  have un : ∀ {G' σ' H'}, At K (B.lock a od u) G' δ' σ' H' → H' a = some (.frz od u) ∧ At K B G' δ' σ' (F H') := fun {G' σ' H'} a1 => ⟨a1.held nio, a0.unlock g hd h3 a1 (h1 H') (h2 H' (a1.held nio))⟩
  cases r with
  | error e => exact fun G' σ' H' a1 x1 => post G' σ' (F H') (un a1).2 x1
  | ok o =>
    cases o with
    | nx => exact fun G' σ' H' a1 x1 => dn _ _ (un a1).1 (post G' σ' (F H') (un a1).2 x1)
    | bk => exact fun G' σ' H' a1 x1 => db _ _ (un a1).1 (post G' σ' (F H') (un a1).2 x1)
    | ct => exact fun G' σ' H' a1 x1 => dc _ _ (un a1).1 (post G' σ' (F H') (un a1).2 x1)
    | rt d => exact fun G' σ' H' a1 x1 v rv => dr _ _ (un a1).1 (post G' σ' (F H') (un a1).2 x1 v rv)
    | rtO d =>
      refine fun G' σ' H' a1 x1 p hp => dr _ _ (un a1).1 (post G' σ' (F H') (un a1).2 x1 p ?_)
      obtain ⟨p1, p2, p3, p4⟩ := hp
      have g' : G' a = some u := a1.g0 a u upd_same
      have c : p ≠ a := fun c => by rw [c, g'] at p1; cases p1
      have p2 : upd B.H0 a (.frz od u) p = none := p2
      rw [upd_ne c] at p2
      exact ⟨p1, p2, p3, p4.at' (h1 H' p c)⟩
theorem post_lockO {W : WK} {G1 : Hp} {Q Q' : VK} {d : D} {δ' : Env} {u : HO} {od : Obj} {a : Addr} (a0 : At K B G δ σ H) (g : G a = some u) (hd : isD u = true) (h3 : H a = some u ∨ H a = some (.frz od u)) (F : Hp → Hp) (h1 : ∀ H' b, b ≠ a → F H' b = H' b) (h2 : ∀ H', H' a = some (.frz od u) → F H' a = H a)
    (dn : ∀ v H', H' a = some (.frz od u) → Q v (F H') → Q' v H') (post : Post K W B G1 σ (.ok d) δ' (fun d G' H' => ∀ p, Fr1 K B G' δ' σ H' p d → Q (.ref p) H')) : Post K W (B.lock a od u) G1 σ (.ok d) δ' (fun d G' H' => ∀ p, Fr1 K (B.lock a od u) G' δ' σ H' p d → Q' (.ref p) H') := by
  have nio := a0.noIO g
  intro G' H' a1 x1 p hp
  have hh := a1.held nio
  refine dn _ _ hh (post G' (F H') (a0.unlock g hd h3 a1 (h1 H') (h2 H' hh)) x1 p ?_)
  obtain ⟨p1, p2, p3, p4⟩ := hp
  have g' : G' a = some u := a1.g0 a u upd_same
  have c : p ≠ a := fun c => by rw [c, g'] at p1; cases p1
  have p2 : upd B.H0 a (.frz od u) p = none := p2
  rw [upd_ne c] at p2
  exact ⟨p1, p2, p3, p4.at' (h1 H' p c)⟩
theorem lcM_good {T : D → Mo Unit} {C : Mo Bool} {E : Mo D} {vs : List Nat} : ∀ {ds acc : List D} {δ δ' : Env} {r : Except Exn D}, lcM T C E vs ds acc δ = some (r, δ') → ∃ d, r = .ok d
  | [], acc, δ, δ', r, h => by cases h; exact ⟨_, rfl⟩
  | d :: ds, acc, δ, δ', r, h => by
    unfold lcM at h
    split at h
    · split at h
      · split at h
        · exact lcM_good h
        · cases h
      · exact lcM_good h
      · cases h
    · cases h
end
section
variable {X : Cx} {st : Stmt} {e c tg : Expr} {pos p : Pos} {T : D → Mo Unit} {S : Mo Out} {C : Mo Bool} {E Ek Ev : Mo D} {sl : List Nat} {i : Nat} {y : Str}
theorem ds_forK {body : List Stmt} (hp : PassesOwn (model X.prog X.w) X.A X.env X.xe) (hc : X.calm = true) (hT : Calm T) (hi : PE X (.Name y p) (tVar i)) (hg : DG X tg sl T) (hb : DSs X W0 body S)
    (hs : ∀ x, foldedSetIterable (.Name y p) X.env x = pure x := by intro _; rfl) : DS X W0 (.For tg (.Name y p) body [] pos) (sFor (iKy i) T S) := by
  have base := ps_for (pos := pos) hp hc (pi_keys (tg := tg) hi) hg hb hs
  refine PS.weak (PS.or (ps_lock base) base) fun Dn σ H ⟨B, G, δ, r, δ', a, e1, post⟩ => ?_
  obtain ⟨G1, δ1, d, v, ks, a1, x1, h1, h2, h3, e2⟩ := iKy_ok a e1
  obtain ⟨ad, u, L⟩ := lockAt_of a1 h1 h2 h3
  rcases L.two with ⟨hu, mu⟩ | ⟨od, hu⟩
  · refine .inl ⟨ad, u, hu, mu, fun od => L.walk upd_same fun J yl => tFor_at hT (a1.lock L.g L.hd (.inl hu) (fun b hb => upd_ne hb) upd_same) yl e2 ?_⟩
    exact post_lockS a1 (Ext.refl _) L.g L.hd (.inl hu) (fun H' => upd H' ad u) (fun H' b hb => upd_ne hb) (fun H' _ => by rw [upd_same, hu]) (fun _ _ q z => ⟨q, z⟩) (fun _ _ q z => ⟨q, z⟩) (fun _ _ q z => ⟨q, z⟩) (fun _ _ q z => ⟨q, z⟩) (post.mono x1)
  · refine .inr (L.walk hu fun J yl => tFor_at hT (a1.lock L.g L.hd (.inr hu) (fun b hb => rfl) hu) yl e2 ?_)
    exact post_lockS a1 (Ext.refl _) L.g L.hd (.inr hu) (fun H' => H') (fun H' b hb => rfl) (fun H' q => by rw [q, hu]) (fun _ _ _ z => z) (fun _ _ _ z => z) (fun _ _ _ z => z) (fun _ _ _ z => z) (post.mono x1)
variable {W : WK} {elt kx vx : Expr} {ifs : List Expr} {scope : Scope} {own : List (Str × Nat)}
theorem ds_setLcKO {j : Nat} {z : Str} {pz spos : Pos} (hc : X.calm = true) (hN : X.N.Nodup) (hz : X.N[j]? = some z) (hzl : X.env.scope.names.lookup z = some .local)
    (hsw : swapsWith (.ListComp elt [⟨tg, .Name y p, ifs, 0⟩] scope pos) (some (.Name z pz)) spos.line X.env = pure true) (hi : PE X (.Name y p) (tVar i)) (ok : BlkOk X.N X.env.scope scope own) (hsl : ∀ j ∈ sl, j ∈ own.map (·.2))
    (hg : ∀ (s : Shared) (H : Hp) (Ca : Addr) (cl : List (Str × Addr)) (fp : List Addr), DG (X.blk s H scope (compEnvC scope cl Ca X.env) fp) tg sl T) (ht : ∀ (s : Shared) (H : Hp) (Ca : Addr) (cl : List (Str × Addr)) (fp : List Addr), DTs (X.blk s H scope (compEnvC scope cl Ca X.env) fp) W0 ifs C)
    (he : ∀ (s : Shared) (H : Hp) (Ca : Addr) (cl : List (Str × Addr)) (fp : List Addr), DE (X.blk s H scope (compEnvC scope cl Ca X.env) fp) W0 elt E) (hs : ∀ x, foldedSetIterable (.Name y p) X.env x = pure x := by intro _; rfl) :
    DS X W (.Assign [.Name z pz] (.ListComp elt [⟨tg, .Name y p, ifs, 0⟩] scope pos) spos) (sAsgO j (eLc (iKy i) T C E (own.map (·.2)))) := by
  have base := ps_setLc (spos := spos) (pos := pos) (py := pz) (g := tG X.K sl T) (tt := tT X.K W0 C) (te := tE X.K W0 E) hc hN hz hzl hsw (pi_keys (tg := tg) hi) ok hg ht he hs
  refine PS.weak (PS.or (ps_lock base) base) fun Dn σ H ⟨B, G, δ, r, δ', a, e0, post0⟩ => ?_
  -- the comprehension, then the store
  have key : tO X.K W (eLc (iKy i) T C E (own.map (·.2))) σ H (fun v H1 => gName j v σ H1 Dn.nx) := by
    refine tO_bindS a e0 post0 fun v H1 G1 δ1 d a1 x1 r1 e2 post => ?_
    obtain ⟨w1, w2, w3, w4⟩ := r1
    rcases unit_bind e2 with ⟨q, rfl⟩ | ⟨x, q, rfl⟩
    · unfold gO at q
      split at q
      · cases q
        exact post G1 _ H1 (a1.setOwn w1 w4 w2 w3 j) (Ext.refl _)
      · cases q
    · unfold gO at q; split at q <;> cases q
  obtain ⟨B, G, δ, r, δ', a, e1, post⟩ := key
  obtain ⟨G1, δ1, d, v, ks, a1, x1, h1, h2, h3, e2⟩ := iKy_ok a e1
  obtain ⟨ad, u, L⟩ := lockAt_of a1 h1 h2 h3
  have hr : ∃ d, r = .ok d := by
    split at e2
    · exact lcM_good e2
    · cases e2
  obtain ⟨w, rfl⟩ := hr
  have post := Post.mono post x1
  rcases L.two with ⟨hu, mu⟩ | ⟨od, hu⟩
  · refine .inl ⟨ad, u, hu, mu, fun od => show tLc (iKeys (tVar i)) (tG X.K sl T) (tT X.K W0 C) (tE X.K W0 E) (own.map (·.2)) σ (upd H ad (.frz od u)) (fun v H' => H' ad = some (.frz od u) ∧ Dn.nx (σ.set j (some v)) (upd H' ad u)) from L.walk upd_same fun J yl => tLc_at (W := W) (Q := fun v H' => H' ad = some (.frz od u) ∧ Dn.nx (σ.set j (some v)) (upd H' ad u)) (H1 := upd H ad (.frz od u)) hsl (a1.lock L.g L.hd (.inl hu) (fun b hb => upd_ne hb) upd_same) yl e2 ?_⟩
    exact post_lockO (Q := fun v H1 => gName j v σ H1 Dn.nx) (Q' := fun v H' => H' ad = some (.frz od u) ∧ Dn.nx (σ.set j (some v)) (upd H' ad u)) a1 L.g L.hd (.inl hu) (fun H' => upd H' ad u) (fun H' b hb => upd_ne hb) (fun H' _ => by rw [upd_same, hu]) (fun _ _ q z => ⟨q, z⟩) post
  · refine .inr (show tLc (iKeys (tVar i)) (tG X.K sl T) (tT X.K W0 C) (tE X.K W0 E) (own.map (·.2)) σ H (fun v H1 => gName j v σ H1 Dn.nx) from L.walk hu fun J yl => tLc_at (W := W) (Q := fun v H1 => gName j v σ H1 Dn.nx) (H1 := H) hsl (a1.lock L.g L.hd (.inr hu) (fun b hb => rfl) hu) yl e2 ?_)
    exact post_lockO (Q := fun v H1 => gName j v σ H1 Dn.nx) (Q' := fun v H1 => gName j v σ H1 Dn.nx) a1 L.g L.hd (.inr hu) (fun H' => H') (fun H' b hb => rfl) (fun H' q => by rw [q, hu]) (fun _ _ _ z => z) post
def eD0 (d : D) : Mo D := Mo.ret d
theorem do_new0T : DO X W (.Dict [] [] pos) (eD0 (.dT [])) := PE.weak pe_dnewT fun σ H Q ⟨B, G, δ, r, δ', a, e1, post⟩ p hp => by
  cases e1
  obtain ⟨b1, b2⟩ := a.own1 (p := p) (o := .dT []) hp (.dT (kvs := []) (ds := []) upd_same (Nat.zero_le _) rfl .nil)
  exact post G _ b1 (Ext.refl _) p b2
theorem do_new0K : DO X W (.Dict [] [] pos) (eD0 (.dK [])) := PE.weak pe_dnewK fun σ H Q ⟨B, G, δ, r, δ', a, e1, post⟩ p hp => by
  cases e1
  obtain ⟨b1, b2⟩ := a.own1 (p := p) (o := .dK []) hp (.dK (kvs := []) (ds := []) upd_same (Nat.zero_le _) rfl .nil)
  exact post G _ b1 (Ext.refl _) p b2
end
end M
set_option Elab.async false
set_option linter.all false
set_option maxRecDepth 100000
set_option maxHeartbeats 1000000
namespace M
open PySem L2 PySem.Spec PyProof.Rows
def pairLe (p q : Int × Int) : Bool := decide (p.1 < q.1 ∨ (p.1 = q.1 ∧ p.2 ≤ q.2))
def sortP (ps : List (Int × Int)) : List (Int × Int) := ps.mergeSort pairLe
def fSortP : List D → Option D
  | [.lst l] => (pairsD l).map fun ps => .lst ((sortP ps).map pD)
  | _ => none
theorem pairLe_tr : ∀ a b c : Int × Int, pairLe a b = true → pairLe b c = true → pairLe a c = true := fun a b c h1 h2 => by
  unfold pairLe at *
  rw [decide_eq_true_eq] at *
  omega
theorem pairLe_total : ∀ a b : Int × Int, (pairLe a b || pairLe b a) = true := fun a b => by
  unfold pairLe
  rw [Bool.or_eq_true, decide_eq_true_eq, decide_eq_true_eq]
  omega
theorem pairLe_anti {a b : Int × Int} (h1 : pairLe a b = true) (h2 : pairLe b a = true) : a = b := by
  unfold pairLe at *
  rw [decide_eq_true_eq] at *
  obtain ⟨x, y⟩ := a
  obtain ⟨z, w⟩ := b
  simp only at *
  have e1 : x = z := by omega
  have e2 : y = w := by omega
  rw [e1, e2]
theorem sortP_uniq {ps qs : List (Int × Int)} (hp : qs.Perm ps) (hs : qs.Pairwise (fun a b => pairLe a b = true)) : qs = sortP ps :=
  (hp.trans (List.mergeSort_perm ps pairLe).symm).eq_of_pairwise (fun a b _ _ x y => pairLe_anti x y) hs (List.pairwise_mergeSort (fun a b c => pairLe_tr a b c) (fun a b => pairLe_total a b) ps)
theorem sortP_len (ps : List (Int × Int)) : (sortP ps).length = ps.length := by unfold sortP; rw [List.length_mergeSort]
/-- what stands at an address -/
def cellAt (G : Hp) : V → Int × Int
  | .ref a => match G a with
    | some (.tup [.int x, .int y]) => (x, y)
    | _ => (0, 0)
  | _ => (0, 0)
theorem cellAt_of {K : PySem.W.Frag} {G : Hp} {v : V} {p : Int × Int} (r : R K G v (pD p)) : cellAt G v = p := by
  obtain ⟨a, rfl, h⟩ := pD_ref r
  unfold cellAt
  simp only [h]
theorem cells_map {K : PySem.W.Frag} {G : Hp} : ∀ {vs : List V} {ps : List (Int × Int)}, RL K G vs (ps.map pD) → vs.map (cellAt G) = ps ∧ ∀ v ∈ vs, R K G v (pD (cellAt G v))
  | [], [], _ => ⟨rfl, fun v h => by simp at h⟩
  | v :: vs, p :: ps, h => by
    rw [List.map_cons] at h
    cases h with
    | cons h1 h2 =>
      obtain ⟨e1, e2⟩ := cells_map h2
      have e := cellAt_of h1
      refine ⟨by rw [List.map_cons, e, e1], fun w hw => ?_⟩
      rcases List.mem_cons.mp hw with rfl | hw
      · rw [e]; exact h1
      · exact e2 w hw
  | [], p :: ps, h => by rw [List.map_cons] at h; cases h
  | v :: vs, [], h => by cases h
theorem rl_cells {K : PySem.W.Frag} {G : Hp} : ∀ {vs : List V}, (∀ v ∈ vs, R K G v (pD (cellAt G v))) → RL K G vs ((vs.map (cellAt G)).map pD)
  | [], _ => .nil
  | v :: vs, h => .cons (h v List.mem_cons_self) (rl_cells fun w hw => h w (List.mem_cons_of_mem _ hw))
section
variable {X : Cx} {W : WK} {x : Str} {e : Expr} {es : List Expr} {A : Mo (List Ag)} {p pos : Pos}
theorem snd_sortP : SndFO X.K fSortP (rSortedPO X.K) := fun B G H δ σ xs as d Q at' rx h k => by
  unfold fSortP at h
  split at h
  · rename_i l
    cases q : pairsD l with
    | none => rw [q] at h; cases h
    | some ps =>
      rw [q] at h
      cases h
      have hx := pairsD_some q
      subst hx
      obtain ⟨v, rfl, rv⟩ := rl1 rx
      cases rv with
      | lst g hl rl =>
        obtain ⟨c1, c2⟩ := cells_map rl
        refine ⟨_, _, cellAt G, rfl, SqL.of (at'.vw.lst g), fun v hv => ?_, fun ys a hs hst ha => ?_⟩
        · obtain ⟨t, e1, e2⟩ := pD_ref (c2 v hv)
          exact ⟨t, e1, at'.vw.tup e2⟩
        · have hp : ys.Perm _ := hst.perm
          have e1 : (ys.map (cellAt G)) = sortP ps := by
            refine sortP_uniq (by rw [← c1]; exact hp.map _) ?_
            rw [List.pairwise_map]
            refine List.Pairwise.imp (fun {a b} hab => ?_) hs
            have hab : L2.ltP (cellAt G) b a = false := hab
            have hn : ¬ SrtO.lexB (cellAt G b) (cellAt G a) = true := by
              have hab : SrtO.lexB (cellAt G b) (cellAt G a) = false := hab
              rw [hab]; simp
            rw [SrtO.lexB_iff] at hn
            unfold pairLe
            rw [decide_eq_true_eq]
            omega
          have r2 : RL X.K G ys ((sortP ps).map pD) := by
            rw [← e1]; exact rl_cells fun v hv => c2 v (hp.mem_iff.mp hv)
          obtain ⟨b1, b2⟩ := at'.own1 (p := a) (o := .lst ys) ha (.lst upd_same (by rw [hp.length_eq]; exact hl) r2)
          exact k a _ _ b1 (Ext.refl _) b2
  · cases h
theorem do_sortP (hg : Gl X x) (hm : X.mg x = none) (hv : bootBuiltins x = some (.builtin "sorted")) (ha : DA X W (e :: es) A) (hn : x ≠ "__name__" := by decide) (hdb : (x == ("__debug__" : Str)) = false := by decide)
    (he : starEach (e :: es) X.env = (false, eval e X.env) :: starEach es X.env := by rfl) (hpl : (backTo pos (starEach es X.env)).any (·.1) = false := by rfl) : DO X W (.Call (.Name x p) (e :: es) [] pos) (eF fSortP A) :=
  do_tCB snd_sortP (pe_callB cr_sortedPO hg hm hv ha hn hdb he hpl)
end
section
variable {X : Cx}
theorem setT_run {pins : List (Addr × Obj)} {σ : St} {H : Hp} {s : Shared} {E : Value → Shared → Prop} {Dd kb : Addr} {kvs : List (List Key × V)} {k : List Key} {v : V} {r : Value} {Q : Unit → Shared → Prop} (hu : X.A.units < cLine) (I : Inv X pins σ H s) (hD : H Dd = some (.dT kvs)) (hk : H kb = some (.tup (k.map kV)))
    (hz : kvs.length < sizeLine) (rv : RelV v r) (h : ∀ s', Inv X pins σ (upd H Dd (.dT (putK kvs k v))) s' → Q () s') : wpAny (model X.prog X.w) X.A (dictSet Dd (.ref kb) r) Q E s := by
  obtain ⟨z0, ns, xs, kt, dd⟩ := dt_of I.hok hD
  have zx : xs.length ≤ sizeLine := by rw [← Paired.length kt]; exact z0
  have zp : (putK kvs k v).length ≤ sizeLine := Nat.le_trans (length_putK kvs k v) hz
  refine wpAny_dictSet_heap (hsz := zx) (show (tupleKind (mixKind X.prog X.w)).room X.A from hu) (key_of I.hok hk) dd fun g dd2 sb => h _ ?_
  obtain ⟨ob, es, ep, y1, y2, y3, y4, _, y5⟩ := dd2
  have mu : Mut (H Dd) := by rw [hD]; trivial
  refine d_write I mu sb ⟨ob, y1⟩ ⟨zp, ns, _, (kt.put k hk rv).keeps fun cc ys ec => ?_, ob, es, ep, y1, y2, y3, y4, y5⟩
  have cn : cc ≠ Dd := fun z => by rw [z, hD] at ec; cases ec
  rw [upd_ne cn]; exact ec
/-- as tDc, the keys tuples -/
def tDcT (wi : TI) (g : TG) (tt : TT) (tk tv : TE) (vs : List Nat) : TE := fun σ H Q => wi σ H fun J H1 => ∀ Dd, H1 Dd = none → ∃ Wv : Nat → Nat → Hp → Prop, (∃ m, Wv 0 m (upd H1 Dd (.dT []))) ∧ ∀ i m H, Wv i m H →
  (J.stop i H ∧ Q (.ref Dd) H) ∨ (J.go i H ∧ ∃ Nx : Hp → Prop, (∀ H', Nx H' → ∃ m', m' < m ∧ Wv (i + 1) m' H') ∧ ∀ x H', J.yld i H x H' → g x (wipe σ vs) H' fun σ2 H2 => wipe σ2 vs = wipe σ vs ∧ tt σ2 H2 fun b H3 =>
    if b = true then tk σ2 H3 fun y H4 => tv σ2 H4 fun z H5 => ∃ kvs k kb, y = .ref kb ∧ H5 kb = some (.tup (k.map kV)) ∧ H5 Dd = some (.dT kvs) ∧ kvs.length < sizeLine ∧ Nx (upd H5 Dd (.dT (putK kvs k z))) else Nx H3)
variable {pins : List (Addr × Obj)} {s : Shared} {σ : St} {H : Hp} {Q : VK} {kx vx tg iter : Expr} {ifs : List Expr} {scope : Scope} {own : List (Str × Nat)} {pos pos' : Pos} {wi : TI} {g : TG} {tt : TT} {tk tv : TE} {use : Option (Value → Sem Unit)} {Qf : Value → Shared → Prop}
theorem dcT_run (hu : X.A.units < cLine) (hc : X.calm = true) (hN : X.N.Nodup) (I : Inv X pins σ H s) (hi : PI X tg iter wi) (ok : BlkOk X.N X.env.scope scope own)
    (hg : ∀ (s : Shared) (H : Hp) (Ca : Addr) (cl : List (Str × Addr)) (fp : List Addr), PG (X.blk s H scope (compEnvC scope cl Ca X.env) fp) tg g) (ht : ∀ (s : Shared) (H : Hp) (Ca : Addr) (cl : List (Str × Addr)) (fp : List Addr), PTs (X.blk s H scope (compEnvC scope cl Ca X.env) fp) ifs tt)
    (hk : ∀ (s : Shared) (H : Hp) (Ca : Addr) (cl : List (Str × Addr)) (fp : List Addr), PE (X.blk s H scope (compEnvC scope cl Ca X.env) fp) kx tk)
    (hv : ∀ (s : Shared) (H : Hp) (Ca : Addr) (cl : List (Str × Addr)) (fp : List Addr), PE (X.blk s H scope (compEnvC scope cl Ca X.env) fp) vx tv) (hs : ∀ x, foldedSetIterable iter X.env x = pure x) (h : tDcT wi g tt tk tv (own.map (·.2)) σ H Q)
    (fin : ∀ Dd Ca s' m H', Inv X pins σ H' s' → Q (.ref Dd) H' → s'.heap.Ns Ca m → FpOk X pins H' Ca → compPost (model X.prog X.w) X.A X.xe use Qf (.ref Dd) Ca (.ok .next) s') :
    wpAny (model X.prog X.w) X.A (comprehension (.DictComp kx vx [⟨tg, iter, ifs, 0⟩] scope pos) scope X.env pos' newDict false (eval iter X.env) use) Qf X.xe s := by
  have caught : ∀ y ∈ scope.names, y.2 = .free → ∃ c, X.env.cells.lookup y.1 = some c := fun y hy e => (ok.free y hy e).elim (fun z => I.ok.has _ (.inl z)) fun z => I.ok.has _ (.inr z)
  have uniq : ∀ y ∈ scope.names, y.2 = .local → scope.names.lookup y.1 = some .local := fun y hy e => by rw [ok.uniq y hy, e]
  refine wpAny_comprehension_free (use := use) rfl hs (closure_ok caught) ok.kind uniq (thn (hi.run pins s σ H _ I h) fun _ _ a1 => thn a1 fun _ t1 a2 => ?_)
  obtain ⟨it, fp, tn, J, Ha, rfl, Ia, tu, tna, fpa, start⟩ := a2
  refine wpAny_newObj_type ?_
  obtain ⟨Dd, eD⟩ : ∃ Dd, t1.heap.objs.size = Dd := ⟨_, rfl⟩
  obtain ⟨Wv, ⟨m0, w0⟩, turn⟩ := start Dd (Ia.hok.fresh (Nat.le_of_eq eD))
  rw [eD]
  obtain ⟨t2, et2⟩ : ∃ t2 : Shared, { t1 with heap := t1.heap.push { cls := .type "dict", data := .dict #[] } } = t2 := ⟨_, rfl⟩
  rw [et2]
  refine newEnv_comp ?_
  have grow2 : ∀ b o, t1.heap.get? b = some o → t2.heap.get? b = some o := fun b o e => by rw [← et2]; exact Heap.get?_push_of_some _ e
  have size2 : t2.heap.objs.size = t1.heap.objs.size + 1 := by rw [← et2]; exact Heap.size_push ..
  obtain ⟨Hb, eHb⟩ : ∃ Hb, upd Ha Dd (.dT []) = Hb := ⟨_, rfl⟩
  have Ib : Inv X pins σ Hb t2 := by
    rw [← eHb, ← et2, ← eD]
    refine Ia.laid (t' := t1.toks) (fun b o e => Heap.get?_push_of_some _ e) (Nat.le_refl _) ?_
    have big := Ia.big
    have ns : (t1.heap.objs.size == sysModules) = false := by
      have : t1.heap.objs.size ≠ sysModules := Nat.ne_of_gt big
      simpa using this
    exact ⟨Nat.zero_le _, ns, [], .nil, _, _, _, Heap.get?_push_size _ rfl, ⟨rfl, rfl, rfl⟩, rfl, rfl, List.nodup_nil⟩
  have fpLt : ∀ b ∈ fp, b < t1.heap.objs.size := fun b hb => by
    obtain ⟨_, e, _⟩ := tu.obj _ _ tna b hb
    exact Heap.lt_size e
  have fpb : ∀ b ∈ fp, FpOk X pins Hb b ∧ b < t2.heap.objs.size := fun b hb => by
    have lt := fpLt b hb
    refine ⟨⟨?_, (fpa b hb).2⟩, by rw [size2]; exact Nat.lt_succ_of_lt lt⟩
    rw [← eHb, upd_ne (by rw [← eD]; exact Nat.ne_of_lt lt)]
    exact (fpa b hb).1
  have tnb : tn 0 t2.heap := tu.keep _ _ _ tna fun b _ o e => grow2 b o e
  have Ic := block_start Ib ok hN fpb
  obtain ⟨Ca, eC⟩ : ∃ Ca, t2.heap.objs.size = Ca := ⟨_, rfl⟩
  obtain ⟨cl, ecl⟩ : ∃ cl, cellsFrom (t2.heap.objs.size + 1) scope.names (cloFrom X.env.cells scope.names []) = cl := ⟨_, rfl⟩
  have Rg := hg t2 Hb Ca cl fp
  have Rt := ht t2 Hb Ca cl fp
  have Rk := hk t2 Hb Ca cl fp
  have Rv := hv t2 Hb Ca cl fp
  rw [ecl, eC] at Ic
  show codeAny _ _ (.compStart (.DictComp kx vx [⟨tg, iter, ifs, 0⟩] scope pos) 0 (.ref it) (.ref Dd) (compEnvC scope (cellsFrom (t2.heap.objs.size + 1) scope.names (cloFrom X.env.cells scope.names [])) t2.heap.objs.size X.env))
    (compPost (model X.prog X.w) X.A X.xe use Qf (.ref Dd) t2.heap.objs.size) { t2 with heap := pushCells (t2.heap.push { cls := .type "dict", data := .dict #[] }) scope.names }
  rw [ecl, eC]
  obtain ⟨t3, et3⟩ : ∃ t3 : Shared, { t2 with heap := pushCells (t2.heap.push { cls := .type "dict", data := .dict #[] }) scope.names } = t3 := ⟨_, rfl⟩
  rw [et3] at Ic ⊢
  have tnc : tn 0 t3.heap := tu.keep _ _ _ tnb fun b _ o e => by
    rw [← et3]
    exact pushCells_keeps _ _ _ _ (Heap.get?_push_of_some _ e)
  obtain ⟨ce, ece⟩ : ∃ ce, compEnvC scope cl Ca X.env = ce := ⟨_, rfl⟩
  have ceL : ce.locals = Ca := by rw [← ece]; rfl
  rw [ece] at Rg Rt Rk Rv Ic ⊢
  let Y : Cx := X.blk t2 Hb scope ce fp
  have fpY : ∀ {σ' : St} {H' : Hp} {s' : Shared}, Inv Y [] σ' H' s' → (∀ b ∈ fp, H' b = none) → ∀ b ∈ fp, FpOk Y [] H' b := fun {_ _ _} I' no b hb =>
    ⟨no b hb, (I'.ok.exf b hb).1, I'.ok.exfs b hb, .inl hb, fun x c e => (I'.ok.exf b hb).2 x c e, fun p hp => by cases hp⟩
  have noB : ∀ b ∈ fp, Hb b = none := fun b hb => (fpb b hb).1.1
  have LOOP : codeAny (model X.prog X.w) X.A (.compLoop (.DictComp kx vx [⟨tg, iter, ifs, 0⟩] scope pos) 0 (.ref it) (.ref Dd) ce) (compPost (model X.prog X.w) X.A X.xe use Qf (.ref Dd) Ca) t3 := by
    refine compLoop_anyD (fun n s' => ∃ i H', Inv Y [] (wipe σ (own.map (·.2))) H' s' ∧ tn i s'.heap ∧ (∀ b ∈ fp, H' b = none) ∧ Wv i n H') ?_ m0 ⟨0, Hb, Ic, tnc, noB, by rw [← eHb]; exact w0⟩
    rintro n u0 ⟨i, H0, I0, n0, no0, wv0⟩
    rcases turn i n H0 wv0 with ⟨hstop, hQ⟩ | ⟨hgo, Nx, back, step⟩
    · refine thnF (tu.done Y rfl rfl rfl hc i [] u0 _ H0 (fun _ _ => False) I0 (fpY I0 no0) n0 hstop) fun r u1 z1 => ?_
      obtain ⟨rfl, I1⟩ := z1
      have Iout : Inv X pins σ H0 u1 := Ib.call' (ch := fp) I1.os I1.base I1.hok I1.bare fun b hb => by
        obtain ⟨_, q1, q2, q3, q4, q5⟩ := (fpb b hb).1
        exact ⟨q3, q1, q4, q5⟩
      have noC : H0 Ca = none := by rw [← ceL]; exact I1.free
      obtain ⟨mm, hns, _⟩ := I1.loc
      have hns : u1.heap.Ns Ca mm := by rw [← ceL]; exact hns
      exact fin Dd Ca u1 mm H0 Iout hQ hns (Ib.fpOk (Nat.le_of_eq eC) noC)
    · refine thnF (tu.item Y rfl rfl rfl hc i [] u0 _ H0 (fun _ _ => False) I0 (fpY I0 no0) n0 hgo) fun r u1 z1 => ?_
      obtain ⟨xu, rfl, z1⟩ := z1
      refine thnF z1 fun _ u2 ⟨x, H2, I2, rx, yx, n2, no2⟩ => ?_
      have J2 := I2.pinned (fpY I2 no2) (tu.obj _ _ n2)
      refine thnF (Rg.run _ u2 _ H2 x xu _ J2 rx (step x H2 yx)) fun _ u3 ⟨σ3, H3, I3, hw3, q3⟩ => ?_
      have close : ∀ {s' : Shared} {H' : Hp}, Inv Y ([] ++ pinsAt fp u2.heap) σ3 H' s' → Nx H' → ∃ m, m < n ∧ ∃ i H', Inv Y [] (wipe σ (own.map (·.2))) H' s' ∧ tn i s'.heap ∧ (∀ b ∈ fp, H' b = none) ∧ Wv i m H' := fun {s' H'} I' nx => by
        obtain ⟨m', lt', wv'⟩ := back H' nx
        have pinned : ∀ b ∈ fp, ∀ o, u2.heap.get? b = some o → s'.heap.get? b = some o ∧ H' b = none := fun b hb o e => by
          have zz := I'.pin (b, o) (List.mem_append_right _ (List.mem_append_right _ (mem_pinsAt hb e)))
          exact ⟨zz.1, zz.2.1⟩
        have ln : (wipe σ (own.map (·.2))).length = σ3.length := by rw [← hw3, wipe_length]
        refine ⟨m', lt', i + 1, H', (I'.unpinned (pins := [])).weak ln fun j v e => ?_, tu.keep _ _ _ n2 fun b hb o e => (pinned b hb o e).1, fun b hb => ?_, wv'⟩
        · rw [← hw3] at e; exact (wipe_some e).1
        · obtain ⟨o, e, _⟩ := tu.obj _ _ n2 b hb
          exact (pinned b hb o e).2
      refine thnF (Rt.run _ u3 σ3 H3 _ I3 q3) fun bb u4 ⟨H4, I4, q4⟩ => ?_
      cases bb with
      | false => exact close I4 q4
      | true =>
        refine thnF (Rk.run _ u4 σ3 H4 _ I4 q4) fun zk u5 ⟨yk, H5, I5, rk, q5⟩ => thnF (Rv.run _ u5 σ3 H5 _ I5 q5) fun zv u6 ⟨yv, H6, I6, rv, kvs, k, kb, ek, hkb, hD6, hz6, nx⟩ => ?_
        subst ek
        obtain rfl : zk = Value.ref kb := rk
        exact setT_run (X := Y) hu I6 hD6 hkb hz6 rv fun u7 I7 => close I7 nx
  exact codeAny_compStart_dict LOOP (tu.self X.A 0 _ _ _ tnc LOOP)
end
/-- a tuple as a key -/
def keyT : D → Option (List Key)
  | .tup l => keysK l
  | _ => none
theorem keyT_ok {K : PySem.W.Frag} {G : Hp} {v : V} {d : D} {k : List Key} (r : R K G v d) (h : keyT d = some k) : ∃ b, v = .ref b ∧ G b = some (.tup (k.map kV)) := by
  cases r with
  | tup g l rl =>
    have hx := keysK_ok rl h
    subst hx
    exact ⟨_, rfl, g⟩
  | _ => cases h
def dcTM (T : D → Mo Unit) (C : Mo Bool) (Ek Ev : Mo D) (vs : List Nat) : List D → List (List Key × D) → Mo D
  | [], acc => fun δ => some (.ok (.dT acc), δ)
  | d :: ds, acc => fun δ => match T d δ with
    | some (.ok (), δ1) => match C δ1 with
      | some (.ok true, δ2) => match Ek δ2 with
        | some (.ok k, δ3) => match Ev δ3 with
          | some (.ok v, δ4) => match keyT k with
            | some kk => dcTM T C Ek Ev vs ds (putA acc kk v) (wipeE δ4 vs)
            | none => none
          | _ => none
        | _ => none
      | some (.ok false, δ2) => dcTM T C Ek Ev vs ds acc (wipeE δ2 vs)
      | _ => none
    | _ => none
def eDcT (I : Mo (List D)) (T : D → Mo Unit) (C : Mo Bool) (Ek Ev : Mo D) (vs : List Nat) : Mo D := I.bind fun ds => fun δ => if ds.length < sizeLine then dcTM T C Ek Ev vs ds [] (wipeE δ vs) else none
section
variable {K : PySem.W.Frag} {W : WK} {I : Mo (List D)} {sl vs : List Nat} {T : D → Mo Unit} {C : Mo Bool} {E Ek Ev : Mo D} {σ : St} {H : Hp} {Q : VK}
theorem kvpT_mono {G G' : Hp} (e : Ext G G') {kvs : List (List Key × V)} {ds : List (List Key × D)} (h : KVP K G kvs ds) : KVP K G' kvs ds := Paired.mapP h fun _ _ z => ⟨z.1, z.2.mono e⟩
theorem tDcT_at {B : Bs} {G1 H1 : Hp} {δ1 δ' : Env} {J : It} {ds : List D} {r : Except Exn D} (hsl : ∀ j ∈ sl, j ∈ vs) (a1 : At K B G1 δ1 σ H1) (yl : Yl K B J G1 ds) (e2 : (if ds.length < sizeLine then dcTM T C Ek Ev vs ds [] (wipeE δ1 vs) else none) = some (r, δ')) (post : Post K W B G1 σ r δ' (fun d G' H' => ∀ p, Fr1 K B G' δ' σ H' p d → Q (.ref p) H')) : tDcT (wiJ J) (tG K sl T) (tT K W0 C) (tE K W0 Ek) (tE K W0 Ev) vs σ H1 Q := by
  intro D1 hD
  split at e2
  · rename_i hlen
    have b0 := a1.fresh0 hD
    have ot := a1.out1 b0 (a1.vw.none hD)
    refine ⟨fun i m H2 => m + i = ds.length ∧ ∃ G2 δ2 acc xs, At K B G2 δ2 (wipe σ vs) H2 ∧ Ext G1 G2 ∧ H2 D1 = some (.dT xs) ∧ KVP K G2 xs acc ∧ xs.length ≤ i ∧ G2 D1 = none ∧ (∀ j, ¬ OwnAt δ2 (wipe σ vs) j D1) ∧ (∀ j ∈ vs, ∀ s, δ2[j]? = some s → s = .no) ∧ dcTM T C Ek Ev vs (ds.drop i) acc δ2 = some (r, δ'),
      ⟨ds.length, by omega, G1, wipeE δ1 vs, [], [], (a1.alloc hD).wipe vs, Ext.refl _, upd_same, .nil, Nat.zero_le _, a1.vw.none hD, (a1.wipe vs).noOwn hD, wipeE_no, e2⟩, ?_⟩
    rintro i m H2 ⟨hm, G2, δ2, acc, xs, a2, x2, hx, rx, hxl, g2, no2, hno, e3⟩
    by_cases hi : ds.length ≤ i
    · refine .inl ⟨(yl B G2 H2 δ2 _ (BLe.refl B) a2 x2 i).2 hi, ?_⟩
      rw [List.drop_eq_nil_of_le hi] at e3
      cases e3
      have a3 := a2.unwipe hno
      refine post G2 H2 a3 x2 D1 ⟨g2, b0, fun j z => ?_, .dT hx (by omega) (kvp_keys rx) (kvp_vals rx)⟩
      obtain ⟨⟨d, z1⟩, z2⟩ := z
      by_cases c : j ∈ vs
      · rcases z1 with z1 | z1
        · cases hno j c _ z1
        · cases hno j c _ z1
      · exact no2 j ⟨⟨d, z1⟩, by rw [wipe_out c]; exact z2⟩
    · have hlt : i < ds.length := by omega
      have a2' := a2.add nt_dT hx g2 no2
      obtain ⟨y1, _⟩ := yl (B.add D1 (.dT xs)) G2 H2 δ2 _ (BLe.add b0) a2' x2 i
      obtain ⟨gg1, gg2⟩ := y1 ds[i] (List.getElem?_eq_getElem hlt)
      rw [List.drop_eq_getElem_cons hlt] at e3
      refine .inr ⟨gg1, fun H' => ∃ m', m' < m ∧ (m' + (i + 1) = ds.length ∧ ∃ G2 δ2 acc xs, At K B G2 δ2 (wipe σ vs) H' ∧ Ext G1 G2 ∧ H' D1 = some (.dT xs) ∧ KVP K G2 xs acc ∧ xs.length ≤ i + 1 ∧ G2 D1 = none ∧ (∀ j, ¬ OwnAt δ2 (wipe σ vs) j D1) ∧ (∀ j ∈ vs, ∀ s, δ2[j]? = some s → s = .no) ∧ dcTM T C Ek Ev vs (ds.drop (i + 1)) acc δ2 = some (r, δ')), fun H' z => z, fun x H' hy => ?_⟩
      obtain ⟨rfl, G3, a3, x3, r3⟩ := gg2 x H' hy
      unfold dcTM at e3
      cases q : T ds[i] δ2 with
      | none => simp only [q] at e3; cases e3
      | some z =>
        obtain ⟨u, δ3⟩ := z
        cases u with
        | error u => simp only [q] at e3; cases e3
        | ok u =>
          simp only [q] at e3
          refine ⟨B.add D1 (.dT xs), G3, δ2, ds[i], δ3, a3, r3, q, fun σ4 a4 oa => ?_⟩
          have hw : wipe σ4 vs = wipe σ vs := wipe_eq (oa.1.trans (wipe_length _ _)) fun j hj => oa.2 j fun c => hj (hsl j c)
          refine ⟨hw, ?_⟩
          have fin : ∀ {G5 H5 δ5 ys acc'}, At K (B.add D1 (.dT xs)) G5 δ5 σ4 H5 → Ext G3 G5 → KVP K G5 ys acc' → ys.length ≤ i + 1 → dcTM T C Ek Ev vs (ds.drop (i + 1)) acc' (wipeE δ5 vs) = some (r, δ') → ∃ m', m' < m ∧ (m' + (i + 1) = ds.length ∧ ∃ G2 δ2 acc xs, At K B G2 δ2 (wipe σ vs) (upd H5 D1 (.dT ys)) ∧ Ext G1 G2 ∧ (upd H5 D1 (.dT ys)) D1 = some (.dT xs) ∧ KVP K G2 xs acc ∧ xs.length ≤ i + 1 ∧ G2 D1 = none ∧ (∀ j, ¬ OwnAt δ2 (wipe σ vs) j D1) ∧ (∀ j ∈ vs, ∀ s, δ2[j]? = some s → s = .no) ∧ dcTM T C Ek Ev vs (ds.drop (i + 1)) acc δ2 = some (r, δ')) := fun {G5 H5 δ5 ys acc'} a5 x5 r5 l5 e5 => by
            obtain ⟨h1, h2, h3, h4⟩ := (a5.wipe' hw).drop ot nt_dT
            exact ⟨m - 1, by omega, by omega, G5, wipeE δ5 vs, acc', ys, h4 _, (x2.trans x3).trans x5, upd_same, r5, l5, h2, h3, wipeE_no, e5⟩
          cases qc : C δ3 with
          | none => simp only [qc] at e3; cases e3
          | some z =>
            obtain ⟨u, δ4⟩ := z
            cases u with
            | error u => simp only [qc] at e3; cases e3
            | ok b =>
              refine ⟨_, G3, δ3, .ok b, δ4, a4, qc, fun G4 H4 a5 x5 => ?_⟩
              cases b with
              | false =>
                simp only [qc] at e3
                rw [if_neg Bool.false_ne_true]
                have f := fin a5 x5 (kvpT_mono (x3.trans x5) rx) (by omega) e3
                have hk := (a5.drop ot nt_dT).1
                have : upd H4 D1 (.dT xs) = H4 := by
                  funext b; by_cases c : b = D1
                  · subst c; rw [upd_same, hk]
                  · rw [upd_ne c]
                rw [this] at f; exact f
              | true =>
                simp only [qc] at e3
                rw [if_pos rfl]
                cases qe : Ek δ4 with
                | none => simp only [qe] at e3; cases e3
                | some z =>
                  obtain ⟨u, δ5⟩ := z
                  cases u with
                  | error u => simp only [qe] at e3; cases e3
                  | ok kd =>
                    simp only [qe] at e3
                    refine ⟨_, G4, δ4, .ok kd, δ5, a5, qe, fun G6 H6 a6 x6 y ry => ?_⟩
                    cases qv : Ev δ5 with
                    | none => simp only [qv] at e3; cases e3
                    | some z =>
                      obtain ⟨u, δ6⟩ := z
                      cases u with
                      | error u => simp only [qv] at e3; cases e3
                      | ok vd =>
                        simp only [qv] at e3
                        cases qk : keyT kd with
                        | none => simp only [qk] at e3; cases e3
                        | some kk =>
                          simp only [qk] at e3
                          refine ⟨_, G6, δ5, .ok vd, δ6, a6, qv, fun G7 H7 a7 x7 v rv => ?_⟩
                          obtain ⟨kb, rfl, hkb⟩ := keyT_ok ry qk
                          refine ⟨xs, kk, kb, rfl, a7.vw.tup (x7 _ _ hkb), (a7.drop ot nt_dT).1, by omega, ?_⟩
                          have := length_putK xs kk v
                          exact fin a7 (x5.trans (x6.trans x7)) (kvp_put (kvpT_mono (x3.trans (x5.trans (x6.trans x7))) rx) kk rv) (by omega) e3
  · cases e2
theorem tDcT_ok (hsl : ∀ j ∈ sl, j ∈ vs) (q : tO K W (eDcT I T C Ek Ev vs) σ H Q) : tDcT (tI K W I) (tG K sl T) (tT K W0 C) (tE K W0 Ek) (tE K W0 Ev) vs σ H Q := by
  obtain ⟨B, G, δ, r, δ', a, e1, post⟩ := q
  exact tI_bind a e1 post fun J H1 G1 δ1 ds a1 x1 yl e2 post => tDcT_at hsl a1 yl e2 post
end
section
variable {X : Cx} {W : WK} {kx vx tg iter : Expr} {ifs : List Expr} {scope : Scope} {own : List (Str × Nat)} {pos p : Pos} {I : Mo (List D)} {sl : List Nat} {T : D → Mo Unit} {C : Mo Bool} {Ek Ev : Mo D} {i : Nat} {y : Str}
theorem pe_dcT {wi : TI} {g : TG} {tt : TT} {tk tv : TE} (hu : X.A.units < cLine) (hc : X.calm = true) (hN : X.N.Nodup) (hi : PI X tg iter wi) (ok : BlkOk X.N X.env.scope scope own)
    (hg : ∀ (s : Shared) (H : Hp) (Ca : Addr) (cl : List (Str × Addr)) (fp : List Addr), PG (X.blk s H scope (compEnvC scope cl Ca X.env) fp) tg g) (ht : ∀ (s : Shared) (H : Hp) (Ca : Addr) (cl : List (Str × Addr)) (fp : List Addr), PTs (X.blk s H scope (compEnvC scope cl Ca X.env) fp) ifs tt)
    (hk : ∀ (s : Shared) (H : Hp) (Ca : Addr) (cl : List (Str × Addr)) (fp : List Addr), PE (X.blk s H scope (compEnvC scope cl Ca X.env) fp) kx tk)
    (he : ∀ (s : Shared) (H : Hp) (Ca : Addr) (cl : List (Str × Addr)) (fp : List Addr), PE (X.blk s H scope (compEnvC scope cl Ca X.env) fp) vx tv) (hs : ∀ x, foldedSetIterable iter X.env x = pure x) :
    PE X (.DictComp kx vx [⟨tg, iter, ifs, 0⟩] scope pos) (tDcT wi g tt tk tv (own.map (·.2))) := by
  constructor
  intro pins s σ H Q I q0
  rw [arm_eval_DictComp]
  refine dcT_run hu hc hN I hi ok hg ht hk he hs q0 fun Dd Ca s2 m H2 J z hn fp => ⟨m, hn, fun h3 sb => ?_⟩
  obtain ⟨f0, f1, f2, f3, f4, f5⟩ := fp
  exact ⟨.ref Dd, H2, J.turned (t' := s2.toks) (fun c o hcc e => (sb.2 c hcc).trans e) f0 f1 f3 f4 f5, rfl, z⟩
theorem do_dcT (hu : X.A.units < cLine) (hc : X.calm = true) (hN : X.N.Nodup) (hi : DI X W tg iter I) (ok : BlkOk X.N X.env.scope scope own) (hsl : ∀ j ∈ sl, j ∈ own.map (·.2))
    (hg : ∀ (s : Shared) (H : Hp) (Ca : Addr) (cl : List (Str × Addr)) (fp : List Addr), DG (X.blk s H scope (compEnvC scope cl Ca X.env) fp) tg sl T) (ht : ∀ (s : Shared) (H : Hp) (Ca : Addr) (cl : List (Str × Addr)) (fp : List Addr), DTs (X.blk s H scope (compEnvC scope cl Ca X.env) fp) W0 ifs C)
    (hk : ∀ (s : Shared) (H : Hp) (Ca : Addr) (cl : List (Str × Addr)) (fp : List Addr), DE (X.blk s H scope (compEnvC scope cl Ca X.env) fp) W0 kx Ek)
    (he : ∀ (s : Shared) (H : Hp) (Ca : Addr) (cl : List (Str × Addr)) (fp : List Addr), DE (X.blk s H scope (compEnvC scope cl Ca X.env) fp) W0 vx Ev) (hs : ∀ x, foldedSetIterable iter X.env x = pure x := by intro _; rfl) :
    DO X W (.DictComp kx vx [⟨tg, iter, ifs, 0⟩] scope pos) (eDcT I T C Ek Ev (own.map (·.2))) :=
  PE.weak (pe_dcT (g := tG X.K sl T) (tt := tT X.K W0 C) (tk := tE X.K W0 Ek) (tv := tE X.K W0 Ev) hu hc hN hi ok hg ht hk he hs) fun σ H Q q => tDcT_ok hsl q
end
end M
set_option Elab.async false
set_option linter.all false
set_option maxRecDepth 100000
set_option maxHeartbeats 4000000
namespace M
open PySem L2 PySem.Spec PyProof.Rows
section
variable {X : Cx} {W : WK} {e : Expr} {x y : Str} {p p2 pos pos2 : Pos} {A : Mo (List Ag)}
def rSetL (K : PySem.W.Frag) (w : World) : List V → Hp → VK → Prop := fun xs H Q => ∃ (a : Addr) (ns : List Int), xs = [V.ref a] ∧ SqL K H a (ns.map V.int) ∧ ns.length ≤ 1000 ∧ ∀ (q : Addr) (c : Nat), H q = none → c ≤ ns.length → Q (.ref q) (upd H q (SetO w q (fun j => decide (j ∈ ns)) c))
def onceI : List Int → List Int
  | [] => []
  | x :: l => if x ∈ onceI l then onceI l else x :: onceI l
theorem once_mem {k : Int} : ∀ {l : List Int}, k ∈ onceI l ↔ k ∈ l
  | [] => Iff.rfl
  | x :: l => by
    unfold onceI
    have ih := once_mem (k := k) (l := l)
    split
    · rename_i h
      rw [ih, List.mem_cons]
      refine ⟨.inr, fun z => ?_⟩
      rcases z with rfl | z
      · exact once_mem.mp h
      · exact z
    · rw [List.mem_cons, List.mem_cons, ih]
theorem once_nodup : ∀ {l : List Int}, (onceI l).Nodup
  | [] => List.nodup_nil
  | x :: l => by
    unfold onceI
    split
    · exact once_nodup
    · rename_i h; exact List.nodup_cons.mpr ⟨h, once_nodup⟩
def sortSet (ns : List Int) : List Int := sortI (onceI ns)
theorem sortSet_uniq {ns ys : List Int} (h1 : ys.Pairwise (· < ·)) (h2 : ∀ k, k ∈ ys ↔ k ∈ ns) : ys = sortSet ns := by
  have nd : ys.Nodup := h1.imp fun h => by omega
  have hp : ys.Perm (onceI ns) := (List.perm_ext_iff_of_nodup nd once_nodup).mpr fun k => by rw [h2, once_mem]
  exact sortI_uniq (hp.trans (sortI_perm _).symm) (h1.imp fun h => by omega) (sortI_sorted _)
end
end M
set_option Elab.async false
set_option linter.all false
set_option maxRecDepth 100000
set_option maxHeartbeats 1000000
theorem L2.Room.u0 {k : Nat} {A : PySem.Around} (r : L2.Room k A) : A.units < PySem.cLine := by have := r.un; omega
set_option Elab.async false
set_option linter.all false
set_option maxRecDepth 100000
set_option maxHeartbeats 1000000
namespace M
open PySem L2 PySem.Spec PyProof.Rows PpSet
section
variable {X : Cx}
theorem setI_run {pins : List (Addr × Obj)} {σ : St} {H : Hp} {s : Shared} {E : Value → Shared → Prop} {Dd : Addr} {k : Int} {tk : Tok} {S : Int → Bool} {n : Nat} {Q : Value → Shared → Prop} (I : Inv X pins σ H s) (hD : H Dd = some (SetO X.w Dd S n)) (room : n + 1 < scanBound)
    (h : ∀ s', Inv X pins σ (upd H Dd (SetO X.w Dd (fun j => S j || decide (j = k)) (if S k = true then n else n + 1))) s' → Q .none s') : wpAny (model X.prog X.w) X.A (call (.builtin "set.add") [.ref Dd, .int k tk]) Q E s := by
  refine setR_add (setO_get I hD) room fun g sb new => ?_
  have there : ∃ u, g.get? Dd = some u := by
    obtain ⟨o, _, _, _, e, _⟩ := id new
    exact ⟨o, e⟩
  exact h _ (I.write (e := Dd) (t' := s.toks + 1) (by rw [hD]; trivial) (.inl rfl) (fun b u hb hu => (sb.2 b hb).trans hu) there (setO_new new))
/-- {k for ..}, the members ints: Dd the new set -/
def tScI (w : World) (wi : TI) (g : TG) (tt : TT) (tv : TE) (vs : List Nat) : TE := fun σ H Q => wi σ H fun J H1 => ∀ Dd, H1 Dd = none → ∃ Wv : Nat → Nat → Hp → Prop, (∃ m, Wv 0 m (upd H1 Dd (SetO w Dd (fun _ => false) 0))) ∧ ∀ i m H, (∀ S n, H Dd = some (SetO w Dd S n) → ∃ h, SetR w h Dd S n) → Wv i m H →
  (J.stop i H ∧ Q (.ref Dd) H) ∨ (J.go i H ∧ ∃ Nx : Hp → Prop, (∀ H', Nx H' → ∃ m', m' < m ∧ Wv (i + 1) m' H') ∧ ∀ x H', J.yld i H x H' → g x (wipe σ vs) H' fun σ2 H2 => wipe σ2 vs = wipe σ vs ∧ tt σ2 H2 fun b H3 =>
    if b = true then tv σ2 H3 fun z H5 => ∃ k S n, z = .int k ∧ H5 Dd = some (SetO w Dd S n) ∧ n + 1 < scanBound ∧ Nx (upd H5 Dd (SetO w Dd (fun j => S j || decide (j = k)) (if S k = true then n else n + 1))) else Nx H3)
variable {pins : List (Addr × Obj)} {s : Shared} {σ : St} {H : Hp} {Q : VK} {vx tg iter : Expr} {ifs : List Expr} {scope : Scope} {own : List (Str × Nat)} {pos pos' : Pos} {wi : TI} {g : TG} {tt : TT} {tv : TE} {use : Option (Value → Sem Unit)} {Qf : Value → Shared → Prop}
theorem sc_run (hc : X.calm = true) (hN : X.N.Nodup) (I : Inv X pins σ H s) (hi : PI X tg iter wi) (ok : BlkOk X.N X.env.scope scope own)
    (hg : ∀ (s : Shared) (H : Hp) (Ca : Addr) (cl : List (Str × Addr)) (fp : List Addr), PG (X.blk s H scope (compEnvC scope cl Ca X.env) fp) tg g) (ht : ∀ (s : Shared) (H : Hp) (Ca : Addr) (cl : List (Str × Addr)) (fp : List Addr), PTs (X.blk s H scope (compEnvC scope cl Ca X.env) fp) ifs tt)
    (hv : ∀ (s : Shared) (H : Hp) (Ca : Addr) (cl : List (Str × Addr)) (fp : List Addr), PE (X.blk s H scope (compEnvC scope cl Ca X.env) fp) vx tv) (hs : ∀ x, foldedSetIterable iter X.env x = pure x) (h : tScI X.w wi g tt tv (own.map (·.2)) σ H Q)
    (fin : ∀ Dd Ca s' m H', Inv X pins σ H' s' → Q (.ref Dd) H' → s'.heap.Ns Ca m → FpOk X pins H' Ca → compPost (model X.prog X.w) X.A X.xe use Qf (.ref Dd) Ca (.ok .next) s') :
    wpAny (model X.prog X.w) X.A (comprehension (.SetComp vx [⟨tg, iter, ifs, 0⟩] scope pos) scope X.env pos' (newSet (.type "set")) false (eval iter X.env) use) Qf X.xe s := by
  have caught : ∀ y ∈ scope.names, y.2 = .free → ∃ c, X.env.cells.lookup y.1 = some c := fun y hy e => (ok.free y hy e).elim (fun z => I.ok.has _ (.inl z)) fun z => I.ok.has _ (.inr z)
  have uniq : ∀ y ∈ scope.names, y.2 = .local → scope.names.lookup y.1 = some .local := fun y hy e => by rw [ok.uniq y hy, e]
  refine wpAny_comprehension_free (use := use) rfl hs (closure_ok caught) ok.kind uniq (thn (hi.run pins s σ H _ I h) fun _ _ a1 => thn a1 fun _ t1 a2 => ?_)
  obtain ⟨it, fp, tn, J, Ha, rfl, Ia, tu, tna, fpa, start⟩ := a2
  refine newSet_ok ?_
  obtain ⟨Dd, eD⟩ : ∃ Dd, t1.heap.objs.size = Dd := ⟨_, rfl⟩
  obtain ⟨Wv, ⟨m0, w0⟩, turn⟩ := start Dd (Ia.hok.fresh (Nat.le_of_eq eD))
  rw [eD]
  obtain ⟨t2, et2⟩ : ∃ t2 : Shared, { t1 with heap := t1.heap.push { cls := .type "set", dict := none, data := .set #[] 0 (.fresh 0 0 (!X.w.params.followText "set-order")) } } = t2 := ⟨_, rfl⟩
  rw [et2]
  refine newEnv_comp ?_
  have grow2 : ∀ b o, t1.heap.get? b = some o → t2.heap.get? b = some o := fun b o e => by rw [← et2]; exact Heap.get?_push_of_some _ e
  have size2 : t2.heap.objs.size = t1.heap.objs.size + 1 := by rw [← et2]; exact Heap.size_push ..
  obtain ⟨Hb, eHb⟩ : ∃ Hb, upd Ha Dd (SetO X.w Dd (fun _ => false) 0) = Hb := ⟨_, rfl⟩
  have Ib : Inv X pins σ Hb t2 := by
    rw [← eHb, ← et2, ← eD]
    refine Ia.laid (t' := t1.toks) (fun b o e => Heap.get?_push_of_some _ e) (Nat.le_refl _) ?_
    exact setO_new (setR_fresh X.w)
  have fpLt : ∀ b ∈ fp, b < t1.heap.objs.size := fun b hb => by
    obtain ⟨_, e, _⟩ := tu.obj _ _ tna b hb
    exact Heap.lt_size e
  have fpb : ∀ b ∈ fp, FpOk X pins Hb b ∧ b < t2.heap.objs.size := fun b hb => by
    have lt := fpLt b hb
    refine ⟨⟨?_, (fpa b hb).2⟩, by rw [size2]; exact Nat.lt_succ_of_lt lt⟩
    rw [← eHb, upd_ne (by rw [← eD]; exact Nat.ne_of_lt lt)]
    exact (fpa b hb).1
  have tnb : tn 0 t2.heap := tu.keep _ _ _ tna fun b _ o e => grow2 b o e
  have Ic := block_start Ib ok hN fpb
  obtain ⟨Ca, eC⟩ : ∃ Ca, t2.heap.objs.size = Ca := ⟨_, rfl⟩
  obtain ⟨cl, ecl⟩ : ∃ cl, cellsFrom (t2.heap.objs.size + 1) scope.names (cloFrom X.env.cells scope.names []) = cl := ⟨_, rfl⟩
  have Rg := hg t2 Hb Ca cl fp
  have Rt := ht t2 Hb Ca cl fp
  have Rv := hv t2 Hb Ca cl fp
  rw [ecl, eC] at Ic
  show codeAny _ _ (.compStart (.SetComp vx [⟨tg, iter, ifs, 0⟩] scope pos) 0 (.ref it) (.ref Dd) (compEnvC scope (cellsFrom (t2.heap.objs.size + 1) scope.names (cloFrom X.env.cells scope.names [])) t2.heap.objs.size X.env))
    (compPost (model X.prog X.w) X.A X.xe use Qf (.ref Dd) t2.heap.objs.size) { t2 with heap := pushCells (t2.heap.push { cls := .type "dict", data := .dict #[] }) scope.names }
  rw [ecl, eC]
  obtain ⟨t3, et3⟩ : ∃ t3 : Shared, { t2 with heap := pushCells (t2.heap.push { cls := .type "dict", data := .dict #[] }) scope.names } = t3 := ⟨_, rfl⟩
  rw [et3] at Ic ⊢
  have tnc : tn 0 t3.heap := tu.keep _ _ _ tnb fun b _ o e => by
    rw [← et3]
    exact pushCells_keeps _ _ _ _ (Heap.get?_push_of_some _ e)
  obtain ⟨ce, ece⟩ : ∃ ce, compEnvC scope cl Ca X.env = ce := ⟨_, rfl⟩
  have ceL : ce.locals = Ca := by rw [← ece]; rfl
  rw [ece] at Rg Rt Rv Ic ⊢
  let Y : Cx := X.blk t2 Hb scope ce fp
  have fpY : ∀ {σ' : St} {H' : Hp} {s' : Shared}, Inv Y [] σ' H' s' → (∀ b ∈ fp, H' b = none) → ∀ b ∈ fp, FpOk Y [] H' b := fun {_ _ _} I' no b hb =>
    ⟨no b hb, (I'.ok.exf b hb).1, I'.ok.exfs b hb, .inl hb, fun x c e => (I'.ok.exf b hb).2 x c e, fun p hp => by cases hp⟩
  have noB : ∀ b ∈ fp, Hb b = none := fun b hb => (fpb b hb).1.1
  have LOOP : codeAny (model X.prog X.w) X.A (.compLoop (.SetComp vx [⟨tg, iter, ifs, 0⟩] scope pos) 0 (.ref it) (.ref Dd) ce) (compPost (model X.prog X.w) X.A X.xe use Qf (.ref Dd) Ca) t3 := by
    refine compLoopS_any (fun n s' => ∃ i H', Inv Y [] (wipe σ (own.map (·.2))) H' s' ∧ tn i s'.heap ∧ (∀ b ∈ fp, H' b = none) ∧ Wv i n H') ?_ m0 ⟨0, Hb, Ic, tnc, noB, by rw [← eHb]; exact w0⟩
    rintro n u0 ⟨i, H0, I0, n0, no0, wv0⟩
    rcases turn i n H0 (fun S n e => ⟨_, setO_get (X := Y) I0 e⟩) wv0 with ⟨hstop, hQ⟩ | ⟨hgo, Nx, back, step⟩
    · refine thnF (tu.done Y rfl rfl rfl hc i [] u0 _ H0 (fun _ _ => False) I0 (fpY I0 no0) n0 hstop) fun r u1 z1 => ?_
      obtain ⟨rfl, I1⟩ := z1
      have Iout : Inv X pins σ H0 u1 := Ib.call' (ch := fp) I1.os I1.base I1.hok I1.bare fun b hb => by
        obtain ⟨_, q1, q2, q3, q4, q5⟩ := (fpb b hb).1
        exact ⟨q3, q1, q4, q5⟩
      have noC : H0 Ca = none := by rw [← ceL]; exact I1.free
      obtain ⟨mm, hns, _⟩ := I1.loc
      have hns : u1.heap.Ns Ca mm := by rw [← ceL]; exact hns
      exact fin Dd Ca u1 mm H0 Iout hQ hns (Ib.fpOk (Nat.le_of_eq eC) noC)
    · refine thnF (tu.item Y rfl rfl rfl hc i [] u0 _ H0 (fun _ _ => False) I0 (fpY I0 no0) n0 hgo) fun r u1 z1 => ?_
      obtain ⟨xu, rfl, z1⟩ := z1
      refine thnF z1 fun _ u2 ⟨x, H2, I2, rx, yx, n2, no2⟩ => ?_
      have J2 := I2.pinned (fpY I2 no2) (tu.obj _ _ n2)
      refine thnF (Rg.run _ u2 _ H2 x xu _ J2 rx (step x H2 yx)) fun _ u3 ⟨σ3, H3, I3, hw3, q3⟩ => ?_
      have close : ∀ {s' : Shared} {H' : Hp}, Inv Y ([] ++ pinsAt fp u2.heap) σ3 H' s' → Nx H' → ∃ m, m < n ∧ ∃ i H', Inv Y [] (wipe σ (own.map (·.2))) H' s' ∧ tn i s'.heap ∧ (∀ b ∈ fp, H' b = none) ∧ Wv i m H' := fun {s' H'} I' nx => by
        obtain ⟨m', lt', wv'⟩ := back H' nx
        have pinned : ∀ b ∈ fp, ∀ o, u2.heap.get? b = some o → s'.heap.get? b = some o ∧ H' b = none := fun b hb o e => by
          have zz := I'.pin (b, o) (List.mem_append_right _ (List.mem_append_right _ (mem_pinsAt hb e)))
          exact ⟨zz.1, zz.2.1⟩
        have ln : (wipe σ (own.map (·.2))).length = σ3.length := by rw [← hw3, wipe_length]
        refine ⟨m', lt', i + 1, H', (I'.unpinned (pins := [])).weak ln fun j v e => ?_, tu.keep _ _ _ n2 fun b hb o e => (pinned b hb o e).1, fun b hb => ?_, wv'⟩
        · rw [← hw3] at e; exact (wipe_some e).1
        · obtain ⟨o, e, _⟩ := tu.obj _ _ n2 b hb
          exact (pinned b hb o e).2
      refine thnF (Rt.run _ u3 σ3 H3 _ I3 q3) fun bb u4 ⟨H4, I4, q4⟩ => ?_
      cases bb with
      | false => exact close I4 q4
      | true =>
        refine thnF (Rv.run _ u4 σ3 H4 _ I4 q4) fun zv u6 ⟨yv, H6, I6, rv, kk, S0, n0, ek, hD6, hz6, nx⟩ => ?_
        subst ek
        obtain ⟨tk, rfl⟩ : ∃ tk, zv = Value.int kk tk := rv
        exact setI_run (X := Y) I6 hD6 hz6 fun u7 I7 => close I7 nx
  exact codeAny_compStart_set LOOP (tu.self X.A 0 _ _ _ tnc LOOP)
theorem pe_scI (hc : X.calm = true) (hN : X.N.Nodup) (hi : PI X tg iter wi) (ok : BlkOk X.N X.env.scope scope own)
    (hg : ∀ (s : Shared) (H : Hp) (Ca : Addr) (cl : List (Str × Addr)) (fp : List Addr), PG (X.blk s H scope (compEnvC scope cl Ca X.env) fp) tg g) (ht : ∀ (s : Shared) (H : Hp) (Ca : Addr) (cl : List (Str × Addr)) (fp : List Addr), PTs (X.blk s H scope (compEnvC scope cl Ca X.env) fp) ifs tt)
    (he : ∀ (s : Shared) (H : Hp) (Ca : Addr) (cl : List (Str × Addr)) (fp : List Addr), PE (X.blk s H scope (compEnvC scope cl Ca X.env) fp) vx tv) (hs : ∀ x, foldedSetIterable iter X.env x = pure x) :
    PE X (.SetComp vx [⟨tg, iter, ifs, 0⟩] scope pos) (tScI X.w wi g tt tv (own.map (·.2))) := by
  constructor
  intro pins s σ H Q I q0
  rw [eval_SetComp]
  refine sc_run hc hN I hi ok hg ht he hs q0 fun Dd Ca s2 m H2 J z hn fp => ⟨m, hn, fun h3 sb => ?_⟩
  obtain ⟨f0, f1, f2, f3, f4, f5⟩ := fp
  exact ⟨.ref Dd, H2, J.turned (t' := s2.toks) (fun c o hcc e => (sb.2 c hcc).trans e) f0 f1 f3 f4 f5, rfl, z⟩
end
theorem nt_setO {w : World} {a : Addr} {S : Int → Bool} {n : Nat} (sat : ∃ h, SetR w h a S n) : NT (SetO w a S n) := ⟨fun _ e => (by cases e), fun _ e => (by cases e), fun c q e => by
  obtain ⟨h, R⟩ := sat
  unfold LamX.CodeO SetO at e
  have e := HO.ext.inj e
  have hR := id R
  obtain ⟨o, es, ep, t, ho, _, hd, _⟩ := hR
  have z : ∀ h', SetR w h' a S n → ∃ (oc : Obj) (vs : Array Value), h'.get? c = some oc ∧ oc.data = .fields vs := fun h' r => by
    obtain ⟨oc, vs, _, z1, z2, _⟩ := (congrFun e h').mp r
    exact ⟨oc, vs, z1, z2⟩
  by_cases ca : c = a
  · subst ca
    obtain ⟨oc, vs, z1, z2⟩ := z h R
    rw [ho] at z1; cases z1
    rw [hd] at z2; cases z2
  · have R' : SetR w ⟨h.objs.setIfInBounds c { cls := .type "list", data := .seq #[] }, h.life⟩ a S n := R.at fun u hu => by
      unfold Heap.get? at hu ⊢
      rw [Array.getElem?_setIfInBounds_ne ca]; exact hu
    obtain ⟨oc, vs, z1, z2⟩ := z _ R'
    by_cases lt : c < h.objs.size
    · unfold Heap.get? at z1
      rw [Array.getElem?_setIfInBounds_self_of_lt lt] at z1
      cases z1
      cases z2
    · unfold Heap.get? at z1
      rw [Array.getElem?_eq_none (by rw [Array.size_setIfInBounds]; exact Nat.le_of_not_lt lt)] at z1
      cases z1⟩
def scM (T : D → Mo Unit) (C : Mo Bool) (Ev : Mo D) (vs : List Nat) : List D → List Int → Mo (List Int)
  | [], acc => fun δ => some (.ok acc, δ)
  | d :: ds, acc => fun δ => match T d δ with
    | some (.ok (), δ1) => match C δ1 with
      | some (.ok true, δ2) => match Ev δ2 with
        | some (.ok (.int k), δ3) => scM T C Ev vs ds (acc ++ [k]) (wipeE δ3 vs)
        | _ => none
      | some (.ok false, δ2) => scM T C Ev vs ds acc (wipeE δ2 vs)
      | _ => none
    | _ => none
def eSc0 (T : D → Mo Unit) (C : Mo Bool) (Ev : Mo D) (vs : List Nat) (ds : List D) : Mo D := fun δ => if ds.length < 64 then (match scM T C Ev vs ds [] (wipeE δ vs) with
  | some (.ok ns, δ') => some (.ok (.lst ((sortSet ns).map D.int)), δ')
  | _ => none) else none
def eSortSc (I : Mo (List D)) (T : D → Mo Unit) (C : Mo Bool) (Ev : Mo D) (vs : List Nat) : Mo D := I.bind fun ds => eSc0 T C Ev vs ds
section
variable {w : World} {K : PySem.W.Frag} {W : WK} {I : Mo (List D)} {sl vs : List Nat} {T : D → Mo Unit} {C : Mo Bool} {Ev : Mo D} {σ : St} {H : Hp} {Q : VK}
theorem tScI_at {B : Bs} {G1 H1 : Hp} {δ1 δ' : Env} {J : It} {ds : List D} {ns : List Int} (hsl : ∀ j ∈ sl, j ∈ vs) (a1 : At K B G1 δ1 σ H1) (yl : Yl K B J G1 ds) (hlen : ds.length < 64) (e2 : scM T C Ev vs ds [] (wipeE δ1 vs) = some (.ok ns, δ'))
    (post : ∀ G' H' D1 c, At K B G' δ' σ H' → Ext G1 G' → H' D1 = some (SetO w D1 (fun j => decide (j ∈ ns)) c) → c < 64 → Q (.ref D1) H') : tScI w (wiJ J) (tG K sl T) (tT K W0 C) (tE K W0 Ev) vs σ H1 Q := by
  intro D1 hD
  have b0 := a1.fresh0 hD
  have ot := a1.out1 b0 (a1.vw.none hD)
  refine ⟨fun i m H2 => m + i = ds.length ∧ ∃ G2 δ2 acc c, At K B G2 δ2 (wipe σ vs) H2 ∧ Ext G1 G2 ∧ H2 D1 = some (SetO w D1 (fun j => decide (j ∈ acc)) c) ∧ c ≤ i ∧ G2 D1 = none ∧ (∀ j, ¬ OwnAt δ2 (wipe σ vs) j D1) ∧ (∀ j ∈ vs, ∀ s, δ2[j]? = some s → s = .no) ∧ scM T C Ev vs (ds.drop i) acc δ2 = some (.ok ns, δ'),
    ⟨ds.length, by omega, G1, wipeE δ1 vs, [], 0, (a1.alloc hD).wipe vs, Ext.refl _, by rw [upd_same]; congr 2, Nat.zero_le _, a1.vw.none hD, (a1.wipe vs).noOwn hD, wipeE_no, e2⟩, ?_⟩
  rintro i m H2 hsat ⟨hm, G2, δ2, acc, c, a2, x2, hx, hxl, g2, no2, hno, e3⟩
  by_cases hi : ds.length ≤ i
  · refine .inl ⟨(yl B G2 H2 δ2 _ (BLe.refl B) a2 x2 i).2 hi, ?_⟩
    rw [List.drop_eq_nil_of_le hi] at e3
    cases e3
    have a3 := a2.unwipe hno
    exact post G2 H2 D1 c a3 x2 hx (by omega)
  · have hlt : i < ds.length := by omega
    have nts := nt_setO (hsat _ _ hx)
    have a2' := a2.add nts hx g2 no2
    obtain ⟨y1, _⟩ := yl (B.add D1 _) G2 H2 δ2 _ (BLe.add b0) a2' x2 i
    obtain ⟨gg1, gg2⟩ := y1 ds[i] (List.getElem?_eq_getElem hlt)
    rw [List.drop_eq_getElem_cons hlt] at e3
    refine .inr ⟨gg1, fun H' => ∃ m', m' < m ∧ (m' + (i + 1) = ds.length ∧ ∃ G2 δ2 acc c, At K B G2 δ2 (wipe σ vs) H' ∧ Ext G1 G2 ∧ H' D1 = some (SetO w D1 (fun j => decide (j ∈ acc)) c) ∧ c ≤ i + 1 ∧ G2 D1 = none ∧ (∀ j, ¬ OwnAt δ2 (wipe σ vs) j D1) ∧ (∀ j ∈ vs, ∀ s, δ2[j]? = some s → s = .no) ∧ scM T C Ev vs (ds.drop (i + 1)) acc δ2 = some (.ok ns, δ')), fun H' z => z, fun x H' hy => ?_⟩
    obtain ⟨rfl, G3, a3, x3, r3⟩ := gg2 x H' hy
    unfold scM at e3
    cases q : T ds[i] δ2 with
    | none => simp only [q] at e3; cases e3
    | some z =>
      obtain ⟨u, δ3⟩ := z
      cases u with
      | error u => simp only [q] at e3; cases e3
      | ok u =>
        simp only [q] at e3
        refine ⟨B.add D1 _, G3, δ2, ds[i], δ3, a3, r3, q, fun σ4 a4 oa => ?_⟩
        have hw : wipe σ4 vs = wipe σ vs := wipe_eq (oa.1.trans (wipe_length _ _)) fun j hj => oa.2 j fun c => hj (hsl j c)
        refine ⟨hw, ?_⟩
        have fin : ∀ {G5 H5 δ5 acc' c'}, At K (B.add D1 _) G5 δ5 σ4 H5 → Ext G3 G5 → c' ≤ i + 1 → scM T C Ev vs (ds.drop (i + 1)) acc' (wipeE δ5 vs) = some (.ok ns, δ') → ∃ m', m' < m ∧ (m' + (i + 1) = ds.length ∧ ∃ G2 δ2 acc c, At K B G2 δ2 (wipe σ vs) (upd H5 D1 (SetO w D1 (fun j => decide (j ∈ acc')) c')) ∧ Ext G1 G2 ∧ (upd H5 D1 (SetO w D1 (fun j => decide (j ∈ acc')) c')) D1 = some (SetO w D1 (fun j => decide (j ∈ acc)) c) ∧ c ≤ i + 1 ∧ G2 D1 = none ∧ (∀ j, ¬ OwnAt δ2 (wipe σ vs) j D1) ∧ (∀ j ∈ vs, ∀ s, δ2[j]? = some s → s = .no) ∧ scM T C Ev vs (ds.drop (i + 1)) acc δ2 = some (.ok ns, δ')) := fun {G5 H5 δ5 acc' c'} a5 x5 l5 e5 => by
          obtain ⟨h1, h2, h3, h4⟩ := (a5.wipe' hw).drop ot nts
          exact ⟨m - 1, by omega, by omega, G5, wipeE δ5 vs, acc', c', h4 _, (x2.trans x3).trans x5, upd_same, l5, h2, h3, wipeE_no, e5⟩
        cases qc : C δ3 with
        | none => simp only [qc] at e3; cases e3
        | some z =>
          obtain ⟨u, δ4⟩ := z
          cases u with
          | error u => simp only [qc] at e3; cases e3
          | ok b =>
            refine ⟨_, G3, δ3, .ok b, δ4, a4, qc, fun G4 H4 a5 x5 => ?_⟩
            cases b with
            | false =>
              simp only [qc] at e3
              rw [if_neg Bool.false_ne_true]
              have f := fin (c' := c) a5 x5 (by omega) e3
              have hk := (a5.drop ot nts).1
              have : upd H4 D1 (SetO w D1 (fun j => decide (j ∈ acc)) c) = H4 := by
                funext b; by_cases c : b = D1
                · subst c; rw [upd_same, hk]
                · rw [upd_ne c]
              rw [this] at f; exact f
            | true =>
              simp only [qc] at e3
              rw [if_pos rfl]
              cases qe : Ev δ4 with
              | none => simp only [qe] at e3; cases e3
              | some z =>
                obtain ⟨u, δ5⟩ := z
                cases u with
                | error u => simp only [qe] at e3; cases e3
                | ok kd =>
                  refine ⟨_, G4, δ4, .ok kd, δ5, a5, qe, fun G6 H6 a6 x6 y ry => ?_⟩
                  cases kd with
                  | int k =>
                    simp only [qe] at e3
                    cases ry
                    refine ⟨k, _, c, rfl, (a6.drop ot nts).1, by unfold scanBound; omega, ?_⟩
                    have es : (fun j : Int => (decide (j ∈ acc) || decide (j = k))) = fun j => decide (j ∈ acc ++ [k]) := by
                      funext j
                      rw [← Bool.decide_or]
                      congr 1
                      rw [List.mem_append, List.mem_singleton]
                    rw [es]
                    exact fin a6 (x5.trans x6) (by split <;> omega) e3
                  | _ => simp only [qe] at e3; cases e3
end
section
variable {X : Cx} {W : WK} {vx tg iter : Expr} {ifs : List Expr} {scope : Scope} {own : List (Str × Nat)} {pos p pos2 : Pos} {I : Mo (List D)} {sl : List Nat} {T : D → Mo Unit} {C : Mo Bool} {Ev : Mo D} {x : Str}
/-- sorted({k for ..}) -/
theorem do_sortSc (hg0 : Gl X x) (hm : X.mg x = none) (hv : bootBuiltins x = some (.builtin "sorted")) (hc : X.calm = true) (hN : X.N.Nodup) (hi : DI X W tg iter I) (ok : BlkOk X.N X.env.scope scope own) (hsl : ∀ j ∈ sl, j ∈ own.map (·.2))
    (hg : ∀ (s : Shared) (H : Hp) (Ca : Addr) (cl : List (Str × Addr)) (fp : List Addr), DG (X.blk s H scope (compEnvC scope cl Ca X.env) fp) tg sl T) (ht : ∀ (s : Shared) (H : Hp) (Ca : Addr) (cl : List (Str × Addr)) (fp : List Addr), DTs (X.blk s H scope (compEnvC scope cl Ca X.env) fp) W0 ifs C)
    (he : ∀ (s : Shared) (H : Hp) (Ca : Addr) (cl : List (Str × Addr)) (fp : List Addr), DE (X.blk s H scope (compEnvC scope cl Ca X.env) fp) W0 vx Ev) (hs : ∀ x, foldedSetIterable iter X.env x = pure x := by intro _; rfl)
    (hn : x ≠ "__name__" := by decide) (hdb : (x == ("__debug__" : Str)) = false := by decide)
    (hst : starEach [.SetComp vx [⟨tg, iter, ifs, 0⟩] scope pos2] X.env = (false, eval (.SetComp vx [⟨tg, iter, ifs, 0⟩] scope pos2) X.env) :: starEach [] X.env := by rfl)
    (hpl : (backTo pos (starEach [] X.env)).any (·.1) = false := by rfl) :
    DO X W (.Call (.Name x p) [.SetComp vx [⟨tg, iter, ifs, 0⟩] scope pos2] [] pos) (eSortSc I T C Ev (own.map (·.2))) :=
  PE.weak (pe_callB (cr_sortedSet hc) hg0 hm hv (pa_cons (pe_scI (g := tG X.K sl T) (tt := tT X.K W0 C) (tv := tE X.K W0 Ev) hc hN hi ok hg ht he hs) pa_nil hst) hn hdb hst hpl) fun σ H Q ⟨B, G, δ, r, δ', at', e1, post⟩ => by
  refine tI_bind at' e1 post fun J H1 G1 δ1 ds a1 x1 yl e2 post => ?_
  unfold eSc0 at e2
  split at e2
  · rename_i hlen
    split at e2
    · rename_i ns δ2 q
      cases e2
      refine tScI_at (w := X.w) (Q := fun v H' => tNil σ H' fun xs H2 => rSortedSet X.w (v :: xs) H2 Q) hsl a1 yl hlen q fun G2 H2 D1 c a2 x2 hD hc64 => ?_
      refine ⟨D1, _, c, rfl, hD, hc64, fun ys p1 hs1 hs2 hs3 hp1 => ?_⟩
      have ey : ys = sortSet ns := sortSet_uniq hs1 fun k => by rw [hs2]; exact decide_eq_true_iff
      obtain ⟨b1, b2⟩ := a2.own1 (p := p1) (o := .lst (ys.map V.int)) hp1 (.lst upd_same (by rw [List.length_map, hs3]; exact small_line (by omega)) (rl_ints ys))
      rw [← ey] at post
      exact post G2 _ b1 x2 p1 b2
    · cases e2
  · cases e2
end
def fStr : List D → Option D
  | [.int i] => if i.natAbs.log2 < 1920 then some (.str (toString i)) else none
  | _ => none
section
variable {X : Cx} {W : WK} {x : Str} {e : Expr} {es : List Expr} {A : Mo (List Ag)} {p pos : Pos}
theorem snd_str : SndF X.K fStr (fun xs H Q => ∃ i, xs = [V.int i] ∧ i.natAbs.log2 < 1920 ∧ Q (.str (toString i)) H) := fun B G H δ σ xs as d Q at' rx h k => by
  unfold fStr at h
  split at h
  · rename_i i
    split at h
    · rename_i hi
      cases h
      obtain ⟨v, rfl, rv⟩ := rl1 rx
      cases rv
      exact ⟨i, rfl, hi, k _ G H at' (Ext.refl _) (.str _)⟩
    · cases h
  · cases h
theorem de_str1 (hg : Gl X x) (hm : X.mg x = none) (hv : bootBuiltins x = some (.type "str")) (ha : DA X W (e :: es) A) (hn : x ≠ "__name__" := by decide) (hdb : (x == ("__debug__" : Str)) = false := by decide)
    (he : starEach (e :: es) X.env = (false, eval e X.env) :: starEach es X.env := by rfl) (hpl : (backTo pos (starEach es X.env)).any (·.1) = false := by rfl) : DE X W (.Call (.Name x p) (e :: es) [] pos) (eF fStr A) :=
  de_tCB snd_str (pe_callTy call_str_int hg hm hv ha hn hdb he hpl)
end
def eGet2 (Ea Eb Ec : Mo D) : Mo D := Ea.bind fun d => fun δ => if isDct d = true then (Eb.bind fun k => Ec.bind fun x => Mo.lift ((dGet d k).map fun o => o.getD x)) δ else none
section
variable {X : Cx} {W : WK} {o e f : Expr} {apos cpos : Pos} {Ea Eb Ec : Mo D}
theorem isd_of {K : PySem.W.Frag} {B : Bs} {G H : Hp} {δ : Env} {σ : St} {v : V} {d : D} (a : At K B G δ σ H) (r : R K G v d) (h : isDct d = true) : ∃ p, v = .ref p ∧ IsD H p := by
  cases r with
  | dK g l k r => exact ⟨_, rfl, .inl ⟨_, a.vw.rd g⟩⟩
  | dT g l k r => exact ⟨_, rfl, .inr ⟨_, a.vw.rd g⟩⟩
  | _ => cases h
theorem de_get2 (hu : X.A.units + 1 < cLine) (ha : DE X W o Ea) (hb : DE X W e Eb) (hc : DE X W f Ec)
    (base : attributeBase o "get" X.env (eval o X.env) = eval o X.env := by rfl)
    (few : ((backTo cpos (starEach [e, f] X.env)).all (fun x => !x.1) && (backToKw cpos (keywordEach [] X.env)).all (fun x => x.1.isSome)
    && decide (([e, f] : List Expr).length + ([] : List Keyword).length + (if ([] : List Keyword).isEmpty then 0 else 1) < 30)) = true := by rfl)
    (line : (apos.endLine == cpos.line) = true := by rfl) (trees : backTo cpos (starEach [e, f] X.env) = [(false, eval e X.env), (false, eval f X.env)] := by rfl) :
    DE X W (.Call (.Attribute o "get" apos) [e, f] [] cpos) (eGet2 Ea Eb Ec) :=
  PE.weak (pe_dget2 hu ha hb hc ⟨base, few, line, trees⟩) fun σ H Q ⟨B, G, δ, r, δ', at', e1, post⟩ => by
  refine tE_bind at' e1 post fun v H1 G1 δ1 d a1 x1 r1 e2 post => ?_
  split at e2
  · rename_i hd
    obtain ⟨p, rfl, hp⟩ := isd_of a1 r1 hd
    refine ⟨p, rfl, hp, ?_⟩
    refine tE_bind a1 e2 post fun y H2 G2 δ2 k a2 x2 r2 e3 post => ?_
    refine tE_bind a2 e3 post fun z H3 G3 δ3 x a3 x3 r3 e4 post => ?_
    obtain ⟨q, hq, hr⟩ := lift_some e4
    cases hr
    cases ho : dGet d k with
    | none => rw [ho] at hq; cases hq
    | some oo =>
      rw [ho] at hq
      cases hq
      obtain ⟨p2, o', e5, _, e6, e7⟩ := sh_get a3.vw ((r1.mono (x2.trans x3)).sh a3.vw) (r2.mono x3) ho
      cases e5
      refine ⟨o', e6, ?_⟩
      rcases e7 with ⟨v', d', rfl, rfl, rv⟩ | ⟨rfl, rfl⟩
      · exact post G3 H3 a3 (Ext.refl _) _ rv
      · exact post G3 H3 a3 (Ext.refl _) _ r3
  · cases e2
end
end M
set_option Elab.async false
set_option linter.all false
set_option maxRecDepth 100000
set_option maxHeartbeats 4000000
set_option Elab.async false
set_option linter.all false
set_option maxRecDepth 100000
set_option maxHeartbeats 4000000
namespace M
open PySem L2 PySem.Spec PyProof.Rows RT
theorem bt_bool : bootBuiltins "bool" = some (.type "bool") := by decide +kernel
section
variable {X : Cx} {W : WK} {e : Expr} {x y : Str} {p py pos : Pos} {E : Mo D}
def rIsiD : List V → Hp → VK → Prop := fun xs H Q => ∃ a T b, xs = [.ref a, .ty T] ∧ IsD H a ∧ kitB "dict" T = some b ∧ Q (.bl b) H
theorem call_isiD : CallR X (.builtin "isinstance") (fun xs H Q => rIsi X.K xs H Q ∨ rIsiD xs H Q) := by
  intro pins s σ H xs us Q I r h
  rcases h with h | ⟨a, T, b, rfl, hd, hk, q⟩
  · exact call_isi pins s σ H xs us Q I r h
  · obtain ⟨u1, u2, rfl, r1, r2⟩ := vals2 r
    cases (show u1 = Value.ref a from r1)
    cases (show u2 = Value.type T from r2)
    obtain ⟨⟨o, ho, hc⟩, _⟩ := isD_at I hd
    exact PySem.W.kia_one PySem.W.kitx_dict I.kIn ⟨o, ho, hc⟩ (kit_ty hk) (fun z => nomatch z) fun tk => ⟨.bl b, H, I.tok tk, rfl, q⟩
def notScr : D → Bool
  | .alb _ _ => false
  | .scr _ => false
  | _ => true
def eIsi2 (T : String) (E : Mo D) : Mo D := E.bind fun d => Mo.lift (if notScr d = true then (kitB (tyN d) T).map D.bl else none)
theorem de_isi2 {T : String} (hg : Gl X x) (hm : X.mg x = none) (hv : bootBuiltins x = some (.builtin "isinstance")) (hg2 : Gl X y) (hm2 : X.mg y = none) (hv2 : bootBuiltins y = some (.type T)) (ha : DE X W e E)
    (hn : x ≠ "__name__" := by decide) (hdb : (x == ("__debug__" : Str)) = false := by decide) (hn2 : y ≠ "__name__" := by decide) (hdb2 : (y == ("__debug__" : Str)) = false := by decide)
    (he : starEach [e, .Name y py] X.env = (false, eval e X.env) :: starEach [.Name y py] X.env := by rfl) (hpl : (backTo pos (starEach [.Name y py] X.env)).any (·.1) = false := by rfl) :
    DE X W (.Call (.Name x p) [e, .Name y py] [] pos) (eIsi2 T E) := PE.weak (pe_callB call_isiD hg hm hv (pa_cons ha (pa_cons (pe_bltn (v := .ty T) hg2 hm2 hv2 rfl hn2 hdb2) pa_nil) he) hn hdb he hpl) fun σ H Q ⟨B, G, δ, r, δ', at', e1, post⟩ => by
  refine tE_bind at' e1 post fun v H1 G1 δ1 d a1 x1 r1 e2 post => ?_
  obtain ⟨z, hz, hr⟩ := lift_some e2
  cases hr
  split at hz
  · rename_i hs
    cases q : kitB (tyN d) T with
    | none => rw [q] at hz; cases hz
    | some b =>
      rw [q] at hz; cases hz
      by_cases hd : isDct d = true
      · obtain ⟨a, rfl, h⟩ := isd_of a1 r1 hd
        have hq : kitB "dict" T = some b := by
          cases d <;> first | exact q | cases hd
        exact .inr ⟨a, T, b, rfl, h, hq, post G1 H1 a1 (Ext.refl _) _ (.bl b)⟩
      · have hd : isDct d = false := by cases h : isDct d <;> first | rfl | exact absurd h hd
        exact .inl ⟨v, .ty T, .type (tyN d), .type T, b, rfl, .ty T, ty_of a1.vw r1 hd (fun l c => by subst c; cases hs) (fun a b c => by subst c; cases hs), kit_ty q, post G1 H1 a1 (Ext.refl _) _ (.bl b)⟩
  · cases hz
end
end M
set_option Elab.async false
set_option linter.all false
set_option maxRecDepth 100000
set_option maxHeartbeats 1000000
set_option Elab.async false
set_option linter.all false
set_option maxRecDepth 100000
set_option maxHeartbeats 1000000
set_option Elab.async false
set_option linter.all false
set_option maxRecDepth 100000
set_option maxHeartbeats 4000000
set_option Elab.async false
set_option linter.all false
set_option maxRecDepth 100000
set_option maxHeartbeats 1000000
set_option Elab.async false
set_option linter.all false
set_option maxRecDepth 100000
set_option maxHeartbeats 1000000
set_option Elab.async false
set_option linter.all false
set_option maxRecDepth 100000
set_option maxHeartbeats 1000000
namespace M
open PySem L2 PySem.Spec PyProof.Rows
section
variable {X : Cx} {W : WK} {Wx : WX} {e : Expr} {es : List Expr} {kws : List Keyword} {A B : Mo (List Ag)} {E : Mo D} {k n : Nat} {ks : List Str} {C fI : Addr} {x : Str} {p pos pos2 : Pos} {m : Mo D} {nm : Option Str}
theorem PK.weak {t t' : TA} (h : PK X kws t) (w : ∀ σ H Q, t' σ H Q → t σ H Q) : PK X kws t' := ⟨fun po pins s σ H Q I q => h.run po pins s σ H Q I (w σ H Q q)⟩
/-- an integer constant of the module -/
theorem de_gC {i : Int} (hg : Gl X x) (hm : ∃ t, X.mg x = some (.int i t)) (hd : (x == ("__debug__" : Str)) = false := by decide) : DE X W (.Name x pos) (eC (.int i)) := by
  obtain ⟨t, hm⟩ := hm
  exact de_c (pe_glob (v := .int i) hg hm ⟨t, rfl⟩ hd) fun _ => .int i
end
end M
set_option Elab.async false
set_option linter.all false
set_option maxRecDepth 100000
set_option maxHeartbeats 1000000
namespace M
open PySem L2 PySem.Spec PyProof.Rows
/-- all of a list of bools -/
def fAll : List D → Option D
  | [.lst l] => match blsD l with
    | some bs => some (.bl (bs.all id))
    | none => none
  | _ => none
theorem snd_all {K : PySem.W.Frag} : SndF K fAll (fun vs H Q => rAll K vs H Q) := fun B G H δ σ xs as d Q at' rx h k => by
  unfold fAll at h
  split at h
  · rename_i l
    obtain ⟨v, rfl, r⟩ := rl1 rx
    cases r with
    | lst g hl r =>
      split at h
      · rename_i bs hb
        cases h
        have := blsD_ok r hb
        subst this
        exact ⟨_, bs, rfl, SqL.of (at'.vw.lst g), k _ G H at' (Ext.refl _) (.bl _)⟩
      · cases h
  · cases h
section
variable {X : Cx} {W : WK} {e a b c : Expr} {es : List Expr} {x : Str} {p pos : Pos} {E Ea Eb : Mo D} {A : Mo (List Ag)}
theorem de_all (hc : X.calm = true) (hg : Gl X x) (hm : X.mg x = none) (hv : bootBuiltins x = some (.builtin "all")) (ha : DA X W (e :: es) A) (hn : x ≠ "__name__" := by decide) (hdb : (x == ("__debug__" : Str)) = false := by decide)
    (he : starEach (e :: es) X.env = (false, eval e X.env) :: starEach es X.env := by rfl) (hpl : (backTo pos (starEach es X.env)).any (·.1) = false := by rfl) : DE X W (.Call (.Name x p) (e :: es) [] pos) (eF fAll A) :=
  de_tCB snd_all (pe_callB (cr_all hc) hg hm hv ha hn hdb he hpl)
end
end M
set_option Elab.async false
set_option linter.all false
set_option maxRecDepth 100000
set_option maxHeartbeats 1000000
namespace M
open PySem L2 PySem.Spec PyProof.Rows
mutual
/-- data without lists and dicts -/
def pureD : D → Bool
  | .non => true
  | .bl _ => true
  | .int _ => true
  | .str _ => true
  | .tup l => pureDs l
  | _ => false
def pureDs : List D → Bool
  | [] => true
  | d :: ds => pureD d && pureDs ds
end
section
variable {K : PySem.W.Frag} {B : Bs} {Gc H : Hp} {δ : Env} {σ : St}
mutual
/-- what is seen in another view, told -/
theorem R.tell (vw : Vw Gc H) : ∀ {v : V} {d : D}, R K Gc v d → pureD d = true → ∀ {G : Hp}, At K B G δ σ H → ∃ G', At K B G' δ σ H ∧ Ext G G' ∧ R K G' v d
  | _, _, .non, _, G, a => ⟨G, a, Ext.refl _, .non⟩
  | _, _, .bl b, _, G, a => ⟨G, a, Ext.refl _, .bl b⟩
  | _, _, .int i, _, G, a => ⟨G, a, Ext.refl _, .int i⟩
  | _, _, .str s, _, G, a => ⟨G, a, Ext.refl _, .str s⟩
  | _, _, .tup g l r, h, G, a => by
    obtain ⟨G1, a1, x1, r1⟩ := RL.tell vw r (by unfold pureD at h; exact h) a
    obtain ⟨G2, a2, x2, g2⟩ := a1.tuple (vw.tup g)
    exact ⟨G2, a2, x1.trans x2, .tup g2 l (r1.mono x2)⟩
  | _, _, .lst _ _ _, h, _, _ => by unfold pureD at h; cases h
  | _, _, .scr _ _ _, h, _, _ => by unfold pureD at h; cases h
  | _, _, .dK _ _ _ _, h, _, _ => by unfold pureD at h; cases h
  | _, _, .dT _ _ _ _, h, _, _ => by unfold pureD at h; cases h
  | _, _, .alb _ _ _ _ _ _ _ _, h, _, _ => by unfold pureD at h; cases h
theorem RL.tell (vw : Vw Gc H) : ∀ {vs : List V} {ds : List D}, RL K Gc vs ds → pureDs ds = true → ∀ {G : Hp}, At K B G δ σ H → ∃ G', At K B G' δ σ H ∧ Ext G G' ∧ RL K G' vs ds
  | _, _, .nil, _, G, a => ⟨G, a, Ext.refl _, .nil⟩
  | _, _, .cons r t, h, G, a => by
    unfold pureDs at h
    rw [Bool.and_eq_true] at h
    obtain ⟨G1, a1, x1, r1⟩ := R.tell vw r h.1 a
    obtain ⟨G2, a2, x2, r2⟩ := RL.tell vw t h.2 a1
    exact ⟨G2, a2, x1.trans x2, .cons (r1.mono x2) r2⟩
end
end
theorem pureDs_get : ∀ {ds : List D} {i : Nat} {d : D}, pureDs ds = true → ds[i]? = some d → pureD d = true
  | [], _, _, _, e => by simp at e
  | x :: ds, 0, d, h, e => by
    unfold pureDs at h; rw [Bool.and_eq_true] at h
    simp at e; subst e; exact h.1
  | x :: ds, i + 1, d, h, e => by
    unfold pureDs at h; rw [Bool.and_eq_true] at h
    exact pureDs_get h.2 (by simpa using e)
/-- the class Album, as the known objects have it -/
structure AlbK (K : PySem.W.Frag) (C : Addr) : Prop where
  ns : PySem.W.nsIn K mainGlobals "Album" = some (some (.ref C))
  cls : Cls K C
  nv : NoAttr K C "_views"
  nl : NoAttr K C "_links"
def fldN (b : Bool) : Str := if b then "_views" else "_links"
section
variable {K : PySem.W.Frag} {B : Bs} {G G' H : Hp} {δ : Env} {σ : St} {i : Nat} {C : Addr}
/-- what is lent to be read stays -/
theorem At.bor_at (a : At K B G δ σ H) {B' : Bs} {G2 H2 : Hp} {δ2 : Env} {σ2 : St} (le : BLe B B') (a' : At K B' G2 δ2 σ2 H2) (j : Nat) : Vw (B.Bo j) H2 := fun p o e => by
  have h0 := a.bod j p (by rw [e]; simp)
  cases q : B.H0 p with
  | none => exact absurd q h0
  | some o0 =>
    have nio : ∀ k, (k, p) ∉ B.IO := fun k z => by
      have := (a.iok k p z).2.2.1 j
      rw [e] at this; cases this
    have e1 := a.keep p o0 q nio
    have e2 := a'.keep p o0 (le.1 p o0 q) (fun k => by rw [le.2]; exact nio k)
    have := a.bo j p o e
    rw [e1] at this
    rw [e2]; exact this
def albSl (δ : Env) (i : Nat) : Option (List D × List D) := match δ[i]? with
  | some (.bor (.alb vs ls)) => some (vs, ls)
  | _ => none
theorem albSl_ok {vs ls : List D} (h : albSl δ i = some (vs, ls)) : δ[i]? = some (.bor (.alb vs ls)) := by
  unfold albSl at h
  split at h
  · rename_i q; cases h; exact q
  · cases h
end
def fldL : Bool → List D → List D → List D
  | true, vs, _ => vs
  | false, _, ls => ls
def iFld (i : Nat) (b : Bool) : Mo (List D) := fun δ => match albSl δ i with
  | some (vs, ls) => if pureDs (fldL b vs ls) = true then some (.ok (fldL b vs ls), δ) else none
  | none => none
section
variable {X : Cx} {W : WK} {o e tg : Expr} {f : Str} {p pos apos : Pos} {C : Addr} {i : Nat} {b : Bool}
theorem fld_at (TA : AlbK X.K C) (hf : f = fldN b) {B : Bs} {G H : Hp} {δ : Env} {σ : St} (a : At X.K B G δ σ H) {vs ls : List D} (h : albSl δ i = some (vs, ls)) :
    ∃ v q xs, σ[i]? = some (some v) ∧ (∃ a C dx fs u, v = .ref a ∧ H a = some (.ins C dx fs) ∧ Cls X.K C ∧ NoAttr X.K C f ∧ fs.lookup f = some u ∧ u = .ref q) ∧ (B.Bo i) q ≠ none ∧ H q = some (.lst xs) ∧ xs.length ≤ sizeLine ∧ RL X.K (B.Bo i) xs (fldL b vs ls) := by
  have hs := albSl_ok h
  obtain ⟨v, h1, r⟩ := a.bor hs
  cases r with
  | alb c h2 h3 h4 l1 l2 r1 r2 =>
    rename_i p av al C' dx xs ys
    have := c.symm.trans TA.ns
    cases this
    cases b with
    | true => subst hf; exact ⟨_, av, xs, h1, ⟨p, C, dx, _, _, rfl, (a.bo i).ins h2, TA.cls, TA.nv, rfl, rfl⟩, by rw [h3]; simp, (a.bo i).lst h3, l1, r1⟩
    | false => subst hf; exact ⟨_, al, ys, h1, ⟨p, C, dx, _, _, rfl, (a.bo i).ins h2, TA.cls, TA.nl, rfl, rfl⟩, by rw [h4]; simp, (a.bo i).lst h4, l2, r2⟩
/-- for .. in x._views -/
theorem di_fld (TA : AlbK X.K C) (hf : f = fldN b) (ho : PE X o (tVar i)) (hb : attributeBase o f X.env (eval o X.env) = eval o X.env := by rfl) : DI X W tg (.Attribute o f pos) (iFld i b) :=
  ⟨fun pins s σ H R' I ⟨B, G, δ, r, δ', a, e1, post⟩ => (pi_list (tg := tg) (pe_fld ho hb)).run pins s σ H R' I (by
    unfold iFld at e1
    split at e1
    · rename_i vs ls q
      split at e1
      · rename_i hp
        cases e1
        obtain ⟨v, qa, xs, h1, ⟨pa, C', dx, fs, u, h2, h3, h4, h5, h6, h7⟩, h8, h9, hl, h10⟩ := fld_at TA hf a q
        subst h7
        refine ⟨v, h1, pa, C', dx, fs, .ref qa, h2, h3, h4, h5, h6, qa, rfl, ⟨xs, SqL.of h9⟩, post G H a (Ext.refl _) _ ?_⟩
        intro B' G2 H2 δ2 σ2 le a' ex j
        have vw := a.bor_at le a' i
        have hq : H2 qa = some (.lst xs) := by
          cases z : B.Bo i qa with
          | none => exact absurd z h8
          | some oo =>
            have z1 := a.bo i qa oo z
            rw [h9] at z1
            rcases z1 with z1 | ⟨_, x, z1⟩
            · cases z1; exact vw.lst z
            · cases z1
        refine ⟨fun d hd => ?_, fun hl => ⟨xs, SqL.of hq, by rw [h10.length]; exact hl⟩⟩
        obtain ⟨x, g1, g2⟩ := h10.get hd
        refine ⟨⟨xs, x, SqL.of hq, g1⟩, fun y H' ⟨e1, e2⟩ => ⟨e1, ?_⟩⟩
        have := e2 xs (SqL.of hq)
        rw [g1] at this; cases this
        exact g2.tell vw (pureDs_get hp hd) a'
      · cases e1
    · cases e1)⟩
/-- list(x._views) -/
def eLstF (i : Nat) (b : Bool) : Mo D := (iFld i b).bind fun l => Mo.ret (.lst l)
theorem do_lstF (hc : X.calm = true) {x : Str} (TA : AlbK X.K C) (hf : f = fldN b) (hg : Gl X x) (hm : X.mg x = none) (hv : bootBuiltins x = some (.type "list")) (ho : PE X o (tVar i)) (hb : attributeBase o f X.env (eval o X.env) = eval o X.env := by rfl)
    (hn : x ≠ "__name__" := by decide) (hdb : (x == ("__debug__" : Str)) = false := by decide)
    (he : starEach [.Attribute o f apos] X.env = (false, eval (.Attribute o f apos) X.env) :: starEach [] X.env := by rfl) (hpl : (backTo pos (starEach [] X.env)).any (·.1) = false := by rfl) :
    DO X W (.Call (.Name x p) [.Attribute o f apos] [] pos) (eLstF i b) :=
  PE.weak (pe_callTy (call_listA hc) hg hm hv (pa_cons (pe_fld ho hb) pa_nil he) hn hdb he hpl) fun σ H Q ⟨B, G, δ, r, δ', a, e1, post⟩ => by
    unfold eLstF Mo.bind iFld at e1
    split at e1
    · cases e1
    · rename_i q0
      split at q0
      · split at q0 <;> cases q0
      · cases q0
    · rename_i l δ1 q0
      split at q0
      · rename_i vs ls q
        split at q0
        · rename_i hp
          cases q0
          cases e1
          obtain ⟨v, qa, xs, h1, ⟨pa, C', dx, fs, u, h2, h3, h4, h5, h6, h7⟩, h8, h9, hl, h10⟩ := fld_at TA hf a q
          subst h7
          obtain ⟨G1, a1, x1, r1⟩ := h10.tell (a.bo i) hp a
          refine ⟨v, h1, pa, C', dx, fs, .ref qa, h2, h3, h4, h5, h6, ?_⟩
          refine .inl ⟨qa, xs, rfl, .inl (SqL.of h9), fun q hq => ?_⟩
          obtain ⟨b1, b2⟩ := a1.own1 (p := q) (o := .lst xs) hq (.lst upd_same hl r1)
          exact post G1 _ b1 x1 q b2
        · cases q0
      · cases q0
end
/-- a method of Album: its function, its mirror (self first, lent to be read) -/
structure CalS (P : Program) (w : World) (K : PySem.W.Frag) (mg : Str → Option Value) (base : Heap) (C : Addr) (k : Nat) (x : Str) (n : Nat) (ro : Bool) (m : Mo D) : Prop where
  ex : ∃ (f : Addr) (fd : FuncData) (ps : List Str), FnOk P w K mg base CX0 k f fd ps (spM Wn K n ro m) ∧ Meth K C x f ∧ Binds K fd ps []
def isAlb (δ : Env) (i : Nat) : Bool := match δ[i]? with
  | some (.bor (.alb _ _)) => true
  | some (.imm (.alb _ _)) => true
  | _ => false
theorem isAlb_ok {K : PySem.W.Frag} {B : Bs} {G H : Hp} {δ : Env} {σ : St} {i : Nat} {C : Addr} (TA : AlbK K C) (a : At K B G δ σ H) (h : isAlb δ i = true) : ∃ p av al dx, σ[i]? = some (some (.ref p)) ∧ H p = some (.ins C dx [("_views", .ref av), ("_links", .ref al)]) := by
  unfold isAlb at h
  split at h
  · rename_i q
    obtain ⟨v, h1, r⟩ := a.bor q
    cases r with
    | alb c h2 h3 h4 l1 l2 r1 r2 =>
      have := c.symm.trans TA.ns
      cases this
      exact ⟨_, _, _, _, h1, (a.bo i).ins h2⟩
  · rename_i q
    obtain ⟨v, h1, r⟩ := a.imm q
    cases r with
    | alb c h2 h3 h4 l1 l2 r1 r2 =>
      have := c.symm.trans TA.ns
      cases this
      exact ⟨_, _, _, _, h1, a.vw.ins h2⟩
  · cases h
/-- x.m(..), x an album -/
def eMeth (m : Mo D) (i : Nat) (A : Mo (List Ag)) : Mo D := fun δ => if isAlb δ i = true then (A.bind fun as => callM m (.vb i :: as)) δ else none
section
variable {X : Cx} {o e : Expr} {es : List Expr} {x : Str} {pos apos : Pos} {C : Addr} {i k n : Nat} {A : Mo (List Ag)} {m : Mo D} {pl : Sem Bool}
theorem meth_ok {ro : Bool} {K : PySem.W.Frag} (TA : AlbK K C) (hl : ALen A n) (h1 : x ≠ "_views") (h2 : x ≠ "_links") {B : Bs} {G H : Hp} {δ δ' : Env} {σ : St} {r : Except Exn D} {Q : VK} (a : At K B G δ σ H) (e1 : eMeth m i A δ = some (r, δ'))
    (post : Post K W0 B G σ r δ' (fun d G' H' => if ro = true then ∀ p, Fr1 K B G' δ' σ H' p d → Q (.ref p) H' else ∀ v, R K G' v d → Q v H')) :
    tMeth C x (spM Wn K (n + 1) ro m) [] E0 (tVar i) (tA K W0 A) σ H Q := by
  unfold eMeth at e1
  split at e1
  · rename_i hi
    obtain ⟨p, av, al, dx, hp, hH⟩ := isAlb_ok TA a hi
    refine ⟨_, hp, p, dx, _, rfl, hH, ?_, ?_⟩
    · simp only [List.lookup]
      rw [show (x == ("_views" : Str)) = false from beq_eq_false_iff_ne.mpr h1, show (x == ("_links" : Str)) = false from beq_eq_false_iff_ne.mpr h2]
    refine tA_bind' a e1 post fun vs H1 G1 δ1 as ea a1 x1 r1 e3 post => ?_
    show spM Wn K (n + 1) ro m (.ref p :: (vs ++ [])) H1 Q E0
    rw [List.append_nil]
    refine call_ok (W := W0) (Wf := Wn) (E := E0) rfl (fun _ _ _ _ _ _ _ h => h) a1 (as := .vb i :: as) (.cons (show AgOk K G1 σ (.ref p) (.vb i) from hp) r1) e3 ?_ (by rw [List.length_cons, hl _ _ _ ea])
    cases r with
    | ok d => exact fun G' H' a' x' => post G' H' a' x'
    | error x => exact fun G' H' a' x' => post G' σ H' a' x'
  · cases e1
theorem tA_nil {K : PySem.W.Frag} {σ : St} {H : Hp} {Q : List V → Hp → Prop} (q : tA K W0 aNil σ H Q) : tNil σ H Q := by
  obtain ⟨B, G, δ, r, δ', a, e1, post⟩ := q
  cases e1
  exact post G H a (Ext.refl _) _ .nil
theorem meth0_w {K : PySem.W.Frag} {sp : Sp} {σ : St} {H : Hp} {Q : VK} (q : tMeth C x sp [] E0 (tVar i) (tA K W0 aNil) σ H Q) : tMeth C x sp [] E0 (tVar i) tNil σ H Q := by
  obtain ⟨v, h1, a, dx, fs, h2, h3, h4, h5⟩ := q
  exact ⟨v, h1, a, dx, fs, h2, h3, h4, tA_nil h5⟩
theorem de_meth0 (TA : AlbK X.K C) (F : CalS X.prog X.w X.K X.mg X.base C k x 1 false m) (hr : Room k X.A) (ho : PE X o (tVar i)) (h1 : x ≠ "_views" := by decide) (h2 : x ≠ "_links" := by decide)
    (ht : eval (.Call (.Attribute o x apos) [] [] pos) X.env = (do
      let ov ← eval o X.env
      standAt apos.atName
      let (f, first) ← holding [ov] (getMethod ov x pl)
      callWith pos f first (backTo pos (starEach [] X.env)) (backToKw pos (keywordEach [] X.env))) := by rfl) : DE X W0 (.Call (.Attribute o x apos) [] [] pos) (eMeth m i aNil) := by
  obtain ⟨f, fd, ps, F, hm, hb⟩ := F.ex
  exact PE.weak (pe_meth0 (E := E0) ho TA.cls hm F hr hb .nil pass0 ht) fun σ H Q ⟨B, G, δ, r, δ', a, e1, post⟩ => meth0_w (meth_ok TA alen_nil h1 h2 a e1 (by
    cases r with
    | ok d => exact fun G' H' a' x' => by show (if false = true then _ else _); rw [if_neg Bool.false_ne_true]; exact fun v rv => post G' H' a' x' v rv
    | error x => exact post))
end
end M
set_option Elab.async false
set_option linter.all false
set_option maxRecDepth 100000
set_option maxHeartbeats 1000000
namespace M
open PySem L2 PySem.Spec PyProof.Rows
section
variable {K : PySem.W.Frag} {G G' : Hp}
mutual
/-- data of tuples alone, in another view of the same tuples -/
theorem R.tups (h : ∀ a xs, G a = some (.tup xs) → G' a = some (.tup xs)) : ∀ {v : V} {d : D}, R K G v d → pureD d = true → R K G' v d
  | _, _, .non, _ => .non
  | _, _, .bl b, _ => .bl b
  | _, _, .int i, _ => .int i
  | _, _, .str s, _ => .str s
  | _, _, .tup g l r, q => .tup (h _ _ g) l (RL.tups h r (by unfold pureD at q; exact q))
  | _, _, .lst _ _ _, q => by unfold pureD at q; cases q
  | _, _, .scr _ _ _, q => by unfold pureD at q; cases q
  | _, _, .dK _ _ _ _, q => by unfold pureD at q; cases q
  | _, _, .dT _ _ _ _, q => by unfold pureD at q; cases q
  | _, _, .alb _ _ _ _ _ _ _ _, q => by unfold pureD at q; cases q
theorem RL.tups (h : ∀ a xs, G a = some (.tup xs) → G' a = some (.tup xs)) : ∀ {vs : List V} {ds : List D}, RL K G vs ds → pureDs ds = true → RL K G' vs ds
  | _, _, .nil, _ => .nil
  | _, _, .cons r t, q => by
    unfold pureDs at q
    rw [Bool.and_eq_true] at q
    exact .cons (R.tups h r q.1) (RL.tups h t q.2)
end
end
/-- the album's objects: the instance, its class, its dict, its lists and what they hold -/
structure AlbR where
  p : Addr
  C : Addr
  dx : Addr
  av : Addr
  al : Addr
  xs : List V
  ys : List V
def AlbR.ins (r : AlbR) : HO := .ins r.C r.dx [("_views", .ref r.av), ("_links", .ref r.al)]
/-- they are there, and nobody else knows them -/
structure AlbAt (K : PySem.W.Frag) (B : Bs) (G : Hp) (δ : Env) (σ : St) (H : Hp) (r : AlbR) : Prop where
  ns : PySem.W.nsIn K mainGlobals "Album" = some (some (.ref r.C))
  hp : H r.p = some r.ins
  hv : H r.av = some (.lst r.xs)
  hl : H r.al = some (.lst r.ys)
  g : G r.p = none ∧ G r.av = none ∧ G r.al = none
  b : B.H0 r.p = none ∧ B.H0 r.av = none ∧ B.H0 r.al = none
  no : ∀ j, ¬ OwnAt δ σ j r.p ∧ ¬ OwnAt δ σ j r.av ∧ ¬ OwnAt δ σ j r.al
  ne : r.av ≠ r.al
  lx : r.xs.length ≤ sizeLine
  ly : r.ys.length ≤ sizeLine
/-- the view through which the frame reads them -/
def albG (G : Hp) (r : AlbR) : Hp := fun a => if a = r.p then some r.ins else if a = r.av then some (.lst r.xs) else if a = r.al then some (.lst r.ys) else match G a with
  | some (.tup zs) => some (.tup zs)
  | _ => none
def albB (B : Bs) (G H : Hp) (i : Nat) (r : AlbR) : Bs := ⟨fun a => match B.H0 a with
  | some o => some o
  | none => if a = r.p ∨ a = r.av ∨ a = r.al then H a else match G a with
    | some (.tup zs) => some (.tup zs)
    | _ => none, G, fun j => if j = i then albG G r else B.Bo j, B.IO⟩
structure Inn (K : PySem.W.Frag) (B B' : Bs) (i : Nat) (r : AlbR) : Prop where
  h0 : ∀ a o, B.H0 a = some o → B'.H0 a = some o
  g0 : Ext B.G0 B'.G0
  io : B'.IO = B.IO
  bo : ∀ j, j ≠ i → B'.Bo j = B.Bo j
  lk : ∀ a o, B.H0 a = some o → (∀ xs, o ≠ .tup xs) → B.G0 a = none → B'.G0 a = none
  vi : ∀ a o, B.Bo i a = some o → ∃ o0, B.H0 a = some o0 ∧ (o0 = o ∨ (isD o = true ∧ ∃ x, o0 = .frz x o)) ∧ ∀ k, (k, a) ∉ B.IO
  bod : ∀ j a, B.Bo j a ≠ none → B.H0 a ≠ none
  iok : ∀ k a, (k, a) ∈ B.IO → B.G0 a = none ∧ B.H0 a ≠ none ∧ ∀ j, B.Bo j a = none
  tb : (∀ b ps, B.H0 b ≠ some (.tbl ps)) ∧ (∀ j b ps, B.Bo j b ≠ some (.tbl ps)) ∧ ∀ i b xs, (i, b) ∈ B.IO → B.H0 b ≠ some (.tup xs)
  ns : PySem.W.nsIn K mainGlobals "Album" = some (some (.ref r.C))
  b : B.H0 r.p = none ∧ B.H0 r.av = none ∧ B.H0 r.al = none
  ip : B'.Bo i r.p = some r.ins
  iv : B'.Bo i r.av = some (.lst r.xs)
  il : B'.Bo i r.al = some (.lst r.ys)
  uq : ∀ q C dx fs, B'.Bo i q = some (.ins C dx fs) → q = r.p
  z : B'.G0 r.p = none ∧ B'.G0 r.av = none ∧ B'.G0 r.al = none
  ne : r.av ≠ r.al
  lx : r.xs.length ≤ sizeLine
  ly : r.ys.length ≤ sizeLine
section
variable {K : PySem.W.Frag} {B B' : Bs} {G G' H H' : Hp} {δ δ' : Env} {σ σ' : St} {i : Nat} {r : AlbR}
theorem albG_p : albG G r r.p = some r.ins := if_pos rfl
theorem no_own : ∀ d, Sl.no ≠ Sl.own d ∧ Sl.no ≠ Sl.io d := fun d => ⟨fun c => (by cases c), fun c => (by cases c)⟩
theorem bor_own {x : D} : ∀ d, Sl.bor x ≠ Sl.own d ∧ Sl.bor x ≠ Sl.io d := fun d => ⟨fun c => (by cases c), fun c => (by cases c)⟩
theorem own_set (hs : ∀ d, s ≠ Sl.own d ∧ s ≠ Sl.io d) {j : Nat} {p : Addr} (z : OwnAt (δ.set i s) σ j p) : i ≠ j ∧ OwnAt δ σ j p := by
  obtain ⟨⟨d, z1 | z1⟩, z2⟩ := z
  · rcases get_set z1 with ⟨_, y, _⟩ | ⟨y, q⟩
    · exact absurd y.symm (hs d).1
    · exact ⟨y, ⟨d, .inl q⟩, z2⟩
  · rcases get_set z1 with ⟨_, y, _⟩ | ⟨y, q⟩
    · exact absurd y.symm (hs d).2
    · exact ⟨y, ⟨d, .inr q⟩, z2⟩
theorem At.exit (n : Inn K B B' i r) (a : At K B' G δ σ H) : At K B G (δ.set i .no) σ H ∧ AlbAt K B G (δ.set i .no) σ H r := by
  have nio : ∀ q, B'.Bo i q ≠ none → ∀ k, (k, q) ∉ B'.IO := fun q h k z => h ((a.iok k q z).2.2.1 i)
  have gnone : ∀ q o, B'.Bo i q = some o → isD o = false → (∀ xs, o ≠ .tup xs) → B'.G0 q = none → H q = some o ∧ G q = none := fun q o e d t z => by
    have hq : H q = some o := by
      rcases a.bo i q o e with h | ⟨h, _⟩
      · exact h
      · rw [d] at h; cases h
    have h0 := a.bod i q (by rw [e]; simp)
    cases q0 : B'.H0 q with
    | none => exact absurd q0 h0
    | some o0 =>
      have := a.keep q o0 q0 (nio q (by rw [e]; simp))
      rw [hq] at this; cases this
      exact ⟨hq, a.leak q o q0 t z⟩
  obtain ⟨h1, h2⟩ := gnone r.p _ n.ip rfl (fun xs e => by unfold AlbR.ins at e; cases e) n.z.1
  obtain ⟨h3, h4⟩ := gnone r.av _ n.iv rfl (fun xs e => by cases e) n.z.2.1
  obtain ⟨h5, h6⟩ := gnone r.al _ n.il rfl (fun xs e => by cases e) n.z.2.2
  have noOwn : ∀ q, B'.Bo i q ≠ none → ∀ j, ¬ OwnAt (δ.set i .no) σ j q := fun q h j z => by
    obtain ⟨_, ⟨d, z1 | z1⟩, z2⟩ := own_set no_own z
    · obtain ⟨p, e1, _, _, e4⟩ := a.own z1
      rw [e1] at z2; cases z2
      exact a.bod i q h e4
    · obtain ⟨p, e1, _, _, e4⟩ := a.io z1
      rw [e1] at z2; cases z2
      exact nio q h j e4
  refine ⟨⟨a.vw, n.g0.trans a.g0, fun q o h z => a.keep q o (n.h0 q o h) (by rw [n.io]; exact z), fun q h => ?_, fun q o h t z => a.leak q o (n.h0 q o h) t (n.lk q o h t z), fun k q h => ?_, fun j => ?_, n.bod, by rw [List.length_set]; exact a.len, fun j s e => ?_, fun j k q e1 e2 => ?_, ⟨a.tb.1, n.tb.1, a.tb.2.2.1, n.tb.2.1, n.tb.2.2⟩⟩, ⟨n.ns, h1, h3, h5, ⟨h2, h4, h6⟩, n.b, fun j => ⟨noOwn _ (by rw [n.ip]; simp) j, noOwn _ (by rw [n.iv]; simp) j, noOwn _ (by rw [n.il]; simp) j⟩, n.ne, n.lx, n.ly⟩⟩
  · cases q0 : B.H0 q with
    | none => exact absurd q0 h
    | some o => exact a.dom q (by rw [n.h0 q o q0]; simp)
  · obtain ⟨y1, y2, y3⟩ := n.iok k q h
    exact ⟨y1, y2, y3, (a.iok k q (by rw [n.io]; exact h)).2.2.2⟩
  · by_cases c : j = i
    · subst c
      intro q o e
      obtain ⟨o0, y1, y2, y3⟩ := n.vi q o e
      have := a.keep q o0 (n.h0 q o0 y1) (fun k => by rw [n.io]; exact y3 k)
      rcases y2 with rfl | ⟨y2, x, rfl⟩
      · exact .inl this
      · exact .inr ⟨y2, x, this⟩
    · rw [← n.bo j c]; exact a.bo j
  · rcases get_set e with ⟨rfl, rfl, z⟩ | ⟨c, e⟩
    · exact ⟨σ[i]'(by rw [← a.len]; exact z), List.getElem?_eq_getElem _, trivial⟩
    · obtain ⟨ov, y1, y2⟩ := a.sl j s e
      refine ⟨ov, y1, ?_⟩
      cases s with
      | no => trivial
      | imm d => exact y2
      | own d =>
        obtain ⟨p, z1, z2, z3, z4⟩ := y2
        refine ⟨p, z1, z2, z3, ?_⟩
        cases q0 : B.H0 p with
        | none => rfl
        | some o => rw [n.h0 p o q0] at z4; cases z4
      | io d =>
        obtain ⟨p, z1, z2, z3, z4⟩ := y2
        exact ⟨p, z1, z2, z3, by rw [← n.io]; exact z4⟩
      | bor d =>
        obtain ⟨v, z1, z2⟩ := y2
        exact ⟨v, z1, by rw [← n.bo j (Ne.symm c)]; exact z2⟩
  · exact a.apart j k q (own_set no_own e1).2 (own_set no_own e2).2
theorem At.enter (a : At K B G δ σ H) (g : AlbAt K B G δ σ H r) (hs : δ[i]? = some .no) (hσ : σ[i]? = some (some (.ref r.p))) {vs ls : List D} (rv : RL K G r.xs vs) (pv : pureDs vs = true) (rl : RL K G r.ys ls) (pl : pureDs ls = true) :
    Inn K B (albB B G H i r) i r ∧ At K (albB B G H i r) G (δ.set i (.bor (.alb vs ls))) σ H := by
  have np : r.p ≠ r.av := fun c => by have := g.hp; rw [c, g.hv] at this; unfold AlbR.ins at this; cases this
  have nq : r.p ≠ r.al := fun c => by have := g.hp; rw [c, g.hl] at this; unfold AlbR.ins at this; cases this
  have gv : albG G r r.av = some (.lst r.xs) := by unfold albG; rw [if_neg (Ne.symm np), if_pos rfl]
  have gl : albG G r r.al = some (.lst r.ys) := by unfold albG; rw [if_neg (Ne.symm nq), if_neg (Ne.symm g.ne), if_pos rfl]
  have gt : ∀ q zs, G q = some (.tup zs) → albG G r q = some (.tup zs) := fun q zs e => by
    unfold albG
    rw [if_neg (fun c => by rw [c, g.g.1] at e; cases e), if_neg (fun c => by rw [c, g.g.2.1] at e; cases e), if_neg (fun c => by rw [c, g.g.2.2] at e; cases e), e]
  have gof : ∀ q o, albG G r q = some o → (q = r.p ∧ o = r.ins) ∨ (q = r.av ∧ o = .lst r.xs) ∨ (q = r.al ∧ o = .lst r.ys) ∨ ∃ zs, G q = some (.tup zs) ∧ o = .tup zs := fun q o e => by
    unfold albG at e
    split at e
    · rename_i c; cases e; exact .inl ⟨c, rfl⟩
    · split at e
      · rename_i c; cases e; exact .inr (.inl ⟨c, rfl⟩)
      · split at e
        · rename_i c; cases e; exact .inr (.inr (.inl ⟨c, rfl⟩))
        · split at e
          · rename_i zs c; cases e; exact .inr (.inr (.inr ⟨zs, c, rfl⟩))
          · cases e
  have vwG : Vw (albG G r) H := fun q o e => by
    rcases gof q o e with ⟨rfl, rfl⟩ | ⟨rfl, rfl⟩ | ⟨rfl, rfl⟩ | ⟨zs, h, rfl⟩
    · exact .inl g.hp
    · exact .inl g.hv
    · exact .inl g.hl
    · exact .inl (a.vw.tup h)
  have H0of : ∀ q o, (albB B G H i r).H0 q = some o → B.H0 q = some o ∨ (B.H0 q = none ∧ H q = some o ∧ albG G r q = some o) := fun q o e => by
    have e : (match B.H0 q with
      | some o => some o
      | none => if q = r.p ∨ q = r.av ∨ q = r.al then H q else match G q with
        | some (.tup zs) => some (.tup zs)
        | _ => none) = some o := e
    cases q0 : B.H0 q with
    | some o' => rw [q0] at e; cases e; exact .inl rfl
    | none =>
      rw [q0] at e
      simp only [] at e
      split at e
      · rename_i c
        refine .inr ⟨rfl, e, ?_⟩
        rcases c with rfl | rfl | rfl
        · rw [g.hp] at e; cases e; exact albG_p
        · rw [g.hv] at e; cases e; exact gv
        · rw [g.hl] at e; cases e; exact gl
      · split at e
        · rename_i zs c; cases e; exact .inr ⟨rfl, a.vw.tup c, gt _ _ c⟩
        · cases e
  have H0up : ∀ q o, B.H0 q = some o → (albB B G H i r).H0 q = some o := fun q o e => by
    show (match B.H0 q with
      | some o => some o
      | none => _) = some o
    rw [e]
  have H0g : ∀ q, albG G r q ≠ none → (albB B G H i r).H0 q ≠ none := fun q h => by
    cases q0 : B.H0 q with
    | some o => rw [H0up q o q0]; simp
    | none =>
      show (match B.H0 q with
      | some o => some o
      | none => if q = r.p ∨ q = r.av ∨ q = r.al then H q else match G q with
        | some (.tup zs) => some (.tup zs)
        | _ => none) ≠ none
      rw [q0]
      cases e : albG G r q with
      | none => exact absurd e h
      | some o =>
        rcases gof q o e with ⟨rfl, _⟩ | ⟨rfl, _⟩ | ⟨rfl, _⟩ | ⟨zs, c, _⟩
        · simp only [true_or, if_true]; rw [g.hp]; simp
        · simp only [true_or, or_true, if_true]; rw [g.hv]; simp
        · simp only [or_true, if_true]; rw [g.hl]; simp
        · simp only []
          split
          · rw [a.vw.tup c]; simp
          · rw [c]; simp
  have gio : ∀ k q, (k, q) ∈ B.IO → G q = none := fun k q h => by
    obtain ⟨y1, y2, _, _⟩ := a.iok k q h
    cases q0 : B.H0 q with
    | none => exact absurd q0 y2
    | some o => exact a.leak q o q0 (fun xs c => a.tb.2.2.2.2 k q xs h (by rw [q0, c])) y1
  have nio : ∀ k q, (k, q) ∈ B.IO → albG G r q = none := fun k q h => by
    cases e : albG G r q with
    | none => rfl
    | some o =>
      have y2 := (a.iok k q h).2.1
      rcases gof q o e with ⟨rfl, _⟩ | ⟨rfl, _⟩ | ⟨rfl, _⟩ | ⟨zs, c, _⟩
      · exact absurd g.b.1 y2
      · exact absurd g.b.2.1 y2
      · exact absurd g.b.2.2 y2
      · rw [gio k q h] at c; cases c
  have Boi : (albB B G H i r).Bo i = albG G r := by show (if i = i then _ else _) = _; rw [if_pos rfl]
  have Boj : ∀ j, j ≠ i → (albB B G H i r).Bo j = B.Bo j := fun j c => by show (if j = i then _ else _) = _; rw [if_neg c]
  refine ⟨⟨H0up, a.g0, rfl, Boj, fun q o h t z => a.leak q o h t z, fun q o e => ?_, a.bod, fun k q h => ⟨(a.iok k q h).1, (a.iok k q h).2.1, (a.iok k q h).2.2.1⟩, ⟨a.tb.2.1, a.tb.2.2.2⟩, g.ns, g.b, by rw [Boi]; exact albG_p, by rw [Boi]; exact gv, by rw [Boi]; exact gl, fun q C dx fs e => ?_, g.g, g.ne, g.lx, g.ly⟩, ⟨a.vw, Ext.refl G, fun q o h z => ?_, fun q h => ?_, fun q o h t z => z, fun k q h => ?_, fun j => ?_, fun j q h => ?_, by rw [List.length_set]; exact a.len, fun j s e => ?_, fun j k q e1 e2 => ?_, ⟨a.tb.1, fun b ps e => ?_, a.tb.2.2.1, fun j b ps e => ?_, fun k b xs h e => ?_⟩⟩⟩
  · have h0 := a.bod i q (by rw [e]; simp)
    cases q0 : B.H0 q with
    | none => exact absurd q0 h0
    | some o0 =>
      have n : ∀ k, (k, q) ∉ B.IO := fun k z => by
        have := (a.iok k q z).2.2.1 i
        rw [e] at this; cases this
      refine ⟨o0, rfl, ?_, n⟩
      have h1 := a.keep q o0 q0 n
      rcases a.bo i q o e with h | ⟨h, x, h2⟩
      · rw [h1] at h; exact .inl (Option.some.inj h)
      · rw [h1] at h2; exact .inr ⟨h, x, Option.some.inj h2⟩
  · rw [Boi] at e
    rcases gof q _ e with ⟨h, _⟩ | ⟨_, h⟩ | ⟨_, h⟩ | ⟨zs, _, h⟩
    · exact h
    · cases h
    · cases h
    · cases h
  · rcases H0of q o h with h | ⟨_, h, _⟩
    · exact a.keep q o h z
    · exact h
  · cases q0 : (albB B G H i r).H0 q with
    | none => exact absurd q0 h
    | some o =>
      rcases H0of q o q0 with h | ⟨_, h, _⟩
      · exact a.dom q (by rw [h]; simp)
      · rw [h]; simp
  · obtain ⟨y1, y2, y3, y4⟩ := a.iok k q h
    refine ⟨gio k q h, ?_, fun j => ?_, y4⟩
    · cases q0 : B.H0 q with
      | none => exact absurd q0 y2
      | some o => rw [H0up q o q0]; simp
    · by_cases c : j = i
      · rw [c, Boi]; exact nio k q h
      · rw [Boj j c]; exact y3 j
  · by_cases c : j = i
    · rw [c, Boi]; exact vwG
    · rw [Boj j c]; exact a.bo j
  · by_cases c : j = i
    · rw [c, Boi] at h; exact H0g q h
    · rw [Boj j c] at h
      cases q0 : B.H0 q with
      | none => exact absurd q0 (a.bod j q h)
      | some o => rw [H0up q o q0]; simp
  · rcases get_set e with ⟨rfl, rfl, z⟩ | ⟨c, e⟩
    · refine ⟨_, hσ, .ref r.p, rfl, ?_⟩
      rw [Boi]
      exact .alb g.ns albG_p gv gl g.lx g.ly (rv.tups gt pv) (rl.tups gt pl)
    · obtain ⟨ov, y1, y2⟩ := a.sl j s e
      refine ⟨ov, y1, ?_⟩
      cases s with
      | no => trivial
      | imm d => exact y2
      | own d =>
        obtain ⟨p, z1, z2, z3, z4⟩ := y2
        subst z1
        refine ⟨p, rfl, z2, z3, ?_⟩
        cases q0 : (albB B G H i r).H0 p with
        | none => rfl
        | some o =>
          have oa : OwnAt δ σ j p := ⟨⟨d, .inl e⟩, y1⟩
          rcases H0of p o q0 with h | ⟨_, _, h⟩
          · rw [z4] at h; cases h
          · rcases gof p o h with ⟨rfl, _⟩ | ⟨rfl, _⟩ | ⟨rfl, _⟩ | ⟨zs, c, _⟩
            · exact absurd oa (g.no j).1
            · exact absurd oa (g.no j).2.1
            · exact absurd oa (g.no j).2.2
            · rw [z2] at c; cases c
      | io d => exact y2
      | bor d =>
        obtain ⟨v, z1, z2⟩ := y2
        exact ⟨v, z1, by rw [Boj j (Ne.symm c)]; exact z2⟩
  · exact a.apart j k q (own_set bor_own e1).2 (own_set bor_own e2).2
  · rcases H0of b _ e with h | ⟨_, _, h⟩
    · exact a.tb.2.1 b ps h
    · rcases gof b _ h with ⟨_, c⟩ | ⟨_, c⟩ | ⟨_, c⟩ | ⟨zs, _, c⟩
      · unfold AlbR.ins at c; cases c
      · cases c
      · cases c
      · cases c
  · by_cases c : j = i
    · rw [c, Boi] at e
      rcases gof b _ e with ⟨_, c⟩ | ⟨_, c⟩ | ⟨_, c⟩ | ⟨zs, _, c⟩
      · unfold AlbR.ins at c; cases c
      · cases c
      · cases c
      · cases c
    · rw [Boj j c] at e; exact a.tb.2.2.2.1 j b ps e
  · rcases H0of b _ e with h2 | ⟨h2, _, _⟩
    · exact a.tb.2.2.2.2 k b xs h h2
    · exact (a.iok k b h).2.1 h2
end
end M
set_option Elab.async false
set_option linter.all false
set_option maxRecDepth 100000
set_option maxHeartbeats 1000000
namespace M
open PySem L2 PySem.Spec PyProof.Rows
/-- what is held beside the frame: a relation between what the frame leaves as it was and what it leaves as it was for now -/
abbrev Kd := Bs → Bs → Hp → Prop
structure RegK (K : PySem.W.Frag) (i : Nat) (κ : Kd) : Prop where
  mono : ∀ {B B1 G G'}, κ B B1 G → Ext G G' → κ B B1 G'
  exit : ∀ {B B1 G δ σ H}, κ B B1 G → At K B1 G δ σ H → At K B G (δ.set i .no) σ H
  h0 : ∀ {B B1 G p o}, κ B B1 G → B.H0 p = some o → B1.H0 p = some o
def kAlb (K : PySem.W.Frag) (i : Nat) : Kd := fun B B1 G => ∃ r, Inn K B B1 i r ∧ ∀ a zs, B1.Bo i a = some (.tup zs) → G a = some (.tup zs)
theorem reg_alb {K : PySem.W.Frag} {i : Nat} : RegK K i (kAlb K i) := ⟨fun ⟨r, n, t⟩ x => ⟨r, n, fun a zs e => x _ _ (t a zs e)⟩, fun ⟨r, n, t⟩ a => (a.exit n).1, fun ⟨r, n, t⟩ e => n.h0 _ _ e⟩
def PostR (K : PySem.W.Frag) (κ : Kd) (B : Bs) (i : Nat) (G : Hp) (Dn : Ends) (r : Except Exn Out) (δ' : Env) : Prop := match r with
  | .error _ => False
  | .ok .nx => ∀ B1 G' σ' H', κ B B1 G' → At K B1 G' δ' σ' H' → Ext G G' → Dn.nx σ' H'
  | .ok .bk => ∀ B1 G' σ' H', κ B B1 G' → At K B1 G' δ' σ' H' → Ext G G' → Dn.bk σ' H'
  | .ok .ct => ∀ B1 G' σ' H', κ B B1 G' → At K B1 G' δ' σ' H' → Ext G G' → Dn.ct σ' H'
  | .ok (.rt d) => ∀ G' σ' H', At K B G' (δ'.set i .no) σ' H' → Ext G G' → ∀ v, R K G' v d → Dn.rt v H'
  | .ok (.rtO d) => ∀ G' σ' H', At K B G' (δ'.set i .no) σ' H' → Ext G G' → ∀ p, Fr1 K B G' (δ'.set i .no) σ' H' p d → Dn.rt (.ref p) H'
theorem PostR.mono {K : PySem.W.Frag} {κ : Kd} {B : Bs} {i : Nat} {G G1 : Hp} {Dn : Ends} {r : Except Exn Out} {δ' : Env} (h : PostR K κ B i G Dn r δ') (e : Ext G G1) : PostR K κ B i G1 Dn r δ' := by
  cases r with
  | error x => exact h
  | ok o => cases o with
    | nx => exact fun B1 G' σ' H' n a1 e1 => h B1 G' σ' H' n a1 (e.trans e1)
    | bk => exact fun B1 G' σ' H' n a1 e1 => h B1 G' σ' H' n a1 (e.trans e1)
    | ct => exact fun B1 G' σ' H' n a1 e1 => h B1 G' σ' H' n a1 (e.trans e1)
    | rt d => exact fun G' σ' H' a1 e1 => h G' σ' H' a1 (e.trans e1)
    | rtO d => exact fun G' σ' H' a1 e1 => h G' σ' H' a1 (e.trans e1)
def tSR (K : PySem.W.Frag) (κ : Kd) (i : Nat) (S : Mo Out) : TS := fun Dn σ H => ∃ B B1 G δ r δ', κ B B1 G ∧ At K B1 G δ σ H ∧ S δ = some (r, δ') ∧ PostR K κ B i G Dn r δ'
def DSR (X : Cx) (κ : Kd) (i : Nat) (st : Stmt) (S : Mo Out) : Prop := PS X st (tSR X.K κ i S)
def DSRs (X : Cx) (κ : Kd) (i : Nat) (st : List Stmt) (S : Mo Out) : Prop := PSs X st (tSR X.K κ i S)
section
variable {X : Cx} {κ : Kd} {i : Nat} {st : Stmt} {rest : List Stmt} {e c tg : Expr} {pos : Pos} {E : Mo D} {T : Mo Bool} {S S' : Mo Out}
/-- a statement that leaves the album as it is -/
theorem dsr_of (hk : RegK X.K i κ) (h : DS X W0 st S) : DSR X κ i st S := PS.weak h fun Dn σ H ⟨B, B1, G, δ, r, δ', n, a, e1, post⟩ => by
  refine ⟨B1, G, δ, r, δ', a, e1, ?_⟩
  cases r with
  | error x => exact absurd post id
  | ok o => cases o with
    | nx => exact fun G' σ' H' a' x' => post B1 G' σ' H' (hk.mono n x') a' x'
    | bk => exact fun G' σ' H' a' x' => post B1 G' σ' H' (hk.mono n x') a' x'
    | ct => exact fun G' σ' H' a' x' => post B1 G' σ' H' (hk.mono n x') a' x'
    | rt d => exact fun G' σ' H' a' x' => post G' σ' H' (hk.exit (hk.mono n x') a') x'
    | rtO d =>
      refine fun G' σ' H' a' x' p ⟨w1, w2, w3, w4⟩ => post G' σ' H' (hk.exit (hk.mono n x') a') x' p ⟨w1, ?_, fun j z => w3 j (own_set no_own z).2, w4⟩
      cases q : B.H0 p with
      | none => rfl
      | some o => rw [hk.h0 n q] at w2; cases w2
theorem dsrs_one (h : DSR X κ i st S) : DSRs X κ i [st] S := pss_one h
theorem dsrs_cons (h : DSR X κ i st S) (h' : DSRs X κ i rest S') : DSRs X κ i (st :: rest) (sSeq S S') := PSs.weak (pss_cons h h') fun Dn σ H ⟨B, B1, G, δ, r, δ', n, a, e1, post⟩ => by
  unfold sSeq at e1
  cases q : S δ with
  | none => rw [q] at e1; cases e1
  | some z =>
    obtain ⟨x, δ1⟩ := z
    rw [q] at e1
    cases x with
    | error x => cases e1; exact ⟨B, B1, G, δ, .error x, _, n, a, q, post⟩
    | ok o =>
      cases o with
      | nx => exact ⟨B, B1, G, δ, .ok .nx, δ1, n, a, q, fun B2 G1 σ1 H1 n1 a1 x1 => ⟨B, B2, G1, δ1, r, δ', n1, a1, e1, post.mono x1⟩⟩
      | bk => cases e1; exact ⟨B, B1, G, δ, .ok .bk, _, n, a, q, post⟩
      | ct => cases e1; exact ⟨B, B1, G, δ, .ok .ct, _, n, a, q, post⟩
      | rt d => cases e1; exact ⟨B, B1, G, δ, .ok (.rt d), _, n, a, q, post⟩
      | rtO d => cases e1; exact ⟨B, B1, G, δ, .ok (.rtO d), _, n, a, q, post⟩
theorem tE_bindR {K : PySem.W.Frag} {B B1 : Bs} {G H : Hp} {δ δ' : Env} {σ : St} {r : Except Exn Out} {Dn : Ends} {k : D → Mo Out} {Q : VK} (a : At K B1 G δ σ H) (h : Mo.bind E k δ = some (r, δ')) (post : PostR K κ B i G Dn r δ')
    (q : ∀ v H1 G1 δ1 d, At K B1 G1 δ1 σ H1 → Ext G G1 → R K G1 v d → k d δ1 = some (r, δ') → PostR K κ B i G1 Dn r δ' → Q v H1) : tE K W0 E σ H Q := by
  unfold Mo.bind at h
  cases e : E δ with
  | none => rw [e] at h; cases h
  | some z =>
    obtain ⟨x, δ1⟩ := z
    rw [e] at h
    cases x with
    | error x => cases h; exact absurd post id
    | ok d => exact ⟨B1, G, δ, .ok d, δ1, a, e, fun G1 H1 a1 e1 v rv => q v H1 G1 δ1 d a1 e1 rv h (post.mono e1)⟩
def tIR (K : PySem.W.Frag) (I : Mo (List D)) : TI := fun σ H R' => ∃ B G δ r δ', At K B G δ σ H ∧ I δ = some (r, δ') ∧ Post K W0 B G σ r δ' (fun ds G' H' => ∀ J, (∀ B', Yl K B' J G' ds) → R' J H')
def DIR (X : Cx) (tg e : Expr) (I : Mo (List D)) : Prop := PI X tg e (tIR X.K I)
theorem dir_rg1 {a : Expr} {A : Mo (List Ag)} {p pos : Pos} (hg : Gl X "range") (hm : X.mg "range" = none) (ha : DA X W0 [a] A) (hs : starEach [a] X.env = [(false, eval a X.env)] := by rfl) : DIR X tg (.Call (.Name "range" p) [a] [] pos) (iRg rg1 A) :=
  let h1 := pi_range1 (tg := tg) (pos := pos) (p := p) hg hm ha hs
  ⟨fun pins s σ H R' I ⟨B, G, δ, r, δ', a, e1, post⟩ => h1.run pins s σ H R' I (by
    refine tA_bind a e1 post fun vs H1 G1 δ1 as a1 x1 r1 e2 post => ?_
    obtain ⟨z, hz, hr⟩ := lift_some e2
    cases hr
    cases q : imms as with
    | none => rw [q] at hz; cases hz
    | some ds =>
      rw [q] at hz
      have r2 := imms_ok r1 q
      unfold rg1 at hz
      rw [Option.bind_some] at hz
      split at hz
      · split at hz
        · rename_i j hj
          cases hz
          cases r2 with
          | cons ra rb =>
            cases ra; cases rb
            exact ⟨j, rfl, by omega, by omega, post G1 H1 a1 (Ext.refl _) _ (fun B' => yl_rng)⟩
        · cases hz
      · cases hz)⟩
theorem tForR_at {K : PySem.W.Frag} (hk : RegK K i κ) {B B1 : Bs} {G1 : Hp} {δ1 δ' : Env} {J : It} {ds : List D} {r : Except Exn Out} {sl : List Nat} {T : D → Mo Unit} (hT : Calm T) {Dn : Ends} {σ : St} {H1 : Hp} (n1 : κ B B1 G1) (a1 : At K B1 G1 δ1 σ H1) (yl : ∀ B', Yl K B' J G1 ds) (e2 : forM T S ds δ1 = some (r, δ')) (post : PostR K κ B i G1 Dn r δ') : tFor (wiJ J) (tG K sl T) (tSR K κ i S) Dn σ H1 := by
  refine ⟨fun k m σ2 H2 => m + k = ds.length ∧ ∃ B2 G2 δ2, κ B B2 G2 ∧ At K B2 G2 δ2 σ2 H2 ∧ Ext G1 G2 ∧ forM T S (ds.drop k) δ2 = some (r, δ'), ⟨ds.length, by omega, B1, G1, δ1, n1, a1, Ext.refl _, e2⟩, ?_⟩
  rintro k m σ2 H2 ⟨hm, B2, G2, δ2, n2, a2, x2, e3⟩
  obtain ⟨y1, y2⟩ := yl B2 B2 G2 H2 δ2 σ2 (BLe.refl B2) a2 x2 k
  by_cases hi : ds.length ≤ k
  · refine .inl ⟨y2 hi, ?_⟩
    rw [List.drop_eq_nil_of_le hi] at e3
    cases e3
    exact post B2 G2 σ2 H2 n2 a2 x2
  · have hlt : k < ds.length := by omega
    obtain ⟨g1, g2⟩ := y1 ds[k] (List.getElem?_eq_getElem hlt)
    rw [List.drop_eq_getElem_cons hlt] at e3
    refine .inr ⟨g1, fun σ' H' => ∃ m', m' < m ∧ (m' + (k + 1) = ds.length ∧ ∃ B2 G2 δ2, κ B B2 G2 ∧ At K B2 G2 δ2 σ' H' ∧ Ext G1 G2 ∧ forM T S (ds.drop (k + 1)) δ2 = some (r, δ')), fun σ' H' z => z, fun x H' hy => ?_⟩
    obtain ⟨rfl, G3, a3, x3, r3⟩ := g2 x H' hy
    unfold forM Mo.bind at e3
    cases q : T ds[k] δ2 with
    | none => rw [q] at e3; cases e3
    | some z =>
      obtain ⟨u, δ3⟩ := z
      rw [q] at e3
      cases u with
      | error u => exact absurd q (hT _ _ _ _)
      | ok u =>
        refine ⟨B2, G3, δ2, ds[k], δ3, a3, r3, q, fun σ4 a4 _ => ?_⟩
        have n3 := hk.mono n2 x3
        cases q2 : S δ3 with
        | none => simp only [q2] at e3; cases e3
        | some z =>
          obtain ⟨u, δ4⟩ := z
          simp only [q2] at e3
          have x13 := x2.trans x3
          cases u with
          | error u => cases e3; exact absurd post id
          | ok o =>
            cases o with
            | nx => exact ⟨B, B2, G3, δ3, .ok .nx, δ4, n3, a4, q2, fun B5 G5 σ5 H5 n5 a5 x5 => ⟨m - 1, by omega, by omega, B5, G5, δ4, n5, a5, x13.trans x5, e3⟩⟩
            | ct => exact ⟨B, B2, G3, δ3, .ok .ct, δ4, n3, a4, q2, fun B5 G5 σ5 H5 n5 a5 x5 => ⟨m - 1, by omega, by omega, B5, G5, δ4, n5, a5, x13.trans x5, e3⟩⟩
            | bk => cases e3; exact ⟨B, B2, G3, δ3, .ok .bk, _, n3, a4, q2, fun B5 G5 σ5 H5 n5 a5 x5 => post B5 G5 σ5 H5 n5 a5 (x13.trans x5)⟩
            | rt d => cases e3; exact ⟨B, B2, G3, δ3, .ok (.rt d), _, n3, a4, q2, post.mono x13⟩
            | rtO d => cases e3; exact ⟨B, B2, G3, δ3, .ok (.rtO d), _, n3, a4, q2, post.mono x13⟩
theorem dsr_for (hk : RegK X.K i κ) {iter : Expr} {body : List Stmt} {I : Mo (List D)} {sl : List Nat} {T : D → Mo Unit} (hp : PassesOwn (model X.prog X.w) X.A X.env X.xe) (hc : X.calm = true) (hT : Calm T) (hi : DIR X tg iter I) (hg : DG X tg sl T) (hb : DSRs X κ i body S)
    (hs : ∀ x, foldedSetIterable iter X.env x = pure x := by intro _; rfl) : DSR X κ i (.For tg iter body [] pos) (sFor I T S) := PS.weak (ps_for hp hc hi hg hb hs) fun Dn σ H ⟨B, B1, G, δ, r, δ', n, a, e1, post⟩ => by
  have e1 : Mo.bind I (fun ds => forM T S ds) δ = some (r, δ') := e1
  unfold Mo.bind at e1
  cases e : I δ with
  | none => rw [e] at e1; cases e1
  | some z =>
    obtain ⟨x, δ1⟩ := z
    rw [e] at e1
    cases x with
    | error x => cases e1; exact absurd post id
    | ok ds => exact ⟨B1, G, δ, .ok ds, δ1, a, e, fun G1 H1 a1 x1 J yl => tForR_at hk hT (hk.mono n x1) a1 yl e1 (post.mono x1)⟩
theorem alb_bor {K : PySem.W.Frag} {B B1 : Bs} {r : AlbR} (n : Inn K B B1 i r) {v : V} {vs ls : List D} (q : R K (B1.Bo i) v (.alb vs ls)) : v = .ref r.p ∧ RL K (B1.Bo i) r.xs vs ∧ RL K (B1.Bo i) r.ys ls := by
  cases q with
  | alb c h1 h2 h3 l1 l2 r1 r2 =>
    have e := n.uq _ _ _ _ h1
    subst e
    rw [n.ip] at h1
    unfold AlbR.ins at h1
    cases h1
    rw [n.iv] at h2; cases h2
    rw [n.il] at h3; cases h3
    exact ⟨rfl, r1, r2⟩
end
end M
set_option Elab.async false
set_option linter.all false
set_option maxRecDepth 100000
set_option maxHeartbeats 1000000
namespace M
open PySem L2 PySem.Spec PyProof.Rows
theorem nt_ins {C dx : Addr} {fs : List (Str × V)} : NT (.ins C dx fs) := ⟨fun _ e => (by cases e), fun _ e => (by cases e), fun _ _ e => (by unfold LamX.CodeO at e; cases e)⟩
section
variable {K : PySem.W.Frag} {B : Bs} {G H : Hp} {δ : Env} {σ : St} {p : Addr} {o : HO}
/-- an object that nobody knows is changed -/
theorem At.poke (a : At K B G δ σ H) (h : H p = some o) (nt : NT o) (g : G p = none) (b : B.H0 p = none) (no : ∀ j, ¬ OwnAt δ σ j p) (o' : HO) : At K B G δ σ (upd H p o') :=
  ((a.add nt h g no).drop (a.out1 b g) nt).2.2.2 o'
end
def spInit (C : Addr) : Sp := fun vs H Q _ => ∃ x dx, vs = [.ref x] ∧ H x = some (.ins C dx []) ∧ ∀ av al, H av = none → upd (upd H av (.lst [])) x (.ins C dx [("_views", .ref av)]) al = none →
  Q .non (upd (upd (upd (upd H av (.lst [])) x (.ins C dx [("_views", .ref av)])) al (.lst [])) x (.ins C dx [("_views", .ref av), ("_links", .ref al)]))
theorem init_t {K : PySem.W.Frag} {C : Addr} (TA : AlbK K C) {N : List Str} {vs : List V} {H : Hp} {Q : VK} {E : XK} (hN : 0 < N.length) (h : spInit C vs H Q E) :
    tSeq (sFld K (tVar 0) (tLst tNil) "_views") (sFld K (tVar 0) (tLst tNil) "_links") { nx := fun _ H' => Q .non H', rt := Q } (L2.start N vs) H := by
  obtain ⟨x, dx, rfl, hx, k⟩ := h
  have h0 : (L2.start N [.ref x])[0]? = some (some (.ref x)) := by unfold L2.start; rfl
  refine ⟨Nat.zero_le _, fun av hav => ⟨_, h0, x, C, dx, [], rfl, ?_, TA.cls, TA.nv, by decide, ?_⟩⟩
  · rw [upd_ne (ne_of_none hx hav)]; exact hx
  · refine ⟨Nat.zero_le _, fun al hal => ⟨_, h0, x, C, dx, [("_views", .ref av)], rfl, ?_, TA.cls, TA.nl, (by show 1 < 1000; omega), ?_⟩⟩
    · rw [upd_ne (ne_of_none upd_same hal)]; exact upd_same
    · exact k av al hav hal
theorem init_len {C : Addr} : ∀ vs H Q E, spInit C vs H Q E → vs.length = (["self"] : List Str).length := fun vs H Q E ⟨_, _, h, _⟩ => by rw [h]; rfl
/-- x = Album(), and what stands behind it -/
def sAlb (i : Nat) (S : Mo Out) : Mo Out := fun δ => if i < δ.length then match S (δ.set i (.bor (.alb [] []))) with
    | some (.ok o, δ') => some (.ok o, δ'.set i .no)
    | _ => none
  else none
section
variable {X : Cx} {i k : Nat} {st : Stmt} {rest : List Stmt} {e : Expr} {p p' pos spos : Pos} {E : Mo D} {S S' : Mo Out} {C f : Addr} {fd : FuncData} {y : Str}
theorem own_forget {δ : Env} {σ : St} {v : Option V} {j : Nat} {q : Addr} (z : OwnAt (δ.set i .no) (σ.set i v) j q) : OwnAt δ σ j q := by
  obtain ⟨c, ⟨d, z1⟩, z2⟩ := own_set no_own z
  rw [List.getElem?_set_ne c] at z2
  exact ⟨⟨d, z1⟩, z2⟩
theorem At.clear {K : PySem.W.Frag} {B : Bs} {G H : Hp} {δ : Env} {σ : St} (a : At K B G δ σ H) (v : Option V) : At K B G (δ.set i .no) (σ.set i v) H :=
  a.forget (by rw [List.length_set, List.length_set]; exact a.len) fun j s q => by
    rcases get_set q with ⟨rfl, rfl, _⟩ | ⟨c, q⟩
    · exact .inl rfl
    · exact .inr ⟨q, List.getElem?_set_ne c⟩
theorem dss_alb (TA : AlbK X.K C) (MM : Mk X.K C f) (F : FnOk X.prog X.w X.K X.mg X.base CX0 k f fd ["self"] (spInit C)) (hr : Room (k + 1) X.A) (hg : Gl X "Album") (hm : X.mg "Album" = some (.ref C)) (hb : Binds X.K fd ["self"] [])
    (hN : X.N.Nodup) (hi : X.N[i]? = some y) (hx : Loc X.env.scope y) (hrest : DSRs X (kAlb X.K i) i rest S) (hs : swapsWith (.Call (.Name "Album" p) [] [] pos) (some (.Name y p')) spos.line X.env = pure false := by rfl)
    (hf : X.fn y = true ∨ X.env.scope.names.lookup y = some .local := by first | exact .inl rfl | exact .inr rfl | assumption) : DSs X W0 (.Assign [.Name y p'] (.Call (.Name "Album" p) [] [] pos) spos :: rest) (sAlb i S) :=
  PSs.weak (pss_cons (ps_set hN hi hx (pe_make0 (E := E0) MM F hr hg hm hb .nil pass0) hs hf) hrest) fun Dn σ H ⟨B, G, δ, r, δ', a, e1, post⟩ => by
  show ∀ x dx, H x = none → H dx = none → dx ≠ x → _
  intro x dx hx hdx hne
  refine ⟨x, dx, rfl, upd_same, fun av al hav hal => ⟨rfl, ?_⟩⟩
  -- the objects
  have a1 := a.alloc (o := .own x) hdx
  have hx1 : upd H dx (.own x) x = none := by rw [upd_ne (Ne.symm hne)]; exact hx
  have a2 := a1.alloc (o := .ins C dx []) hx1
  have b2 := a1.fresh0 hx1
  have g2 := a1.vw.none hx1
  have n2 := a1.noOwn hx1
  have a3 := a2.alloc (o := .lst []) hav
  have b3 := a2.fresh0 hav
  have g3 := a2.vw.none hav
  have n3 := a2.noOwn hav
  have cav : x ≠ av := ne_of_none upd_same hav
  have a4 := a3.poke (p := x) (o := .ins C dx []) (by rw [upd_ne cav]; exact upd_same) nt_ins g2 b2 n2 (.ins C dx [("_views", .ref av)])
  have a5 := a4.alloc (o := .lst []) hal
  have b5 := a4.fresh0 hal
  have g5 := a4.vw.none hal
  have n5 := a4.noOwn hal
  have cal : x ≠ al := ne_of_none upd_same hal
  have cva : av ≠ al := by
    refine ne_of_none (o := .lst []) ?_ hal
    rw [upd_ne (Ne.symm cav)]; exact upd_same
  have a6 := a5.poke (p := x) (o := .ins C dx [("_views", .ref av)]) (by rw [upd_ne cal]; exact upd_same) nt_ins g2 b2 n2 (.ins C dx [("_views", .ref av), ("_links", .ref al)])
  have a7 := a6.clear (i := i) (some (.ref x))
  unfold sAlb at e1
  split at e1
  · rename_i hi
    have hl : i < σ.length := by rw [← a.len]; exact hi
    have g : AlbAt X.K B G (δ.set i .no) (σ.set i (some (.ref x))) (upd (upd (upd (upd (upd (upd H dx (.own x)) x (.ins C dx [])) av (.lst [])) x (.ins C dx [("_views", .ref av)])) al (.lst [])) x (.ins C dx [("_views", .ref av), ("_links", .ref al)])) ⟨x, C, dx, av, al, [], []⟩ := ⟨TA.ns, upd_same, by show upd _ x _ av = _; rw [upd_ne (Ne.symm cav), upd_ne cva, upd_ne (Ne.symm cav)]; exact upd_same, by show upd _ x _ al = _; rw [upd_ne (Ne.symm cal)]; exact upd_same, ⟨g2, g3, g5⟩, ⟨b2, b3, b5⟩, fun j => ⟨fun z => n2 j (own_forget z), fun z => n3 j (own_forget z), fun z => n5 j (own_forget z)⟩, cva, Nat.zero_le _, Nat.zero_le _⟩
    obtain ⟨n8, a8⟩ := a7.enter (i := i) g (List.getElem?_set_self hi) (List.getElem?_set_self hl) (vs := []) (ls := []) .nil (by unfold pureDs; rfl) .nil (by unfold pureDs; rfl)
    rw [List.set_set] at a8
    split at e1
    · rename_i o δ1 q
      cases e1
      have lv : ∀ {B1 G' σ' H'}, kAlb X.K i B B1 G' → At X.K B1 G' δ1 σ' H' → At X.K B G' (δ1.set i .no) σ' H' := fun ⟨rr, m, _⟩ a' => (a'.exit m).1
      refine ⟨B, _, G, _, .ok o, δ1, ⟨_, n8, fun q zs e => ?_⟩, a8, q, ?_⟩
      · have e : (if i = i then albG G _ else B.Bo i) q = some (.tup zs) := e
        rw [if_pos rfl] at e
        unfold albG at e
        split at e
        · cases e
        · split at e
          · cases e
          · split at e
            · cases e
            · split at e
              · rename_i c; cases e; exact c
              · cases e
      · cases o with
        | nx => exact fun B1 G' σ' H' n a' x' => post G' σ' H' (lv n a') x'
        | bk => exact fun B1 G' σ' H' n a' x' => post G' σ' H' (lv n a') x'
        | ct => exact fun B1 G' σ' H' n a' x' => post G' σ' H' (lv n a') x'
        | rt d => exact post
        | rtO d => exact post
    · cases e1
  · cases e1
end
def eLenF (i : Nat) (b : Bool) : Mo D := fun δ => match albSl δ i with
  | some (vs, ls) => some (.ok (.int ((fldL b vs ls).length : Nat)), δ)
  | none => none
theorem de_lenF {X : Cx} {W : WK} {o : Expr} {x f : Str} {p pos apos : Pos} {C : Addr} {i : Nat} {b : Bool} (TA : AlbK X.K C) (hf : f = fldN b) (hg : Gl X x) (hm : X.mg x = none) (hv : bootBuiltins x = some (.builtin "len")) (ho : PE X o (tVar i)) (hb : attributeBase o f X.env (eval o X.env) = eval o X.env := by rfl)
    (hn : x ≠ "__name__" := by decide) (hdb : (x == ("__debug__" : Str)) = false := by decide)
    (he : starEach [.Attribute o f apos] X.env = (false, eval (.Attribute o f apos) X.env) :: starEach [] X.env := by rfl) (hpl : (backTo pos (starEach [] X.env)).any (·.1) = false := by rfl) :
    DE X W (.Call (.Name x p) [.Attribute o f apos] [] pos) (eLenF i b) :=
  PE.weak (pe_callB call_lenA hg hm hv (pa_cons (pe_fld ho hb) pa_nil he) hn hdb he hpl) fun σ H Q ⟨B, G, δ, r, δ', a, e1, post⟩ => by
    unfold eLenF at e1
    split at e1
    · rename_i vs ls q
      cases e1
      obtain ⟨v, qa, xs, h1, ⟨pa, C', dx, fs, u, h2, h3, h4, h5, h6, h7⟩, h8, h9, hl, h10⟩ := fld_at TA hf a q
      subst h7
      refine ⟨v, h1, pa, C', dx, fs, .ref qa, h2, h3, h4, h5, h6, ?_⟩
      refine ⟨.ref qa, (fldL b vs ls).length, rfl, .inl (.inl ⟨xs, SqL.of h9, by rw [h10.length]⟩), post G H a (Ext.refl _) _ (.int _)⟩
    · cases e1
def fldX (b : Bool) (x y : List V) : List V := match b with | true => x | false => y
def fldA (b : Bool) (x y : Addr) : Addr := match b with | true => x | false => y
/-- behind the tests: the value is hung on -/
def AddK (K : PySem.W.Frag) (B : Bs) (b : Bool) (G : Hp) (δ1 : Env) (d0 : D) (Q : St → Hp → Prop) : Prop := ∀ G' σ' H' p av al dx C xs ys v, At K B G' δ1 σ' H' → Ext G G' → B.Bo 0 p = some (.ins C dx [("_views", .ref av), ("_links", .ref al)]) → B.Bo 0 av = some (.lst xs) → B.Bo 0 al = some (.lst ys) → R K G' v d0 →
  Q σ' (upd H' (fldA b av al) (.lst (fldX b xs ys ++ [v])))
def tAdd (K : PySem.W.Frag) (b : Bool) (Pm : Mo Out) : TS := fun Dn σ H => ∃ B G δ δ1 vs ls d0, At K B G δ σ H ∧ Pm δ = some (.ok .nx, δ1) ∧ δ1[0]? = some (.bor (.alb vs ls)) ∧ δ1[1]? = some (.imm d0) ∧ (fldL b vs ls).length < sizeLine ∧ AddK K B b G δ1 d0 Dn.nx
section
variable {X : Cx} {st : Stmt} {rest : List Stmt} {o e : Expr} {f m : Str} {C fa : Addr} {fd : FuncData} {b : Bool} {S Pm : Mo Out} {pos apos cpos mpos spos : Pos} {i k N : Nat} {E : Mo D} {ps : List Str}
theorem padd_cons (h : DS X W0 st S) (h' : PSs X rest (tAdd X.K b Pm)) : PSs X (st :: rest) (tAdd X.K b (sSeq S Pm)) := PSs.weak (pss_cons h h') fun Dn σ H ⟨B, G, δ, δ1, vs, ls, d0, a, e1, h0, h1, hl, k⟩ => by
  unfold sSeq at e1
  cases q : S δ with
  | none => rw [q] at e1; cases e1
  | some z =>
    obtain ⟨x, δ2⟩ := z
    rw [q] at e1
    cases x with
    | error x => cases e1
    | ok o' =>
      cases o' with
      | nx => exact ⟨B, G, δ, .ok .nx, δ2, a, q, fun G1 σ1 H1 a1 x1 => ⟨B, G1, δ2, δ1, vs, ls, d0, a1, e1, h0, h1, hl, fun G' σ' H' p av al dx C xs ys v a' x' => k G' σ' H' p av al dx C xs ys v a' (x1.trans x')⟩⟩
      | bk => cases e1
      | ct => cases e1
      | rt d => cases e1
      | rtO d => cases e1
theorem padd_last (TA : AlbK X.K C) (hf : f = fldN b) (ho : PE X o (tVar 0)) (hb : attributeBase o f X.env (eval o X.env) = eval o X.env := by rfl) (he : PE X e (tVar 1))
    (hs : starEach [e] X.env = (false, eval e X.env) :: starEach [] X.env := by rfl)
    (hbase : attributeBase (.Attribute o f mpos) "append" X.env (eval (.Attribute o f mpos) X.env) = eval (.Attribute o f mpos) X.env := by rfl)
    (hfew : ((backTo cpos (starEach [e] X.env)).all (fun x => !x.1) && (backToKw cpos (keywordEach [] X.env)).all (fun x => x.1.isSome)
      && decide (([e] : List Expr).length + ([] : List Keyword).length + (if ([] : List Keyword).isEmpty then 0 else 1) < 30)) = true := by rfl)
    (hline : (apos.endLine == cpos.line) = true := by rfl) (hplain : (backTo cpos (starEach [] X.env)).any (·.1) = false := by rfl)
    (hsw : swapsWith (.Call (.Attribute (.Attribute o f mpos) "append" apos) [e] [] cpos) none pos.line X.env = pure false := by rfl) :
    PSs X [.Expr (.Call (.Attribute (.Attribute o f mpos) "append" apos) [e] [] cpos) pos] (tAdd X.K b sNx) :=
  PSs.weak (pss_one (ps_expr (pe_bm PySem.F.plainAttrs_list PySem.F.slot_list_append PySem.F.type_list_append mt_append (pe_fld (pos := mpos) ho hb) (pa_cons he pa_nil hs) hbase hfew hline hs hplain) hsw)) fun Dn σ H ⟨B, G, δ, δ1, vs, ls, d0, a, e1, h0, h1, hl, k⟩ => by
  cases e1
  have hsl : albSl δ 0 = some (vs, ls) := by unfold albSl; rw [h0]
  obtain ⟨v, q1, r1⟩ := a.bor h0
  obtain ⟨u, q2, r2⟩ := a.imm h1
  cases r1 with
  | alb c g1 g2 g3 l1 l2 s1 s2 =>
    rename_i p av al C' dx xs ys
    have := c.symm.trans TA.ns
    cases this
    have H1 := (a.bo 0).ins g1
    have H2 := (a.bo 0).lst g2
    have H3 := (a.bo 0).lst g3
    have kk := k G σ H p av al dx C xs ys u a (Ext.refl _) g1 g2 g3 r2
    cases b with
    | true =>
      subst hf
      exact ⟨_, q1, p, C, dx, _, _, rfl, H1, TA.cls, TA.nv, rfl, .inl ⟨rfl, xs, SqL.of H2⟩, u, q2, av, xs, u, rfl, rfl, H2, by rw [s1.length]; exact hl, kk⟩
    | false =>
      subst hf
      exact ⟨_, q1, p, C, dx, _, _, rfl, H1, TA.cls, TA.nl, rfl, .inl ⟨rfl, ys, SqL.of H3⟩, u, q2, al, ys, u, rfl, rfl, H3, by rw [s2.length]; exact hl, kk⟩
end
end M
set_option Elab.async false
set_option linter.all false
set_option maxRecDepth 100000
set_option maxHeartbeats 1000000
namespace M
open PySem L2 PySem.Spec PyProof.Rows
/-- the promise of a method that adds: n slots beside self and its argument -/
def spAdd (K : PySem.W.Frag) (b : Bool) (Pm : Mo Out) (n : Nat) : Sp := fun vs H Q _ => vs.length = 2 ∧ ∃ B G δ δ1 vw ls d0, At K B G δ (vs.map some) H ∧ Pm (δ ++ List.replicate n .no) = some (.ok .nx, δ1) ∧ δ1[0]? = some (.bor (.alb vw ls)) ∧ δ1[1]? = some (.imm d0) ∧ (fldL b vw ls).length < sizeLine ∧ AddK K B b G δ1 d0 fun _ H' => Q .non H'
theorem add_body {K : PySem.W.Frag} {b : Bool} {Pm : Mo Out} {n : Nat} {N : List Str} {vs : List V} {H : Hp} {Q : VK} {E : XK} (hn : N.length - 2 = n) (h : spAdd K b Pm n vs H Q E) : tAdd K b Pm { nx := fun _ H' => Q .non H', rt := Q } (L2.start N vs) H := by
  obtain ⟨hl, B, G, δ, δ1, vw, ls, d0, a, e1, h0, h1, h2, k⟩ := h
  have a1 := a.start n
  have hs : L2.start N vs = vs.map some ++ List.replicate n none := by unfold L2.start; rw [hl, hn]
  rw [hs]
  exact ⟨B, G, _, δ1, vw, ls, d0, a1, e1, h0, h1, h2, k⟩
section
variable {P : Program} {w : World} {K : PySem.W.Frag} {mg : Str → Option Value} {base : Heap} {x qual : Str} {st : Stmt} {f : Addr} {fd : FuncData} {N ps : List Str} {k n : Nat} {b : Bool} {Pm : Mo Out}
theorem fn_okAdd (F : Fun K x qual st f fd) (S : FnScope N ps (defScope st)) (hn : ps.length = 2) (hN : N.length - 2 = n)
    (hb : ∀ (cdv : Value) (A : Around) (outer : List PySem.Env) (s : Shared) (H : Hp) (E : XK), Room k (A.deeper (envOfC qual (defScope st) s.heap.objs.size f cdv)) → PSs (cxOf CX0 P w K mg base N qual (defScope st) f cdv A outer s H E).nox (defBody st) (tAdd K b Pm)) :
    FnOk P w K mg base CX0 (k + 1) f fd ps (spAdd K b Pm n) :=
  F.ok S (fun vs H Q E h => h.1.trans hn.symm) fun cdv A outer s H vs Q E hr h => ⟨tAdd K b Pm, hb cdv A outer s H E hr, add_body hN h⟩
theorem fn_okInit {C : Addr} (F : Fun K x qual st f fd) (S : FnScope N ["self"] (defScope st)) (TA : AlbK K C) (hN : 0 < N.length)
    (hb : ∀ (cdv : Value) (A : Around) (outer : List PySem.Env) (s : Shared) (H : Hp) (E : XK), Room k (A.deeper (envOfC qual (defScope st) s.heap.objs.size f cdv)) → PSs (cxOf CX0 P w K mg base N qual (defScope st) f cdv A outer s H E).nox (defBody st) (tSeq (sFld K (tVar 0) (tLst tNil) "_views") (sFld K (tVar 0) (tLst tNil) "_links"))) :
    FnOk P w K mg base CX0 (k + 1) f fd ["self"] (spInit C) :=
  F.ok S init_len fun cdv A outer s H vs Q E hr h => ⟨_, hb cdv A outer s H E hr, init_t (E := E) TA hN h⟩
end
section
variable {K : PySem.W.Frag} {B : Bs} {G G' H H' : Hp} {δ : Env} {σ σ' : St} {r : AlbR}
/-- the callee's state: the album lent, a value -/
theorem At.callee (a : At K B G δ σ H) (g : AlbAt K B G δ σ H r) {vs ls : List D} {v : V} {d : D} (rv : RL K G r.xs vs) (pv : pureDs vs = true) (rl : RL K G r.ys ls) (pl : pureDs ls = true) (rd : R K G v d) :
    At K ⟨hid H, G, fun _ => albG G r, []⟩ G [.bor (.alb vs ls), .imm d] ([V.ref r.p, v].map some) H := by
  have np : r.p ≠ r.av := fun c => by have := g.hp; rw [c, g.hv] at this; unfold AlbR.ins at this; cases this
  have nq : r.p ≠ r.al := fun c => by have := g.hp; rw [c, g.hl] at this; unfold AlbR.ins at this; cases this
  have gv : albG G r r.av = some (.lst r.xs) := by unfold albG; rw [if_neg (Ne.symm np), if_pos rfl]
  have gl : albG G r r.al = some (.lst r.ys) := by unfold albG; rw [if_neg (Ne.symm nq), if_neg (Ne.symm g.ne), if_pos rfl]
  have gt : ∀ q zs, G q = some (.tup zs) → albG G r q = some (.tup zs) := fun q zs e => by
    unfold albG
    rw [if_neg (fun c => by rw [c, g.g.1] at e; cases e), if_neg (fun c => by rw [c, g.g.2.1] at e; cases e), if_neg (fun c => by rw [c, g.g.2.2] at e; cases e), e]
  have gof : ∀ q o, albG G r q = some o → H q = some o ∧ ∀ ps, o ≠ .tbl ps := fun q o e => by
    unfold albG at e
    split at e
    · rename_i c; cases e; exact ⟨by rw [c]; exact g.hp, fun ps z => by unfold AlbR.ins at z; cases z⟩
    · split at e
      · rename_i c; cases e; exact ⟨by rw [c]; exact g.hv, fun ps z => by cases z⟩
      · split at e
        · rename_i c; cases e; exact ⟨by rw [c]; exact g.hl, fun ps z => by cases z⟩
        · split at e
          · rename_i zs c; cases e; exact ⟨a.vw.tup c, fun ps z => by cases z⟩
          · cases e
  refine ⟨a.vw, Ext.refl G, fun _ _ e _ => (hid_of e).1, fun _ e => hid_ne e, fun _ _ _ _ e => e, fun k p e => (by cases e), fun j q o e => .inl (gof q o e).1, fun j q e => ?_, rfl, fun k s e => ?_, fun k l p e1 e2 => ?_, ⟨a.tb.1, fun b ps e => (hid_of e).2 ps rfl, a.tb.2.2.1, fun j b ps e => (gof b _ e).2 ps rfl, fun _ _ _ e => (by cases e)⟩⟩
  · cases q0 : albG G r q with
    | none => exact absurd q0 e
    | some o =>
      obtain ⟨y1, y2⟩ := gof q o q0
      show hid H q ≠ none
      rw [hid_nt y1 y2]; simp
  · match k, e with
    | 0, e =>
      cases e
      exact ⟨_, rfl, _, rfl, .alb g.ns albG_p gv gl g.lx g.ly (rv.tups gt pv) (rl.tups gt pl)⟩
    | 1, e => cases e; exact ⟨_, rfl, v, rfl, rd⟩
    | k + 2, e => simp at e
  · obtain ⟨⟨d', z⟩, _⟩ := e1
    match k, z with
    | 0, z => rcases z with z | z <;> cases z
    | 1, z => rcases z with z | z <;> cases z
    | k + 2, z => simp at z
/-- behind the callee -/
theorem At.called {Bc : Bs} {δc : Env} {σc : St} (a : At K B G δ σ H) (e1 : Bc.H0 = hid H) (e2 : Bc.G0 = G) (e3 : Bc.IO = []) (ac : At K Bc G' δc σc H') : At K B G' δ σ H' := by
  have f : At K Bc G' [] (([] : List V).map some) H' := ac.forget rfl fun i s e => by simp at e
  exact call_leave (as := []) (vs := []) (δc := []) (δc' := []) a .nil rfl (by unfold vrs; exact List.nodup_nil) e1 e2 e3 f rfl
end
def albAdd : Bool → List D → List D → D → D
  | true, vs, ls, d => .alb (vs ++ [d]) ls
  | false, vs, ls, d => .alb vs (ls ++ [d])
/-- x.m(e), m a method that adds, by its tests Pm -/
def sAdd (i : Nat) (b : Bool) (Pm : Mo Out) (n : Nat) (E : Mo D) : Mo Out := fun δ => if isAlb δ i = true then (E.bind fun d => fun δ => match albSl δ i with
  | some (vs, ls) => if (pureDs vs && pureDs ls) = true then match Pm ([.bor (.alb vs ls), .imm d] ++ List.replicate n .no) with
      | some (.ok .nx, .bor (.alb v' l') :: .imm d' :: _) => if (pureD d' && decide ((fldL b v' l').length < sizeLine) && decide ((fldL b vs ls).length < sizeLine)) = true then some (.ok .nx, δ.set i (.bor (albAdd b vs ls d'))) else none
      | _ => none
    else none
  | none => none) δ else none
theorem pureDs_snoc : ∀ {l : List D} {d : D}, pureDs l = true → pureD d = true → pureDs (l ++ [d]) = true
  | [], d, _, h => by show (pureD d && pureDs []) = true; rw [h]; unfold pureDs; rfl
  | x :: l, d, h, h2 => by
    unfold pureDs at h
    rw [Bool.and_eq_true] at h
    show (pureD x && pureDs (l ++ [d])) = true
    rw [h.1, pureDs_snoc h.2 h2]; rfl
theorem keep_off {K : PySem.W.Frag} {B : Bs} {G G' H H' : Hp} {δ : Env} {σ : St} {r : AlbR} {Bc : Bs} {δc : Env} {σc : St} (g : AlbAt K B G δ σ H r) (e1 : Bc.H0 = hid H) (e2 : Bc.G0 = G) (e3 : Bc.IO = []) (ac : At K Bc G' δc σc H') :
    (H' r.p = some r.ins ∧ H' r.av = some (.lst r.xs) ∧ H' r.al = some (.lst r.ys)) ∧ (G' r.p = none ∧ G' r.av = none ∧ G' r.al = none) := by
  have nt : ∀ ps, r.ins ≠ .tbl ps := fun ps z => by unfold AlbR.ins at z; cases z
  have k : ∀ q o, (∀ ps, o ≠ .tbl ps) → H q = some o → H' q = some o := fun q o t h => ac.keep q o (by rw [e1]; exact hid_nt h t) (fun i z => by rw [e3] at z; cases z)
  have l : ∀ q o, (∀ ps, o ≠ .tbl ps) → (∀ xs, o ≠ .tup xs) → H q = some o → G q = none → G' q = none := fun q o t u h z => ac.leak q o (by rw [e1]; exact hid_nt h t) u (by rw [e2]; exact z)
  exact ⟨⟨k _ _ nt g.hp, k _ _ (fun ps z => by cases z) g.hv, k _ _ (fun ps z => by cases z) g.hl⟩, ⟨l _ _ nt (fun xs z => by unfold AlbR.ins at z; cases z) g.hp g.g.1, l _ _ (fun ps z => by cases z) (fun xs z => by cases z) g.hv g.g.2.1, l _ _ (fun ps z => by cases z) (fun xs z => by cases z) g.hl g.g.2.2⟩⟩
section
variable {X : Cx} {o e : Expr} {m : Str} {C fa : Addr} {fd : FuncData} {b : Bool} {Pm : Mo Out} {apos mpos spos : Pos} {i k n : Nat} {E : Mo D} {ps : List Str} {pl : Sem Bool}
theorem dsr_add (TA : AlbK X.K C) (F : ∃ fa fd ps, FnOk X.prog X.w X.K X.mg X.base CX0 k fa fd ps (spAdd X.K b Pm n) ∧ Meth X.K C m fa ∧ Binds X.K fd ps []) (hr : Room k X.A) (ho : PE X o (tVar i)) (he : DE X W0 e E) (h1 : m ≠ "_views" := by decide) (h2 : m ≠ "_links" := by decide)
    (hst : starEach [e] X.env = (false, eval e X.env) :: starEach [] X.env := by rfl) (hpl : (backTo mpos (starEach [] X.env)).any (·.1) = false := by rfl)
    (ht : eval (.Call (.Attribute o m apos) [e] [] mpos) X.env = (do
      let ov ← eval o X.env
      standAt apos.atName
      let (f, first) ← holding [ov] (getMethod ov m pl)
      callWith mpos f first (backTo mpos (starEach [e] X.env)) (backToKw mpos (keywordEach [] X.env))) := by rfl)
    (hsw : swapsWith (.Call (.Attribute o m apos) [e] [] mpos) none spos.line X.env = pure false := by rfl) : DSR X (kAlb X.K i) i (.Expr (.Call (.Attribute o m apos) [e] [] mpos) spos) (sAdd i b Pm n E) := by
  obtain ⟨fa, fd, ps, F, hm, hb⟩ := F
  refine PS.weak (ps_expr (pe_meth (E := E0) ho TA.cls hm F hr hb .nil pass0 (pa_cons he pa_nil hst) hst hpl ht) hsw) fun Dn σ H ⟨B, B1, G, δ, r, δ', ⟨rr, n1, n2⟩, a, e1, post⟩ => ?_
  unfold sAdd at e1
  split at e1
  · rename_i hi
    obtain ⟨p0, av0, al0, dx0, hp0, hH0⟩ := isAlb_ok TA a hi
    refine ⟨_, hp0, p0, dx0, _, rfl, hH0, ?_, ?_⟩
    · simp only [List.lookup]
      rw [show (m == ("_views" : Str)) = false from beq_eq_false_iff_ne.mpr h1, show (m == ("_links" : Str)) = false from beq_eq_false_iff_ne.mpr h2]
    refine tE_bindR a e1 post fun v H1 G1 δ1 d a1 x1 r1 e2 post => ?_
    split at e2
    · rename_i vs ls q
      split at e2
      · rename_i hp
        rw [Bool.and_eq_true] at hp
        split at e2
        · rename_i v' l' d' tl qP
          split at e2
          · rename_i hd
            rw [Bool.and_eq_true, Bool.and_eq_true, decide_eq_true_eq, decide_eq_true_eq] at hd
            obtain ⟨⟨hd1, hd2⟩, hd3⟩ := hd
            have e3 : r = .ok .nx ∧ δ' = δ1.set i (.bor (albAdd b vs ls d')) := by cases e2; exact ⟨rfl, rfl⟩
            obtain ⟨hr9, hδ9⟩ := e3
            obtain ⟨u, y1, y2⟩ := a1.bor (albSl_ok q)
            rw [hp0] at y1; cases y1
            obtain ⟨ep, s1, s2⟩ := alb_bor n1 y2
            have ep : p0 = rr.p := V.ref.inj ep
            subst ep
            obtain ⟨a2, g2⟩ := a1.exit n1
            have t1 := s1.tups (fun a zs e => x1 _ _ (n2 a zs e)) hp.1
            have t2 := s2.tups (fun a zs e => x1 _ _ (n2 a zs e)) hp.2
            have ac := a2.callee g2 t1 hp.1 t2 hp.2 r1
            refine ⟨rfl, _, G1, _, _, v', l', d', ac, qP, rfl, rfl, hd2, ?_⟩
            intro G' σ' H' p av al dx C' xs ys w a' x' z1 z2 z3 rw'
            have zp : p = rr.p ∧ av = rr.av ∧ al = rr.al := by
              have z1 : albG G1 rr p = some (.ins C' dx [("_views", .ref av), ("_links", .ref al)]) := z1
              unfold albG at z1
              split at z1
              · rename_i c; unfold AlbR.ins at z1; cases z1; exact ⟨c, rfl, rfl⟩
              · split at z1
                · cases z1
                · split at z1
                  · cases z1
                  · split at z1 <;> cases z1
            obtain ⟨rfl, rfl, rfl⟩ := zp
            have np : rr.p ≠ rr.av := fun c => by have := g2.hp; rw [c, g2.hv] at this; unfold AlbR.ins at this; cases this
            have nq : rr.p ≠ rr.al := fun c => by have := g2.hp; rw [c, g2.hl] at this; unfold AlbR.ins at this; cases this
            have z2' : xs = rr.xs := by
              have z2 : albG G1 rr rr.av = some (.lst xs) := z2
              unfold albG at z2; rw [if_neg (Ne.symm np), if_pos rfl] at z2; cases z2; rfl
            have z3' : ys = rr.ys := by
              have z3 : albG G1 rr rr.al = some (.lst ys) := z3
              unfold albG at z3; rw [if_neg (Ne.symm nq), if_neg (Ne.symm g2.ne), if_pos rfl] at z3; cases z3; rfl
            subst z2' z3'
            obtain ⟨⟨k1, k2, k3⟩, ⟨k4, k5, k6⟩⟩ := keep_off g2 rfl rfl rfl a'
            have a3 := a2.called rfl rfl rfl a'
            have hσl : i < σ.length := (List.getElem?_eq_some_iff.mp hp0).1
            have hδl : i < δ1.length := by rw [a1.len]; exact hσl
            have fin : ∀ (r2 : AlbR) (H2 : Hp) (vs2 ls2 : List D), At X.K B G' (δ1.set i .no) σ H2 → AlbAt X.K B G' (δ1.set i .no) σ H2 r2 → r2.p = rr.p → RL X.K G' r2.xs vs2 → pureDs vs2 = true → RL X.K G' r2.ys ls2 → pureDs ls2 = true → (δ1.set i (.bor (.alb vs2 ls2))) = δ' → Dn.nx σ H2 := fun r2 H2 vs2 ls2 b1 b2 b3 b4 b5 b6 b7 b8 => by
              subst hr9
              obtain ⟨n8, a8⟩ := b1.enter (i := i) b2 (List.getElem?_set_self hδl) (by rw [b3]; exact hp0) b4 b5 b6 b7
              rw [List.set_set, b8] at a8
              refine post _ G' σ H2 ⟨_, n8, fun q zs e => ?_⟩ a8 x'
              have e : (if i = i then albG G' r2 else B.Bo i) q = some (.tup zs) := e
              rw [if_pos rfl] at e
              unfold albG at e
              split at e
              · cases e
              · split at e
                · cases e
                · split at e
                  · cases e
                  · split at e
                    · rename_i c; cases e; exact c
                    · cases e
            cases b with
            | true =>
              have b1 := a3.poke k2 nt_lst k5 g2.b.2.1 (fun j => (g2.no j).2.1) (.lst (rr.xs ++ [w]))
              refine fin ⟨rr.p, rr.C, rr.dx, rr.av, rr.al, rr.xs ++ [w], rr.ys⟩ _ (vs ++ [d']) ls b1 ⟨g2.ns, by show upd H' rr.av _ rr.p = _; rw [upd_ne np]; exact k1, upd_same, by show upd H' rr.av _ rr.al = _; rw [upd_ne (Ne.symm g2.ne)]; exact k3, ⟨k4, k5, k6⟩, g2.b, g2.no, g2.ne, ?_, g2.ly⟩ rfl ((t1.mono x').append (.cons rw' .nil)) (pureDs_snoc hp.1 hd1) (t2.mono x') hp.2 hδ9.symm
              show (rr.xs ++ [w]).length ≤ sizeLine
              have hd3 : vs.length < sizeLine := hd3
              rw [List.length_append, List.length_singleton, t1.length]; omega
            | false =>
              have b1 := a3.poke k3 nt_lst k6 g2.b.2.2 (fun j => (g2.no j).2.2) (.lst (rr.ys ++ [w]))
              refine fin ⟨rr.p, rr.C, rr.dx, rr.av, rr.al, rr.xs, rr.ys ++ [w]⟩ _ vs (ls ++ [d']) b1 ⟨g2.ns, by show upd H' rr.al _ rr.p = _; rw [upd_ne nq]; exact k1, by show upd H' rr.al _ rr.av = _; rw [upd_ne g2.ne]; exact k2, upd_same, ⟨k4, k5, k6⟩, g2.b, g2.no, g2.ne, g2.lx, ?_⟩ rfl (t1.mono x') hp.1 ((t2.mono x').append (.cons rw' .nil)) (pureDs_snoc hp.2 hd1) hδ9.symm
              show (rr.ys ++ [w]).length ≤ sizeLine
              have hd3 : ls.length < sizeLine := hd3
              rw [List.length_append, List.length_singleton, t2.length]; omega
          · cases e2
        · cases e2
      · cases e2
    · cases e2
  · cases e1
end
end M
set_option Elab.async false
set_option linter.all false
set_option maxRecDepth 100000
set_option maxHeartbeats 1000000
set_option Elab.async false
set_option linter.all false
set_option maxRecDepth 100000
set_option maxHeartbeats 1000000
namespace M
open PySem L2 PySem.Spec PyProof.Rows
abbrev NE := Str × Addr × List V
abbrev NL := Str × List D
def nKV (es : List NE) : List (Key × V) := es.map fun e => (.inr e.1, .ref e.2.1)
abbrev NestOk (K : PySem.W.Frag) (G : Hp) : List NE → List NL → Prop := Paired fun e l => e.1 = l.1 ∧ e.2.2.length ≤ sizeLine ∧ RL K G e.2.2 l.2 ∧ pureDs l.2 = true
def NoD (p : Addr) (es : List NE) : Prop := (p :: es.map fun e => e.2.1).Nodup
section
variable {K : PySem.W.Frag} {B B1 : Bs} {G G' H H' : Hp} {δ : Env} {σ : St} {i : Nat} {p : Addr} {es : List NE} {ls : List NL}
theorem NestOk.mono (x : Ext G G') (h : NestOk K G es ls) : NestOk K G' es ls := Paired.mapP h fun _ _ ⟨a, b, c, d⟩ => ⟨a, b, c.mono x, d⟩
end
end M
set_option Elab.async false
set_option linter.all false
set_option maxRecDepth 100000
set_option maxHeartbeats 1000000
namespace M
open PySem L2 PySem.Spec PyProof.Rows
/-- the dict and its lists so far -/
structure NS (H1 H2 : Hp) (D : Addr) (es : List NE) : Prop where
  d : H2 D = some (.dK (nKV es))
  el : ∀ e ∈ es, H2 e.2.1 = some (.lst []) ∧ e.2.2 = []
  nd : NoD D es
  fr : ∀ p ∈ D :: es.map (fun e => e.2.1), H1 p = none
  out : ∀ p, p ∉ D :: es.map (fun e => e.2.1) → H2 p = H1 p
theorem NS.start {H1 : Hp} {D : Addr} (h : H1 D = none) : NS H1 (upd H1 D (.dK [])) D [] := ⟨upd_same, fun e m => (by cases m), (by unfold NoD; simp), fun p hp => (by simp at hp; rw [hp]; exact h), fun p hp => upd_ne fun c => hp (by rw [c]; simp)⟩
theorem NS.ext {H1 H2 : Hp} {D : Addr} {es : List NE} (t : NS H1 H2 D es) : Ext H1 H2 := fun a o e => by
  rw [t.out a fun m => by rw [t.fr a m] at e; cases e]; exact e
theorem NS.there {H1 H2 : Hp} {D : Addr} {es : List NE} (t : NS H1 H2 D es) {p : Addr} (h : p ∈ D :: es.map (fun e => e.2.1)) : H2 p ≠ none := by
  rcases List.mem_cons.mp h with rfl | h
  · rw [t.d]; simp
  · obtain ⟨e, he, rfl⟩ := List.mem_map.mp h
    rw [(t.el e he).1]; simp
theorem NS.push {H1 H2 : Hp} {D : Addr} {es : List NE} (t : NS H1 H2 D es) {q : Addr} {s : Str} (hq : H2 q = none) : NS H1 (upd (upd H2 q (.lst [])) D (.dK (nKV (es ++ [(s, q, [])])))) D (es ++ [(s, q, [])]) := by
  have nm : q ∉ D :: es.map (fun e => e.2.1) := fun m => t.there m hq
  have h0 : H1 q = none := by rw [← t.out q nm]; exact hq
  have nD : q ≠ D := fun c => nm (by rw [c]; simp)
  have nq : q ∉ es.map (fun e => e.2.1) := fun m => nm (List.mem_cons_of_mem _ m)
  obtain ⟨n1, n2⟩ := List.nodup_cons.mp t.nd
  refine ⟨upd_same, fun e m => ?_, ?_, fun p hp => ?_, fun p hp => ?_⟩
  · rcases List.mem_append.mp m with m | m
    · have c1 : e.2.1 ≠ D := fun c => n1 (c ▸ List.mem_map.mpr ⟨e, m, rfl⟩)
      have c2 : e.2.1 ≠ q := fun c => nq (c ▸ List.mem_map.mpr ⟨e, m, rfl⟩)
      exact ⟨by rw [upd_ne c1, upd_ne c2]; exact (t.el e m).1, (t.el e m).2⟩
    · simp at m; subst m
      exact ⟨by rw [upd_ne nD, upd_same], rfl⟩
  · unfold NoD
    rw [List.map_append, List.map_cons, List.map_nil]
    refine List.nodup_cons.mpr ⟨fun m => ?_, List.nodup_append.mpr ⟨n2, by simp, fun x hx y hy => ?_⟩⟩
    · rcases List.mem_append.mp m with m | m
      · exact n1 m
      · simp at m; exact nD m.symm
    · simp at hy; subst hy
      intro c; subst c; exact nq hx
  · rw [List.map_append, List.map_cons, List.map_nil] at hp
    rcases List.mem_cons.mp hp with rfl | hp
    · exact t.fr _ List.mem_cons_self
    · rcases List.mem_append.mp hp with m | m
      · exact t.fr _ (List.mem_cons_of_mem _ m)
      · simp at m; subst m; exact h0
  · rw [List.map_append, List.map_cons, List.map_nil] at hp
    have a1 : p ≠ D := fun c => hp (by rw [c]; exact List.mem_cons_self)
    have a2 : p ∉ es.map (fun e => e.2.1) := fun m => hp (List.mem_cons_of_mem _ (List.mem_append_left _ m))
    have a3 : p ≠ q := fun c => hp (List.mem_cons_of_mem _ (List.mem_append_right _ (by rw [c]; simp)))
    rw [upd_ne a1, upd_ne a3]
    exact t.out p fun m => (List.mem_cons.mp m).elim a1 a2
end M
set_option Elab.async false
set_option linter.all false
set_option maxRecDepth 100000
set_option maxHeartbeats 1000000
namespace M
open PySem L2 PySem.Spec PyProof.Rows
/-- Album() -/
structure AlbM (P : Program) (w : World) (K : PySem.W.Frag) (mg : Str → Option Value) (base : Heap) (C : Addr) (k : Nat) : Prop where
  ex : ∃ f fd, Mk K C f ∧ FnOk P w K mg base CX0 k f fd ["self"] (spInit C) ∧ Binds K fd ["self"] [] ∧ mg "Album" = some (.ref C)
/-- a method of Album that adds -/
def CalD (P : Program) (w : World) (K : PySem.W.Frag) (mg : Str → Option Value) (base : Heap) (C : Addr) (k : Nat) (m : Str) (b : Bool) (Pm : Mo Out) (n : Nat) : Prop := ∃ fa fd ps, FnOk P w K mg base CX0 k fa fd ps (spAdd K b Pm n) ∧ Meth K C m fa ∧ Binds K fd ps []
theorem CalD.mono {P : Program} {w : World} {K : PySem.W.Frag} {mg : Str → Option Value} {base : Heap} {C : Addr} {k : Nat} {m : Str} {b : Bool} {Pm : Mo Out} {n : Nat} (h : CalD P w K mg base C k m b Pm n) : ∃ fa fd ps, FnOk P w K mg base CX0 k fa fd ps (spAdd K b Pm n) ∧ Meth K C m fa ∧ Binds K fd ps [] := h
section
variable {X : Cx} {i k : Nat} {rest : List Stmt} {p p' pos spos : Pos} {S : Mo Out} {C : Addr} {y : Str}
theorem dss_albC (TA : AlbK X.K C) (AM : AlbM X.prog X.w X.K X.mg X.base C k) (hr : Room (k + 1) X.A) (hg : Gl X "Album")
    (hN : X.N.Nodup) (hi : X.N[i]? = some y) (hx : Loc X.env.scope y) (hrest : DSRs X (kAlb X.K i) i rest S) (hs : swapsWith (.Call (.Name "Album" p) [] [] pos) (some (.Name y p')) spos.line X.env = pure false := by rfl)
    (hf : X.fn y = true ∨ X.env.scope.names.lookup y = some .local := by first | exact .inl rfl | exact .inr rfl | assumption) : DSs X W0 (.Assign [.Name y p'] (.Call (.Name "Album" p) [] [] pos) spos :: rest) (sAlb i S) := by
  obtain ⟨f, fd, MM, F, hb, hm⟩ := AM.ex
  exact dss_alb TA MM F hr hg hm hb hN hi hx hrest hs hf
end
end M
set_option Elab.async false
set_option linter.all false
set_option maxRecDepth 100000
set_option maxHeartbeats 1000000
set_option Elab.async false
set_option linter.all false
set_option maxRecDepth 100000
set_option maxHeartbeats 1000000
set_option Elab.async false
set_option linter.all false
set_option maxRecDepth 100000
set_option maxHeartbeats 1000000
set_option Elab.async false
set_option linter.all false
set_option maxRecDepth 100000
set_option maxHeartbeats 1000000
namespace M
open PySem L2 PySem.Spec PyProof.Rows
section
variable {prog : Program} {w : World} {A : Around} {E : Value → Shared → Prop} {s : Shared} {y : Str} {t fa : Addr} {o : Obj} {fd : FuncData} {c1 c2 k1 : Nat} {v0 v1 : Value} {p1 p2 p3 p4 p5 p6 p7 rp : Pos} {Q : Value → Shared → Prop}
abbrev turnT (y : Str) (c1 c2 k1 : Nat) (p1 p2 p3 p4 p5 p6 p7 : Pos) : Expr := .Tuple [.Subscript (.Name y p1) (.Constant (.int 1) c1 p2) p3, .Subscript (.Name y p4) (.Constant (.int 0) c2 p5) p6] k1 p7
theorem key_call (hroom : A.depth < recursionLimit) (ho : s.heap.get? fa = some o) (hd : o.data = .func fd) (hco : fd.scope.isCoroutine = false) (hge : fd.scope.isGenerator = false)
    (hbody : fd.body = .stmts [.Return (some (turnT y c1 c2 k1 p1 p2 p3 p4 p5 p6 p7)) rp]) (hcl : fd.closure = []) (hcd : s.heap.CodeRec fd.code fd.qualname) (hlim : s.heap.NoLimit) (hk : fd.scope.kind = .function) (hx : fd.scope.names = [(y, .local)])
    (hb : BindsTo s fd ⟨[.ref t], []⟩ [(y, .ref t)]) (ht : IsTup s.heap t #[v0, v1]) (hdb : (y == ("__debug__" : Str)) = false)
    (h : ∀ h' tk, (∀ b o, s.heap.get? b = some o → h'.get? b = some o) → ∀ p, h'.get? p = some { cls := .type "tuple", data := .seq #[v1, v0] } → Q (.ref p) { s with heap := h', toks := tk }) :
    wpAny (model prog w) A (call (.ref fa) [.ref t]) Q E s := by
  refine wpAny_call (codeAny_call_function hroom ho hd hco hge hbody hcd (hb _ _ _ _ ?_))
  rw [hcl]
  have hl : fd.scope.names.lookup y = some .local := by rw [hx]; simp [List.lookup]
  refine wpAny_newFunctionEnv (fun z hz => by rw [hx] at hz; simp at hz; subst hz; simp) (fun z hz => by simp at hz; subst hz; exact hl) (fun h₁ hns hsb => ⟨hlim.fresh _ hsb, codeAny_func ?_⟩) hk
  have kp : ∀ b o, s.heap.get? b = some o → h₁.get? b = some o := fun b o e => hsb.extBut b o (Nat.ne_of_lt (Heap.lt_size e)) (Heap.get?_push_of_some _ e)
  refine wpAny_execs_cons ?_
  rw [exec_Return_some]
  refine wpAny_bind (wpAny_standAt (wpAny_bind ?_))
  refine row_key (m := fun z => [(y, Value.ref t)].reverse.lookup z) hk hl hns (by simp [List.lookup]) (ht.keeps kp) hdb fun tk => ?_
  exact wpAny_pure (h _ tk (fun b o e => Heap.get?_push_of_some _ (kp b o e)) _ (Heap.get?_push_size _ rfl))
end
/-- a def that turns a pair round -/
structure KeyM (K : PySem.W.Frag) (mg : Str → Option Value) (f : Str) : Prop where
  ex : ∃ (fa : Addr) (oc : Value) (od : Option Addr) (osl : Array (Option Value)) (fd : FuncData) (y : Str) (c1 c2 k1 : Nat) (p1 p2 p3 p4 p5 p6 p7 rp : Pos), mg f = some (.ref fa) ∧ K.lookup fa = some ⟨oc, od, .func fd, osl⟩ ∧ PySem.W.codeIn K fd.code fd.qualname = true ∧
    fd.body = .stmts [.Return (some (turnT y c1 c2 k1 p1 p2 p3 p4 p5 p6 p7)) rp] ∧ fd.closure = [] ∧ fd.scope.names = [(y, .local)] ∧ fd.scope.isCoroutine = false ∧ fd.scope.isGenerator = false ∧ fd.scope.kind = .function ∧ (y == ("__debug__" : Str)) = false ∧ Binds K fd [y] []
theorem keyM_of {K : PySem.W.Frag} {mg : Str → Option Value} {f : Str} {st : Stmt} {fa : Addr} {fd : FuncData} {y : Str} {c1 c2 k1 : Nat} {p1 p2 p3 p4 p5 p6 p7 rp : Pos} (F : Fun K f f st fa fd) (hb : defBody st = [.Return (some (turnT y c1 c2 k1 p1 p2 p3 p4 p5 p6 p7)) rp])
    (hs : (defScope st).names = [(y, .local)]) (h1 : (defScope st).isCoroutine = false) (h2 : (defScope st).isGenerator = false) (h3 : (defScope st).kind = .function) (h4 : (y == ("__debug__" : Str)) = false) (hm : mg f = some (.ref fa)) (hB : Binds K fd [y] []) : KeyM K mg f := by
  obtain ⟨oc, od, kV, doc, pm, an, cdv, ct, osl, rfl, lk, hcd⟩ := F.ex
  exact ⟨fa, oc, od, osl, _, y, c1, c2, k1, p1, p2, p3, p4, p5, p6, p7, rp, hm, lk, hcd, by rw [← hb], rfl, hs, h1, h2, h3, h4, hB⟩
theorem keys_at2 {H : Hp} : ∀ {kvs : List (List Key × V)} {bs : List Addr} {i : Nat} {kv : List Key × V} {b : Addr}, IsKeys H kvs bs → kvs[i]? = some kv → bs[i]? = some b → H b = some (.tup (kv.1.map kV))
  | _, _, _, _, _, .nil, h1, _ => by simp at h1
  | _, _, 0, _, _, .cons h t, h1, h2 => by simp at h1 h2; subst h1 h2; exact h
  | _, _, i + 1, _, _, .cons h t, h1, h2 => keys_at2 (i := i) t (by simpa using h1) (by simpa using h2)
def pK (p : Int × Int) : List Key := [.inl p.1, .inl p.2]
section
variable {X : Cx} {x f : Str} {e : Expr} {k : Nat} {ta : TA} {pos p pf kpos : Pos}
def rKeyD (H : Hp) (vs : List V) (Q : VK) : Prop := ∃ (a : Addr) (kvs : List (List Key × V)) (ps : List (Int × Int)), vs = [V.ref a] ∧ Rd H a (.dT kvs) ∧ kvs.map (·.1) = ps.map pK ∧
  ∀ (ts ts' : List Addr) (q : Addr), IsKeys H kvs ts → H q = none → SortedAs ts ps ts' → Q (.ref q) (upd H q (.lst (ts'.map V.ref)))
theorem pe_keyD (hr : Room k X.A) (hc : X.calm = true) (hg : Gl X x) (hm : X.mg x = none) (hv : bootBuiltins x = some (.builtin "sorted")) (hgf : Gl X f) (KM : KeyM X.K X.mg f) (hfd : (f == ("__debug__" : Str)) = false)
    (ha : PA X [e] ta) (hn : x ≠ "__name__" := by decide) (hdb : (x == ("__debug__" : Str)) = false := by decide)
    (he : backTo pos (starEach [e] X.env) = (false, eval e X.env) :: backTo pos (starEach [] X.env) := by rfl) (hpl : (backTo pos (starEach [e] X.env)).any (·.1) = false := by rfl) :
    PE X (.Call (.Name x p) [e] [⟨some "key", .Name f pf, kpos⟩] pos) (fun σ H Q => ta σ H fun vs H1 => rKeyD H1 vs Q) := by
  obtain ⟨fa, oc, od, osl, fd, y, c1, c2, k1, p1, p2, p3, p4, p5, p6, p7, rp, hmf, lk, hcd, hbody, hcl, hsn, hco, hge, hsk, hyd, hB⟩ := KM.ex
  refine ⟨fun pins s σ H Q I h => ?_⟩
  refine wpAny_Call_Name_kw (ld_blt I hg hm hv ?_ hn hdb)
  refine PyProof.Rows.callWith_kw (thn (ha.run pos pins s σ H _ I h) fun us s1 ⟨vs, H1, I1, r1, a, kvs, ps, hvs, hd, hkeys, q1⟩ => ?_) he hpl
  subst hvs
  obtain rfl := Vals.ref1 r1
  show wpAny _ _ (evalAll [do let v ← eval (.Name f pf) X.env; standAt pos; pure v]) _ _ s1
  refine wpAny_evalAll_cons (wpAny_bind (ld_glob I1 hgf hmf (wpAny_bind (wpAny_standAt (wpAny_pure ?_))) hfd))
  refine wpAny_evalAll_nil ?_
  show wpAny _ _ (call (.builtin "sorted") [.ref a] [(Str.ofString "key", .ref fa)]) _ _ s1
  obtain ⟨z, hs, ks, pr, o, es, ep, ho, hx, hdt, hes, hne⟩ := (show ObjOk X.prog X.w H1 s1.heap a (.dT kvs) from hd.ok I1.hok)
  have l1 : es.size = ks.length := size_of_entries hes
  have l2 : kvs.length = ks.length := Paired.length pr
  refine call_function_entry_kw kind_sorted plain_sorted entry_sorted (PyProof.Rows.ksk_s1 _ _) ?_
  unfold Builtin.«sorted»
  refine wpAny_bind (m := checkCount "sorted" 1 1 _) (wpAny_pure ?_)
  refine wpAny_bind (PySem.W.kdu_collect (A := X.A.in1) (kdl_raw hs hx hdt) (I1.ok.hd hc) ho (by omega) fun h' tk acc' hk it => ?_)
  have ea : acc'.toList = ks.map fun x => Value.ref x.2.1 := by
    have hl : acc'.toList.length = ks.length := by rw [Array.length_toList, it.1]; exact l1
    apply List.ext_getElem?
    intro j
    rw [List.getElem?_map]
    cases hj : acc'.toList[j]? with
    | none =>
      have h1 := List.getElem?_eq_none_iff.mp hj
      rw [List.getElem?_eq_none (by omega)]
      all_goals rfl
    | some v =>
      obtain ⟨en, hen, hv⟩ := it.2 j v (by rw [← Array.getElem?_toList]; exact hj)
      have qe := entry_at hes j
      rw [hen] at qe
      cases hb : ks[j]? with
      | none =>
        rw [hb] at qe
        exact nomatch (show some en = none from qe)
      | some b =>
        rw [hb] at qe
        have e2 : en = entryOfKey (tupleKind (mixKind X.prog X.w)) b := Option.some.inj qe
        rw [hv, e2]
        all_goals rfl
  have eb : acc'.toList = (ks.map fun x => x.2.1).map Value.ref := by rw [ea, List.map_map]; all_goals rfl
  have ik := isKeys_of pr
  have I2 : Inv X pins σ H1 { s1 with heap := h', toks := tk } := I1.kept hk
  generalize hts : (ks.map fun x => x.2.1) = ts at *
  have tl : ts.length = kvs.length := by rw [← hts, List.length_map]; exact l2.symm
  have pl : ps.length = kvs.length := by
    have := congrArg List.length hkeys
    rw [List.length_map, List.length_map] at this; exact this.symm
  have hcells : ∀ (i : Nat) t p, ts[i]? = some t → ps[i]? = some p → H1 t = some (.tup [.int p.1, .int p.2]) := fun i t p e1 e2 => by
    have hi := (List.getElem?_eq_some_iff.mp e1).1
    obtain ⟨kv, hkv⟩ : ∃ kv, kvs[i]? = some kv := ⟨_, List.getElem?_eq_getElem (by omega)⟩
    have e3 := keys_at2 ik hkv e1
    have e4 : (kvs.map (·.1))[i]? = some kv.1 := by rw [List.getElem?_map, hkv]; rfl
    rw [hkeys, List.getElem?_map, e2] at e4
    have e4 : pK p = kv.1 := Option.some.inj e4
    rw [← e4] at e3
    exact e3
  have al : acc'.toList.length = ts.length := by rw [eb, List.length_map]
  refine wpAny_bind (wpAny_newList ?_ (by rw [al, tl]; exact z))
  have hoL : (h'.push (seqObj "list" acc'.toList.toArray 0)).get? h'.objs.size = some (seqObj "list" acc'.toList.toArray 0) := Heap.get?_push_size _ rfl
  show wpAny _ _ _ _ _ { s1 with heap := h'.push (seqObj "list" acc'.toList.toArray 0), toks := tk }
  have up : ∀ {g : Heap}, PySem.W.KeepsBut h'.objs.size (h'.push (seqObj "list" acc'.toList.toArray 0)) g → ∀ b u, h'.get? b = some u → g.get? b = some u := fun {g} kp b u q =>
    kp b u (Nat.ne_of_lt (Heap.lt_size q)) (Heap.get?_push_of_some _ q)
  refine wpAny_bind (wpAny_holding (PySem.W.list_sort_key_data (s := { s1 with heap := h'.push (seqObj "list" acc'.toList.toArray 0), toks := tk }) (β := Int × Int) (b := false) (bs := ps) (R := fun v p => ∃ (i : Nat) (t : Addr), v = .ref t ∧ ts[i]? = some t ∧ ps[i]? = some p) (fun p => .tuple [.int p.2, .int p.1]) hoL
    (by rw [eb]; exact each_self ts ps 0 (by omega) (fun i => by rw [Nat.zero_add]) (fun i => by rw [Nat.zero_add])) ?_ ?_ ?_ ?_ (PyProof.Rows.ksk_l1 _ _) (PyProof.Rows.ksk_t1 _ _) ?_ ?_))
  · intro d hd d' hd'
    obtain ⟨p, _, rfl⟩ := List.mem_map.mp hd
    obtain ⟨q, _, rfl⟩ := List.mem_map.mp hd'
    rfl
  · refine .inl fun d hd => ?_
    obtain ⟨p, _, rfl⟩ := List.mem_map.mp hd
    exact ⟨_, _, rfl⟩
  · rw [pl]; exact z
  · intro p _
    have h1 : (PyData.tuple [.int p.2, .int p.1]).depth ≤ 3 := by simp [PyData.depth, PyData.depthAll]
    have := hr.un
    show X.A.units + _ + _ + _ < _
    omega
  · rintro v p0 ⟨i, t0, rfl, e1, e2⟩ hmem h2 tk2 kp
    have hT := hcells i t0 p0 e1 e2
    obtain ⟨its2, r2, ht, _⟩ := I2.tuple (SqT.of hT)
    obtain ⟨u1, u2, rfl, rx, ry⟩ := vals2 r2
    obtain ⟨t1, rfl⟩ := rx
    obtain ⟨t2, rfl⟩ := ry
    have kp2 := up kp
    refine key_call (s := { s1 with heap := h2, toks := tk2 }) ?_ (kp2 _ _ (I2.kIn _ _ lk)) rfl hco hge hbody hcl (PySem.W.codeRec_of (I2.kIn.keeps kp2) hcd) (I2.nolimit.keeps kp2) hsk hsn ?_ (ht.keeps kp2) hyd fun h3 tk3 kp3 q0 hq0 => ?_
    · show X.A.depth < _
      have := hr.dp
      omega
    · exact hB _ [.ref t0] (I2.kIn.keeps kp2) rfl
    · exact ⟨h3, tk3, rfl, kp3, .tuple hq0 rfl rfl (.cons (.int _ _) (.cons (.int _ _) .nil))⟩
  · rintro out cc h2 tk2 kp hob hl' hes2
    obtain ⟨ts', rfl, hes'⟩ := each_refs hes2
    have eL : PySem.W.dataLe false (fun p : Int × Int => PyData.tuple [.int p.2, .int p.1]) = rowLe := PySem.W.dataLe_ii (fun p : Int × Int => p.2) (fun p => p.1)
    rw [eL] at hes'
    rw [List.length_map] at hl'
    refine wpAny_pure ⟨_, rfl, .ref h'.objs.size, upd H1 h'.objs.size (.lst (ts'.map V.ref)), I2.laid (t' := tk2) (up kp) (Nat.le_refl _) ⟨by rw [List.length_map]; omega, _, cc, refs_vals ts', hob⟩, rfl, q1 ts ts' _ ik (I2.hok.fresh (Nat.le_refl _)) hes'⟩
end
def pairK : List Key → Option (Int × Int)
  | [.inl x, .inl y] => some (x, y)
  | _ => none
def pairsK : List (List Key) → Option (List (Int × Int))
  | [] => some []
  | k :: l => (pairK k).bind fun p => (pairsK l).map (p :: ·)
theorem pairK_some {k : List Key} {p : Int × Int} (h : pairK k = some p) : k = pK p := by
  unfold pairK at h
  split at h
  · cases h; rfl
  · cases h
theorem pairsK_some : ∀ {l : List (List Key)} {ps : List (Int × Int)}, pairsK l = some ps → l = ps.map pK
  | [], ps, h => by cases h; rfl
  | d :: l, ps, h => by
    unfold pairsK at h
    cases q : pairK d with
    | none => rw [q] at h; cases h
    | some p =>
      rw [q, Option.bind_some] at h
      cases q2 : pairsK l with
      | none => rw [q2] at h; cases h
      | some ps' =>
        rw [q2] at h; cases h
        rw [pairK_some q, pairsK_some q2]; rfl
theorem pairsK_map : ∀ ps : List (Int × Int), pairsK (ps.map pK) = some ps
  | [] => rfl
  | p :: ps => by rw [List.map_cons]; unfold pairsK; rw [pairsK_map ps]; rfl
/-- the pairs of ints that are a dict's keys, by rows -/
def fKeyD : List D → Option D
  | [.dT l] => (pairsK (l.map (·.1))).map fun ps => .lst ((byRows ps).map pD)
  | _ => none
theorem refs_inj : ∀ {a b : List Addr}, a.map V.ref = b.map V.ref → a = b
  | [], [], _ => rfl
  | [], _ :: _, h => by simp at h
  | _ :: _, [], h => by simp at h
  | x :: a, y :: b, h => by
    rw [List.map_cons, List.map_cons] at h
    injection h with h1 h2
    injection h1 with h1
    rw [h1, refs_inj h2]
section
variable {X : Cx} {W : WK} {x f : Str} {e : Expr} {k : Nat} {A : Mo (List Ag)} {pos p pf kpos : Pos}
theorem do_keyD (hr : Room k X.A) (hc : X.calm = true) (hg : Gl X x) (hm : X.mg x = none) (hv : bootBuiltins x = some (.builtin "sorted")) (hgf : Gl X f) (KM : KeyM X.K X.mg f) (ha : DA X W [e] A) (hfd : (f == ("__debug__" : Str)) = false := by decide)
    (hn : x ≠ "__name__" := by decide) (hdb : (x == ("__debug__" : Str)) = false := by decide)
    (he : backTo pos (starEach [e] X.env) = (false, eval e X.env) :: backTo pos (starEach [] X.env) := by rfl) (hpl : (backTo pos (starEach [e] X.env)).any (·.1) = false := by rfl) :
    DO X W (.Call (.Name x p) [e] [⟨some "key", .Name f pf, kpos⟩] pos) (eF fKeyD A) := by
  refine PE.weak (pe_keyD hr hc hg hm hv hgf KM hfd ha hn hdb he hpl) fun σ H Q ⟨B, G, δ, r, δ', at', e1, post⟩ => ?_
  refine tA_bind at' e1 post fun vs H1 G1 δ1 as a1 x1 r1 e2 post => ?_
  obtain ⟨ds, d, h1, h2, rfl, rfl⟩ := eF_some e2
  have r2 := imms_ok r1 h1
  unfold fKeyD at h2
  split at h2
  · rename_i l
    obtain ⟨v, rfl, rv⟩ := rl1 r2
    cases rv with
    | dT g hl hk r =>
      rename_i a kvs
      cases q : pairsK (l.map (·.1)) with
      | none => rw [q] at h2; cases h2
      | some ps =>
        rw [q] at h2
        cases h2
        have hx := pairsK_some q
        have hkeys : kvs.map (·.1) = ps.map pK := hk.trans hx
        refine ⟨a, kvs, ps, rfl, a1.vw.rd g, hkeys, fun ts ts' q0 ik hq0 hs => ?_⟩
        have pl : ps.length = kvs.length := by
          have := congrArg List.length hkeys
          rw [List.length_map, List.length_map] at this; exact this.symm
        obtain ⟨G2, a2, x2, r3⟩ := keys_rl ik hl (fun p hp => by
          have : p.1 ∈ ps.map pK := by rw [← hkeys]; exact List.mem_map.mpr ⟨p, hp, rfl⟩
          obtain ⟨z, _, e⟩ := List.mem_map.mp this
          rw [← e]
          exact small_line (by simp [pK])) a1
        have e3 : (kvs.map fun p => D.tup (p.1.map kD)) = ps.map pD := by
          have : (kvs.map fun p => D.tup (p.1.map kD)) = (kvs.map (·.1)).map fun k => D.tup (k.map kD) := by rw [List.map_map]; rfl
          rw [this, hkeys, List.map_map]; rfl
        rw [e3] at r3
        obtain ⟨ts2, e4, hlen, hcl⟩ := cells_refs r3
        have e4 := refs_inj e4
        subst e4
        have hsz : (ts'.map V.ref).length ≤ sizeLine := by
          rw [List.length_map, hs.length, byRows_len, pl]; exact hl
        obtain ⟨b1, b2⟩ := a2.own1 (p := q0) (o := .lst (ts'.map V.ref)) hq0 (.lst upd_same hsz (rl_each hcl hs))
        exact post G2 _ b1 x2 q0 b2
  · cases h2
end
end M
set_option Elab.async false
set_option linter.all false
set_option maxRecDepth 100000
set_option maxHeartbeats 1000000
namespace M
open PySem L2 PySem.Spec PyProof.Rows
section
variable {X : Cx} {W : WK} {x : Str} {e : Expr} {E : Mo D} {p ap cpos pos : Pos}
def tLVal (te : TE) : TE := fun σ H Q => te σ H fun v H1 => ∃ (a : Addr) (kvs : List (List Key × V)), v = .ref a ∧ Rd H1 a (.dT kvs) ∧ ∀ q, H1 q = none → Q (.ref q) (upd H1 q (.lst (kvs.map (·.2))))
theorem vals_kt {H : Hp} : ∀ {kvs : List (List Key × V)} {ks : List (List Key × Addr × Value)}, KT H kvs ks → Vals (kvs.map (·.2)) (ks.map fun z => z.2.2)
  | _, _, .nil => .nil
  | _, _, .cons h t => .cons h.2.2 (vals_kt t)
theorem pe_lVal {te : TE} (hc : X.calm = true) (hg : Gl X x) (hm : X.mg x = none) (hv : bootBuiltins x = some (.type "list")) (he : PE X e te) (hn : x ≠ "__name__" := by decide) (hdb : (x == ("__debug__" : Str)) = false := by decide)
    (hbase : attributeBase e "values" X.env (eval e X.env) = eval e X.env := by rfl) (hline : (ap.endLine == cpos.line) = true := by rfl)
    (hs2 : starEach [.Call (.Attribute e "values" ap) [] [] cpos] X.env = (false, eval (.Call (.Attribute e "values" ap) [] [] cpos) X.env) :: starEach [] X.env := by rfl) :
    PE X (.Call (.Name x p) [.Call (.Attribute e "values" ap) [] [] cpos] [] pos) (tLVal te) := by
  refine ⟨fun pins s σ H Q I h => Call_ (ld_blt I hg hm hv (PyProof.Rows.callWith_type1 (args_cons ?_ hs2) hs2 rfl) hn hdb)⟩
  refine wpAny_Call_method (T := "dict") (id := "dict.values") hbase rfl hline F.plainAttrs_dict F.slot_dict_values F.type_dict_values (thn (he.run pins s σ H _ I h) fun u s1 ⟨v, H1, I1, rx, a, kvs, ex, hd, q⟩ => ?_)
  subst ex
  obtain rfl : u = Value.ref a := rx
  obtain ⟨z, hs, ks, pr, o, es, ep, ho, hx, hdt, hes, hne⟩ := (show ObjOk X.prog X.w H1 s1.heap a (.dT kvs) from hd.ok I1.hok)
  have l1 : es.size = ks.length := size_of_entries hes
  have l2 : kvs.length = ks.length := Paired.length pr
  have hraw : s1.heap.DictRaw a es ep := ⟨o, ho, hx, hdt⟩
  refine ⟨⟨o, ho, hx.1⟩, ?_, ?_⟩
  · intro b eb
    cases eb
    exact ⟨o, ho, hx.2.1⟩
  show wpAny _ _ (callWith cpos (.builtin "dict.values") [.ref a] [] []) _ X.xe s1
  refine method_meetsIn F.slot_dict_values F.entry_dict_values rfl (PySem.evalArgs_none ⟨rfl, ⟨o, ho, hx.1⟩, F.args_dict_values_1 _, _, meets_dict_values_raw a hs, ⟨es, ep, hraw⟩, ?_⟩)
  have k2 : ∀ b u, s1.heap.get? b = some u → (s1.heap.push { cls := .type "dict_values", data := .fields #[.ref a] }).get? b = some u := fun b u q => Heap.get?_push_of_some _ q
  have I2 : Inv X pins σ H1 { s1 with heap := s1.heap.push { cls := .type "dict_values", data := .fields #[.ref a] } } := I1.kept (t' := s1.toks) k2
  have hraw2 : (s1.heap.push { cls := .type "dict_values", data := .fields #[.ref a] }).DictRaw a es ep := ⟨o, k2 _ _ ho, hx, hdt⟩
  refine args_nil ?_
  refine PySem.W.kdl_call (PySem.KdlSrc.rawValues (es := es) (ep := ep) (r := s1.heap.objs.size) (d := a)) (I1.ok.hd hc) ⟨⟨_, Heap.get?_push_size _ rfl, rfl, rfl⟩, hraw2⟩ (by omega) fun h' tk acc' c' kp hS it => ?_
  have ea : acc'.toList = ks.map fun x => x.2.2 := by
    have hl : acc'.toList.length = ks.length := by rw [Array.length_toList, it.1]; exact l1
    apply List.ext_getElem?
    intro j
    rw [List.getElem?_map]
    cases hj : acc'.toList[j]? with
    | none =>
      have h1 := List.getElem?_eq_none_iff.mp hj
      rw [List.getElem?_eq_none (by omega)]
      all_goals rfl
    | some v =>
      obtain ⟨hi, hv⟩ := it.2 j v (by rw [← Array.getElem?_toList]; exact hj)
      have qe := entry_at hes j
      rw [Array.getElem?_eq_getElem hi] at qe
      cases hb : ks[j]? with
      | none =>
        rw [hb] at qe
        cases qe
      | some b =>
        rw [hb] at qe
        have e2 : es[j] = entryOfKey (tupleKind (mixKind X.prog X.w)) b := Option.some.inj qe
        rw [hv, e2]
        all_goals rfl
  have hlen : (kvs.map (·.2)).length ≤ sizeLine := by rw [List.length_map]; exact z
  refine ⟨.ref _, upd H1 _ (.lst (kvs.map (·.2))), I2.laid (t' := tk) kp (Nat.le_refl _) ⟨hlen, acc'.toList, c', ?_, by rw [Array.toArray_toList]; exact hS⟩, rfl, q _ (I2.hok.fresh (Nat.le_refl _))⟩
  rw [ea]; exact vals_kt pr
def dVals : D → Option D
  | .dT l => some (.lst (l.map (·.2)))
  | _ => none
theorem do_lVal (hc : X.calm = true) (hg : Gl X x) (hm : X.mg x = none) (hv : bootBuiltins x = some (.type "list")) (he : DE X W e E) (hn : x ≠ "__name__" := by decide) (hdb : (x == ("__debug__" : Str)) = false := by decide)
    (hbase : attributeBase e "values" X.env (eval e X.env) = eval e X.env := by rfl) (hline : (ap.endLine == cpos.line) = true := by rfl)
    (hs2 : starEach [.Call (.Attribute e "values" ap) [] [] cpos] X.env = (false, eval (.Call (.Attribute e "values" ap) [] [] cpos) X.env) :: starEach [] X.env := by rfl) :
    DO X W (.Call (.Name x p) [.Call (.Attribute e "values" ap) [] [] cpos] [] pos) (eUn dVals E) := by
  refine PE.weak (pe_lVal hc hg hm hv he hn hdb hbase hline hs2) fun σ H Q ⟨B, G, δ, r, δ', at', e1, post⟩ => ?_
  refine tE_bind at' e1 post fun v H1 G1 δ1 d a1 x1 r1 e2 post => ?_
  obtain ⟨z, hz, hr⟩ := lift_some e2
  cases hr
  unfold dVals at hz
  split at hz
  · rename_i l
    cases hz
    cases r1 with
    | dT g hl hk rl =>
      rename_i a kvs
      refine ⟨a, kvs, rfl, a1.vw.rd g, fun q hq => ?_⟩
      obtain ⟨b1, b2⟩ := a1.own1 (p := q) (o := .lst _) hq (.lst upd_same (by rw [List.length_map]; exact hl) rl)
      exact post G1 _ b1 (Ext.refl _) q b2
  · cases hz
end
end M
set_option Elab.async false
set_option linter.all false
set_option maxRecDepth 100000
set_option maxHeartbeats 1000000
namespace M
open PySem L2 PySem.Spec PyProof.Rows
def getSl (i : Nat) (k x : D) : Mo D := fun δ => match δ[i]? with
  | some s => match slD s with
    | some d => if isBor s = false ∧ isDct d = true then Mo.lift ((dGet d k).map fun o => o.getD x) δ else none
    | none => none
  | none => none
def eGetV (i : Nat) (Eb Ec : Mo D) : Mo D := fun δ => if slotDct δ i = some true then (Eb.bind fun k => Ec.bind fun x => getSl i k x) δ else none
section
variable {X : Cx} {W : WK} {o e f : Expr} {apos cpos : Pos} {Eb Ec : Mo D}
theorem sh_isd {K : PySem.W.Frag} {G H : Hp} {v : V} {d : D} (r : Sh K G H v d) (h : isDct d = true) : ∃ p, v = .ref p ∧ IsD H p := by
  cases r with
  | dK g l k => exact ⟨_, rfl, .inl ⟨_, g⟩⟩
  | dT g l k => exact ⟨_, rfl, .inr ⟨_, g⟩⟩
  | flat r f => cases r <;> first | (cases f; done) | (cases h; done)
  | _ => cases h
theorem de_getV {i : Nat} (hu : X.A.units + 1 < cLine) (ha : PE X o (tVar i)) (hb : DE X W e Eb) (hc : DE X W f Ec)
    (base : attributeBase o "get" X.env (eval o X.env) = eval o X.env := by rfl)
    (few : ((backTo cpos (starEach [e, f] X.env)).all (fun x => !x.1) && (backToKw cpos (keywordEach [] X.env)).all (fun x => x.1.isSome)
    && decide (([e, f] : List Expr).length + ([] : List Keyword).length + (if ([] : List Keyword).isEmpty then 0 else 1) < 30)) = true := by rfl)
    (line : (apos.endLine == cpos.line) = true := by rfl) (trees : backTo cpos (starEach [e, f] X.env) = [(false, eval e X.env), (false, eval f X.env)] := by rfl) :
    DE X W (.Call (.Attribute o "get" apos) [e, f] [] cpos) (eGetV i Eb Ec) :=
  PE.weak (pe_dget2 hu ha hb hc ⟨base, few, line, trees⟩) fun σ H Q ⟨B, G, δ, r, δ', at', e1, post⟩ => by
  unfold eGetV at e1
  split at e1
  · rename_i hs
    obtain ⟨v, p, hv, rfl, hp⟩ : ∃ v p, σ[i]? = some (some v) ∧ v = .ref p ∧ IsD H p := by
      unfold slotDct at hs
      cases q : δ[i]? with
      | none => rw [q] at hs; cases hs
      | some s =>
        rw [q] at hs
        cases q2 : slD s with
        | none => simp only [q2] at hs; cases hs
        | some d =>
          simp only [q2, Option.map_some, Option.some.injEq] at hs
          obtain ⟨v, Gc, h1, h2, h3, _⟩ := at'.see q q2
          obtain ⟨p, e5, e6⟩ := sh_isd h2 hs
          exact ⟨v, p, h1, e5, e6⟩
    refine ⟨_, hv, p, rfl, hp, ?_⟩
    refine tE_bind at' e1 post fun y H2 G2 δ2 k a2 x2 r2 e3 post => ?_
    refine tE_bind a2 e3 post fun z H3 G3 δ3 x a3 x3 r3 e4 post => ?_
    unfold getSl at e4
    cases q : δ3[i]? with
    | none => simp only [q] at e4; cases e4
    | some s =>
      cases q2 : slD s with
      | none => simp only [q, q2] at e4; cases e4
      | some d =>
        simp only [q, q2] at e4
        split at e4
        · rename_i c
          obtain ⟨v', Gc, k1, k2, k3, k4⟩ := a3.see q q2
          rw [hv] at k1; cases k1
          obtain rfl := k4 c.1
          obtain ⟨qq, hq, hr⟩ := lift_some e4
          cases hr
          cases ho : dGet d k with
          | none => rw [ho] at hq; cases hq
          | some oo =>
            rw [ho] at hq
            cases hq
            obtain ⟨p2, o', e5, _, e6, e7⟩ := sh_get a3.vw k2 (r2.mono x3) ho
            cases e5
            refine ⟨o', e6, ?_⟩
            rcases e7 with ⟨v', d', rfl, rfl, rv⟩ | ⟨rfl, rfl⟩
            · exact post _ H3 a3 (Ext.refl _) _ rv
            · exact post _ H3 a3 (Ext.refl _) _ r3
        · cases e4
  · cases e1
end
end M
set_option Elab.async false
set_option linter.all false
set_option maxRecDepth 100000
set_option maxHeartbeats 0
namespace M
open PySem L2 PySem.Spec PyProof.Rows
def top (i : Nat) : Stmt := PySem.Challenge.pw_laidviews_k15_gathered_grounds.main.body.getD i (.Pass ⟨0, 0, 0, 0⟩)
def clsAt (st : Stmt) (j : Nat) : Stmt := match st with
  | .ClassDef _ _ _ body _ _ _ _ _ _ _ => body.getD j (.Pass ⟨0, 0, 0, 0⟩)
  | s => s
structure Bi (mg : Str → Option Value) : Prop where
  c_MAX_NAME : ∃ t, mg "MAX_NAME" = some (.int 8 t)
  c_MOST : ∃ t, mg "MOST" = some (.int 999 t)
  c_MAX_SIDE : ∃ t, mg "MAX_SIDE" = some (.int 12 t)
  c_MAX_VIEWS : ∃ t, mg "MAX_VIEWS" = some (.int 30 t)
  abs : mg "abs" = none
  all : mg "all" = none
  bool : mg "bool" = none
  int : mg "int" = none
  isinstance : mg "isinstance" = none
  len : mg "len" = none
  list : mg "list" = none
  max : mg "max" = none
  min : mg "min" = none
  range : mg "range" = none
  sorted : mg "sorted" = none
  str : mg "str" = none
  tuple : mg "tuple" = none
section
variable {P : Program} {w : World} {K : PySem.W.Frag} {mg : Str → Option Value} {base : Heap} {f C fI CA : Addr} {fd : FuncData}
abbrev s__law_pool : Stmt := top 28
noncomputable def b__law_pool : Mo Out :=
 (sRetO (eLst (aCons (eC (.int 0)) (aCons (eF fList' (aCons (eV 0) aNil)) (aCons (eUn dNeg (eC (.int 1))) aNil)))))
noncomputable def m__law_pool : Mo D := fnO 1 1 b__law_pool
theorem sc__law_pool : FnScope ["_law_script"] ["_law_script"] (defScope s__law_pool) := ⟨rfl, rfl, rfl, by decide +kernel, rfl, by decide +kernel, by decide +kernel⟩
theorem ok__law_pool (F : Fun K "_law_pool" "_law_pool" s__law_pool f fd) (T : Bi mg)  : FnOk P w K mg base CX0 1 f fd ["_law_script"] (spM Wn K 1 true m__law_pool) :=
 fn_okO F sc__law_pool rfl fun cdv A outer s H E hr =>
 (dss_one (ds_retO (do_lst (da_cons de_int (da_cons (DO.de (do_list (by rfl) (by rfl) T.list bt_list (da_cons (de_v (pv 0)) da_nil (by rfl)) (by decide) (by decide) (by rfl) (by rfl))) (da_cons (de_neg de_int) da_nil (by rfl)) (by rfl)) (by rfl)))))
abbrev s__law_wide : Stmt := top 26
noncomputable def b__law_wide : Mo Out :=
 (sSeq (sAsg (gN 2) (eC (.int 0)))
 (sSeq (sIf (eB (eBin dLt (eV 1) (eF fLen (aCons (eV 0) aNil))))
 (sAsg (gN 2) (eF fAbs (aCons (eIxV 0 (eV 1)) aNil)))
 sNx)
 (sSeq (sIf (eB (eBin dGe (eV 2) (eC (.int 1000000000000000000))))
 (sRet (eV 2))
 sNx)
 (sSeq (sAsg (gN 3) (eBin dMod (eF fInt (aCons (eBin dAdd (eBin dMul (eBin dAdd (eV 2) (eC (.int 1))) (eC (.int 6364136223846793005))) (eBin dMul (eBin dAdd (eV 1) (eC (.int 1))) (eC (.int 1442695040888963407)))) aNil)) (eC (.int 2305843009213693951))))
 (sRet (eBin dMod (eF fInt (aCons (eBin dAdd (eBin dMul (eV 3) (eC (.int 3202034522624059733))) (eBin dDiv (eV 3) (eC (.int 1000003)))) aNil)) (eC (.int 2305843009213693951))))))))
noncomputable def m__law_wide : Mo D := fnM 4 2 b__law_wide
theorem sc__law_wide : FnScope ["_law_script", "_law_k", "_law_cell", "_law_mixed"] ["_law_script", "_law_k"] (defScope s__law_wide) := ⟨rfl, rfl, rfl, by decide +kernel, rfl, by decide +kernel, by decide +kernel⟩
theorem nd__law_wide : List.Nodup (α := Str) ["_law_script", "_law_k", "_law_cell", "_law_mixed"] := by decide +kernel
theorem ok__law_wide (F : Fun K "_law_wide" "_law_wide" s__law_wide f fd) (T : Bi mg)  : FnOk P w K mg base CX0 1 f fd ["_law_script", "_law_k"] (spM Wn K 2 false m__law_wide) :=
 fn_ok F sc__law_wide rfl fun cdv A outer s H E hr =>
 (dss_cons (ds_set nd__law_wide rfl (by first | exact Or.inl rfl | exact Or.inr rfl) de_int (by rfl) (by first | exact Or.inl rfl | exact Or.inr rfl | assumption))
 (dss_cons (ds_if (dt_lt (de_v (pv 1)) (de_len (by rfl) T.len bt_len (da_cons (de_v (pv 0)) da_nil (by rfl)) (by decide) (by decide) (by rfl) (by rfl)))
 (dss_one (ds_set nd__law_wide rfl (by first | exact Or.inl rfl | exact Or.inr rfl) (de_abs (by rfl) T.abs bt_abs (da_cons (de_ixV hr.u1 (pv 0) (de_v (pv 1)) (by intro _ _; rfl) (by intro _ _; rfl)) da_nil (by rfl)) (by decide) (by decide) (by rfl) (by rfl)) (by rfl) (by first | exact Or.inl rfl | exact Or.inr rfl | assumption)))
 dss_nil)
 (dss_cons (ds_if (dt_ge (de_v (pv 2)) de_int)
 (dss_one (ds_ret (de_v (pv 2))))
 dss_nil)
 (dss_cons (ds_set nd__law_wide rfl (by first | exact Or.inl rfl | exact Or.inr rfl) (de_mod (de_int1 (by rfl) T.int bt_int (da_cons (de_add (de_mul (de_add (de_v (pv 2)) de_int) de_int) (de_mul (de_add (de_v (pv 1)) de_int) de_int)) da_nil (by rfl)) (by decide) (by decide) (by rfl) (by rfl)) de_int) (by rfl) (by first | exact Or.inl rfl | exact Or.inr rfl | assumption))
 (dss_one (ds_ret (de_mod (de_int1 (by rfl) T.int bt_int (da_cons (de_add (de_mul (de_v (pv 3)) de_int) (de_div (de_v (pv 3)) de_int)) da_nil (by rfl)) (by decide) (by decide) (by rfl) (by rfl)) de_int)))))))
abbrev s__law_take : Stmt := top 27
noncomputable def b__law_take : Mo Out :=
 (sSeq (sIf (eB (eBin dLt (eIxV 0 (eC (.int 0))) (eC (.int 1000))))
 (sSeq (sSet 0 (eC (.int 2)) (eBin dAdd (eIxV 0 (eC (.int 2))) (eC (.int 1))))
 (sSet 0 (eC (.int 0)) (eCall m__law_wide (aCons (eIxV 0 (eC (.int 1))) (aCons (eIxV 0 (eC (.int 2))) aNil)))))
 sNx)
 (sSeq (sAsg (gN 2) (eBin dMod (eF fInt (aCons (eIxV 0 (eC (.int 0))) aNil)) (eV 1)))
 (sSeq (sSet 0 (eC (.int 0)) (eBin dDiv (eIxV 0 (eC (.int 0))) (eV 1)))
 (sRet (eV 2)))))
noncomputable def m__law_take : Mo D := fnM 3 2 b__law_take
theorem sc__law_take : FnScope ["_law_pool_here", "_law_most", "_law_taken"] ["_law_pool_here", "_law_most"] (defScope s__law_take) := ⟨rfl, rfl, rfl, by decide +kernel, rfl, by decide +kernel, by decide +kernel⟩
theorem nd__law_take : List.Nodup (α := Str) ["_law_pool_here", "_law_most", "_law_taken"] := by decide +kernel
theorem ok__law_take (F : Fun K "_law_take" "_law_take" s__law_take f fd) (T : Bi mg) (C__law_wide : CalM P w K mg base 1 "_law_wide" 2 false m__law_wide) : FnOk P w K mg base CX0 2 f fd ["_law_pool_here", "_law_most"] (spM Wn K 2 false m__law_take) :=
 fn_ok F sc__law_take rfl fun cdv A outer s H E hr =>
 (dss_cons (ds_if (dt_lt (de_ixV hr.u1 (pv 0) de_int (by intro _ _; rfl) (by intro _ _; rfl)) de_int)
 (dss_cons (ds_sub hr.u1 (pv 0) de_int (de_add (de_ixV hr.u1 (pv 0) de_int (by intro _ _; rfl) (by intro _ _; rfl)) de_int) (by rfl) (by rfl))
 (dss_one (ds_sub hr.u1 (pv 0) de_int (de_callC C__law_wide (hr.mono (by decide)) (by rfl) (alen_cons (alen_cons alen_nil)) (da_cons (de_ixV hr.u1 (pv 0) de_int (by intro _ _; rfl) (by intro _ _; rfl)) (da_cons (de_ixV hr.u1 (pv 0) de_int (by intro _ _; rfl) (by intro _ _; rfl)) da_nil (by rfl)) (by rfl)) (by decide) (by rfl) (by rfl)) (by rfl) (by rfl))))
 dss_nil)
 (dss_cons (ds_set nd__law_take rfl (by first | exact Or.inl rfl | exact Or.inr rfl) (de_mod (de_int1 (by rfl) T.int bt_int (da_cons (de_ixV hr.u1 (pv 0) de_int (by intro _ _; rfl) (by intro _ _; rfl)) da_nil (by rfl)) (by decide) (by decide) (by rfl) (by rfl)) (de_v (pv 1))) (by rfl) (by first | exact Or.inl rfl | exact Or.inr rfl | assumption))
 (dss_cons (ds_sub hr.u1 (pv 0) de_int (de_div (de_ixV hr.u1 (pv 0) de_int (by intro _ _; rfl) (by intro _ _; rfl)) (de_v (pv 1))) (by rfl) (by rfl))
 (dss_one (ds_ret (de_v (pv 2)))))))
abbrev s__law_name : Stmt := top 29
noncomputable def b__law_name : Mo Out :=
 (sSeq (sAsg (gN 1) (eC (.str "abcdefghijklmnopqrstuvwxyz")))
 (sSeq (sAsg (gN 2) (eIx (eLst (aCons (eC (.str "a")) (aCons (eC (.str "b")) (aCons (eC (.str "view")) (aCons (eC (.str "end")) (aCons (eC (.str "link")) (aCons (eC (.str "c")) aNil))))))) (eCall m__law_take (aVr 0 (aCons (eC (.int 6)) aNil)))))
 (sSeq (sIf (eB (eBin dEq (eCall m__law_take (aVr 0 (aCons (eC (.int 3)) aNil))) (eC (.int 0))))
 (sSeq (sAsg (gN 2) (eIxV 1 (eCall m__law_take (aVr 0 (aCons (eC (.int 26)) aNil)))))
 (sFor (iRg rg1 (aCons (eIx (eLst (aCons (eC (.int 0)) (aCons (eC (.int 1)) (aCons (eC (.int 3)) (aCons (eC (.int 7)) aNil))))) (eCall m__law_take (aVr 0 (aCons (eC (.int 4)) aNil)))) aNil)) (gN 3)
 (sAsg (gN 2) (eBin dAdd (eV 2) (eIx (eBin dAdd (eV 1) (eC (.str "0123456789"))) (eCall m__law_take (aVr 0 (aCons (eC (.int 36)) aNil))))))))
 sNx)
 (sRet (eV 2)))))
noncomputable def m__law_name : Mo D := fnM 4 1 b__law_name
theorem sc__law_name : FnScope ["_law_pool_here", "_law_letters", "_law_name_here", "_law_k"] ["_law_pool_here"] (defScope s__law_name) := ⟨rfl, rfl, rfl, by decide +kernel, rfl, by decide +kernel, by decide +kernel⟩
theorem nd__law_name : List.Nodup (α := Str) ["_law_pool_here", "_law_letters", "_law_name_here", "_law_k"] := by decide +kernel
theorem ok__law_name (F : Fun K "_law_name" "_law_name" s__law_name f fd) (T : Bi mg) (C__law_take : CalM P w K mg base 2 "_law_take" 2 false m__law_take) : FnOk P w K mg base CX0 3 f fd ["_law_pool_here"] (spM Wn K 1 false m__law_name) :=
 fn_ok F sc__law_name rfl fun cdv A outer s H E hr =>
 (dss_cons (ds_set nd__law_name rfl (by first | exact Or.inl rfl | exact Or.inr rfl) de_str (by rfl) (by first | exact Or.inl rfl | exact Or.inr rfl | assumption))
 (dss_cons (ds_set nd__law_name rfl (by first | exact Or.inl rfl | exact Or.inr rfl) (de_ix hr.u1 (DO.de (do_lst (da_cons de_str (da_cons de_str (da_cons de_str (da_cons de_str (da_cons de_str (da_cons de_str da_nil (by rfl)) (by rfl)) (by rfl)) (by rfl)) (by rfl)) (by rfl)))) (de_callC C__law_take (hr.mono (by decide)) (by rfl) (alen_vr (alen_cons alen_nil)) (da_vr (pv 0) (da_cons de_int da_nil (by rfl)) (by rfl)) (by decide) (by rfl) (by rfl)) (by intro _ _; rfl) (by intro _ _; rfl)) (by rfl) (by first | exact Or.inl rfl | exact Or.inr rfl | assumption))
 (dss_cons (ds_if (dt_eq hr.units (de_callC C__law_take (hr.mono (by decide)) (by rfl) (alen_vr (alen_cons alen_nil)) (da_vr (pv 0) (da_cons de_int da_nil (by rfl)) (by rfl)) (by decide) (by rfl) (by rfl)) de_int)
 (dss_cons (ds_set nd__law_name rfl (by first | exact Or.inl rfl | exact Or.inr rfl) (de_ixV hr.u1 (pv 1) (de_callC C__law_take (hr.mono (by decide)) (by rfl) (alen_vr (alen_cons alen_nil)) (da_vr (pv 0) (da_cons de_int da_nil (by rfl)) (by rfl)) (by decide) (by rfl) (by rfl)) (by intro _ _; rfl) (by intro _ _; rfl)) (by rfl) (by first | exact Or.inl rfl | exact Or.inr rfl | assumption))
 (dss_one (ds_for PassesOwn.never rfl calm_N (di_rg1 (by rfl) T.range (da_cons (de_ix hr.u1 (DO.de (do_lst (da_cons de_int (da_cons de_int (da_cons de_int (da_cons de_int da_nil (by rfl)) (by rfl)) (by rfl)) (by rfl)))) (de_callC C__law_take (hr.mono (by decide)) (by rfl) (alen_vr (alen_cons alen_nil)) (da_vr (pv 0) (da_cons de_int da_nil (by rfl)) (by rfl)) (by decide) (by rfl) (by rfl)) (by intro _ _; rfl) (by intro _ _; rfl)) da_nil (by rfl)) (by rfl)) (dg_name nd__law_name rfl (by first | exact Or.inl rfl | exact Or.inr rfl) (by first | exact Or.inl rfl | exact Or.inr rfl | assumption))
 (dss_one (ds_set nd__law_name rfl (by first | exact Or.inl rfl | exact Or.inr rfl) (de_add (de_v (pv 2)) (de_ix hr.u1 (de_add (de_v (pv 1)) de_str) (de_callC C__law_take (hr.mono (by decide)) (by rfl) (alen_vr (alen_cons alen_nil)) (da_vr (pv 0) (da_cons de_int da_nil (by rfl)) (by rfl)) (by decide) (by rfl) (by rfl)) (by intro _ _; rfl) (by intro _ _; rfl))) (by rfl) (by first | exact Or.inl rfl | exact Or.inr rfl | assumption))) (by intro _; rfl))))
 dss_nil)
 (dss_one (ds_ret (de_v (pv 2)))))))
abbrev s__law_names : Stmt := top 30
noncomputable def b__law_names : Mo Out :=
 (sSeq (sAsgO 2 (eLst aNil))
 (sSeq (sFor (iRg rg1 (aCons (eV 1) aNil)) (gN 3)
 (sSeq (sAsg (gN 4) (eCall m__law_name (aVr 0 aNil)))
 (sSeq (sIf (eB (eInV false (eV 4) 2))
 (sAsg (gN 4) (eBin dAdd (eSl dSl (eV 4) eP0 (eP1 (eC (.int 6)))) (eF fStr (aCons (eV 3) aNil))))
 sNx)
 (sSeq (sIf (eB (eInV false (eV 4) 2))
 (sAsg (gN 4) (eBin dAdd (eBin dAdd (eC (.str "z")) (eF fStr (aCons (eV 3) aNil))) (eC (.str "q"))))
 sNx)
 (sApp 2 (eV 4))))))
 (sRet (eV 2))))
noncomputable def m__law_names : Mo D := fnM 5 2 b__law_names
theorem sc__law_names : FnScope ["_law_pool_here", "_law_count", "_law_names_here", "_law_k", "_law_name_here"] ["_law_pool_here", "_law_count"] (defScope s__law_names) := ⟨rfl, rfl, rfl, by decide +kernel, rfl, by decide +kernel, by decide +kernel⟩
theorem nd__law_names : List.Nodup (α := Str) ["_law_pool_here", "_law_count", "_law_names_here", "_law_k", "_law_name_here"] := by decide +kernel
theorem ok__law_names (F : Fun K "_law_names" "_law_names" s__law_names f fd) (T : Bi mg) (C__law_name : CalM P w K mg base 3 "_law_name" 1 false m__law_name) : FnOk P w K mg base CX0 4 f fd ["_law_pool_here", "_law_count"] (spM Wn K 2 false m__law_names) :=
 fn_ok F sc__law_names rfl fun cdv A outer s H E hr =>
 (dss_cons (ds_setO nd__law_names rfl (by first | exact Or.inl rfl | exact Or.inr rfl) (do_lst da_nil) (by rfl) (by first | exact Or.inl rfl | exact Or.inr rfl | assumption))
 (dss_cons (ds_for PassesOwn.never rfl calm_N (di_rg1 (by rfl) T.range (da_cons (de_v (pv 1)) da_nil (by rfl)) (by rfl)) (dg_name nd__law_names rfl (by first | exact Or.inl rfl | exact Or.inr rfl) (by first | exact Or.inl rfl | exact Or.inr rfl | assumption))
 (dss_cons (ds_set nd__law_names rfl (by first | exact Or.inl rfl | exact Or.inr rfl) (de_callC C__law_name (hr.mono (by decide)) (by rfl) (alen_vr alen_nil) (da_vr (pv 0) da_nil (by rfl)) (by decide) (by rfl) (by rfl)) (by rfl) (by first | exact Or.inl rfl | exact Or.inr rfl | assumption))
 (dss_cons (ds_if (dt_inV hr.u65 (de_v (pv 4)) (pv 2) (by rfl))
 (dss_one (ds_set nd__law_names rfl (by first | exact Or.inl rfl | exact Or.inr rfl) (de_add (de_sl (de_v (pv 4)) dp_none (dp_some de_int)) (de_str1 (by rfl) T.str bt_str (da_cons (de_v (pv 3)) da_nil (by rfl)) (by decide) (by decide) (by rfl) (by rfl))) (by rfl) (by first | exact Or.inl rfl | exact Or.inr rfl | assumption)))
 dss_nil)
 (dss_cons (ds_if (dt_inV hr.u65 (de_v (pv 4)) (pv 2) (by rfl))
 (dss_one (ds_set nd__law_names rfl (by first | exact Or.inl rfl | exact Or.inr rfl) (de_add (de_add de_str (de_str1 (by rfl) T.str bt_str (da_cons (de_v (pv 3)) da_nil (by rfl)) (by decide) (by decide) (by rfl) (by rfl))) de_str) (by rfl) (by first | exact Or.inl rfl | exact Or.inr rfl | assumption)))
 dss_nil)
 (dss_one (ds_app (pv 2) (de_v (pv 4)) (by rfl)))))) (by intro _; rfl))
 (dss_one (ds_ret (de_v (pv 2))))))
abbrev s_Album___init__ : Stmt := clsAt (top 24) 0
theorem sc_Album___init__ : FnScope ["self"] ["self"] (defScope s_Album___init__) := ⟨rfl, rfl, rfl, by decide +kernel, rfl, by decide +kernel, by decide +kernel⟩
theorem ok_Album___init__ (F : Fun K "__init__" "Album.__init__" s_Album___init__ f fd) (TA : AlbK K CA) : FnOk P w K mg base CX0 1 f fd ["self"] (spInit CA) :=
 fn_okInit F sc_Album___init__ TA (by decide) fun cdv A outer s H E hr =>
 pss_cons (ps_fld (pv 0) (pe_lst pa_nil) (by rfl)) (pss_one (ps_fld (pv 0) (pe_lst pa_nil) (by rfl)))
abbrev s_is_name : Stmt := top 12
noncomputable def b_is_name : Mo Out :=
 (sSeq (sIf (tOrM (tNotM (eTru (eIsi2 "str" (eV 0)))) (tOrM (eB (eBin dEq (eV 0) (eC (.str "")))) (eB (eBin dGt (eF fLen (aCons (eV 0) aNil)) (eC (.int 8))))))
 (sRet (eC (.bl false)))
 sNx)
 (sSeq (sIf (tNotM (eTru (eF fAll (aCons (eLc (iOf (eV 0)) (gN 1) tYesM (eOr (eChain dLe dLe (eC (.str "a")) (eV 1) (eC (.str "z"))) (eChain dLe dLe (eC (.str "0")) (eV 1) (eC (.str "9")))) [1]) aNil))))
 (sRet (eC (.bl false)))
 sNx)
 (sRet (eChain dLe dLe (eC (.str "a")) (eIxV 0 (eC (.int 0))) (eC (.str "z"))))))
noncomputable def m_is_name : Mo D := fnM 2 1 b_is_name
theorem sc_is_name : FnScope ["value", "char"] ["value"] (defScope s_is_name) := ⟨rfl, rfl, rfl, by decide +kernel, rfl, by decide +kernel, by decide +kernel⟩
theorem nd_is_name : List.Nodup (α := Str) ["value", "char"] := by decide +kernel
theorem ok_is_name (F : Fun K "is_name" "is_name" s_is_name f fd) (T : Bi mg)  : FnOk P w K mg base CX0 1 f fd ["value"] (spM Wn K 1 false m_is_name) :=
 fn_ok F sc_is_name rfl fun cdv A outer s H E hr =>
 (dss_cons (ds_if (dw_t (dw_or (dt_not (dt_tru (de_isi2 (by rfl) T.isinstance bt_isinstance (by rfl) T.str bt_str (de_v (pv 0)) (by decide) (by decide) (by decide) (by decide) (by rfl) (by rfl)) (by intro _; rfl))) (dw_or (dt_eq hr.units (de_v (pv 0)) de_str) (dw_or1 (dt_gt (de_len (by rfl) T.len bt_len (da_cons (de_v (pv 0)) da_nil (by rfl)) (by decide) (by decide) (by rfl) (by rfl)) (de_gC (by rfl) T.c_MAX_NAME (by decide)))))))
 (dss_one (ds_ret de_bl))
 dss_nil)
 (dss_cons (ds_if (dt_not (dt_tru (de_all (by rfl) (by rfl) T.all bt_all (da_cons (DO.de (do_lc (own := [("char", 1)]) (by rfl) nd_is_name (di_of (de_v (pv 0))) (blkOk_by (N := ["value", "char"]) (sc := (defScope s_is_name)) (own := [("char", 1)]) (by decide +kernel)) (by decide) (fun _ _ _ _ _ => (dg_name nd_is_name rfl (by first | exact Or.inl rfl | exact Or.inr rfl) (by first | exact Or.inl rfl | exact Or.inr rfl | assumption))) (fun _ _ _ _ _ => dts_nil) (fun _ _ _ _ _ => (de_or (de_chain opc_le opc_le snd_cmp' snd_cmp' de_str (de_v (pv 1)) de_str (by with_unfolding_all rfl)) (de_one (de_chain opc_le opc_le snd_cmp' snd_cmp' de_str (de_v (pv 1)) de_str (by with_unfolding_all rfl))))) (by intro _; rfl))) da_nil (by rfl)) (by decide) (by decide) (by rfl) (by rfl)) (by intro _; rfl)))
 (dss_one (ds_ret de_bl))
 dss_nil)
 (dss_one (ds_ret (de_chain opc_le opc_le snd_cmp' snd_cmp' de_str (de_ixV hr.u1 (pv 0) de_int (by intro _ _; rfl) (by intro _ _; rfl)) de_str (by with_unfolding_all rfl))))))
abbrev s_is_whole : Stmt := top 11
noncomputable def b_is_whole : Mo Out :=
 (sRet (eAnd (eIsi2 "int" (eV 0)) (eNot (eIsi2 "bool" (eV 0)))))
noncomputable def m_is_whole : Mo D := fnM 1 1 b_is_whole
theorem sc_is_whole : FnScope ["value"] ["value"] (defScope s_is_whole) := ⟨rfl, rfl, rfl, by decide +kernel, rfl, by decide +kernel, by decide +kernel⟩
theorem ok_is_whole (F : Fun K "is_whole" "is_whole" s_is_whole f fd) (T : Bi mg)  : FnOk P w K mg base CX0 1 f fd ["value"] (spM Wn K 1 false m_is_whole) :=
 fn_ok F sc_is_whole rfl fun cdv A outer s H E hr =>
 (dss_one (ds_ret (de_and (de_isi2 (by rfl) T.isinstance bt_isinstance (by rfl) T.int bt_int (de_v (pv 0)) (by decide) (by decide) (by decide) (by decide) (by rfl) (by rfl)) (de_one (de_not (de_isi2 (by rfl) T.isinstance bt_isinstance (by rfl) T.bool bt_bool (de_v (pv 0)) (by decide) (by decide) (by decide) (by decide) (by rfl) (by rfl)))))))
abbrev s_is_reading : Stmt := top 13
noncomputable def b_is_reading : Mo Out :=
 (sRet (eOr (eBin (dIs false) (eV 0) (eC .non)) (eAnd (eCall m_is_whole (aCons (eV 0) aNil)) (eChain dLe dLe (eC (.int 0)) (eV 0) (eC (.int 999))))))
noncomputable def m_is_reading : Mo D := fnM 1 1 b_is_reading
theorem sc_is_reading : FnScope ["value"] ["value"] (defScope s_is_reading) := ⟨rfl, rfl, rfl, by decide +kernel, rfl, by decide +kernel, by decide +kernel⟩
theorem ok_is_reading (F : Fun K "is_reading" "is_reading" s_is_reading f fd) (T : Bi mg) (C_is_whole : CalM P w K mg base 1 "is_whole" 1 false m_is_whole) : FnOk P w K mg base CX0 2 f fd ["value"] (spM Wn K 1 false m_is_reading) :=
 fn_ok F sc_is_reading rfl fun cdv A outer s H E hr =>
 (dss_one (ds_ret (de_or (de_isN (de_v (pv 0)) de_non) (de_one (de_and (de_callC C_is_whole (hr.mono (by decide)) (by rfl) (alen_cons alen_nil) (da_cons (de_v (pv 0)) da_nil (by rfl)) (by decide) (by rfl) (by rfl)) (de_one (de_chain opc_le opc_le snd_cmp' snd_cmp' de_int (de_v (pv 0)) (de_gC (by rfl) T.c_MOST (by decide)) (by with_unfolding_all rfl))))))))
abbrev s_is_view : Stmt := top 14
noncomputable def b_is_view : Mo Out :=
 (sSeq (sIf (tOrM (tNotM (eTru (eIsi2 "tuple" (eV 0)))) (tOrM (eB (eBin dNe (eF fLen (aCons (eV 0) aNil)) (eC (.int 2)))) (tNotM (eTru (eCall m_is_name (aCons (eIxV 0 (eC (.int 0))) aNil))))))
 (sRet (eC (.bl false)))
 sNx)
 (sSeq (sAsg (gN 1) (eIxV 0 (eC (.int 1))))
 (sSeq (sIf (tOrM (tNotM (eTru (eIsi2 "tuple" (eV 1)))) (tNotM (eB (eChain dLe dLe (eC (.int 1)) (eF fLen (aCons (eV 1) aNil)) (eC (.int 12))))))
 (sRet (eC (.bl false)))
 sNx)
 (sSeq (sFor (iOf (eV 1)) (gN 2)
 (sSeq (sIf (tOrM (tNotM (eTru (eIsi2 "tuple" (eV 2)))) (tOrM (tNotM (eB (eChain dLe dLe (eC (.int 1)) (eF fLen (aCons (eV 2) aNil)) (eC (.int 12))))) (eB (eBin dNe (eF fLen (aCons (eV 2) aNil)) (eF fLen (aCons (eIxV 1 (eC (.int 0))) aNil))))))
 (sRet (eC (.bl false)))
 sNx)
 (sIf (tNotM (eTru (eF fAll (aCons (eLc (iOf (eV 2)) (gN 3) tYesM (eCall m_is_reading (aCons (eV 3) aNil)) [3]) aNil))))
 (sRet (eC (.bl false)))
 sNx)))
 (sRet (eC (.bl true)))))))
noncomputable def m_is_view : Mo D := fnM 4 1 b_is_view
theorem sc_is_view : FnScope ["value", "rows", "row", "reading"] ["value"] (defScope s_is_view) := ⟨rfl, rfl, rfl, by decide +kernel, rfl, by decide +kernel, by decide +kernel⟩
theorem nd_is_view : List.Nodup (α := Str) ["value", "rows", "row", "reading"] := by decide +kernel
theorem ok_is_view (F : Fun K "is_view" "is_view" s_is_view f fd) (T : Bi mg) (C_is_name : CalM P w K mg base 1 "is_name" 1 false m_is_name) (C_is_reading : CalM P w K mg base 2 "is_reading" 1 false m_is_reading) : FnOk P w K mg base CX0 3 f fd ["value"] (spM Wn K 1 false m_is_view) :=
 fn_ok F sc_is_view rfl fun cdv A outer s H E hr =>
 (dss_cons (ds_if (dw_t (dw_or (dt_not (dt_tru (de_isi2 (by rfl) T.isinstance bt_isinstance (by rfl) T.tuple bt_tuple (de_v (pv 0)) (by decide) (by decide) (by decide) (by decide) (by rfl) (by rfl)) (by intro _; rfl))) (dw_or (dt_ne hr.units (de_len (by rfl) T.len bt_len (da_cons (de_v (pv 0)) da_nil (by rfl)) (by decide) (by decide) (by rfl) (by rfl)) de_int) (dw_or1 (dt_not (dt_tru (de_callC C_is_name (hr.mono (by decide)) (by rfl) (alen_cons alen_nil) (da_cons (de_ixV hr.u1 (pv 0) de_int (by intro _ _; rfl) (by intro _ _; rfl)) da_nil (by rfl)) (by decide) (by rfl) (by rfl)) (by intro _; rfl)))))))
 (dss_one (ds_ret de_bl))
 dss_nil)
 (dss_cons (ds_set nd_is_view rfl (by first | exact Or.inl rfl | exact Or.inr rfl) (de_ixV hr.u1 (pv 0) de_int (by intro _ _; rfl) (by intro _ _; rfl)) (by rfl) (by first | exact Or.inl rfl | exact Or.inr rfl | assumption))
 (dss_cons (ds_if (dw_t (dw_or (dt_not (dt_tru (de_isi2 (by rfl) T.isinstance bt_isinstance (by rfl) T.tuple bt_tuple (de_v (pv 1)) (by decide) (by decide) (by decide) (by decide) (by rfl) (by rfl)) (by intro _; rfl))) (dw_or1 (dt_not (dt_chain opc_le opc_le snd_cmp' snd_cmp' de_int (de_len (by rfl) T.len bt_len (da_cons (de_v (pv 1)) da_nil (by rfl)) (by decide) (by decide) (by rfl) (by rfl)) (de_gC (by rfl) T.c_MAX_SIDE (by decide)) (by with_unfolding_all rfl))))))
 (dss_one (ds_ret de_bl))
 dss_nil)
 (dss_cons (ds_for PassesOwn.never rfl calm_N (di_of (de_v (pv 1))) (dg_name nd_is_view rfl (by first | exact Or.inl rfl | exact Or.inr rfl) (by first | exact Or.inl rfl | exact Or.inr rfl | assumption))
 (dss_cons (ds_if (dw_t (dw_or (dt_not (dt_tru (de_isi2 (by rfl) T.isinstance bt_isinstance (by rfl) T.tuple bt_tuple (de_v (pv 2)) (by decide) (by decide) (by decide) (by decide) (by rfl) (by rfl)) (by intro _; rfl))) (dw_or (dt_not (dt_chain opc_le opc_le snd_cmp' snd_cmp' de_int (de_len (by rfl) T.len bt_len (da_cons (de_v (pv 2)) da_nil (by rfl)) (by decide) (by decide) (by rfl) (by rfl)) (de_gC (by rfl) T.c_MAX_SIDE (by decide)) (by with_unfolding_all rfl))) (dw_or1 (dt_ne hr.units (de_len (by rfl) T.len bt_len (da_cons (de_v (pv 2)) da_nil (by rfl)) (by decide) (by decide) (by rfl) (by rfl)) (de_len (by rfl) T.len bt_len (da_cons (de_ixV hr.u1 (pv 1) de_int (by intro _ _; rfl) (by intro _ _; rfl)) da_nil (by rfl)) (by decide) (by decide) (by rfl) (by rfl)))))))
 (dss_one (ds_ret de_bl))
 dss_nil)
 (dss_one (ds_if (dt_not (dt_tru (de_all (by rfl) (by rfl) T.all bt_all (da_cons (DO.de (do_lc (own := [("reading", 3)]) (by rfl) nd_is_view (di_of (de_v (pv 2))) (blkOk_by (N := ["value", "rows", "row", "reading"]) (sc := (defScope s_is_view)) (own := [("reading", 3)]) (by decide +kernel)) (by decide) (fun _ _ _ _ _ => (dg_name nd_is_view rfl (by first | exact Or.inl rfl | exact Or.inr rfl) (by first | exact Or.inl rfl | exact Or.inr rfl | assumption))) (fun _ _ _ _ _ => dts_nil) (fun _ _ _ _ _ => (de_callC C_is_reading (hr.mono (by decide)) (by rfl) (alen_cons alen_nil) (da_cons (de_v (pv 3)) da_nil (by rfl)) (by decide) (by rfl) (by rfl))) (by intro _; rfl))) da_nil (by rfl)) (by decide) (by decide) (by rfl) (by rfl)) (by intro _; rfl)))
 (dss_one (ds_ret de_bl))
 dss_nil))) (by intro _; rfl))
 (dss_one (ds_ret de_bl))))))
abbrev s_Album_names : Stmt := clsAt (top 24) 8
noncomputable def b_Album_names : Mo Out :=
 (sRet (eLc (iFld 0 true) (gN 1) tYesM (eIxV 1 (eC (.int 0))) [1]))
noncomputable def m_Album_names : Mo D := fnM 2 1 b_Album_names
theorem sc_Album_names : FnScope ["self", "view"] ["self"] (defScope s_Album_names) := ⟨rfl, rfl, rfl, by decide +kernel, rfl, by decide +kernel, by decide +kernel⟩
theorem nd_Album_names : List.Nodup (α := Str) ["self", "view"] := by decide +kernel
theorem ok_Album_names (F : Fun K "names" "Album.names" s_Album_names f fd) (T : Bi mg) (TA : AlbK K CA)  : FnOk P w K mg base CX0 1 f fd ["self"] (spM Wn K 1 false m_Album_names) :=
 fn_ok F sc_Album_names rfl fun cdv A outer s H E hr =>
 (dss_one (ds_ret (DO.de (do_lc (own := [("view", 1)]) (by rfl) nd_Album_names (di_fld TA rfl (pv 0)) (blkOk_by (N := ["self", "view"]) (sc := (defScope s_Album_names)) (own := [("view", 1)]) (by decide +kernel)) (by decide) (fun _ _ _ _ _ => (dg_name nd_Album_names rfl (by first | exact Or.inl rfl | exact Or.inr rfl) (by first | exact Or.inl rfl | exact Or.inr rfl | assumption))) (fun _ _ _ _ _ => dts_nil) (fun _ _ _ _ _ => (de_ixV hr.u1 (pv 1) de_int (by intro _ _; rfl) (by intro _ _; rfl))) (by intro _; rfl)))))
abbrev s_Album_add_view : Stmt := clsAt (top 24) 1
noncomputable def b_Album_add_view : Mo Out :=
 (sSeq (sIf (tNotM (eTru (eCall m_is_view (aCons (eV 1) aNil))))
 sNever
 sNx)
 (sSeq (sIf (eB (eBin (dIn false) (eIxV 1 (eC (.int 0))) (eMeth m_Album_names 0 aNil)))
 sNever
 sNx)
 (sSeq (sIf (eB (eBin dGe (eLenF 0 true) (eC (.int 30))))
 sNever
 sNx)
 sNx)))
theorem sc_Album_add_view : FnScope ["self", "view"] ["self", "view"] (defScope s_Album_add_view) := ⟨rfl, rfl, rfl, by decide +kernel, rfl, by decide +kernel, by decide +kernel⟩
theorem ok_Album_add_view (F : Fun K "add_view" "Album.add_view" s_Album_add_view f fd) (T : Bi mg) (TA : AlbK K CA) (C_Album_names : CalS P w K mg base CA 1 "names" 1 false m_Album_names) (C_is_view : CalM P w K mg base 3 "is_view" 1 false m_is_view) : FnOk P w K mg base CX0 4 f fd ["self", "view"] (spAdd K true b_Album_add_view 0) :=
 fn_okAdd F sc_Album_add_view rfl rfl fun cdv A outer s H E hr =>
 (padd_cons (ds_if (dt_not (dt_tru (de_callC C_is_view (hr.mono (by decide)) (by rfl) (alen_cons alen_nil) (da_cons (de_v (pv 1)) da_nil (by rfl)) (by decide) (by rfl) (by rfl)) (by intro _; rfl)))
 (dss_one ds_never)
 dss_nil)
 (padd_cons (ds_if (dt_in hr.u65 (de_ixV hr.u1 (pv 1) de_int (by intro _ _; rfl) (by intro _ _; rfl)) (de_meth0 TA C_Album_names (hr.mono (by decide)) (pv 0)) (by rfl))
 (dss_one ds_never)
 dss_nil)
 (padd_cons (ds_if (dt_ge (de_lenF TA rfl (by rfl) T.len bt_len (pv 0)) (de_gC (by rfl) T.c_MAX_VIEWS (by decide)))
 (dss_one ds_never)
 dss_nil)
 (padd_last TA rfl (pv 0) (by rfl) (pv 1)))))
abbrev s_Album_views : Stmt := clsAt (top 24) 7
noncomputable def b_Album_views : Mo Out :=
 (sRet (eLstF 0 true))
noncomputable def m_Album_views : Mo D := fnM 1 1 b_Album_views
theorem sc_Album_views : FnScope ["self"] ["self"] (defScope s_Album_views) := ⟨rfl, rfl, rfl, by decide +kernel, rfl, by decide +kernel, by decide +kernel⟩
theorem ok_Album_views (F : Fun K "views" "Album.views" s_Album_views f fd) (T : Bi mg) (TA : AlbK K CA)  : FnOk P w K mg base CX0 1 f fd ["self"] (spM Wn K 1 false m_Album_views) :=
 fn_ok F sc_Album_views rfl fun cdv A outer s H E hr =>
 (dss_one (ds_ret (DO.de (do_lstF (by rfl) TA rfl (by rfl) T.list bt_list (pv 0)))))
abbrev s_readings : Stmt := top 15
noncomputable def b_readings : Mo Out :=
 (sSeq (sAsg (gN 1) (eLst aNil))
 (sSeq (sFor (iRg rg1 (aCons (eF fLen (aCons (eIxV 0 (eC (.int 1))) aNil)) aNil)) (gN 2)
 (sSeq (sAsg (gN 3) (eIx (eIxV 0 (eC (.int 1))) (eV 2)))
 (sAsg (gN 1) (eBin dAdd (eV 1) (eLc (iRg rg1 (aCons (eF fLen (aCons (eV 3) aNil)) aNil)) (gN 4) (eB (eBin (dIs true) (eIxV 3 (eV 4)) (eC .non))) (eTup (aCons (eV 4) (aCons (eV 2) (aCons (eIxV 3 (eV 4)) aNil)))) [4])))))
 (sRet (eV 1))))
noncomputable def m_readings : Mo D := fnM 5 1 b_readings
theorem sc_readings : FnScope ["view", "found", "y", "row", "x"] ["view"] (defScope s_readings) := ⟨rfl, rfl, rfl, by decide +kernel, rfl, by decide +kernel, by decide +kernel⟩
theorem nd_readings : List.Nodup (α := Str) ["view", "found", "y", "row", "x"] := by decide +kernel
theorem ok_readings (F : Fun K "readings" "readings" s_readings f fd) (T : Bi mg)  : FnOk P w K mg base CX0 1 f fd ["view"] (spM Wn K 1 false m_readings) :=
 fn_ok F sc_readings rfl fun cdv A outer s H E hr =>
 (dss_cons (ds_set nd_readings rfl (by first | exact Or.inl rfl | exact Or.inr rfl) (DO.de (do_lst da_nil)) (by rfl) (by first | exact Or.inl rfl | exact Or.inr rfl | assumption))
 (dss_cons (ds_for PassesOwn.never rfl calm_N (di_rg1 (by rfl) T.range (da_cons (de_len (by rfl) T.len bt_len (da_cons (de_ixV hr.u1 (pv 0) de_int (by intro _ _; rfl) (by intro _ _; rfl)) da_nil (by rfl)) (by decide) (by decide) (by rfl) (by rfl)) da_nil (by rfl)) (by rfl)) (dg_name nd_readings rfl (by first | exact Or.inl rfl | exact Or.inr rfl) (by first | exact Or.inl rfl | exact Or.inr rfl | assumption))
 (dss_cons (ds_set nd_readings rfl (by first | exact Or.inl rfl | exact Or.inr rfl) (de_ix hr.u1 (de_ixV hr.u1 (pv 0) de_int (by intro _ _; rfl) (by intro _ _; rfl)) (de_v (pv 2)) (by intro _ _; rfl) (by intro _ _; rfl)) (by rfl) (by first | exact Or.inl rfl | exact Or.inr rfl | assumption))
 (dss_one (ds_set nd_readings rfl (by first | exact Or.inl rfl | exact Or.inr rfl) (de_add (de_v (pv 1)) (DO.de (do_lc (own := [("x", 4)]) (by rfl) nd_readings (di_rg1 (by rfl) T.range (da_cons (de_len (by rfl) T.len bt_len (da_cons (de_v (pv 3)) da_nil (by rfl)) (by decide) (by decide) (by rfl) (by rfl)) da_nil (by rfl)) (by rfl)) (blkOk_by (N := ["view", "found", "y", "row", "x"]) (sc := (defScope s_readings)) (own := [("x", 4)]) (by decide +kernel)) (by decide) (fun _ _ _ _ _ => (dg_name nd_readings rfl (by first | exact Or.inl rfl | exact Or.inr rfl) (by first | exact Or.inl rfl | exact Or.inr rfl | assumption))) (fun _ _ _ _ _ => (dts_one (dt_notN (de_ixV hr.u1 (pv 3) (de_v (pv 4)) (by intro _ _; rfl) (by intro _ _; rfl)) de_non))) (fun _ _ _ _ _ => (de_tup (da_cons (de_v (pv 4)) (da_cons (de_v (pv 2)) (da_cons (de_ixV hr.u1 (pv 3) (de_v (pv 4)) (by intro _ _; rfl) (by intro _ _; rfl)) da_nil (by rfl)) (by rfl)) (by rfl)))) (by intro _; rfl)))) (by rfl) (by first | exact Or.inl rfl | exact Or.inr rfl | assumption)))) (by intro _; rfl))
 (dss_one (ds_ret (de_v (pv 1))))))
abbrev s_picture_of : Stmt := top 17
noncomputable def b_picture_of : Mo Out :=
 (sSeq (sAsg (gT 3 (gCons (gN 2) (gCons (gN 3) (gCons (gN 4) gNil)))) (eSl dSl (eV 1) (eP1 (eC (.int 1))) eP0))
 (sRet (eDcT (iOf (eCall m_readings (aCons (eV 0) aNil))) (gT 3 (gCons (gN 5) (gCons (gN 6) (gCons (gN 7) gNil)))) tYesM (eTup (aCons (eBin dAdd (eV 2) (eV 5)) (aCons (eBin dAdd (eV 3) (eV 6)) aNil))) (eBin dSub (eV 7) (eV 4)) [5, 6, 7])))
noncomputable def m_picture_of : Mo D := fnM 8 2 b_picture_of
theorem sc_picture_of : FnScope ["view", "place", "left", "top", "light", "x", "y", "reading"] ["view", "place"] (defScope s_picture_of) := ⟨rfl, rfl, rfl, by decide +kernel, rfl, by decide +kernel, by decide +kernel⟩
theorem nd_picture_of : List.Nodup (α := Str) ["view", "place", "left", "top", "light", "x", "y", "reading"] := by decide +kernel
theorem ok_picture_of (F : Fun K "picture_of" "picture_of" s_picture_of f fd) (T : Bi mg) (C_readings : CalM P w K mg base 1 "readings" 1 false m_readings) : FnOk P w K mg base CX0 2 f fd ["view", "place"] (spM Wn K 2 false m_picture_of) :=
 fn_ok F sc_picture_of rfl fun cdv A outer s H E hr =>
 (dss_cons (ds_asg (calm_T (calm_cons calm_N (calm_cons calm_N (calm_cons calm_N calm_nil)))) (de_sl (de_v (pv 1)) (dp_some de_int) dp_none) (dg_tup rfl (dgs_cons (dg_name nd_picture_of rfl (by first | exact Or.inl rfl | exact Or.inr rfl) (by first | exact Or.inl rfl | exact Or.inr rfl | assumption)) (dgs_cons (dg_name nd_picture_of rfl (by first | exact Or.inl rfl | exact Or.inr rfl) (by first | exact Or.inl rfl | exact Or.inr rfl | assumption)) (dgs_cons (dg_name nd_picture_of rfl (by first | exact Or.inl rfl | exact Or.inr rfl) (by first | exact Or.inl rfl | exact Or.inr rfl | assumption)) dgs_nil (by rfl)) (by rfl)) (by rfl)) (by rfl) (by rfl)) (by rfl) (by rfl) (by rfl))
 (dss_one (ds_ret (DO.de (do_dcT (own := [("x", 5), ("y", 6), ("reading", 7)]) hr.u0 (by rfl) nd_picture_of (di_of (de_callC C_readings (hr.mono (by decide)) (by rfl) (alen_cons alen_nil) (da_cons (de_v (pv 0)) da_nil (by rfl)) (by decide) (by rfl) (by rfl))) (blkOk_by (N := ["view", "place", "left", "top", "light", "x", "y", "reading"]) (sc := (defScope s_picture_of)) (own := [("x", 5), ("y", 6), ("reading", 7)]) (by decide +kernel)) (by decide) (fun _ _ _ _ _ => (dg_tup rfl (dgs_cons (dg_name nd_picture_of rfl (by first | exact Or.inl rfl | exact Or.inr rfl) (by first | exact Or.inl rfl | exact Or.inr rfl | assumption)) (dgs_cons (dg_name nd_picture_of rfl (by first | exact Or.inl rfl | exact Or.inr rfl) (by first | exact Or.inl rfl | exact Or.inr rfl | assumption)) (dgs_cons (dg_name nd_picture_of rfl (by first | exact Or.inl rfl | exact Or.inr rfl) (by first | exact Or.inl rfl | exact Or.inr rfl | assumption)) dgs_nil (by rfl)) (by rfl)) (by rfl)) (by rfl) (by rfl))) (fun _ _ _ _ _ => dts_nil) (fun _ _ _ _ _ => (de_tup (da_cons (de_add (de_v (pv 2)) (de_v (pv 5))) (da_cons (de_add (de_v (pv 3)) (de_v (pv 6))) da_nil (by rfl)) (by rfl)))) (fun _ _ _ _ _ => (de_sub (de_v (pv 7)) (de_v (pv 4)))) (by intro _; rfl))))))
abbrev s_by_rows : Stmt := top 18
noncomputable def b_by_rows : Mo Out :=
 (sRet (eTup (aCons (eIxV 0 (eC (.int 1))) (aCons (eIxV 0 (eC (.int 0))) aNil))))
noncomputable def m_by_rows : Mo D := fnM 1 1 b_by_rows
theorem sc_by_rows : FnScope ["cell"] ["cell"] (defScope s_by_rows) := ⟨rfl, rfl, rfl, by decide +kernel, rfl, by decide +kernel, by decide +kernel⟩
theorem ok_by_rows (F : Fun K "by_rows" "by_rows" s_by_rows f fd) (T : Bi mg)  : FnOk P w K mg base CX0 1 f fd ["cell"] (spM Wn K 1 false m_by_rows) :=
 fn_ok F sc_by_rows rfl fun cdv A outer s H E hr =>
 (dss_one (ds_ret (de_tup (da_cons (de_ixV hr.u1 (pv 0) de_int (by intro _ _; rfl) (by intro _ _; rfl)) (da_cons (de_ixV hr.u1 (pv 0) de_int (by intro _ _; rfl) (by intro _ _; rfl)) da_nil (by rfl)) (by rfl)))))
abbrev s_gather : Stmt := top 19
noncomputable def b_gather : Mo Out :=
 (sSeq (sAsgO 3 (eD0 (.dT [])))
 (sSeq (sFor (iOf (eMeth m_Album_views 0 aNil)) (gN 4)
 (sSeq (sAsg (gN 5) (eIxV 1 (eIxV 4 (eC (.int 0)))))
 (sIf (eB (eBin dEq (eIxV 5 (eC (.int 0))) (eV 2)))
 (sSeq (sAsg (gN 6) (eCall m_picture_of (aCons (eV 4) (aCons (eV 5) aNil))))
 (sFor (iKy 6) (gN 7)
 (sSet 3 (eV 7) (eBin dAdd (eGetV 3 (eV 7) (eTup aNil)) (eTup (aCons (eTup (aCons (eIxV 4 (eC (.int 0))) (aCons (eIxV 6 (eV 7)) aNil))) aNil))))))
 sNx)))
 (sRet (eDcT (iOf (eF fKeyD (aCons (eV 3) aNil))) (gN 7) tYesM (eV 7) (eIxV 3 (eV 7)) [7]))))
noncomputable def m_gather : Mo D := fnM 8 3 b_gather
theorem sc_gather : FnScope ["album", "laying", "group", "found", "view", "place", "picture", "cell"] ["album", "laying", "group"] (defScope s_gather) := ⟨rfl, rfl, rfl, by decide +kernel, rfl, by decide +kernel, by decide +kernel⟩
theorem nd_gather : List.Nodup (α := Str) ["album", "laying", "group", "found", "view", "place", "picture", "cell"] := by decide +kernel
theorem ok_gather (F : Fun K "gather" "gather" s_gather f fd) (T : Bi mg) (TA : AlbK K CA) (KM_by_rows : KeyM K mg "by_rows") (C_Album_views : CalS P w K mg base CA 1 "views" 1 false m_Album_views) (C_picture_of : CalM P w K mg base 2 "picture_of" 2 false m_picture_of) : FnOk P w K mg base CX0 3 f fd ["album", "laying", "group"] (spM Wn K 3 false m_gather) :=
 fn_ok F sc_gather rfl fun cdv A outer s H E hr =>
 (dss_cons (ds_setO nd_gather rfl (by first | exact Or.inl rfl | exact Or.inr rfl) do_new0T (by rfl) (by first | exact Or.inl rfl | exact Or.inr rfl | assumption))
 (dss_cons (ds_for PassesOwn.never rfl calm_N (di_of (de_meth0 TA C_Album_views (hr.mono (by decide)) (pv 0))) (dg_name nd_gather rfl (by first | exact Or.inl rfl | exact Or.inr rfl) (by first | exact Or.inl rfl | exact Or.inr rfl | assumption))
 (dss_cons (ds_set nd_gather rfl (by first | exact Or.inl rfl | exact Or.inr rfl) (de_ixV hr.u1 (pv 1) (de_ixV hr.u1 (pv 4) de_int (by intro _ _; rfl) (by intro _ _; rfl)) (by intro _ _; rfl) (by intro _ _; rfl)) (by rfl) (by first | exact Or.inl rfl | exact Or.inr rfl | assumption))
 (dss_one (ds_if (dt_eq hr.units (de_ixV hr.u1 (pv 5) de_int (by intro _ _; rfl) (by intro _ _; rfl)) (de_v (pv 2)))
 (dss_cons (ds_set nd_gather rfl (by first | exact Or.inl rfl | exact Or.inr rfl) (de_callC C_picture_of (hr.mono (by decide)) (by rfl) (alen_cons (alen_cons alen_nil)) (da_cons (de_v (pv 4)) (da_cons (de_v (pv 5)) da_nil (by rfl)) (by rfl)) (by decide) (by rfl) (by rfl)) (by rfl) (by first | exact Or.inl rfl | exact Or.inr rfl | assumption))
 (dss_one (ds_forK PassesOwn.never rfl calm_N (pv 6) (dg_name nd_gather rfl (by first | exact Or.inl rfl | exact Or.inr rfl) (by first | exact Or.inl rfl | exact Or.inr rfl | assumption))
 (dss_one (ds_sub hr.u1 (pv 3) (de_v (pv 7)) (de_add (de_getV hr.u1 (pv 3) (de_v (pv 7)) (de_tup da_nil)) (de_tup (da_cons (de_tup (da_cons (de_ixV hr.u1 (pv 4) de_int (by intro _ _; rfl) (by intro _ _; rfl)) (da_cons (de_ixV hr.u1 (pv 6) (de_v (pv 7)) (by intro _ _; rfl) (by intro _ _; rfl)) da_nil (by rfl)) (by rfl))) da_nil (by rfl)))) (by rfl) (by rfl))) (by intro _; rfl))))
 dss_nil))) (by intro _; rfl))
 (dss_one (ds_ret (DO.de (do_dcT (own := [("cell", 7)]) hr.u0 (by rfl) nd_gather (di_of (DO.de (do_keyD hr (by rfl) (by rfl) T.sorted bt_sorted (by rfl) KM_by_rows (da_cons (de_v (pv 3)) da_nil (by rfl)) (by decide) (by decide) (by decide) (by rfl) (by rfl)))) (blkOk_by (N := ["album", "laying", "group", "found", "view", "place", "picture", "cell"]) (sc := (defScope s_gather)) (own := [("cell", 7)]) (by decide +kernel)) (by decide) (fun _ _ _ _ _ => (dg_name nd_gather rfl (by first | exact Or.inl rfl | exact Or.inr rfl) (by first | exact Or.inl rfl | exact Or.inr rfl | assumption))) (fun _ _ _ _ _ => dts_nil) (fun _ _ _ _ _ => (de_v (pv 7))) (fun _ _ _ _ _ => (de_ixV hr.u1 (pv 3) (de_v (pv 7)) (by intro _ _; rfl) (by intro _ _; rfl))) (by intro _; rfl)))))))
abbrev s__law_told : Stmt := top 33
noncomputable def b__law_told : Mo Out :=
 (sSeq (sAsgO 2 (eLst aNil))
 (sSeq (sFor (iRg rg1 (aCons (eF fLen (aCons (eIxV 0 (eC (.int 1))) aNil)) aNil)) (gN 3)
 (sFor (iRg rg1 (aCons (eF fLen (aCons (eIx (eIxV 0 (eC (.int 1))) (eV 3)) aNil)) aNil)) (gN 4)
 (sIf (eB (eBin (dIs true) (eIx (eIx (eIxV 0 (eC (.int 1))) (eV 3)) (eV 4)) (eC .non)))
 (sApp 2 (eTup (aCons (eTup (aCons (eBin dAdd (eIxV 1 (eC (.int 1))) (eV 4)) (aCons (eBin dAdd (eIxV 1 (eC (.int 2))) (eV 3)) aNil))) (aCons (eBin dSub (eIx (eIx (eIxV 0 (eC (.int 1))) (eV 3)) (eV 4)) (eIxV 1 (eC (.int 3)))) aNil))))
 sNx)))
 (sRet (eV 2))))
noncomputable def m__law_told : Mo D := fnM 5 2 b__law_told
theorem sc__law_told : FnScope ["_law_view", "_law_place", "_law_told_here", "_law_y", "_law_x"] ["_law_view", "_law_place"] (defScope s__law_told) := ⟨rfl, rfl, rfl, by decide +kernel, rfl, by decide +kernel, by decide +kernel⟩
theorem nd__law_told : List.Nodup (α := Str) ["_law_view", "_law_place", "_law_told_here", "_law_y", "_law_x"] := by decide +kernel
theorem ok__law_told (F : Fun K "_law_told" "_law_told" s__law_told f fd) (T : Bi mg)  : FnOk P w K mg base CX0 1 f fd ["_law_view", "_law_place"] (spM Wn K 2 false m__law_told) :=
 fn_ok F sc__law_told rfl fun cdv A outer s H E hr =>
 (dss_cons (ds_setO nd__law_told rfl (by first | exact Or.inl rfl | exact Or.inr rfl) (do_lst da_nil) (by rfl) (by first | exact Or.inl rfl | exact Or.inr rfl | assumption))
 (dss_cons (ds_for PassesOwn.never rfl calm_N (di_rg1 (by rfl) T.range (da_cons (de_len (by rfl) T.len bt_len (da_cons (de_ixV hr.u1 (pv 0) de_int (by intro _ _; rfl) (by intro _ _; rfl)) da_nil (by rfl)) (by decide) (by decide) (by rfl) (by rfl)) da_nil (by rfl)) (by rfl)) (dg_name nd__law_told rfl (by first | exact Or.inl rfl | exact Or.inr rfl) (by first | exact Or.inl rfl | exact Or.inr rfl | assumption))
 (dss_one (ds_for PassesOwn.never rfl calm_N (di_rg1 (by rfl) T.range (da_cons (de_len (by rfl) T.len bt_len (da_cons (de_ix hr.u1 (de_ixV hr.u1 (pv 0) de_int (by intro _ _; rfl) (by intro _ _; rfl)) (de_v (pv 3)) (by intro _ _; rfl) (by intro _ _; rfl)) da_nil (by rfl)) (by decide) (by decide) (by rfl) (by rfl)) da_nil (by rfl)) (by rfl)) (dg_name nd__law_told rfl (by first | exact Or.inl rfl | exact Or.inr rfl) (by first | exact Or.inl rfl | exact Or.inr rfl | assumption))
 (dss_one (ds_if (dt_notN (de_ix hr.u1 (de_ix hr.u1 (de_ixV hr.u1 (pv 0) de_int (by intro _ _; rfl) (by intro _ _; rfl)) (de_v (pv 3)) (by intro _ _; rfl) (by intro _ _; rfl)) (de_v (pv 4)) (by intro _ _; rfl) (by intro _ _; rfl)) de_non)
 (dss_one (ds_app (pv 2) (de_tup (da_cons (de_tup (da_cons (de_add (de_ixV hr.u1 (pv 1) de_int (by intro _ _; rfl) (by intro _ _; rfl)) (de_v (pv 4))) (da_cons (de_add (de_ixV hr.u1 (pv 1) de_int (by intro _ _; rfl) (by intro _ _; rfl)) (de_v (pv 3))) da_nil (by rfl)) (by rfl))) (da_cons (de_sub (de_ix hr.u1 (de_ix hr.u1 (de_ixV hr.u1 (pv 0) de_int (by intro _ _; rfl) (by intro _ _; rfl)) (de_v (pv 3)) (by intro _ _; rfl) (by intro _ _; rfl)) (de_v (pv 4)) (by intro _ _; rfl) (by intro _ _; rfl)) (de_ixV hr.u1 (pv 1) de_int (by intro _ _; rfl) (by intro _ _; rfl))) da_nil (by rfl)) (by rfl))) (by rfl)))
 dss_nil)) (by intro _; rfl))) (by intro _; rfl))
 (dss_one (ds_ret (de_v (pv 2))))))
abbrev s_values_at : Stmt := top 21
noncomputable def b_values_at : Mo Out :=
 (sRet (eSortSc (iOf (eGet2 (eV 0) (eV 1) (eTup aNil))) (gT 2 (gCons (gN 2) (gCons (gN 3) gNil))) tYesM (eV 3) [2, 3]))
noncomputable def m_values_at : Mo D := fnM 4 2 b_values_at
theorem sc_values_at : FnScope ["ground", "cell", "name", "value"] ["ground", "cell"] (defScope s_values_at) := ⟨rfl, rfl, rfl, by decide +kernel, rfl, by decide +kernel, by decide +kernel⟩
theorem nd_values_at : List.Nodup (α := Str) ["ground", "cell", "name", "value"] := by decide +kernel
theorem ok_values_at (F : Fun K "values_at" "values_at" s_values_at f fd) (T : Bi mg)  : FnOk P w K mg base CX0 1 f fd ["ground", "cell"] (spM Wn K 2 false m_values_at) :=
 fn_ok F sc_values_at rfl fun cdv A outer s H E hr =>
 (dss_one (ds_ret (DO.de (do_sortSc (own := [("name", 2), ("value", 3)]) (by rfl) T.sorted bt_sorted (by rfl) nd_values_at (di_of (de_get2 hr.u1 (de_v (pv 0)) (de_v (pv 1)) (de_tup da_nil) (by rfl) (by rfl) (by rfl) (by rfl))) (blkOk_by (N := ["ground", "cell", "name", "value"]) (sc := (defScope s_values_at)) (own := [("name", 2), ("value", 3)]) (by decide +kernel)) (by decide) (fun _ _ _ _ _ => (dg_tup rfl (dgs_cons (dg_name nd_values_at rfl (by first | exact Or.inl rfl | exact Or.inr rfl) (by first | exact Or.inl rfl | exact Or.inr rfl | assumption)) (dgs_cons (dg_name nd_values_at rfl (by first | exact Or.inl rfl | exact Or.inr rfl) (by first | exact Or.inl rfl | exact Or.inr rfl | assumption)) dgs_nil (by rfl)) (by rfl)) (by rfl) (by rfl))) (fun _ _ _ _ _ => dts_nil) (fun _ _ _ _ _ => (de_v (pv 3))) (by intro _; rfl) (by decide) (by decide) (by rfl) (by rfl)))))
abbrev s_bounds : Stmt := top 20
noncomputable def b_bounds : Mo Out :=
 (sSeq (sIf (tNotM (eTru (eV 0)))
 (sRet (eC .non))
 sNx)
 (sSeq (sAsgO 1 (eLc (iKy 0) (gN 3) tYesM (eIxV 3 (eC (.int 0))) [3]))
 (sSeq (sAsgO 2 (eLc (iKy 0) (gN 3) tYesM (eIxV 3 (eC (.int 1))) [3]))
 (sRet (eTup (aCons (eF fMin (aCons (eV 1) aNil)) (aCons (eF fMin (aCons (eV 2) aNil)) (aCons (eF fMax (aCons (eV 1) aNil)) (aCons (eF fMax (aCons (eV 2) aNil)) aNil)))))))))
noncomputable def m_bounds : Mo D := fnM 4 1 b_bounds
theorem sc_bounds : FnScope ["ground", "across", "down", "cell"] ["ground"] (defScope s_bounds) := ⟨rfl, rfl, rfl, by decide +kernel, rfl, by decide +kernel, by decide +kernel⟩
theorem nd_bounds : List.Nodup (α := Str) ["ground", "across", "down", "cell"] := by decide +kernel
theorem ok_bounds (F : Fun K "bounds" "bounds" s_bounds f fd) (T : Bi mg)  : FnOk P w K mg base CX0 1 f fd ["ground"] (spM Wn K 1 false m_bounds) :=
 fn_ok F sc_bounds rfl fun cdv A outer s H E hr =>
 (dss_cons (ds_if (dt_not (dt_tru (de_v (pv 0)) (by intro _; rfl)))
 (dss_one (ds_ret de_non))
 dss_nil)
 (dss_cons (ds_setLcKO (own := [("cell", 3)]) rfl nd_bounds rfl rfl (sw_true rfl rfl rfl (by decide +kernel)) (pv 0) (blkOk_by (N := ["ground", "across", "down", "cell"]) (sc := (defScope s_bounds)) (own := [("cell", 3)]) (by decide +kernel)) (by decide) (fun _ _ _ _ _ => (dg_name nd_bounds rfl (by first | exact Or.inl rfl | exact Or.inr rfl) (by first | exact Or.inl rfl | exact Or.inr rfl | assumption))) (fun _ _ _ _ _ => dts_nil) (fun _ _ _ _ _ => (de_ixV hr.u1 (pv 3) de_int (by intro _ _; rfl) (by intro _ _; rfl))) (by intro _; rfl))
 (dss_cons (ds_setLcKO (own := [("cell", 3)]) rfl nd_bounds rfl rfl (sw_true rfl rfl rfl (by decide +kernel)) (pv 0) (blkOk_by (N := ["ground", "across", "down", "cell"]) (sc := (defScope s_bounds)) (own := [("cell", 3)]) (by decide +kernel)) (by decide) (fun _ _ _ _ _ => (dg_name nd_bounds rfl (by first | exact Or.inl rfl | exact Or.inr rfl) (by first | exact Or.inl rfl | exact Or.inr rfl | assumption))) (fun _ _ _ _ _ => dts_nil) (fun _ _ _ _ _ => (de_ixV hr.u1 (pv 3) de_int (by intro _ _; rfl) (by intro _ _; rfl))) (by intro _; rfl))
 (dss_one (ds_ret (de_tup (da_cons (de_min (by rfl) (by rfl) T.min bt_min (da_cons (de_v (pv 1)) da_nil (by rfl)) (by decide) (by decide) (by rfl) (by rfl)) (da_cons (de_min (by rfl) (by rfl) T.min bt_min (da_cons (de_v (pv 2)) da_nil (by rfl)) (by decide) (by decide) (by rfl) (by rfl)) (da_cons (de_max (by rfl) (by rfl) T.max bt_max (da_cons (de_v (pv 1)) da_nil (by rfl)) (by decide) (by decide) (by rfl) (by rfl)) (da_cons (de_max (by rfl) (by rfl) T.max bt_max (da_cons (de_v (pv 2)) da_nil (by rfl)) (by decide) (by decide) (by rfl) (by rfl)) da_nil (by rfl)) (by rfl)) (by rfl)) (by rfl))))))))
abbrev s__law_reading : Stmt := top 31
noncomputable def b__law_reading : Mo Out :=
 (sRet (eIx (eLst (aCons (eC .non) (aCons (eC (.int 0)) (aCons (eC (.int 999)) (aCons (eC (.int 7)) (aCons (eC (.int 8)) (aCons (eC (.int 9)) (aCons (eCall m__law_take (aVr 0 (aCons (eC (.int 1000)) aNil))) (aCons (eC (.int 10)) aNil))))))))) (eCall m__law_take (aVr 0 (aCons (eC (.int 8)) aNil)))))
noncomputable def m__law_reading : Mo D := fnM 1 1 b__law_reading
theorem sc__law_reading : FnScope ["_law_pool_here"] ["_law_pool_here"] (defScope s__law_reading) := ⟨rfl, rfl, rfl, by decide +kernel, rfl, by decide +kernel, by decide +kernel⟩
theorem ok__law_reading (F : Fun K "_law_reading" "_law_reading" s__law_reading f fd) (T : Bi mg) (C__law_take : CalM P w K mg base 2 "_law_take" 2 false m__law_take) : FnOk P w K mg base CX0 3 f fd ["_law_pool_here"] (spM Wn K 1 false m__law_reading) :=
 fn_ok F sc__law_reading rfl fun cdv A outer s H E hr =>
 (dss_one (ds_ret (de_ix hr.u1 (DO.de (do_lst (da_cons de_non (da_cons de_int (da_cons de_int (da_cons de_int (da_cons de_int (da_cons de_int (da_cons (de_callC C__law_take (hr.mono (by decide)) (by rfl) (alen_vr (alen_cons alen_nil)) (da_vr (pv 0) (da_cons de_int da_nil (by rfl)) (by rfl)) (by decide) (by rfl) (by rfl)) (da_cons de_int da_nil (by rfl)) (by rfl)) (by rfl)) (by rfl)) (by rfl)) (by rfl)) (by rfl)) (by rfl)))) (de_callC C__law_take (hr.mono (by decide)) (by rfl) (alen_vr (alen_cons alen_nil)) (da_vr (pv 0) (da_cons de_int da_nil (by rfl)) (by rfl)) (by decide) (by rfl) (by rfl)) (by intro _ _; rfl) (by intro _ _; rfl))))
abbrev s__law_rows : Stmt := top 32
noncomputable def b__law_rows : Mo Out :=
 (sSeq (sAsg (gN 2) (eBin dAdd (eC (.int 1)) (eCall m__law_take (aVr 0 (aCons (eV 1) aNil)))))
 (sSeq (sAsg (gN 3) (eBin dAdd (eC (.int 1)) (eCall m__law_take (aVr 0 (aCons (eV 1) aNil)))))
 (sRet (eF fTuple (aCons (eLc (iRg rg1 (aCons (eV 3) aNil)) (gN 5) tYesM (eF fTuple (aCons (eLc (iRg rg1 (aCons (eV 2) aNil)) (gN 4) tYesM (eCall m__law_reading (aVr 0 aNil)) [4]) aNil)) [5]) aNil)))))
noncomputable def m__law_rows : Mo D := fnM 6 2 b__law_rows
theorem sc__law_rows : FnScope ["_law_pool_here", "_law_most", "_law_width", "_law_height", "_law_x", "_law_y"] ["_law_pool_here", "_law_most"] (defScope s__law_rows) := ⟨rfl, rfl, rfl, by decide +kernel, rfl, by decide +kernel, by decide +kernel⟩
theorem nd__law_rows : List.Nodup (α := Str) ["_law_pool_here", "_law_most", "_law_width", "_law_height", "_law_x", "_law_y"] := by decide +kernel
theorem ok__law_rows (F : Fun K "_law_rows" "_law_rows" s__law_rows f fd) (T : Bi mg) (C__law_take : CalM P w K mg base 2 "_law_take" 2 false m__law_take) (C__law_reading : CalM P w K mg base 3 "_law_reading" 1 false m__law_reading) : FnOk P w K mg base CX0 4 f fd ["_law_pool_here", "_law_most"] (spM Wn K 2 false m__law_rows) :=
 fn_ok F sc__law_rows rfl fun cdv A outer s H E hr =>
 (dss_cons (ds_set nd__law_rows rfl (by first | exact Or.inl rfl | exact Or.inr rfl) (de_add de_int (de_callC C__law_take (hr.mono (by decide)) (by rfl) (alen_vr (alen_cons alen_nil)) (da_vr (pv 0) (da_cons (de_v (pv 1)) da_nil (by rfl)) (by rfl)) (by decide) (by rfl) (by rfl))) (by rfl) (by first | exact Or.inl rfl | exact Or.inr rfl | assumption))
 (dss_cons (ds_set nd__law_rows rfl (by first | exact Or.inl rfl | exact Or.inr rfl) (de_add de_int (de_callC C__law_take (hr.mono (by decide)) (by rfl) (alen_vr (alen_cons alen_nil)) (da_vr (pv 0) (da_cons (de_v (pv 1)) da_nil (by rfl)) (by rfl)) (by decide) (by rfl) (by rfl))) (by rfl) (by first | exact Or.inl rfl | exact Or.inr rfl | assumption))
 (dss_one (ds_ret (de_tuple (by rfl) T.tuple bt_tuple (da_cons (DO.de (do_lc (own := [("_law_y", 5)]) (by rfl) nd__law_rows (di_rg1 (by rfl) T.range (da_cons (de_v (pv 3)) da_nil (by rfl)) (by rfl)) (blkOk_by (N := ["_law_pool_here", "_law_most", "_law_width", "_law_height", "_law_x", "_law_y"]) (sc := (defScope s__law_rows)) (own := [("_law_y", 5)]) (by decide +kernel)) (by decide) (fun _ _ _ _ _ => (dg_name nd__law_rows rfl (by first | exact Or.inl rfl | exact Or.inr rfl) (by first | exact Or.inl rfl | exact Or.inr rfl | assumption))) (fun _ _ _ _ _ => dts_nil) (fun _ _ _ _ _ => (de_tuple (by rfl) T.tuple bt_tuple (da_cons (DO.de (do_lc (own := [("_law_x", 4)]) (by rfl) nd__law_rows (di_rg1 (by rfl) T.range (da_cons (de_v (pv 2)) da_nil (by rfl)) (by rfl)) (blkOk_by (N := ["_law_pool_here", "_law_most", "_law_width", "_law_height", "_law_x", "_law_y"]) (sc := _) (own := [("_law_x", 4)]) (by with_unfolding_all rfl)) (by decide) (fun _ _ _ _ _ => (dg_name nd__law_rows rfl (by first | exact Or.inl rfl | exact Or.inr rfl) (by first | exact Or.inl rfl | exact Or.inr rfl | assumption))) (fun _ _ _ _ _ => dts_nil) (fun _ _ _ _ _ => (de_callC C__law_reading (hr.mono (by decide)) (by rfl) (alen_vr alen_nil) (da_vr (pv 0) da_nil (by rfl)) (by decide) (by rfl) (by rfl))) (by intro _; rfl))) da_nil (by rfl)) (by decide) (by decide) (by rfl) (by rfl))) (by intro _; rfl))) da_nil (by rfl)) (by decide) (by decide) (by rfl) (by rfl))))))
abbrev s_law : Stmt := top 34
noncomputable def b_law : Mo Out :=
 (sSeq (sAsgO 1 (eCall m__law_pool (aCons (eV 0) aNil)))
 (sSeq (sAsg (gN 2) (eCall m__law_names (aVr 1 (aCons (eBin dAdd (eC (.int 1)) (eCall m__law_take (aVr 1 (aCons (eC (.int 4)) aNil)))) aNil))))
 (sAlb 3
 (sSeq (sAsgO 4 (eD0 (.dK [])))
 (sSeq (sAsgO 5 (eLst aNil))
 (sSeq (sFor (iRg rg1 (aCons (eF fLen (aCons (eV 2) aNil)) aNil)) (gN 6)
 (sSeq (sApp 5 (eTup (aCons (eIxV 2 (eV 6)) (aCons (eCall m__law_rows (aVr 1 (aCons (eC (.int 3)) aNil))) aNil))))
 (sSeq (sAdd 3 true b_Album_add_view 0 (eIxV 5 (eV 6)))
 (sSeq (sAsg (gN 7) (eIx (eLst (aCons (eC (.int 0)) (aCons (eV 6) aNil))) (eCall m__law_take (aVr 1 (aCons (eC (.int 2)) aNil)))))
 (sSeq (sAsg (gN 8) (eTup (aCons (eBin dSub (eCall m__law_take (aVr 1 (aCons (eC (.int 5)) aNil))) (eC (.int 2))) (aCons (eBin dSub (eCall m__law_take (aVr 1 (aCons (eC (.int 5)) aNil))) (eC (.int 2))) (aCons (eBin dSub (eCall m__law_take (aVr 1 (aCons (eC (.int 7)) aNil))) (eC (.int 3))) aNil)))))
 (sSet 4 (eIxV 2 (eV 6)) (eBin dAdd (eTup (aCons (eV 7) aNil)) (eIx (eLst (aCons (eV 8) (aCons (eTup (aCons (eC (.int 0)) (aCons (eC (.int 0)) (aCons (eC (.int 0)) aNil)))) aNil))) (eF fInt (aCons (eBin dEq (eV 7) (eV 6)) aNil))))))))))
 (sSeq (sFor (iRg rg1 (aCons (eBin dAdd (eF fLen (aCons (eV 2) aNil)) (eC (.int 1))) aNil)) (gN 7)
 (sSeq (sAsgO 9 (eLst aNil))
 (sSeq (sFor (iOf (eV 5)) (gN 10)
 (sIf (eB (eBin dEq (eIx (eIxV 4 (eIxV 10 (eC (.int 0)))) (eC (.int 0))) (eV 7)))
 (sFor (iOf (eCall m__law_told (aCons (eV 10) (aCons (eIxV 4 (eIxV 10 (eC (.int 0)))) aNil)))) (gT 2 (gCons (gN 11) (gCons (gN 12) gNil)))
 (sApp 9 (eTup (aCons (eV 11) (aCons (eIxV 10 (eC (.int 0))) (aCons (eV 12) aNil))))))
 sNx))
 (sSeq (sAsgO 13 (eLst aNil))
 (sSeq (sFor (iOf (eF fSortP (aCons (eLc (iOf (eV 9)) (gN 22) tYesM (eTup (aCons (eIx (eIxV 22 (eC (.int 0))) (eC (.int 1))) (aCons (eIx (eIxV 22 (eC (.int 0))) (eC (.int 0))) aNil))) [22]) aNil))) (gN 14)
 (sIf (eB (eInV true (eTup (aCons (eIxV 14 (eC (.int 1))) (aCons (eIxV 14 (eC (.int 0))) aNil))) 13))
 (sApp 13 (eTup (aCons (eIxV 14 (eC (.int 1))) (aCons (eIxV 14 (eC (.int 0))) aNil))))
 sNx))
 (sSeq (sAsg (gN 15) (eCall m_gather (aVb 3 (aCons (eV 4) (aCons (eV 7) aNil)))))
 (sSeq (sIf (eB (eBin dNe (eF fList' (aCons (eV 15) aNil)) (eV 13)))
 (sRet (eC (.bl false)))
 sNx)
 (sSeq (sFor (iOf (eV 13)) (gN 11)
 (sSeq (sAsgO 16 (eLc (iOf (eV 9)) (gN 22) (eB (eBin dEq (eIxV 22 (eC (.int 0))) (eV 11))) (eTup (aCons (eIxV 22 (eC (.int 1))) (aCons (eIxV 22 (eC (.int 2))) aNil))) [22]))
 (sSeq (sIf (eB (eBin dNe (eIxV 15 (eV 11)) (eF fTuple (aCons (eV 16) aNil))))
 (sRet (eC (.bl false)))
 sNx)
 (sSeq (sAsg (gN 17) (eF fSortI (aCons (eLc (iOf (eV 16)) (gN 22) tYesM (eIxV 22 (eC (.int 1))) [22]) aNil)))
 (sIf (eB (eBin dNe (eCall m_values_at (aCons (eV 15) (aCons (eV 11) aNil))) (eLc (iRg rg1 (aCons (eF fLen (aCons (eV 17) aNil)) aNil)) (gN 6) (eB (eBin (dIn true) (eIxV 17 (eV 6)) (eSl dSlL (eV 17) eP0 (eP1 (eV 6))))) (eIxV 17 (eV 6)) [6])))
 (sRet (eC (.bl false)))
 sNx)))))
 (sSeq (sIf (eB (eBin dNe (eCall m_values_at (aCons (eV 15) (aCons (eTup (aCons (eC (.int 99)) (aCons (eC (.int 99)) aNil))) aNil))) (eLst aNil)))
 (sRet (eC (.bl false)))
 sNx)
 (sSeq (sAsg (gN 18) (eC .non))
 (sSeq (sIf (eTru (eV 13))
 (sSeq (sAsgO 19 (eLc (iOf (eV 13)) (gN 11) tYesM (eIxV 11 (eC (.int 0))) [11]))
 (sSeq (sAsgO 20 (eLc (iOf (eV 13)) (gN 11) tYesM (eIxV 11 (eC (.int 1))) [11]))
 (sAsg (gN 18) (eTup (aCons (eF fMin (aCons (eV 19) aNil)) (aCons (eF fMin (aCons (eV 20) aNil)) (aCons (eF fMax (aCons (eV 19) aNil)) (aCons (eF fMax (aCons (eV 20) aNil)) aNil))))))))
 sNx)
 (sIf (eB (eBin dNe (eCall m_bounds (aCons (eV 15) aNil)) (eV 18)))
 (sRet (eC (.bl false)))
 sNx))))))))))))
 (sSeq (sFor (iOf (eV 5)) (gN 10)
 (sSeq (sAsg (gN 16) (eCall m__law_told (aCons (eV 10) (aCons (eIxV 4 (eIxV 10 (eC (.int 0)))) aNil))))
 (sSeq (sAsg (gN 21) (eCall m_picture_of (aCons (eV 10) (aCons (eIxV 4 (eIxV 10 (eC (.int 0)))) aNil))))
 (sIf (tOrM (eB (eBin dNe (eF fList' (aCons (eV 21) aNil)) (eLc (iOf (eV 16)) (gN 22) tYesM (eIxV 22 (eC (.int 0))) [22]))) (eB (eBin dNe (eUn dVals (eV 21)) (eLc (iOf (eV 16)) (gN 22) tYesM (eIxV 22 (eC (.int 1))) [22]))))
 (sRet (eC (.bl false)))
 sNx))))
 (sRet (eC (.bl true)))))))))))
noncomputable def m_law : Mo D := fnM 23 1 b_law
theorem sc_law : FnScope ["_law_script", "_law_pool_here", "_law_names_here", "_law_album", "_law_laying", "_law_views", "_law_k", "_law_group", "_law_moves", "_law_rows_here", "_law_view", "_law_cell", "_law_value", "_law_cells", "_law_key", "_law_ground", "_law_told_here", "_law_numbers", "_law_due", "_law_across", "_law_down", "_law_picture", "_law_row"] ["_law_script"] (defScope s_law) := ⟨rfl, rfl, rfl, by decide +kernel, rfl, by decide +kernel, by decide +kernel⟩
theorem nd_law : List.Nodup (α := Str) ["_law_script", "_law_pool_here", "_law_names_here", "_law_album", "_law_laying", "_law_views", "_law_k", "_law_group", "_law_moves", "_law_rows_here", "_law_view", "_law_cell", "_law_value", "_law_cells", "_law_key", "_law_ground", "_law_told_here", "_law_numbers", "_law_due", "_law_across", "_law_down", "_law_picture", "_law_row"] := by decide +kernel
theorem ok_law (F : Fun K "law" "law" s_law f fd) (T : Bi mg) (TA : AlbK K CA) (AM : AlbM P w K mg base CA 1) (C__law_pool : CalM P w K mg base 1 "_law_pool" 1 true m__law_pool) (C__law_take : CalM P w K mg base 2 "_law_take" 2 false m__law_take) (C__law_names : CalM P w K mg base 4 "_law_names" 2 false m__law_names) (C__law_rows : CalM P w K mg base 4 "_law_rows" 2 false m__law_rows) (C_Album_add_view : CalD P w K mg base CA 4 "add_view" true b_Album_add_view 0) (C__law_told : CalM P w K mg base 1 "_law_told" 2 false m__law_told) (C_gather : CalM P w K mg base 3 "gather" 3 false m_gather) (C_values_at : CalM P w K mg base 1 "values_at" 2 false m_values_at) (C_bounds : CalM P w K mg base 1 "bounds" 1 false m_bounds) (C_picture_of : CalM P w K mg base 2 "picture_of" 2 false m_picture_of) : FnOk P w K mg base CX0 5 f fd ["_law_script"] (spM Wn K 1 false m_law) :=
 fn_ok F sc_law rfl fun cdv A outer s H E hr =>
 (dss_cons (ds_setO nd_law rfl (by first | exact Or.inl rfl | exact Or.inr rfl) (do_callC C__law_pool (hr.mono (by decide)) (by rfl) (alen_cons alen_nil) (da_cons (de_v (pv 0)) da_nil (by rfl)) (by decide) (by rfl) (by rfl)) (by rfl) (by first | exact Or.inl rfl | exact Or.inr rfl | assumption))
 (dss_cons (ds_set nd_law rfl (by first | exact Or.inl rfl | exact Or.inr rfl) (de_callC C__law_names (hr.mono (by decide)) (by rfl) (alen_vr (alen_cons alen_nil)) (da_vr (pv 1) (da_cons (de_add de_int (de_callC C__law_take (hr.mono (by decide)) (by rfl) (alen_vr (alen_cons alen_nil)) (da_vr (pv 1) (da_cons de_int da_nil (by rfl)) (by rfl)) (by decide) (by rfl) (by rfl))) da_nil (by rfl)) (by rfl)) (by decide) (by rfl) (by rfl)) (by rfl) (by first | exact Or.inl rfl | exact Or.inr rfl | assumption))
 (dss_albC TA AM (hr.mono (by decide)) (by rfl) nd_law rfl (by first | exact Or.inl rfl | exact Or.inr rfl)
 (dsrs_cons (dsr_of reg_alb (ds_setO nd_law rfl (by first | exact Or.inl rfl | exact Or.inr rfl) do_new0K (by rfl) (by first | exact Or.inl rfl | exact Or.inr rfl | assumption)))
 (dsrs_cons (dsr_of reg_alb (ds_setO nd_law rfl (by first | exact Or.inl rfl | exact Or.inr rfl) (do_lst da_nil) (by rfl) (by first | exact Or.inl rfl | exact Or.inr rfl | assumption)))
 (dsrs_cons (dsr_for reg_alb PassesOwn.never rfl calm_N (dir_rg1 (by rfl) T.range (da_cons (de_len (by rfl) T.len bt_len (da_cons (de_v (pv 2)) da_nil (by rfl)) (by decide) (by decide) (by rfl) (by rfl)) da_nil (by rfl)) (by rfl)) (dg_name nd_law rfl (by first | exact Or.inl rfl | exact Or.inr rfl) (by first | exact Or.inl rfl | exact Or.inr rfl | assumption))
 (dsrs_cons (dsr_of reg_alb (ds_app (pv 5) (de_tup (da_cons (de_ixV hr.u1 (pv 2) (de_v (pv 6)) (by intro _ _; rfl) (by intro _ _; rfl)) (da_cons (de_callC C__law_rows (hr.mono (by decide)) (by rfl) (alen_vr (alen_cons alen_nil)) (da_vr (pv 1) (da_cons de_int da_nil (by rfl)) (by rfl)) (by decide) (by rfl) (by rfl)) da_nil (by rfl)) (by rfl))) (by rfl)))
 (dsrs_cons (dsr_add TA C_Album_add_view.mono (hr.mono (by decide)) (pv 3) (de_ixV hr.u1 (pv 5) (de_v (pv 6)) (by intro _ _; rfl) (by intro _ _; rfl)) (by decide) (by decide) (by rfl) (by rfl) (by rfl) (by rfl))
 (dsrs_cons (dsr_of reg_alb (ds_set nd_law rfl (by first | exact Or.inl rfl | exact Or.inr rfl) (de_ix hr.u1 (DO.de (do_lst (da_cons de_int (da_cons (de_v (pv 6)) da_nil (by rfl)) (by rfl)))) (de_callC C__law_take (hr.mono (by decide)) (by rfl) (alen_vr (alen_cons alen_nil)) (da_vr (pv 1) (da_cons de_int da_nil (by rfl)) (by rfl)) (by decide) (by rfl) (by rfl)) (by intro _ _; rfl) (by intro _ _; rfl)) (by rfl) (by first | exact Or.inl rfl | exact Or.inr rfl | assumption)))
 (dsrs_cons (dsr_of reg_alb (ds_set nd_law rfl (by first | exact Or.inl rfl | exact Or.inr rfl) (de_tup (da_cons (de_sub (de_callC C__law_take (hr.mono (by decide)) (by rfl) (alen_vr (alen_cons alen_nil)) (da_vr (pv 1) (da_cons de_int da_nil (by rfl)) (by rfl)) (by decide) (by rfl) (by rfl)) de_int) (da_cons (de_sub (de_callC C__law_take (hr.mono (by decide)) (by rfl) (alen_vr (alen_cons alen_nil)) (da_vr (pv 1) (da_cons de_int da_nil (by rfl)) (by rfl)) (by decide) (by rfl) (by rfl)) de_int) (da_cons (de_sub (de_callC C__law_take (hr.mono (by decide)) (by rfl) (alen_vr (alen_cons alen_nil)) (da_vr (pv 1) (da_cons de_int da_nil (by rfl)) (by rfl)) (by decide) (by rfl) (by rfl)) de_int) da_nil (by rfl)) (by rfl)) (by rfl))) (by rfl) (by first | exact Or.inl rfl | exact Or.inr rfl | assumption)))
 (dsrs_one (dsr_of reg_alb (ds_sub hr.u1 (pv 4) (de_ixV hr.u1 (pv 2) (de_v (pv 6)) (by intro _ _; rfl) (by intro _ _; rfl)) (de_add (de_tup (da_cons (de_v (pv 7)) da_nil (by rfl))) (de_ix hr.u1 (DO.de (do_lst (da_cons (de_v (pv 8)) (da_cons (de_tup (da_cons de_int (da_cons de_int (da_cons de_int da_nil (by rfl)) (by rfl)) (by rfl))) da_nil (by rfl)) (by rfl)))) (de_int1 (by rfl) T.int bt_int (da_cons (de_eq hr.units (de_v (pv 7)) (de_v (pv 6))) da_nil (by rfl)) (by decide) (by decide) (by rfl) (by rfl)) (by intro _ _; rfl) (by intro _ _; rfl))) (by rfl) (by rfl)))))))) (by intro _; rfl))
 (dsrs_cons (dsr_of reg_alb (ds_for PassesOwn.never rfl calm_N (di_rg1 (by rfl) T.range (da_cons (de_add (de_len (by rfl) T.len bt_len (da_cons (de_v (pv 2)) da_nil (by rfl)) (by decide) (by decide) (by rfl) (by rfl)) de_int) da_nil (by rfl)) (by rfl)) (dg_name nd_law rfl (by first | exact Or.inl rfl | exact Or.inr rfl) (by first | exact Or.inl rfl | exact Or.inr rfl | assumption))
 (dss_cons (ds_setO nd_law rfl (by first | exact Or.inl rfl | exact Or.inr rfl) (do_lst da_nil) (by rfl) (by first | exact Or.inl rfl | exact Or.inr rfl | assumption))
 (dss_cons (ds_for PassesOwn.never rfl calm_N (di_of (de_v (pv 5))) (dg_name nd_law rfl (by first | exact Or.inl rfl | exact Or.inr rfl) (by first | exact Or.inl rfl | exact Or.inr rfl | assumption))
 (dss_one (ds_if (dt_eq hr.units (de_ix hr.u1 (de_ixV hr.u1 (pv 4) (de_ixV hr.u1 (pv 10) de_int (by intro _ _; rfl) (by intro _ _; rfl)) (by intro _ _; rfl) (by intro _ _; rfl)) de_int (by intro _ _; rfl) (by intro _ _; rfl)) (de_v (pv 7)))
 (dss_one (ds_for PassesOwn.never rfl (calm_T (calm_cons calm_N (calm_cons calm_N calm_nil))) (di_of (de_callC C__law_told (hr.mono (by decide)) (by rfl) (alen_cons (alen_cons alen_nil)) (da_cons (de_v (pv 10)) (da_cons (de_ixV hr.u1 (pv 4) (de_ixV hr.u1 (pv 10) de_int (by intro _ _; rfl) (by intro _ _; rfl)) (by intro _ _; rfl) (by intro _ _; rfl)) da_nil (by rfl)) (by rfl)) (by decide) (by rfl) (by rfl))) (dg_tup rfl (dgs_cons (dg_name nd_law rfl (by first | exact Or.inl rfl | exact Or.inr rfl) (by first | exact Or.inl rfl | exact Or.inr rfl | assumption)) (dgs_cons (dg_name nd_law rfl (by first | exact Or.inl rfl | exact Or.inr rfl) (by first | exact Or.inl rfl | exact Or.inr rfl | assumption)) dgs_nil (by rfl)) (by rfl)) (by rfl) (by rfl))
 (dss_one (ds_app (pv 9) (de_tup (da_cons (de_v (pv 11)) (da_cons (de_ixV hr.u1 (pv 10) de_int (by intro _ _; rfl) (by intro _ _; rfl)) (da_cons (de_v (pv 12)) da_nil (by rfl)) (by rfl)) (by rfl))) (by rfl))) (by intro _; rfl)))
 dss_nil)) (by intro _; rfl))
 (dss_cons (ds_setO nd_law rfl (by first | exact Or.inl rfl | exact Or.inr rfl) (do_lst da_nil) (by rfl) (by first | exact Or.inl rfl | exact Or.inr rfl | assumption))
 (dss_cons (ds_for PassesOwn.never rfl calm_N (di_of (DO.de (do_sortP (by rfl) T.sorted bt_sorted (da_cons (DO.de (do_lc (own := [("_law_row", 22)]) (by rfl) nd_law (di_of (de_v (pv 9))) (blkOk_by (N := ["_law_script", "_law_pool_here", "_law_names_here", "_law_album", "_law_laying", "_law_views", "_law_k", "_law_group", "_law_moves", "_law_rows_here", "_law_view", "_law_cell", "_law_value", "_law_cells", "_law_key", "_law_ground", "_law_told_here", "_law_numbers", "_law_due", "_law_across", "_law_down", "_law_picture", "_law_row"]) (sc := (defScope s_law)) (own := [("_law_row", 22)]) (by decide +kernel)) (by decide) (fun _ _ _ _ _ => (dg_name nd_law rfl (by first | exact Or.inl rfl | exact Or.inr rfl) (by first | exact Or.inl rfl | exact Or.inr rfl | assumption))) (fun _ _ _ _ _ => dts_nil) (fun _ _ _ _ _ => (de_tup (da_cons (de_ix hr.u1 (de_ixV hr.u1 (pv 22) de_int (by intro _ _; rfl) (by intro _ _; rfl)) de_int (by intro _ _; rfl) (by intro _ _; rfl)) (da_cons (de_ix hr.u1 (de_ixV hr.u1 (pv 22) de_int (by intro _ _; rfl) (by intro _ _; rfl)) de_int (by intro _ _; rfl) (by intro _ _; rfl)) da_nil (by rfl)) (by rfl)))) (by intro _; rfl))) da_nil (by rfl)) (by decide) (by decide) (by rfl) (by rfl)))) (dg_name nd_law rfl (by first | exact Or.inl rfl | exact Or.inr rfl) (by first | exact Or.inl rfl | exact Or.inr rfl | assumption))
 (dss_one (ds_if (dt_notinV hr.u65 (de_tup (da_cons (de_ixV hr.u1 (pv 14) de_int (by intro _ _; rfl) (by intro _ _; rfl)) (da_cons (de_ixV hr.u1 (pv 14) de_int (by intro _ _; rfl) (by intro _ _; rfl)) da_nil (by rfl)) (by rfl))) (pv 13) (by rfl))
 (dss_one (ds_app (pv 13) (de_tup (da_cons (de_ixV hr.u1 (pv 14) de_int (by intro _ _; rfl) (by intro _ _; rfl)) (da_cons (de_ixV hr.u1 (pv 14) de_int (by intro _ _; rfl) (by intro _ _; rfl)) da_nil (by rfl)) (by rfl))) (by rfl)))
 dss_nil)) (by intro _; rfl))
 (dss_cons (ds_set nd_law rfl (by first | exact Or.inl rfl | exact Or.inr rfl) (de_callC C_gather (hr.mono (by decide)) (by rfl) (alen_vb (alen_cons (alen_cons alen_nil))) (da_vb (pv 3) (da_cons (de_v (pv 4)) (da_cons (de_v (pv 7)) da_nil (by rfl)) (by rfl)) (by rfl)) (by decide) (by rfl) (by rfl)) (by rfl) (by first | exact Or.inl rfl | exact Or.inr rfl | assumption))
 (dss_cons (ds_if (dt_ne hr.units (DO.de (do_list (by rfl) (by rfl) T.list bt_list (da_cons (de_v (pv 15)) da_nil (by rfl)) (by decide) (by decide) (by rfl) (by rfl))) (de_v (pv 13)))
 (dss_one (ds_ret de_bl))
 dss_nil)
 (dss_cons (ds_for PassesOwn.never rfl calm_N (di_of (de_v (pv 13))) (dg_name nd_law rfl (by first | exact Or.inl rfl | exact Or.inr rfl) (by first | exact Or.inl rfl | exact Or.inr rfl | assumption))
 (dss_cons (ds_setLcO (own := [("_law_row", 22)]) rfl nd_law rfl rfl (sw_true rfl rfl rfl (by decide +kernel)) (di_of (de_v (pv 9))) (blkOk_by (N := ["_law_script", "_law_pool_here", "_law_names_here", "_law_album", "_law_laying", "_law_views", "_law_k", "_law_group", "_law_moves", "_law_rows_here", "_law_view", "_law_cell", "_law_value", "_law_cells", "_law_key", "_law_ground", "_law_told_here", "_law_numbers", "_law_due", "_law_across", "_law_down", "_law_picture", "_law_row"]) (sc := (defScope s_law)) (own := [("_law_row", 22)]) (by decide +kernel)) (by decide) (fun _ _ _ _ _ => (dg_name nd_law rfl (by first | exact Or.inl rfl | exact Or.inr rfl) (by first | exact Or.inl rfl | exact Or.inr rfl | assumption))) (fun _ _ _ _ _ => (dts_one (dt_eq hr.units (de_ixV hr.u1 (pv 22) de_int (by intro _ _; rfl) (by intro _ _; rfl)) (de_v (pv 11))))) (fun _ _ _ _ _ => (de_tup (da_cons (de_ixV hr.u1 (pv 22) de_int (by intro _ _; rfl) (by intro _ _; rfl)) (da_cons (de_ixV hr.u1 (pv 22) de_int (by intro _ _; rfl) (by intro _ _; rfl)) da_nil (by rfl)) (by rfl)))) (by intro _; rfl))
 (dss_cons (ds_if (dt_ne hr.units (de_ixV hr.u1 (pv 15) (de_v (pv 11)) (by intro _ _; rfl) (by intro _ _; rfl)) (de_tuple (by rfl) T.tuple bt_tuple (da_cons (de_v (pv 16)) da_nil (by rfl)) (by decide) (by decide) (by rfl) (by rfl)))
 (dss_one (ds_ret de_bl))
 dss_nil)
 (dss_cons (ds_set nd_law rfl (by first | exact Or.inl rfl | exact Or.inr rfl) (DO.de (do_sortI (by rfl) (by rfl) T.sorted bt_sorted (da_cons (DO.de (do_lc (own := [("_law_row", 22)]) (by rfl) nd_law (di_of (de_v (pv 16))) (blkOk_by (N := ["_law_script", "_law_pool_here", "_law_names_here", "_law_album", "_law_laying", "_law_views", "_law_k", "_law_group", "_law_moves", "_law_rows_here", "_law_view", "_law_cell", "_law_value", "_law_cells", "_law_key", "_law_ground", "_law_told_here", "_law_numbers", "_law_due", "_law_across", "_law_down", "_law_picture", "_law_row"]) (sc := (defScope s_law)) (own := [("_law_row", 22)]) (by decide +kernel)) (by decide) (fun _ _ _ _ _ => (dg_name nd_law rfl (by first | exact Or.inl rfl | exact Or.inr rfl) (by first | exact Or.inl rfl | exact Or.inr rfl | assumption))) (fun _ _ _ _ _ => dts_nil) (fun _ _ _ _ _ => (de_ixV hr.u1 (pv 22) de_int (by intro _ _; rfl) (by intro _ _; rfl))) (by intro _; rfl))) da_nil (by rfl)) (by decide) (by decide) (by rfl) (by rfl))) (by rfl) (by first | exact Or.inl rfl | exact Or.inr rfl | assumption))
 (dss_one (ds_if (dt_ne hr.units (de_callC C_values_at (hr.mono (by decide)) (by rfl) (alen_cons (alen_cons alen_nil)) (da_cons (de_v (pv 15)) (da_cons (de_v (pv 11)) da_nil (by rfl)) (by rfl)) (by decide) (by rfl) (by rfl)) (DO.de (do_lc (own := [("_law_k", 6)]) (by rfl) nd_law (di_rg1 (by rfl) T.range (da_cons (de_len (by rfl) T.len bt_len (da_cons (de_v (pv 17)) da_nil (by rfl)) (by decide) (by decide) (by rfl) (by rfl)) da_nil (by rfl)) (by rfl)) (blkOk_by (N := ["_law_script", "_law_pool_here", "_law_names_here", "_law_album", "_law_laying", "_law_views", "_law_k", "_law_group", "_law_moves", "_law_rows_here", "_law_view", "_law_cell", "_law_value", "_law_cells", "_law_key", "_law_ground", "_law_told_here", "_law_numbers", "_law_due", "_law_across", "_law_down", "_law_picture", "_law_row"]) (sc := (defScope s_law)) (own := [("_law_k", 6)]) (by decide +kernel)) (by decide) (fun _ _ _ _ _ => (dg_name nd_law rfl (by first | exact Or.inl rfl | exact Or.inr rfl) (by first | exact Or.inl rfl | exact Or.inr rfl | assumption))) (fun _ _ _ _ _ => (dts_one (dt_notin hr.u65 (de_ixV hr.u1 (pv 17) (de_v (pv 6)) (by intro _ _; rfl) (by intro _ _; rfl)) (DO.de (do_sl (de_v (pv 17)) dp_none (dp_some (de_v (pv 6))))) (by rfl)))) (fun _ _ _ _ _ => (de_ixV hr.u1 (pv 17) (de_v (pv 6)) (by intro _ _; rfl) (by intro _ _; rfl))) (by intro _; rfl))))
 (dss_one (ds_ret de_bl))
 dss_nil))))) (by intro _; rfl))
 (dss_cons (ds_if (dt_ne hr.units (de_callC C_values_at (hr.mono (by decide)) (by rfl) (alen_cons (alen_cons alen_nil)) (da_cons (de_v (pv 15)) (da_cons (de_tup (da_cons de_int (da_cons de_int da_nil (by rfl)) (by rfl))) da_nil (by rfl)) (by rfl)) (by decide) (by rfl) (by rfl)) (DO.de (do_lst da_nil)))
 (dss_one (ds_ret de_bl))
 dss_nil)
 (dss_cons (ds_set nd_law rfl (by first | exact Or.inl rfl | exact Or.inr rfl) de_non (by rfl) (by first | exact Or.inl rfl | exact Or.inr rfl | assumption))
 (dss_cons (ds_if (dt_tru (de_v (pv 13)) (by intro _; rfl))
 (dss_cons (ds_setLcO (own := [("_law_cell", 11)]) rfl nd_law rfl rfl (sw_true rfl rfl rfl (by decide +kernel)) (di_of (de_v (pv 13))) (blkOk_by (N := ["_law_script", "_law_pool_here", "_law_names_here", "_law_album", "_law_laying", "_law_views", "_law_k", "_law_group", "_law_moves", "_law_rows_here", "_law_view", "_law_cell", "_law_value", "_law_cells", "_law_key", "_law_ground", "_law_told_here", "_law_numbers", "_law_due", "_law_across", "_law_down", "_law_picture", "_law_row"]) (sc := (defScope s_law)) (own := [("_law_cell", 11)]) (by decide +kernel)) (by decide) (fun _ _ _ _ _ => (dg_name nd_law rfl (by first | exact Or.inl rfl | exact Or.inr rfl) (by first | exact Or.inl rfl | exact Or.inr rfl | assumption))) (fun _ _ _ _ _ => dts_nil) (fun _ _ _ _ _ => (de_ixV hr.u1 (pv 11) de_int (by intro _ _; rfl) (by intro _ _; rfl))) (by intro _; rfl))
 (dss_cons (ds_setLcO (own := [("_law_cell", 11)]) rfl nd_law rfl rfl (sw_true rfl rfl rfl (by decide +kernel)) (di_of (de_v (pv 13))) (blkOk_by (N := ["_law_script", "_law_pool_here", "_law_names_here", "_law_album", "_law_laying", "_law_views", "_law_k", "_law_group", "_law_moves", "_law_rows_here", "_law_view", "_law_cell", "_law_value", "_law_cells", "_law_key", "_law_ground", "_law_told_here", "_law_numbers", "_law_due", "_law_across", "_law_down", "_law_picture", "_law_row"]) (sc := (defScope s_law)) (own := [("_law_cell", 11)]) (by decide +kernel)) (by decide) (fun _ _ _ _ _ => (dg_name nd_law rfl (by first | exact Or.inl rfl | exact Or.inr rfl) (by first | exact Or.inl rfl | exact Or.inr rfl | assumption))) (fun _ _ _ _ _ => dts_nil) (fun _ _ _ _ _ => (de_ixV hr.u1 (pv 11) de_int (by intro _ _; rfl) (by intro _ _; rfl))) (by intro _; rfl))
 (dss_one (ds_set nd_law rfl (by first | exact Or.inl rfl | exact Or.inr rfl) (de_tup (da_cons (de_min (by rfl) (by rfl) T.min bt_min (da_cons (de_v (pv 19)) da_nil (by rfl)) (by decide) (by decide) (by rfl) (by rfl)) (da_cons (de_min (by rfl) (by rfl) T.min bt_min (da_cons (de_v (pv 20)) da_nil (by rfl)) (by decide) (by decide) (by rfl) (by rfl)) (da_cons (de_max (by rfl) (by rfl) T.max bt_max (da_cons (de_v (pv 19)) da_nil (by rfl)) (by decide) (by decide) (by rfl) (by rfl)) (da_cons (de_max (by rfl) (by rfl) T.max bt_max (da_cons (de_v (pv 20)) da_nil (by rfl)) (by decide) (by decide) (by rfl) (by rfl)) da_nil (by rfl)) (by rfl)) (by rfl)) (by rfl))) (by rfl) (by first | exact Or.inl rfl | exact Or.inr rfl | assumption)))))
 dss_nil)
 (dss_one (ds_if (dt_ne hr.units (de_callC C_bounds (hr.mono (by decide)) (by rfl) (alen_cons alen_nil) (da_cons (de_v (pv 15)) da_nil (by rfl)) (by decide) (by rfl) (by rfl)) (de_v (pv 18)))
 (dss_one (ds_ret de_bl))
 dss_nil)))))))))))) (by intro _; rfl)))
 (dsrs_cons (dsr_of reg_alb (ds_for PassesOwn.never rfl calm_N (di_of (de_v (pv 5))) (dg_name nd_law rfl (by first | exact Or.inl rfl | exact Or.inr rfl) (by first | exact Or.inl rfl | exact Or.inr rfl | assumption))
 (dss_cons (ds_set nd_law rfl (by first | exact Or.inl rfl | exact Or.inr rfl) (de_callC C__law_told (hr.mono (by decide)) (by rfl) (alen_cons (alen_cons alen_nil)) (da_cons (de_v (pv 10)) (da_cons (de_ixV hr.u1 (pv 4) (de_ixV hr.u1 (pv 10) de_int (by intro _ _; rfl) (by intro _ _; rfl)) (by intro _ _; rfl) (by intro _ _; rfl)) da_nil (by rfl)) (by rfl)) (by decide) (by rfl) (by rfl)) (by rfl) (by first | exact Or.inl rfl | exact Or.inr rfl | assumption))
 (dss_cons (ds_set nd_law rfl (by first | exact Or.inl rfl | exact Or.inr rfl) (de_callC C_picture_of (hr.mono (by decide)) (by rfl) (alen_cons (alen_cons alen_nil)) (da_cons (de_v (pv 10)) (da_cons (de_ixV hr.u1 (pv 4) (de_ixV hr.u1 (pv 10) de_int (by intro _ _; rfl) (by intro _ _; rfl)) (by intro _ _; rfl) (by intro _ _; rfl)) da_nil (by rfl)) (by rfl)) (by decide) (by rfl) (by rfl)) (by rfl) (by first | exact Or.inl rfl | exact Or.inr rfl | assumption))
 (dss_one (ds_if (dw_t (dw_or (dt_ne hr.units (DO.de (do_list (by rfl) (by rfl) T.list bt_list (da_cons (de_v (pv 21)) da_nil (by rfl)) (by decide) (by decide) (by rfl) (by rfl))) (DO.de (do_lc (own := [("_law_row", 22)]) (by rfl) nd_law (di_of (de_v (pv 16))) (blkOk_by (N := ["_law_script", "_law_pool_here", "_law_names_here", "_law_album", "_law_laying", "_law_views", "_law_k", "_law_group", "_law_moves", "_law_rows_here", "_law_view", "_law_cell", "_law_value", "_law_cells", "_law_key", "_law_ground", "_law_told_here", "_law_numbers", "_law_due", "_law_across", "_law_down", "_law_picture", "_law_row"]) (sc := (defScope s_law)) (own := [("_law_row", 22)]) (by decide +kernel)) (by decide) (fun _ _ _ _ _ => (dg_name nd_law rfl (by first | exact Or.inl rfl | exact Or.inr rfl) (by first | exact Or.inl rfl | exact Or.inr rfl | assumption))) (fun _ _ _ _ _ => dts_nil) (fun _ _ _ _ _ => (de_ixV hr.u1 (pv 22) de_int (by intro _ _; rfl) (by intro _ _; rfl))) (by intro _; rfl)))) (dw_or1 (dt_ne hr.units (DO.de (do_lVal (by rfl) (by rfl) T.list bt_list (de_v (pv 21)) (by decide) (by decide) (by rfl) (by rfl) (by rfl))) (DO.de (do_lc (own := [("_law_row", 22)]) (by rfl) nd_law (di_of (de_v (pv 16))) (blkOk_by (N := ["_law_script", "_law_pool_here", "_law_names_here", "_law_album", "_law_laying", "_law_views", "_law_k", "_law_group", "_law_moves", "_law_rows_here", "_law_view", "_law_cell", "_law_value", "_law_cells", "_law_key", "_law_ground", "_law_told_here", "_law_numbers", "_law_due", "_law_across", "_law_down", "_law_picture", "_law_row"]) (sc := (defScope s_law)) (own := [("_law_row", 22)]) (by decide +kernel)) (by decide) (fun _ _ _ _ _ => (dg_name nd_law rfl (by first | exact Or.inl rfl | exact Or.inr rfl) (by first | exact Or.inl rfl | exact Or.inr rfl | assumption))) (fun _ _ _ _ _ => dts_nil) (fun _ _ _ _ _ => (de_ixV hr.u1 (pv 22) de_int (by intro _ _; rfl) (by intro _ _; rfl))) (by intro _; rfl)))))))
 (dss_one (ds_ret de_bl))
 dss_nil)))) (by intro _; rfl)))
 (dsrs_one (dsr_of reg_alb (ds_ret de_bl)))))))) (by rfl) (by first | exact .inl rfl | exact .inr rfl | assumption))))
end
theorem all_mk {l : PySem.W.OpenLaw} {w : World} {K : PySem.W.Frag} {h : Heap} {mg : Str → Option Value} {fa CA : Addr} {tq_MAX_NAME tq_MOST tq_MAX_SIDE tq_MAX_VIEWS : Tok} (X : K.In h) (G : h.Ns mainGlobals mg) (hfa : mg "law" = some (.ref fa))
 {f0 f1 f2 f3 f4 f5 f6 f7 f8 f9 f10 f11 f12 f13 f14 f15 f16 f17 f18 f19 f20 f21 f22 : Addr} {od0 an0 od1 an1 od2 an2 od3 an3 od4 an4 od5 an5 od6 an6 od7 an7 od8 an8 od9 an9 od10 an10 od11 an11 od12 an12 od13 an13 od14 an14 od15 an15 od16 an16 od17 an17 od18 an18 od19 an19 od20 an20 od21 an21 od22 an22 : Option Addr} {sl0 sl1 sl2 sl3 sl4 sl5 sl6 sl7 sl8 sl9 sl10 sl11 sl12 sl13 sl14 sl15 sl16 sl17 sl18 sl19 sl20 sl21 sl22 : Array (Option Value)} {oc0 kV0 dc0 pm0 cd0 ct0 oc1 kV1 dc1 pm1 cd1 ct1 oc2 kV2 dc2 pm2 cd2 ct2 oc3 kV3 dc3 pm3 cd3 ct3 oc4 kV4 dc4 pm4 cd4 ct4 oc5 kV5 dc5 pm5 cd5 ct5 oc6 kV6 dc6 pm6 cd6 ct6 oc7 kV7 dc7 pm7 cd7 ct7 oc8 kV8 dc8 pm8 cd8 ct8 oc9 kV9 dc9 pm9 cd9 ct9 oc10 kV10 dc10 pm10 cd10 ct10 oc11 kV11 dc11 pm11 cd11 ct11 oc12 kV12 dc12 pm12 cd12 ct12 oc13 kV13 dc13 pm13 cd13 ct13 oc14 kV14 dc14 pm14 cd14 ct14 oc15 kV15 dc15 pm15 cd15 ct15 oc16 kV16 dc16 pm16 cd16 ct16 oc17 kV17 dc17 pm17 cd17 ct17 oc18 kV18 dc18 pm18 cd18 ct18 oc19 kV19 dc19 pm19 cd19 ct19 oc20 kV20 dc20 pm20 cd20 ct20 oc21 kV21 dc21 pm21 cd21 ct21 oc22 kV22 dc22 pm22 cd22 ct22 : Value}
 (y_ns : PySem.W.nsIn K mainGlobals "Album" = some (some (.ref CA))) (y_pg : PySem.W.plainGet K CA Str.empty = true) (y_hd : PySem.W.hasDictIn K CA = true) (y_po : PySem.W.plainOver K CA = true) (y_sa : PySem.W.findIn K (.ref CA) "__setattr__" = some (some (.builtin "object.__setattr__"))) (y_nv : PySem.W.findIn K (.ref CA) "_views" = some none) (y_nl : PySem.W.findIn K (.ref CA) "_links" = some none) (y_mk : PySem.W.makesIn K CA = true) (y_kp : PySem.W.keepIn K (.ref CA) = true)
 (a0 : PySem.W.nsIn K mainGlobals "_law_pool" = some (some (.ref f0))) (l0 : K.lookup f0 = some ⟨oc0, od0, .func (PySem.W.fnOf "_law_pool" "_law_pool" (defArgs s__law_pool) (defBody s__law_pool) (defScope s__law_pool) .none kV0 dc0 pm0 an0 cd0 ct0), sl0⟩) (c0 : PySem.W.codeIn K cd0 "_law_pool" = true) (k0 : PySem.W.keepIn K (.ref f0) = true)
 (a1 : PySem.W.nsIn K mainGlobals "_law_wide" = some (some (.ref f1))) (l1 : K.lookup f1 = some ⟨oc1, od1, .func (PySem.W.fnOf "_law_wide" "_law_wide" (defArgs s__law_wide) (defBody s__law_wide) (defScope s__law_wide) .none kV1 dc1 pm1 an1 cd1 ct1), sl1⟩) (c1 : PySem.W.codeIn K cd1 "_law_wide" = true) (k1 : PySem.W.keepIn K (.ref f1) = true)
 (a2 : PySem.W.nsIn K mainGlobals "_law_take" = some (some (.ref f2))) (l2 : K.lookup f2 = some ⟨oc2, od2, .func (PySem.W.fnOf "_law_take" "_law_take" (defArgs s__law_take) (defBody s__law_take) (defScope s__law_take) .none kV2 dc2 pm2 an2 cd2 ct2), sl2⟩) (c2 : PySem.W.codeIn K cd2 "_law_take" = true) (k2 : PySem.W.keepIn K (.ref f2) = true)
 (a3 : PySem.W.nsIn K mainGlobals "_law_name" = some (some (.ref f3))) (l3 : K.lookup f3 = some ⟨oc3, od3, .func (PySem.W.fnOf "_law_name" "_law_name" (defArgs s__law_name) (defBody s__law_name) (defScope s__law_name) .none kV3 dc3 pm3 an3 cd3 ct3), sl3⟩) (c3 : PySem.W.codeIn K cd3 "_law_name" = true) (k3 : PySem.W.keepIn K (.ref f3) = true)
 (a4 : PySem.W.nsIn K mainGlobals "_law_names" = some (some (.ref f4))) (l4 : K.lookup f4 = some ⟨oc4, od4, .func (PySem.W.fnOf "_law_names" "_law_names" (defArgs s__law_names) (defBody s__law_names) (defScope s__law_names) .none kV4 dc4 pm4 an4 cd4 ct4), sl4⟩) (c4 : PySem.W.codeIn K cd4 "_law_names" = true) (k4 : PySem.W.keepIn K (.ref f4) = true)
 (a5 : PySem.W.findIn K (.ref CA) "__init__" = some (some (.ref f5))) (i5 : PySem.W.isFn K (.ref f5) = true) (l5 : K.lookup f5 = some ⟨oc5, od5, .func (PySem.W.fnOf "__init__" "Album.__init__" (defArgs s_Album___init__) (defBody s_Album___init__) (defScope s_Album___init__) .none kV5 dc5 pm5 an5 cd5 ct5), sl5⟩) (c5 : PySem.W.codeIn K cd5 "Album.__init__" = true) (k5 : PySem.W.keepIn K (.ref f5) = true)
 (a6 : PySem.W.nsIn K mainGlobals "is_name" = some (some (.ref f6))) (l6 : K.lookup f6 = some ⟨oc6, od6, .func (PySem.W.fnOf "is_name" "is_name" (defArgs s_is_name) (defBody s_is_name) (defScope s_is_name) .none kV6 dc6 pm6 an6 cd6 ct6), sl6⟩) (c6 : PySem.W.codeIn K cd6 "is_name" = true) (k6 : PySem.W.keepIn K (.ref f6) = true)
 (a7 : PySem.W.nsIn K mainGlobals "is_whole" = some (some (.ref f7))) (l7 : K.lookup f7 = some ⟨oc7, od7, .func (PySem.W.fnOf "is_whole" "is_whole" (defArgs s_is_whole) (defBody s_is_whole) (defScope s_is_whole) .none kV7 dc7 pm7 an7 cd7 ct7), sl7⟩) (c7 : PySem.W.codeIn K cd7 "is_whole" = true) (k7 : PySem.W.keepIn K (.ref f7) = true)
 (a8 : PySem.W.nsIn K mainGlobals "is_reading" = some (some (.ref f8))) (l8 : K.lookup f8 = some ⟨oc8, od8, .func (PySem.W.fnOf "is_reading" "is_reading" (defArgs s_is_reading) (defBody s_is_reading) (defScope s_is_reading) .none kV8 dc8 pm8 an8 cd8 ct8), sl8⟩) (c8 : PySem.W.codeIn K cd8 "is_reading" = true) (k8 : PySem.W.keepIn K (.ref f8) = true)
 (a9 : PySem.W.nsIn K mainGlobals "is_view" = some (some (.ref f9))) (l9 : K.lookup f9 = some ⟨oc9, od9, .func (PySem.W.fnOf "is_view" "is_view" (defArgs s_is_view) (defBody s_is_view) (defScope s_is_view) .none kV9 dc9 pm9 an9 cd9 ct9), sl9⟩) (c9 : PySem.W.codeIn K cd9 "is_view" = true) (k9 : PySem.W.keepIn K (.ref f9) = true)
 (a10 : PySem.W.findIn K (.ref CA) "names" = some (some (.ref f10))) (i10 : PySem.W.isFn K (.ref f10) = true) (l10 : K.lookup f10 = some ⟨oc10, od10, .func (PySem.W.fnOf "names" "Album.names" (defArgs s_Album_names) (defBody s_Album_names) (defScope s_Album_names) .none kV10 dc10 pm10 an10 cd10 ct10), sl10⟩) (c10 : PySem.W.codeIn K cd10 "Album.names" = true) (k10 : PySem.W.keepIn K (.ref f10) = true)
 (a11 : PySem.W.findIn K (.ref CA) "add_view" = some (some (.ref f11))) (i11 : PySem.W.isFn K (.ref f11) = true) (l11 : K.lookup f11 = some ⟨oc11, od11, .func (PySem.W.fnOf "add_view" "Album.add_view" (defArgs s_Album_add_view) (defBody s_Album_add_view) (defScope s_Album_add_view) .none kV11 dc11 pm11 an11 cd11 ct11), sl11⟩) (c11 : PySem.W.codeIn K cd11 "Album.add_view" = true) (k11 : PySem.W.keepIn K (.ref f11) = true)
 (a12 : PySem.W.findIn K (.ref CA) "views" = some (some (.ref f12))) (i12 : PySem.W.isFn K (.ref f12) = true) (l12 : K.lookup f12 = some ⟨oc12, od12, .func (PySem.W.fnOf "views" "Album.views" (defArgs s_Album_views) (defBody s_Album_views) (defScope s_Album_views) .none kV12 dc12 pm12 an12 cd12 ct12), sl12⟩) (c12 : PySem.W.codeIn K cd12 "Album.views" = true) (k12 : PySem.W.keepIn K (.ref f12) = true)
 (a13 : PySem.W.nsIn K mainGlobals "readings" = some (some (.ref f13))) (l13 : K.lookup f13 = some ⟨oc13, od13, .func (PySem.W.fnOf "readings" "readings" (defArgs s_readings) (defBody s_readings) (defScope s_readings) .none kV13 dc13 pm13 an13 cd13 ct13), sl13⟩) (c13 : PySem.W.codeIn K cd13 "readings" = true) (k13 : PySem.W.keepIn K (.ref f13) = true)
 (a14 : PySem.W.nsIn K mainGlobals "picture_of" = some (some (.ref f14))) (l14 : K.lookup f14 = some ⟨oc14, od14, .func (PySem.W.fnOf "picture_of" "picture_of" (defArgs s_picture_of) (defBody s_picture_of) (defScope s_picture_of) .none kV14 dc14 pm14 an14 cd14 ct14), sl14⟩) (c14 : PySem.W.codeIn K cd14 "picture_of" = true) (k14 : PySem.W.keepIn K (.ref f14) = true)
 (a15 : PySem.W.nsIn K mainGlobals "by_rows" = some (some (.ref f15))) (l15 : K.lookup f15 = some ⟨oc15, od15, .func (PySem.W.fnOf "by_rows" "by_rows" (defArgs s_by_rows) (defBody s_by_rows) (defScope s_by_rows) .none kV15 dc15 pm15 an15 cd15 ct15), sl15⟩) (c15 : PySem.W.codeIn K cd15 "by_rows" = true) (k15 : PySem.W.keepIn K (.ref f15) = true)
 (a16 : PySem.W.nsIn K mainGlobals "gather" = some (some (.ref f16))) (l16 : K.lookup f16 = some ⟨oc16, od16, .func (PySem.W.fnOf "gather" "gather" (defArgs s_gather) (defBody s_gather) (defScope s_gather) .none kV16 dc16 pm16 an16 cd16 ct16), sl16⟩) (c16 : PySem.W.codeIn K cd16 "gather" = true) (k16 : PySem.W.keepIn K (.ref f16) = true)
 (a17 : PySem.W.nsIn K mainGlobals "_law_told" = some (some (.ref f17))) (l17 : K.lookup f17 = some ⟨oc17, od17, .func (PySem.W.fnOf "_law_told" "_law_told" (defArgs s__law_told) (defBody s__law_told) (defScope s__law_told) .none kV17 dc17 pm17 an17 cd17 ct17), sl17⟩) (c17 : PySem.W.codeIn K cd17 "_law_told" = true) (k17 : PySem.W.keepIn K (.ref f17) = true)
 (a18 : PySem.W.nsIn K mainGlobals "values_at" = some (some (.ref f18))) (l18 : K.lookup f18 = some ⟨oc18, od18, .func (PySem.W.fnOf "values_at" "values_at" (defArgs s_values_at) (defBody s_values_at) (defScope s_values_at) .none kV18 dc18 pm18 an18 cd18 ct18), sl18⟩) (c18 : PySem.W.codeIn K cd18 "values_at" = true) (k18 : PySem.W.keepIn K (.ref f18) = true)
 (a19 : PySem.W.nsIn K mainGlobals "bounds" = some (some (.ref f19))) (l19 : K.lookup f19 = some ⟨oc19, od19, .func (PySem.W.fnOf "bounds" "bounds" (defArgs s_bounds) (defBody s_bounds) (defScope s_bounds) .none kV19 dc19 pm19 an19 cd19 ct19), sl19⟩) (c19 : PySem.W.codeIn K cd19 "bounds" = true) (k19 : PySem.W.keepIn K (.ref f19) = true)
 (a20 : PySem.W.nsIn K mainGlobals "_law_reading" = some (some (.ref f20))) (l20 : K.lookup f20 = some ⟨oc20, od20, .func (PySem.W.fnOf "_law_reading" "_law_reading" (defArgs s__law_reading) (defBody s__law_reading) (defScope s__law_reading) .none kV20 dc20 pm20 an20 cd20 ct20), sl20⟩) (c20 : PySem.W.codeIn K cd20 "_law_reading" = true) (k20 : PySem.W.keepIn K (.ref f20) = true)
 (a21 : PySem.W.nsIn K mainGlobals "_law_rows" = some (some (.ref f21))) (l21 : K.lookup f21 = some ⟨oc21, od21, .func (PySem.W.fnOf "_law_rows" "_law_rows" (defArgs s__law_rows) (defBody s__law_rows) (defScope s__law_rows) .none kV21 dc21 pm21 an21 cd21 ct21), sl21⟩) (c21 : PySem.W.codeIn K cd21 "_law_rows" = true) (k21 : PySem.W.keepIn K (.ref f21) = true)
 (a22 : PySem.W.nsIn K mainGlobals "law" = some (some (.ref f22))) (l22 : K.lookup f22 = some ⟨oc22, od22, .func (PySem.W.fnOf "law" "law" (defArgs s_law) (defBody s_law) (defScope s_law) .none kV22 dc22 pm22 an22 cd22 ct22), sl22⟩) (c22 : PySem.W.codeIn K cd22 "law" = true) (k22 : PySem.W.keepIn K (.ref f22) = true)
 (z_abs : PySem.W.nsIn K mainGlobals "abs" = some none) (z_all : PySem.W.nsIn K mainGlobals "all" = some none) (z_bool : PySem.W.nsIn K mainGlobals "bool" = some none) (z_int : PySem.W.nsIn K mainGlobals "int" = some none) (z_isinstance : PySem.W.nsIn K mainGlobals "isinstance" = some none) (z_len : PySem.W.nsIn K mainGlobals "len" = some none) (z_list : PySem.W.nsIn K mainGlobals "list" = some none) (z_max : PySem.W.nsIn K mainGlobals "max" = some none) (z_min : PySem.W.nsIn K mainGlobals "min" = some none) (z_range : PySem.W.nsIn K mainGlobals "range" = some none) (z_sorted : PySem.W.nsIn K mainGlobals "sorted" = some none) (z_str : PySem.W.nsIn K mainGlobals "str" = some none) (z_tuple : PySem.W.nsIn K mainGlobals "tuple" = some none) (q_MAX_NAME : PySem.W.nsIn K mainGlobals "MAX_NAME" = some (some (.int 8 tq_MAX_NAME))) (q_MOST : PySem.W.nsIn K mainGlobals "MOST" = some (some (.int 999 tq_MOST))) (q_MAX_SIDE : PySem.W.nsIn K mainGlobals "MAX_SIDE" = some (some (.int 12 tq_MAX_SIDE))) (q_MAX_VIEWS : PySem.W.nsIn K mainGlobals "MAX_VIEWS" = some (some (.int 30 tq_MAX_VIEWS))) :
 ∃ fd : FuncData, (∀ (s : Shared) (v : Value), BindsTo s fd ⟨[v], []⟩ [("_law_script", v)]) ∧ ∀ base : Heap, K.In base → base.Ns mainGlobals mg → FnOk l.prog w K mg base CX0 5 fa fd ["_law_script"] (spM Wn K 1 false m_law) := by
  have e := hfa.symm.trans (PySem.W.mg_of X G a22)
  cases e
  have T : Bi mg := ⟨⟨_, PySem.W.mg_of X G q_MAX_NAME⟩, ⟨_, PySem.W.mg_of X G q_MOST⟩, ⟨_, PySem.W.mg_of X G q_MAX_SIDE⟩, ⟨_, PySem.W.mg_of X G q_MAX_VIEWS⟩, PySem.W.mg_none_of X G z_abs, PySem.W.mg_none_of X G z_all, PySem.W.mg_none_of X G z_bool, PySem.W.mg_none_of X G z_int, PySem.W.mg_none_of X G z_isinstance, PySem.W.mg_none_of X G z_len, PySem.W.mg_none_of X G z_list, PySem.W.mg_none_of X G z_max, PySem.W.mg_none_of X G z_min, PySem.W.mg_none_of X G z_range, PySem.W.mg_none_of X G z_sorted, PySem.W.mg_none_of X G z_str, PySem.W.mg_none_of X G z_tuple⟩
  have TA : AlbK K CA := ⟨y_ns, ⟨y_pg, y_hd, y_po, y_sa⟩, y_nv, y_nl⟩
  have F0 := fun_mk (st := s__law_pool) l0 c0 k0
  have b0 := F0.binds (ps := ["_law_script"]) fun _ _ _ _ _ _ us hl => match us, hl with | [_], _ => rfl
  have F1 := fun_mk (st := s__law_wide) l1 c1 k1
  have b1 := F1.binds (ps := ["_law_script", "_law_k"]) fun _ _ _ _ _ _ us hl => match us, hl with | [_, _], _ => rfl
  have F2 := fun_mk (st := s__law_take) l2 c2 k2
  have b2 := F2.binds (ps := ["_law_pool_here", "_law_most"]) fun _ _ _ _ _ _ us hl => match us, hl with | [_, _], _ => rfl
  have F3 := fun_mk (st := s__law_name) l3 c3 k3
  have b3 := F3.binds (ps := ["_law_pool_here"]) fun _ _ _ _ _ _ us hl => match us, hl with | [_], _ => rfl
  have F4 := fun_mk (st := s__law_names) l4 c4 k4
  have b4 := F4.binds (ps := ["_law_pool_here", "_law_count"]) fun _ _ _ _ _ _ us hl => match us, hl with | [_, _], _ => rfl
  have F5 := fun_mk (st := s_Album___init__) l5 c5 k5
  have b5 := F5.binds (ps := ["self"]) fun _ _ _ _ _ _ us hl => match us, hl with | [_], _ => rfl
  have F6 := fun_mk (st := s_is_name) l6 c6 k6
  have b6 := F6.binds (ps := ["value"]) fun _ _ _ _ _ _ us hl => match us, hl with | [_], _ => rfl
  have F7 := fun_mk (st := s_is_whole) l7 c7 k7
  have b7 := F7.binds (ps := ["value"]) fun _ _ _ _ _ _ us hl => match us, hl with | [_], _ => rfl
  have F8 := fun_mk (st := s_is_reading) l8 c8 k8
  have b8 := F8.binds (ps := ["value"]) fun _ _ _ _ _ _ us hl => match us, hl with | [_], _ => rfl
  have F9 := fun_mk (st := s_is_view) l9 c9 k9
  have b9 := F9.binds (ps := ["value"]) fun _ _ _ _ _ _ us hl => match us, hl with | [_], _ => rfl
  have F10 := fun_mk (st := s_Album_names) l10 c10 k10
  have b10 := F10.binds (ps := ["self"]) fun _ _ _ _ _ _ us hl => match us, hl with | [_], _ => rfl
  have F11 := fun_mk (st := s_Album_add_view) l11 c11 k11
  have b11 := F11.binds (ps := ["self", "view"]) fun _ _ _ _ _ _ us hl => match us, hl with | [_, _], _ => rfl
  have F12 := fun_mk (st := s_Album_views) l12 c12 k12
  have b12 := F12.binds (ps := ["self"]) fun _ _ _ _ _ _ us hl => match us, hl with | [_], _ => rfl
  have F13 := fun_mk (st := s_readings) l13 c13 k13
  have b13 := F13.binds (ps := ["view"]) fun _ _ _ _ _ _ us hl => match us, hl with | [_], _ => rfl
  have F14 := fun_mk (st := s_picture_of) l14 c14 k14
  have b14 := F14.binds (ps := ["view", "place"]) fun _ _ _ _ _ _ us hl => match us, hl with | [_, _], _ => rfl
  have F15 := fun_mk (st := s_by_rows) l15 c15 k15
  have b15 := F15.binds (ps := ["cell"]) fun _ _ _ _ _ _ us hl => match us, hl with | [_], _ => rfl
  have F16 := fun_mk (st := s_gather) l16 c16 k16
  have b16 := F16.binds (ps := ["album", "laying", "group"]) fun _ _ _ _ _ _ us hl => match us, hl with | [_, _, _], _ => rfl
  have F17 := fun_mk (st := s__law_told) l17 c17 k17
  have b17 := F17.binds (ps := ["_law_view", "_law_place"]) fun _ _ _ _ _ _ us hl => match us, hl with | [_, _], _ => rfl
  have F18 := fun_mk (st := s_values_at) l18 c18 k18
  have b18 := F18.binds (ps := ["ground", "cell"]) fun _ _ _ _ _ _ us hl => match us, hl with | [_, _], _ => rfl
  have F19 := fun_mk (st := s_bounds) l19 c19 k19
  have b19 := F19.binds (ps := ["ground"]) fun _ _ _ _ _ _ us hl => match us, hl with | [_], _ => rfl
  have F20 := fun_mk (st := s__law_reading) l20 c20 k20
  have b20 := F20.binds (ps := ["_law_pool_here"]) fun _ _ _ _ _ _ us hl => match us, hl with | [_], _ => rfl
  have F21 := fun_mk (st := s__law_rows) l21 c21 k21
  have b21 := F21.binds (ps := ["_law_pool_here", "_law_most"]) fun _ _ _ _ _ _ us hl => match us, hl with | [_, _], _ => rfl
  have F22 := fun_mk (st := s_law) l22 c22 k22
  refine ⟨PySem.W.fnOf "law" "law" (defArgs s_law) (defBody s_law) (defScope s_law) .none kV22 dc22 pm22 an22 cd22 ct22, fun s v => .of_eq rfl, fun base _ _ => ?_⟩
  have KM_by_rows : KeyM K mg "by_rows" := keyM_of F15 rfl rfl rfl rfl rfl (by decide) (PySem.W.mg_of X G a15) b15
  have C__law_pool : CalM l.prog w K mg base 1 "_law_pool" 1 true m__law_pool := ⟨_, _, _, ok__law_pool F0 T , PySem.W.mg_of X G a0, k0, b0⟩
  have C__law_wide : CalM l.prog w K mg base 1 "_law_wide" 2 false m__law_wide := ⟨_, _, _, ok__law_wide F1 T , PySem.W.mg_of X G a1, k1, b1⟩
  have C__law_take : CalM l.prog w K mg base 2 "_law_take" 2 false m__law_take := ⟨_, _, _, ok__law_take F2 T C__law_wide, PySem.W.mg_of X G a2, k2, b2⟩
  have C__law_name : CalM l.prog w K mg base 3 "_law_name" 1 false m__law_name := ⟨_, _, _, ok__law_name F3 T C__law_take, PySem.W.mg_of X G a3, k3, b3⟩
  have C__law_names : CalM l.prog w K mg base 4 "_law_names" 2 false m__law_names := ⟨_, _, _, ok__law_names F4 T C__law_name, PySem.W.mg_of X G a4, k4, b4⟩
  have AM : AlbM l.prog w K mg base CA 1 := ⟨_, _, ⟨y_mk, a5, i5, y_kp⟩, ok_Album___init__ F5 TA, b5, PySem.W.mg_of X G y_ns⟩
  have C_is_name : CalM l.prog w K mg base 1 "is_name" 1 false m_is_name := ⟨_, _, _, ok_is_name F6 T , PySem.W.mg_of X G a6, k6, b6⟩
  have C_is_whole : CalM l.prog w K mg base 1 "is_whole" 1 false m_is_whole := ⟨_, _, _, ok_is_whole F7 T , PySem.W.mg_of X G a7, k7, b7⟩
  have C_is_reading : CalM l.prog w K mg base 2 "is_reading" 1 false m_is_reading := ⟨_, _, _, ok_is_reading F8 T C_is_whole, PySem.W.mg_of X G a8, k8, b8⟩
  have C_is_view : CalM l.prog w K mg base 3 "is_view" 1 false m_is_view := ⟨_, _, _, ok_is_view F9 T C_is_name C_is_reading, PySem.W.mg_of X G a9, k9, b9⟩
  have C_Album_names : CalS l.prog w K mg base CA 1 "names" 1 false m_Album_names := ⟨_, _, _, ok_Album_names F10 T TA , ⟨a10, i10, k10⟩, b10⟩
  have C_Album_add_view : CalD l.prog w K mg base CA 4 "add_view" true b_Album_add_view 0 := ⟨_, _, _, ok_Album_add_view F11 T TA C_Album_names C_is_view, ⟨a11, i11, k11⟩, b11⟩
  have C_Album_views : CalS l.prog w K mg base CA 1 "views" 1 false m_Album_views := ⟨_, _, _, ok_Album_views F12 T TA , ⟨a12, i12, k12⟩, b12⟩
  have C_readings : CalM l.prog w K mg base 1 "readings" 1 false m_readings := ⟨_, _, _, ok_readings F13 T , PySem.W.mg_of X G a13, k13, b13⟩
  have C_picture_of : CalM l.prog w K mg base 2 "picture_of" 2 false m_picture_of := ⟨_, _, _, ok_picture_of F14 T C_readings, PySem.W.mg_of X G a14, k14, b14⟩
  have C_by_rows : CalM l.prog w K mg base 1 "by_rows" 1 false m_by_rows := ⟨_, _, _, ok_by_rows F15 T , PySem.W.mg_of X G a15, k15, b15⟩
  have C_gather : CalM l.prog w K mg base 3 "gather" 3 false m_gather := ⟨_, _, _, ok_gather F16 T TA KM_by_rows C_Album_views C_picture_of, PySem.W.mg_of X G a16, k16, b16⟩
  have C__law_told : CalM l.prog w K mg base 1 "_law_told" 2 false m__law_told := ⟨_, _, _, ok__law_told F17 T , PySem.W.mg_of X G a17, k17, b17⟩
  have C_values_at : CalM l.prog w K mg base 1 "values_at" 2 false m_values_at := ⟨_, _, _, ok_values_at F18 T , PySem.W.mg_of X G a18, k18, b18⟩
  have C_bounds : CalM l.prog w K mg base 1 "bounds" 1 false m_bounds := ⟨_, _, _, ok_bounds F19 T , PySem.W.mg_of X G a19, k19, b19⟩
  have C__law_reading : CalM l.prog w K mg base 3 "_law_reading" 1 false m__law_reading := ⟨_, _, _, ok__law_reading F20 T C__law_take, PySem.W.mg_of X G a20, k20, b20⟩
  have C__law_rows : CalM l.prog w K mg base 4 "_law_rows" 2 false m__law_rows := ⟨_, _, _, ok__law_rows F21 T C__law_take C__law_reading, PySem.W.mg_of X G a21, k21, b21⟩
  exact ok_law F22 T TA AM C__law_pool C__law_take C__law_names C__law_rows C_Album_add_view C__law_told C_gather C_values_at C_bounds C_picture_of
end M
set_option Elab.async false
set_option linter.all false
set_option maxRecDepth 100000
namespace M
open PySem L2
theorem dEq_int (a b : Int) : dEq (.int a) (.int b) = some (.bl (decide (a = b))) := by
  have h : ∀ i : Int, shp (.int i) = true := fun i => by unfold shp toPy; rfl
  unfold dEq
  rw [if_pos ⟨h a, h b⟩]
  unfold toPy PyData.eqv
  by_cases c : a = b
  · subst c; simp
  · simp [c]
theorem dNe_int (a b : Int) : dNe (.int a) (.int b) = some (.bl (!decide (a = b))) := by
  have h : ∀ i : Int, shp (.int i) = true := fun i => by unfold shp toPy; rfl
  unfold dNe
  rw [if_pos ⟨h a, h b⟩]
  unfold toPy PyData.eqv
  by_cases c : a = b
  · subst c; simp
  · simp [c]
theorem forM_inv {T : D → Mo Unit} {S : Mo Out} (Inv : Nat → Env → Prop) : ∀ (ds : List D) (k : Nat) (δ : Env), Inv k δ →
    (∀ i d δ, ds[i]? = some d → Inv (k + i) δ → ∃ δ1 δ2, T d δ = some (.ok (), δ1) ∧ (S δ1 = some (.ok .nx, δ2) ∨ S δ1 = some (.ok .ct, δ2)) ∧ Inv (k + i + 1) δ2) →
    ∃ δ', forM T S ds δ = some (.ok .nx, δ') ∧ Inv (k + ds.length) δ'
  | [], k, δ, h, _ => ⟨δ, rfl, h⟩
  | d :: ds, k, δ, h, st => by
    obtain ⟨δ1, δ2, h1, h2, h3⟩ := st 0 d δ rfl h
    obtain ⟨δ', h4, h5⟩ := forM_inv Inv ds (k + 1) δ2 (by simpa using h3) fun i d δ hd hi => by
      have := st (i + 1) d δ (by simpa using hd) (by rw [show k + (i + 1) = k + 1 + i by omega]; exact hi)
      rw [show k + (i + 1) = k + 1 + i by omega] at this
      exact this
    refine ⟨δ', ?_, by rw [List.length_cons, show k + (ds.length + 1) = k + 1 + ds.length by omega]; exact h5⟩
    unfold forM
    rw [bind_ok h1]
    rcases h2 with h2 | h2
    · simp only [h2]; exact h4
    · simp only [h2]; exact h4
theorem sFor_inv {I : Mo (List D)} {T : D → Mo Unit} {S : Mo Out} {ds : List D} {δ δ0 : Env} (Inv : Nat → Env → Prop) (hi : I δ = some (.ok ds, δ0)) (h0 : Inv 0 δ0)
    (st : ∀ i d δ, ds[i]? = some d → Inv i δ → ∃ δ1 δ2, T d δ = some (.ok (), δ1) ∧ (S δ1 = some (.ok .nx, δ2) ∨ S δ1 = some (.ok .ct, δ2)) ∧ Inv (i + 1) δ2) :
    ∃ δ', sFor I T S δ = some (.ok .nx, δ') ∧ Inv ds.length δ' := by
  obtain ⟨δ', h1, h2⟩ := forM_inv Inv ds 0 δ0 h0 fun i d δ hd h => by rw [Nat.zero_add] at h ⊢; exact st i d δ hd h
  rw [Nat.zero_add] at h2
  exact ⟨δ', by unfold sFor; rw [bind_ok hi]; exact h1, h2⟩
theorem sSeq_ok {a b : Mo Out} {δ δ1 : Env} (h : a δ = some (.ok .nx, δ1)) : sSeq a b δ = b δ1 := by unfold sSeq; rw [h]
end M
set_option Elab.async false
set_option linter.all false
set_option maxRecDepth 100000
namespace M
open PySem L2
abbrev Re (α : Type) := Option (Except Exn α × Env)
def bk {α β : Type} (k : α → Mo β) : Re α → Re β
  | none => none
  | some (.error x, δ) => some (.error x, δ)
  | some (.ok a, δ) => k a δ
def sk (k : Mo Out) : Re Out → Re Out
  | some (.ok .nx, δ) => k δ
  | r => r
def fk (n : Nat) : Re Out → Re D
  | some (.ok (.rt d), δ') => some (.ok d, ios n δ')
  | some (.ok (.rtO d), δ') => some (.ok d, ios n δ')
  | some (.ok .nx, δ') => some (.ok .non, ios n δ')
  | some (.error x, δ') => some (.error x, ios n δ')
  | _ => none
def lk {α : Type} (o : Option α) (δ : Env) : Re α := match o with
  | none => none
  | some a => some (.ok a, δ)
def vk (i : Nat) (δ : Env) : Option Sl → Re D
  | some (.imm d) => some (.ok d, δ)
  | some (.own d) => some (.ok d, δ.set i (.imm d))
  | some (.bor d) => if flatD d then some (.ok d, δ) else none
  | _ => none
def gk (i : Nat) (δ : Env) : Option Sl → Re D
  | some (.own d) => some (.ok d, δ.set i .no)
  | _ => none
section
variable {α β : Type} {a b : Mo D} {A B : Mo D} {δ : Env} {d : D} {i : Nat} {p q : Prop} [Decidable p]
theorem x_bind {m : Mo α} {k : α → Mo β} : Mo.bind m k δ = bk k (m δ) := by
  unfold Mo.bind bk
  cases m δ with
  | none => rfl
  | some z => obtain ⟨x, δ'⟩ := z; cases x <;> rfl
theorem bk_ok {k : α → Mo β} {a : α} : bk k (some (.ok a, δ)) = k a δ := rfl
theorem bk_ite {k : α → Mo β} {x y : Re α} : bk k (if p then x else y) = if p then bk k x else bk k y := by split <;> rfl
theorem x_ret {a : α} : Mo.ret a δ = some (.ok a, δ) := rfl
theorem x_lift {o : Option α} : Mo.lift o δ = lk o δ := by unfold Mo.lift lk; cases o <;> rfl
theorem lk_some {a : α} : lk (some a) δ = some (.ok a, δ) := rfl
theorem lk_ite {x y : Option α} : lk (if p then x else y) δ = if p then lk x δ else lk y δ := by split <;> rfl
theorem app_ite {x y : Mo α} : (if p then x else y) δ = if p then x δ else y δ := by split <;> rfl
theorem x_eC : eC d δ = some (.ok d, δ) := rfl
theorem x_eV : eV i δ = vk i δ δ[i]? := by unfold eV vk; split <;> simp_all
theorem vk_imm : vk i δ (some (.imm d)) = some (.ok d, δ) := rfl
theorem vk_own : vk i δ (some (.own d)) = some (.ok d, δ.set i (.imm d)) := rfl
theorem vk_bor : vk i δ (some (.bor d)) = if flatD d then some (.ok d, δ) else none := rfl
theorem x_give : eGive i δ = gk i δ δ[i]? := by unfold eGive gk; split <;> simp_all
theorem gk_own : gk i δ (some (.own d)) = some (.ok d, δ.set i .no) := rfl
theorem x_bin {f : D → D → Option D} : eBin f A B δ = bk (fun x => B.bind fun y => Mo.lift (f x y)) (A δ) := x_bind
theorem x_un {f : D → Option D} : eUn f A δ = bk (fun x => Mo.lift (f x)) (A δ) := x_bind
theorem x_ix : eIx A B δ = bk (fun x => B.bind fun y => Mo.lift (dIx x y)) (A δ) := x_bind
theorem x_tru : eTru A δ = bk (fun d => Mo.lift (dTru d)) (A δ) := x_bind
theorem x_eB : eB A δ = bk (fun d => Mo.lift (dBl d)) (A δ) := x_bind
theorem dBl_bl {b : Bool} : dBl (.bl b) = some b := rfl
theorem dTru_bl {b : Bool} : dTru (.bl b) = some b := rfl
theorem dTru_int {j : Int} : dTru (.int j) = some (j != 0) := rfl
theorem dTru_lst {l : List D} : dTru (.lst l) = some (!l.isEmpty) := rfl
theorem x_and {S T : Mo Bool} : tAndM S T δ = bk (fun a => if a = true then T else Mo.ret false) (S δ) := x_bind
theorem x_or {S T : Mo Bool} : tOrM S T δ = bk (fun a => if a = true then Mo.ret true else T) (S δ) := x_bind
theorem x_not {S : Mo Bool} : tNotM S δ = bk (fun a => Mo.ret (!a)) (S δ) := x_bind
theorem x_eAnd : eAnd A B δ = bk (fun x => (Mo.lift (dBl x)).bind fun b => if b = true then B else Mo.ret (.bl false)) (A δ) := x_bind
theorem x_eOr : eOr A B δ = bk (fun x => (Mo.lift (dBl x)).bind fun b => if b = true then Mo.ret (.bl true) else B) (A δ) := x_bind
theorem x_eNot : eNot A δ = bk (fun x => (Mo.lift (dBl x)).bind fun b => Mo.ret (.bl (!b))) (A δ) := x_bind
theorem x_eIf {T : Mo Bool} : eIf T A B δ = bk (fun b => if b = true then A else B) (T δ) := x_bind
theorem x_chain {f g : D → D → Option D} {C : Mo D} : eChain f g A B C δ = bk (fun x => B.bind fun y => (Mo.lift ((f x y).bind dBl)).bind fun k => if k = true then C.bind fun z => Mo.lift (g y z) else Mo.ret (.bl false)) (A δ) := x_bind
theorem x_aNil : aNil δ = some (.ok [], δ) := rfl
theorem x_aCons {E : Mo D} {R : Mo (List Ag)} : aCons E R δ = bk (fun d => R.bind fun as => Mo.ret (.im d :: as)) (E δ) := x_bind
def rk (i : Nat) (R : Mo (List Ag)) (δ : Env) : Option Sl → Re (List Ag)
  | some (.own _) => (R.bind fun as => Mo.ret (.vr i :: as)) δ
  | some (.io _) => (R.bind fun as => Mo.ret (.vr i :: as)) δ
  | _ => none
theorem x_aVr {R : Mo (List Ag)} : aVr i R δ = rk i R δ δ[i]? := by unfold aVr rk; split <;> simp_all
theorem rk_own {R : Mo (List Ag)} : rk i R δ (some (.own d)) = (R.bind fun as => Mo.ret (.vr i :: as)) δ := rfl
theorem rk_io {R : Mo (List Ag)} : rk i R δ (some (.io d)) = (R.bind fun as => Mo.ret (.vr i :: as)) δ := rfl
def tk (i : Nat) (R : Mo (List Ag)) (δ : Env) : Option Sl → Re (List Ag)
  | some .no => none
  | some _ => (R.bind fun as => Mo.ret (.vb i :: as)) δ
  | none => none
theorem x_aVb {R : Mo (List Ag)} : aVb i R δ = tk i R δ δ[i]? := by
  unfold aVb tk
  cases h : δ[i]? with
  | none => rfl
  | some s => cases s <;> rfl
theorem tk_own {R : Mo (List Ag)} : tk i R δ (some (.own d)) = (R.bind fun as => Mo.ret (.vb i :: as)) δ := rfl
theorem tk_io {R : Mo (List Ag)} : tk i R δ (some (.io d)) = (R.bind fun as => Mo.ret (.vb i :: as)) δ := rfl
theorem tk_imm {R : Mo (List Ag)} : tk i R δ (some (.imm d)) = (R.bind fun as => Mo.ret (.vb i :: as)) δ := rfl
theorem tk_bor {R : Mo (List Ag)} : tk i R δ (some (.bor d)) = (R.bind fun as => Mo.ret (.vb i :: as)) δ := rfl
theorem x_eTup {R : Mo (List Ag)} : eTup R δ = bk (fun as => Mo.lift ((imms as).bind fun ds => if ds.length ≤ 1000 then some (.tup ds) else none)) (R δ) := x_bind
theorem x_eLst {R : Mo (List Ag)} : eLst R δ = bk (fun as => Mo.lift ((imms as).bind fun ds => if ds.length ≤ 1000 then some (.lst ds) else none)) (R δ) := x_bind
theorem imms_nil : imms [] = some [] := rfl
theorem imms_im {as : List Ag} : imms (.im d :: as) = (imms as).map (d :: ·) := rfl
theorem x_eF {f : List D → Option D} {R : Mo (List Ag)} : eF f R δ = bk (fun as => Mo.lift ((imms as).bind f)) (R δ) := x_bind
theorem x_call {m : Mo D} {R : Mo (List Ag)} : eCall m R δ = bk (fun as => callM m as) (R δ) := x_bind
/-- x[e], the slot's kind apart -/
def ik (d : D) (B : Mo D) (bor : Bool) (δ : Env) : Re D := bk (fun y => fun δ' => match dIx d y with
  | some z => if bor = true then (if flatD z = true then some (.ok z, δ') else none) else some (.ok z, δ')
  | none => none) (B δ)
theorem ixV_of {s : Sl} (hs : δ[i]? = some s) (hd : slD s = some d) (hB : ∀ y δ', B δ = some (y, δ') → δ'[i]? = some s) : eIxV i B δ = ik d B (isBor s) δ := by
  have h1 : slotDct δ i = some (isDct d) := by unfold slotDct; rw [hs]; simp [hd]
  unfold eIxV ik
  rw [h1]
  simp only []
  rw [x_bind]
  cases q : B δ with
  | none => rfl
  | some z =>
    obtain ⟨y, δ'⟩ := z
    cases y with
    | error _ => rfl
    | ok y =>
      have h2 := hB _ _ q
      show ixSl i (isDct d) y δ' = _
      unfold ixSl
      rw [h2]
      cases s with
      | no => cases hd
      | imm d' => cases hd; simp only [if_true, x_lift, bk, isBor] <;> cases dIx d y <;> rfl
      | own d' => cases hd; simp only [if_true, x_lift, bk, isBor] <;> cases dIx d y <;> rfl
      | io d' => cases hd; simp only [if_true, x_lift, bk, isBor] <;> cases dIx d y <;> rfl
      | bor d' => cases hd; simp only [if_true, bk, isBor] <;> cases dIx d y <;> rfl
def jk (i : Nat) (B : Mo D) (δ : Env) : Option Sl → Re D
  | some s => match slD s with
    | some d => ik d B (isBor s) δ
    | none => none
  | none => none
theorem ixV_V {j : Nat} (hne : i ≠ j) : eIxV i (eV j) δ = jk i (eV j) δ δ[i]? := by
  cases h : δ[i]? with
  | none => unfold eIxV slotDct jk; rw [h]
  | some s =>
    cases h2 : slD s with
    | none => unfold eIxV slotDct jk; rw [h]; simp [h2]
    | some d =>
      rw [ixV_of h h2 fun y δ' q => ?_]
      · unfold jk; simp [h2]
      · rw [x_eV] at q
        unfold vk at q
        split at q
        · cases q; exact h
        · cases q; rw [List.getElem?_set_ne hne.symm]; exact h
        · split at q
          · cases q; exact h
          · cases q
        · cases q
theorem ixV_C {c : D} : eIxV i (eC c) δ = jk i (eC c) δ δ[i]? := by
  cases h : δ[i]? with
  | none => unfold eIxV slotDct jk; rw [h]
  | some s =>
    cases h2 : slD s with
    | none => unfold eIxV slotDct jk; rw [h]; simp [h2]
    | some d =>
      rw [ixV_of h h2 fun y δ' q => by cases q; exact h]
      unfold jk; simp [h2]
theorem jk_imm : jk i B δ (some (.imm d)) = bk (fun y => Mo.lift (dIx d y)) (B δ) := by
  show ik d B false δ = _
  unfold ik
  congr 1; funext y δ'; rw [x_lift]; unfold lk; cases dIx d y <;> rfl
theorem jk_own : jk i B δ (some (.own d)) = bk (fun y => Mo.lift (dIx d y)) (B δ) := jk_imm (i := i)
theorem jk_io : jk i B δ (some (.io d)) = bk (fun y => Mo.lift (dIx d y)) (B δ) := jk_imm (i := i)
def flk (o : Option D) : Option D := match o with
  | some z => if flatD z = true then some z else none
  | none => none
theorem jk_bor : jk i B δ (some (.bor d)) = bk (fun y => Mo.lift (flk (dIx d y))) (B δ) := by
  show ik d B true δ = _
  unfold ik
  congr 1; funext y δ'; rw [x_lift]; unfold lk flk
  cases h : dIx d y with
  | none => rfl
  | some z =>
    simp only [if_true]
    by_cases c : flatD z = true <;> simp [c]
theorem flk_int {j : Int} : flk (some (.int j)) = some (.int j) := rfl
def nk (δ : Env) : Option Sl → Re D
  | some s => (slD s).bind dLen |>.map fun d => (.ok d, δ)
  | none => none
theorem x_lenV : eLenV i δ = nk δ δ[i]? := by unfold eLenV nk; split <;> simp_all
theorem nk_imm : nk δ (some (.imm d)) = (dLen d).map fun d => (.ok d, δ) := rfl
theorem nk_own : nk δ (some (.own d)) = (dLen d).map fun d => (.ok d, δ) := rfl
theorem nk_io : nk δ (some (.io d)) = (dLen d).map fun d => (.ok d, δ) := rfl
theorem nk_bor : nk δ (some (.bor d)) = (dLen d).map fun d => (.ok d, δ) := rfl
def hk (neg : Bool) (x : D) (δ : Env) : Option Sl → Re D
  | some s => ((slD s).bind fun c => dIn neg x c).map fun d => (.ok d, δ)
  | none => none
theorem x_inV {neg : Bool} : eInV neg A i δ = bk (fun x δ => hk neg x δ δ[i]?) (A δ) := by
  unfold eInV; rw [x_bind]; congr 1
theorem hk_imm {neg : Bool} {x : D} : hk neg x δ (some (.imm d)) = (dIn neg x d).map fun d => (.ok d, δ) := rfl
theorem hk_own {neg : Bool} {x : D} : hk neg x δ (some (.own d)) = (dIn neg x d).map fun d => (.ok d, δ) := rfl
theorem hk_io {neg : Bool} {x : D} : hk neg x δ (some (.io d)) = (dIn neg x d).map fun d => (.ok d, δ) := rfl
theorem hk_bor {neg : Bool} {x : D} : hk neg x δ (some (.bor d)) = (dIn neg x d).map fun d => (.ok d, δ) := rfl
theorem x_sNx : sNx δ = some (.ok .nx, δ) := rfl
theorem x_pass : sPass δ = some (.ok .nx, δ) := rfl
theorem x_cont : sCont δ = some (.ok .ct, δ) := rfl
theorem x_brk : sBreak δ = some (.ok .bk, δ) := rfl
theorem x_seq {s t : Mo Out} : sSeq s t δ = sk t (s δ) := by
  unfold sSeq sk
  split <;> simp_all
theorem sk_nx {t : Mo Out} : sk t (some (.ok .nx, δ)) = t δ := rfl
theorem sk_rt {t : Mo Out} : sk t (some (.ok (.rt d), δ)) = some (.ok (.rt d), δ) := rfl
theorem sk_rtO {t : Mo Out} : sk t (some (.ok (.rtO d), δ)) = some (.ok (.rtO d), δ) := rfl
theorem sk_ct {t : Mo Out} : sk t (some (.ok .ct, δ)) = some (.ok .ct, δ) := rfl
theorem sk_bk {t : Mo Out} : sk t (some (.ok .bk, δ)) = some (.ok .bk, δ) := rfl
theorem sk_ite {t : Mo Out} {x y : Re Out} : sk t (if p then x else y) = if p then sk t x else sk t y := by split <;> rfl
theorem x_drop : sDrop A δ = bk (fun _ => Mo.ret .nx) (A δ) := x_bind
theorem x_sRet : sRet A δ = bk (fun d => Mo.ret (.rt d)) (A δ) := x_bind
theorem x_sRetO : sRetO A δ = bk (fun d => Mo.ret (.rtO d)) (A δ) := x_bind
theorem x_sIf {T : Mo Bool} {s t : Mo Out} : sIf T s t δ = bk (fun k => if k = true then s else t) (T δ) := x_bind
theorem x_asg {T : D → Mo Unit} : sAsg T A δ = bk (fun d => (T d).bind fun _ => Mo.ret .nx) (A δ) := x_bind
theorem x_asgO : sAsgO i A δ = bk (fun d => (gO i d).bind fun _ => Mo.ret .nx) (A δ) := x_bind
theorem x_gN : gN i d δ = if i < δ.length then some (.ok (), δ.set i (.imm d)) else none := rfl
theorem x_gO : gO i d δ = if i < δ.length then some (.ok (), δ.set i (.own d)) else none := rfl
theorem x_gNil : gNil [] δ = some (.ok (), δ) := rfl
theorem x_gCons {T : D → Mo Unit} {Ts : List D → Mo Unit} {ds : List D} : gCons T Ts (d :: ds) δ = bk (fun _ => Ts ds) (T d δ) := x_bind
theorem x_gTt {n : Nat} {Ts : List D → Mo Unit} {ds : List D} : gT n Ts (.tup ds) δ = if ds.length = n then Ts ds δ else none := by
  show (if ds.length = n then Ts ds else fun _ => none) δ = _
  split <;> rfl
theorem x_gTl {n : Nat} {Ts : List D → Mo Unit} {ds : List D} : gT n Ts (.lst ds) δ = if ds.length = n then Ts ds δ else none := by
  show (if ds.length = n then Ts ds else fun _ => none) δ = _
  split <;> rfl
theorem x_sApp : sApp i A δ = if isLst δ i = true then bk (fun x => (chM i (dAppend x)).bind fun _ => Mo.ret .nx) (A δ) else none := by
  unfold sApp; split <;> first | rfl | exact x_bind
theorem x_sSet : sSet i A B δ = bk (fun v => fun δ => if isSet δ i = true then (A.bind fun k => (chM i (dSet k v)).bind fun _ => Mo.ret .nx) δ else none) (B δ) := x_bind
def ck (i : Nat) (f : D → Option D) (δ : Env) : Option Sl → Re Unit
  | some (.own d) => (f d).map fun d' => (.ok (), δ.set i (.own d'))
  | some (.io d) => (f d).map fun d' => (.ok (), δ.set i (.io d'))
  | _ => none
theorem x_chM {f : D → Option D} : chM i f δ = ck i f δ δ[i]? := by unfold chM ck; split <;> simp_all
theorem ck_own {f : D → Option D} : ck i f δ (some (.own d)) = (f d).map fun d' => (.ok (), δ.set i (.own d')) := rfl
theorem ck_io {f : D → Option D} : ck i f δ (some (.io d)) = (f d).map fun d' => (.ok (), δ.set i (.io d')) := rfl
theorem x_iOf : iOf A δ = bk (fun d => Mo.lift (itD d)) (A δ) := x_bind
theorem x_iRg {f : List D → Option (List D)} {R : Mo (List Ag)} : iRg f R δ = bk (fun as => Mo.lift ((imms as).bind f)) (R δ) := x_bind
theorem x_fn {N n : Nat} {body : Mo Out} : fnM N n body δ = fk n (body (δ ++ List.replicate (N - n) .no)) := by
  unfold fnM fk; split <;> simp_all
theorem fk_rt {n : Nat} : fk n (some (.ok (.rt d), δ)) = some (.ok d, ios n δ) := rfl
theorem fk_nx {n : Nat} : fk n (some (.ok .nx, δ)) = some (.ok .non, ios n δ) := rfl
theorem fk_ite {n : Nat} {x y : Re Out} : fk n (if p then x else y) = if p then fk n x else fk n y := by split <;> rfl
theorem ios_z : ios 0 δ = [] := by cases δ <;> rfl
theorem ios_s {n : Nat} {s : Sl} : ios (n + 1) (s :: δ) = keepIo s :: ios n δ := rfl
theorem keep_io : keepIo (.io d) = .io d := rfl
theorem keep_imm : keepIo (.imm d) = .no := rfl
theorem keep_own : keepIo (.own d) = .no := rfl
theorem keep_bor : keepIo (.bor d) = .no := rfl
theorem keep_no : keepIo .no = .no := rfl
theorem dSub_i {x y : Int} : dSub (.int x) (.int y) = some (.int (x - y)) := rfl
theorem dAdd_i {x y : Int} : dAdd (.int x) (.int y) = some (.int (x + y)) := rfl
theorem dLt_i {x y : Int} : dLt (.int x) (.int y) = some (.bl (decide (x < y))) := rfl
theorem dLe_i {x y : Int} : dLe (.int x) (.int y) = some (.bl (decide (x ≤ y))) := rfl
theorem dGt_i {x y : Int} : dGt (.int x) (.int y) = some (.bl (decide (y < x))) := rfl
theorem dGe_i {x y : Int} : dGe (.int x) (.int y) = some (.bl (decide (y ≤ x))) := rfl
theorem dMod_i {x y : Int} (h : 0 < y) : dMod (.int x) (.int y) = some (.int (x % y)) := by
  show (if cMod x y = true then some (D.int (x % y)) else none) = _
  rw [if_pos (by unfold cMod; exact decide_eq_true h)]
theorem dDiv_i {x y : Int} (h : 0 < y) (h2 : y < 1073741824) : dDiv (.int x) (.int y) = some (.int (x / y)) := by
  show (if cDiv x y = true then some (D.int (x / y)) else none) = _
  rw [if_pos (by unfold cDiv; simp [h, h2])]
theorem dMul_r {x y : Int} (h : -18446744073709551616 < y) (h2 : y < 18446744073709551616) : dMul (.int x) (.int y) = some (.int (x * y)) := by
  show (if cMul x y = true then some (D.int (x * y)) else none) = _
  rw [if_pos (by unfold cMul; simp [h, h2])]
theorem ix_lst {l : List D} {j : Int} : dIx (.lst l) (.int j) = atI l j := rfl
theorem ix_scr {l : List D} {j : Int} : dIx (.scr l) (.int j) = atI l j := rfl
theorem ix_tup {l : List D} {j : Int} : dIx (.tup l) (.int j) = atI l j := rfl
theorem atI_0 {α : Type} {x : α} {l : List α} : atI (x :: l) 0 = some x := atI_nat (n := 0) rfl
theorem atI_1 {α : Type} {x y : α} {l : List α} : atI (x :: y :: l) 1 = some y := atI_nat (n := 1) rfl
theorem atI_2 {α : Type} {x y z : α} {l : List α} : atI (x :: y :: z :: l) 2 = some z := atI_nat (n := 2) rfl
theorem atI_3 {α : Type} {x y z u : α} {l : List α} : atI (x :: y :: z :: u :: l) 3 = some u := atI_nat (n := 3) rfl
end
end M
set_option Elab.async false
set_option linter.all false
set_option maxRecDepth 100000
set_option Elab.async false
set_option linter.all false
set_option maxRecDepth 100000
set_option maxHeartbeats 1000000
namespace M
open PySem L2
def iD (l : List Int) : D := .lst (l.map D.int)
def dkM (as : List Ag) (δ : Env) : Re D → Re D
  | none => none
  | some (r, δc') => match backs as δc' δ with
    | none => none
    | some δ' => some (r, δ')
theorem x_call2 {m : Mo D} {a b : D} {δ : Env} : callM m [.im a, .im b] δ = dkM [.im a, .im b] δ (m [.imm a, .imm b]) := by
  unfold callM dkM argSls argSl
  simp only [argSls, argSl, vrs, vbs, List.nodup_nil, true_and]
  rw [if_pos (fun i h => by simp at h)]
  cases m [.imm a, .imm b] <;> rfl
theorem x_call3 {m : Mo D} {a b c : D} {δ : Env} : callM m [.im a, .im b, .im c] δ = dkM [.im a, .im b, .im c] δ (m [.imm a, .imm b, .imm c]) := by
  unfold callM dkM argSls argSl
  simp only [argSls, argSl, vrs, vbs, List.nodup_nil, true_and]
  rw [if_pos (fun i h => by simp at h)]
  cases m [.imm a, .imm b, .imm c] <;> rfl
theorem dk2 {a b d : D} {s t : Sl} {δ : Env} : dkM [.im a, .im b] δ (some (.ok d, [s, t])) = some (.ok d, δ) := rfl
theorem dk3 {a b c d : D} {s t u : Sl} {δ : Env} : dkM [.im a, .im b, .im c] δ (some (.ok d, [s, t, u])) = some (.ok d, δ) := rfl
def iLk : Option Sl → Bool
  | some (.own (.lst _)) => true
  | some (.io (.lst _)) => true
  | _ => false
def iSk : Option Sl → Bool
  | some (.own _) => true
  | some (.io _) => true
  | _ => false
theorem x_isLst {δ : Env} {i : Nat} : isLst δ i = iLk δ[i]? := rfl
theorem x_isSet {δ : Env} {i : Nat} : isSet δ i = iSk δ[i]? := rfl
theorem iLk_l {l : List D} : iLk (some (.own (.lst l))) = true := rfl
theorem iSk_own {d : D} : iSk (some (.own d)) = true := rfl
theorem iSk_io {d : D} : iSk (some (.io d)) = true := rfl
theorem at_map {α : Type} {f : α → D} {l : List α} {i : Nat} {x : α} (h : l[i]? = some x) : atI (l.map f) (i : Int) = some (f x) := atI_nat (by rw [List.getElem?_map, h]; rfl)
theorem putA_new {κ α : Type} [DecidableEq κ] : ∀ {l : List (κ × α)} {k : κ} {v : α}, (∀ p ∈ l, p.1 ≠ k) → putA l k v = l ++ [(k, v)] := fun {l k v} h => by
  unfold putA
  rw [if_neg]
  simp only [List.any_eq_true, decide_eq_true_eq, not_exists, not_and]
  exact fun p hp => h p hp
theorem dApp_l {x : D} {l : List D} (hl : l.length ≤ 1000) : dAppend x (.lst l) = some (.lst (l ++ [x])) := by
  show (if l.length < sizeLine then _ else none) = _
  rw [if_pos (small1000 hl)]
theorem minL_ex : ∀ {l : List Int}, l ≠ [] → ∃ m, minL l = some m ∧ m ∈ l ∧ ∀ x ∈ l, m ≤ x
  | [], h => absurd rfl h
  | x :: l, _ => by
    refine ⟨_, rfl, ?_, fun y hy => ?_⟩
    · rcases (foldl_min l x).1 with h | h
      · rw [h]; exact List.mem_cons_self
      · exact List.mem_cons_of_mem _ h
    · obtain ⟨_, h2, h3⟩ := foldl_min l x
      rcases List.mem_cons.mp hy with rfl | hy
      · exact h2
      · exact h3 y hy
theorem intsD_map : ∀ l : List Int, intsD (l.map D.int) = some l
  | [] => rfl
  | x :: l => by rw [List.map_cons]; unfold intsD; rw [intsD_map l]; rfl
theorem fMin_i {l : List Int} {m : Int} (h : minL l = some m) : fMin [iD l] = some (.int m) := by
  unfold fMin lstInts iD
  simp only [intsD_map, Option.bind_some, h, Option.map_some]
theorem call_of {m : Mo D} {as : List Ag} {δ δc δc' δ' : Env} {r : D} (h1 : argSls δ as = some δc) (h2 : (vrs as).Nodup ∧ ∀ i ∈ vbs as, i ∉ vrs as) (h3 : m δc = some (.ok r, δc')) (h4 : backs as δc' δ = some δ') : callM m as δ = some (.ok r, δ') := by
  unfold callM
  rw [h1]
  simp only []
  rw [if_pos h2, h3]
  simp only [h4]
theorem fInt_i {x : Int} : fInt [.int x] = some (.int x) := rfl
theorem fAbs_i {x : Int} : fAbs [.int x] = some (.int (if x < 0 then -x else x)) := rfl
theorem fLen_lst {l : List D} : fLen [.lst l] = some (.int (l.length : Nat)) := rfl
theorem ssq {a b : Mo Out} {δ δ1 : Env} {r : Re Out} (h : a δ = some (.ok .nx, δ1)) (h2 : b δ1 = r) : sSeq a b δ = r := by rw [sSeq_ok h]; exact h2
theorem sIf_t {T : Mo Bool} {a b : Mo Out} {δ δ1 : Env} (h : T δ = some (.ok true, δ1)) : sIf T a b δ = a δ1 := by rw [x_sIf, h]; rfl
theorem sIf_f {T : Mo Bool} {a b : Mo Out} {δ δ1 : Env} (h : T δ = some (.ok false, δ1)) : sIf T a b δ = b δ1 := by rw [x_sIf, h]; rfl
theorem call_v1 {m : Mo D} {a d d' r : D} {s : Sl} {δ : Env} (hm : m [.io d, .imm a] = some (.ok r, [.io d', s])) : callM m [.vr 0, .im a] (.io d :: δ) = some (.ok r, .io d' :: δ) :=
  call_of (by simp only [argSls, argSl, List.getElem?_cons_zero]) ⟨by simp [vrs], by simp [vbs]⟩ hm (by simp only [backs, List.getElem?_cons_zero, List.set_cons_zero])
theorem lay_all : ∀ {l : List D}, (∀ d ∈ l, (toPy d).canLay0 = true) → PyData.canLayAll0 (toPys l) = true
  | [], _ => rfl
  | d :: l, h => by
    unfold toPys PyData.canLayAll0
    rw [h d List.mem_cons_self, lay_all fun e m => h e (List.mem_cons_of_mem _ m)]; rfl
theorem dep_all {k : Nat} : ∀ {l : List D}, (∀ d ∈ l, (toPy d).depth ≤ k) → PyData.depthAll (toPys l) ≤ k
  | [], _ => Nat.zero_le _
  | d :: l, h => by
    unfold toPys PyData.depthAll
    have h1 := h d List.mem_cons_self
    have h2 := dep_all fun e m => h e (List.mem_cons_of_mem _ m)
    omega
theorem eqv_all : ∀ {l : List D}, (∀ d ∈ l, PyData.eqv (toPy d) (toPy d) = true) → PyData.eqvAll (toPys l) (toPys l) = true
  | [], _ => by unfold toPys PyData.eqvAll; rfl
  | d :: l, h => by
    unfold toPys PyData.eqvAll
    rw [h d List.mem_cons_self, eqv_all fun e m => h e (List.mem_cons_of_mem _ m)]; rfl
structure Fine (d : D) : Prop where
  lay : (toPy d).canLay0 = true
  dep : (toPy d).depth ≤ 20
  rfl : PyData.eqv (toPy d) (toPy d) = true
theorem fine_int (i : Int) : Fine (.int i) := ⟨rfl, by unfold toPy PyData.depth; omega, by unfold toPy PyData.eqv; simp⟩
theorem fine_shp {d : D} (h : Fine d) : shp d = true := by
  unfold shp SeqAt.shaped
  rw [Bool.and_eq_true]
  exact ⟨h.lay, decide_eq_true (by have := h.dep; omega)⟩
theorem fine_lst {k : Nat} {l : List D} (hk : k < 20) (h : ∀ d ∈ l, Fine d ∧ (toPy d).depth ≤ k) : Fine (.lst l) ∧ (toPy (.lst l)).depth ≤ k + 1 := by
  have h1 : (toPy (.lst l)).depth ≤ k + 1 := by
    have := dep_all fun d m => (h d m).2
    unfold toPy PyData.depth; omega
  exact ⟨⟨lay_all fun d m => (h d m).1.lay, by omega, by unfold toPy PyData.eqv; exact eqv_all fun d m => (h d m).1.rfl⟩, h1⟩
theorem fine_tup {k : Nat} {l : List D} (hk : k < 20) (h : ∀ d ∈ l, Fine d ∧ (toPy d).depth ≤ k) : Fine (.tup l) ∧ (toPy (.tup l)).depth ≤ k + 1 := by
  have h1 : (toPy (.tup l)).depth ≤ k + 1 := by
    have := dep_all fun d m => (h d m).2
    unfold toPy PyData.depth; omega
  exact ⟨⟨lay_all fun d m => (h d m).1.lay, by omega, by unfold toPy PyData.eqv; exact eqv_all fun d m => (h d m).1.rfl⟩, h1⟩
theorem fine_int' (i : Int) : Fine (.int i) ∧ (toPy (.int i)).depth ≤ 0 := ⟨fine_int i, by unfold toPy PyData.depth; omega⟩
theorem fine_iD (l : List Int) : Fine (iD l) := (fine_lst (k := 0) (by omega) fun d m => by
  obtain ⟨i, _, rfl⟩ := List.mem_map.mp m; exact fine_int' i).1
theorem dNe_rfl {d : D} (h : Fine d) : dNe d d = some (.bl false) := by
  unfold dNe; rw [if_pos ⟨fine_shp h, fine_shp h⟩, h.rfl]; rfl
theorem take_snoc {α : Type} {l : List α} {k : Nat} {x : α} (h : l[k]? = some x) : l.take (k + 1) = l.take k ++ [x] := by rw [List.take_add_one, h]; rfl
theorem rgD_get {n k : Nat} {d : D} (h : (rgD 0 n)[k]? = some d) : k < n ∧ d = .int (k : Int) := by
  unfold rgD at h
  rw [List.getElem?_map] at h
  by_cases c : k < n
  · rw [List.getElem?_range c] at h; cases h; exact ⟨c, by simp⟩
  · rw [List.getElem?_eq_none (by rw [List.length_range]; omega)] at h; cases h
theorem rgD_len {lo : Int} {n : Nat} : (rgD lo n).length = n := by unfold rgD; rw [List.length_map, List.length_range]
theorem fLen_iD {l : List Int} : fLen [iD l] = some (.int ((l.length : Nat) : Int)) := by
  show some (D.int (((l.map D.int).length : Nat) : Int)) = _
  rw [List.length_map]
theorem rg1_n {n : Nat} (h : n ≤ 1000) : rg1 [.int (n : Int)] = some (rgD 0 n) := by
  show (if (n : Int) ≤ 16777216 ∧ -16777216 ≤ (n : Int) then some (rgD 0 ((n : Int)).toNat) else none) = _
  rw [if_pos ⟨by omega, by omega⟩, Int.toNat_natCast]
theorem x_call1 {m : Mo D} {a : D} {δ : Env} : callM m [.im a] δ = dkM [.im a] δ (m [.imm a]) := by
  unfold callM dkM argSls argSl
  simp only [argSls, argSl, vrs, vbs, List.nodup_nil, true_and]
  rw [if_pos (fun i h => by simp at h)]
  cases m [.imm a] <;> rfl
theorem x_call4 {m : Mo D} {a b c d : D} {δ : Env} : callM m [.im a, .im b, .im c, .im d] δ = dkM [.im a, .im b, .im c, .im d] δ (m [.imm a, .imm b, .imm c, .imm d]) := by
  unfold callM dkM argSls argSl
  simp only [argSls, argSl, vrs, vbs, List.nodup_nil, true_and]
  rw [if_pos (fun i h => by simp at h)]
  cases m [.imm a, .imm b, .imm c, .imm d] <;> rfl
theorem dk1 {a d : D} {s : Sl} {δ : Env} : dkM [.im a] δ (some (.ok d, [s])) = some (.ok d, δ) := rfl
theorem dk4 {a b c e d : D} {s t u v : Sl} {δ : Env} : dkM [.im a, .im b, .im c, .im e] δ (some (.ok d, [s, t, u, v])) = some (.ok d, δ) := rfl
theorem has_iD {v : Int} : ∀ {l : List Int}, hasPy (.int v) (l.map D.int) = decide (v ∈ l)
  | [] => rfl
  | x :: l => by
    have ih := has_iD (v := v) (l := l)
    unfold hasPy at ih ⊢
    rw [List.map_cons, toPys, List.any_cons, ih]
    show (PyData.eqv (toPy (.int x)) (toPy (.int v)) || _) = _
    unfold toPy PyData.eqv
    by_cases c : x = v
    · subst c; simp
    · simp [c, Ne.symm c]
theorem dIn_iD {neg : Bool} {v : Int} {l : List Int} : dIn neg (.int v) (iD l) = some (.bl (if neg then !decide (v ∈ l) else decide (v ∈ l))) := by
  show (if shp (.int v) = true ∧ shp (.lst (l.map D.int)) = true then some (D.bl (if neg then !hasPy (.int v) (l.map D.int) else hasPy (.int v) (l.map D.int))) else none) = _
  rw [if_pos ⟨fine_shp (fine_int v), fine_shp (fine_iD l)⟩, has_iD]
theorem lst_app {l m : List D} (h : l.length ≤ 1000) (h2 : m.length ≤ 1000) : dAdd (.lst l) (.lst m) = some (.lst (l ++ m)) := by
  show (if l.length + m.length ≤ sizeLine then _ else none) = _
  rw [if_pos (by have := small1000 (show 1000 ≤ 1000 by omega); rw [sizeLine_eq]; omega)]
section
variable {α : Type} {I : Mo (List D)} {T : D → Mo Unit} {C : Mo Bool} {E Ek Ev : Mo D} {vs : List Nat} {δ δ0 : Env} {l : List α} {g : α → D} {p : α → Bool} {f : α → D} {fi : α → Int} {kk : α → List Key}
def TurnOk (T : D → Mo Unit) (C : Mo Bool) (E : Mo D) (vs : List Nat) (δ : Env) (x : D) (p : Bool) (y : D) : Prop :=
  ∃ δ1 δ2, T x δ = some (.ok (), δ1) ∧ C δ1 = some (.ok p, δ2) ∧ (p = false → wipeE δ2 vs = δ) ∧ (p = true → ∃ δ3, E δ2 = some (.ok y, δ3) ∧ wipeE δ3 vs = δ)
theorem lcM_a : ∀ (l : List α) (acc : List D), (∀ a ∈ l, TurnOk T C E vs δ (g a) (p a) (f a)) → lcM T C E vs (l.map g) acc δ = some (.ok (.lst (acc ++ (l.filter p).map f)), δ)
  | [], acc, _ => by unfold lcM; simp
  | a :: l, acc, h => by
    obtain ⟨δ1, δ2, h1, h2, h3, h4⟩ := h a List.mem_cons_self
    rw [List.map_cons]
    unfold lcM
    simp only [h1, h2]
    cases hp : p a with
    | false =>
      simp only [hp]
      rw [h3 hp, lcM_a l acc fun d' m => h d' (List.mem_cons_of_mem _ m), List.filter_cons_of_neg (by rw [hp]; simp)]
    | true =>
      obtain ⟨δ3, h5, h6⟩ := h4 hp
      simp only [hp, h5]
      rw [h6, lcM_a l (acc ++ [f a]) fun d' m => h d' (List.mem_cons_of_mem _ m), List.filter_cons_of_pos hp, List.map_cons, List.append_assoc]; rfl
theorem eLc_map (hi : I δ = some (.ok (l.map g), δ0)) (hl : l.length ≤ 1000) (h : ∀ a ∈ l, TurnOk T C E vs (wipeE δ0 vs) (g a) (p a) (f a)) : eLc I T C E vs δ = some (.ok (.lst ((l.filter p).map f)), wipeE δ0 vs) := by
  unfold eLc
  rw [bind_ok hi, if_pos (by rw [List.length_map]; exact small_line hl), lcM_a l [] h]; rfl
theorem scM_a : ∀ (l : List α) (acc : List Int), (∀ a ∈ l, TurnOk T C E vs δ (g a) (p a) (.int (fi a))) → scM T C E vs (l.map g) acc δ = some (.ok (acc ++ (l.filter p).map fi), δ)
  | [], acc, _ => by unfold scM; simp
  | a :: l, acc, h => by
    obtain ⟨δ1, δ2, h1, h2, h3, h4⟩ := h a List.mem_cons_self
    rw [List.map_cons]
    unfold scM
    simp only [h1, h2]
    cases hp : p a with
    | false =>
      simp only [hp]
      rw [h3 hp, scM_a l acc fun d' m => h d' (List.mem_cons_of_mem _ m), List.filter_cons_of_neg (by rw [hp]; simp)]
    | true =>
      obtain ⟨δ3, h5, h6⟩ := h4 hp
      simp only [hp, h5]
      rw [h6, scM_a l (acc ++ [fi a]) fun d' m => h d' (List.mem_cons_of_mem _ m), List.filter_cons_of_pos hp, List.map_cons, List.append_assoc]; rfl
theorem eSc_map (hi : I δ = some (.ok (l.map g), δ0)) (hl : l.length < 64) (h : ∀ a ∈ l, TurnOk T C E vs (wipeE δ0 vs) (g a) (p a) (.int (fi a))) : eSortSc I T C E vs δ = some (.ok (iD (sortSet ((l.filter p).map fi))), wipeE δ0 vs) := by
  unfold eSortSc
  rw [bind_ok hi]
  unfold eSc0
  rw [if_pos (by rw [List.length_map]; exact hl), scM_a l [] h]; rfl
/-- the keys tuples, told in another way: all apart -/
def TurnKV (T : D → Mo Unit) (C : Mo Bool) (Ek Ev : Mo D) (vs : List Nat) (δ : Env) (x : D) (p : Bool) (k : List Key) (y : D) : Prop :=
  ∃ δ1 δ2, T x δ = some (.ok (), δ1) ∧ C δ1 = some (.ok p, δ2) ∧ (p = false → wipeE δ2 vs = δ) ∧ (p = true → ∃ kd δ3 δ4, Ek δ2 = some (.ok kd, δ3) ∧ keyT kd = some k ∧ Ev δ3 = some (.ok y, δ4) ∧ wipeE δ4 vs = δ)
theorem dcTM_a : ∀ (l : List α) (acc : List (List Key × D)), (∀ a ∈ l, TurnKV T C Ek Ev vs δ (g a) (p a) (kk a) (f a)) → (l.map kk).Nodup → (∀ a ∈ l, ∀ q ∈ acc, q.1 ≠ kk a) →
    dcTM T C Ek Ev vs (l.map g) acc δ = some (.ok (.dT (acc ++ (l.filter p).map fun a => (kk a, f a))), δ)
  | [], acc, _, _, _ => by unfold dcTM; simp
  | a :: l, acc, h, nd, ap => by
    obtain ⟨δ1, δ2, h1, h2, h3, h4⟩ := h a List.mem_cons_self
    rw [List.map_cons] at nd
    obtain ⟨n1, n2⟩ := List.nodup_cons.mp nd
    rw [List.map_cons]
    unfold dcTM
    simp only [h1, h2]
    cases hp : p a with
    | false =>
      simp only [hp]
      rw [h3 hp, dcTM_a l acc (fun d' m => h d' (List.mem_cons_of_mem _ m)) n2 (fun d' m => ap d' (List.mem_cons_of_mem _ m)), List.filter_cons_of_neg (by rw [hp]; simp)]
    | true =>
      obtain ⟨kd, δ3, δ4, h5, h6, h7, h8⟩ := h4 hp
      simp only [hp, h5, h7, h6]
      have hput : putA acc (kk a) (f a) = acc ++ [(kk a, f a)] := putA_new fun q hq => ap a List.mem_cons_self q hq
      rw [h8, hput, dcTM_a l (acc ++ [(kk a, f a)]) (fun d' m => h d' (List.mem_cons_of_mem _ m)) n2 (fun d' m q hq => by
        rcases List.mem_append.mp hq with hq | hq
        · exact ap d' (List.mem_cons_of_mem _ m) q hq
        · rw [List.mem_singleton.mp hq]
          intro c
          exact n1 (List.mem_map.mpr ⟨d', m, c.symm⟩)), List.filter_cons_of_pos hp, List.map_cons, List.append_assoc]; rfl
theorem eDcT_map (hi : I δ = some (.ok (l.map g), δ0)) (hl : l.length ≤ 1000) (nd : (l.map kk).Nodup) (h : ∀ a ∈ l, TurnKV T C Ek Ev vs (wipeE δ0 vs) (g a) (p a) (kk a) (f a)) : eDcT I T C Ek Ev vs δ = some (.ok (.dT ((l.filter p).map fun a => (kk a, f a))), wipeE δ0 vs) := by
  unfold eDcT
  rw [bind_ok hi, if_pos (by rw [List.length_map]; exact small1000 hl), dcTM_a l [] h nd (fun _ _ q hq => by simp at hq)]; rfl
end
def oI : Option Int → D
  | none => .non
  | some i => .int i
theorem forM_ret {T : D → Mo Unit} {S : Mo Out} {F : Nat → Env} {z : D} {dm : D} {δ2 : Env} : ∀ (ds : List D) (k m : Nat), ds[m]? = some dm →
    (∀ i d, i < m → ds[i]? = some d → ∃ δ1, T d (F (k + i)) = some (.ok (), δ1) ∧ (S δ1 = some (.ok .nx, F (k + i + 1)) ∨ S δ1 = some (.ok .ct, F (k + i + 1)))) →
    (∃ δ1, T dm (F (k + m)) = some (.ok (), δ1) ∧ S δ1 = some (.ok (.rt z), δ2)) → forM T S ds (F k) = some (.ok (.rt z), δ2)
  | [], k, m, h, _, _ => by simp at h
  | d :: ds, k, 0, h, _, hr => by
    simp at h; subst h
    obtain ⟨δ1, a, b⟩ := hr
    unfold forM
    rw [bind_ok (by simpa using a)]
    simp only [b]
  | d :: ds, k, m + 1, h, st, hr => by
    obtain ⟨δ1, a, b⟩ := st 0 d (by omega) rfl
    have ih := forM_ret (F := F) ds (k + 1) m (by simpa using h) (fun i d' hi hd => by
      have := st (i + 1) d' (by omega) (by simpa using hd)
      rw [show k + (i + 1) = k + 1 + i by omega] at this
      exact this) (by rw [show k + 1 + m = k + (m + 1) by omega]; exact hr)
    unfold forM
    rw [bind_ok (by simpa using a)]
    rcases b with b | b
    · rw [show k + 0 + 1 = k + 1 by omega] at b
      simp only [b]; exact ih
    · rw [show k + 0 + 1 = k + 1 by omega] at b
      simp only [b]; exact ih
theorem sFor_ret {I : Mo (List D)} {T : D → Mo Unit} {S : Mo Out} {δ δ0 δ2 : Env} {ds : List D} {F : Nat → Env} {m : Nat} {dm z : D} (hi : I δ = some (.ok ds, δ0)) (h0 : δ0 = F 0) (hm : ds[m]? = some dm)
    (st : ∀ i d, i < m → ds[i]? = some d → ∃ δ1, T d (F i) = some (.ok (), δ1) ∧ (S δ1 = some (.ok .nx, F (i + 1)) ∨ S δ1 = some (.ok .ct, F (i + 1))))
    (rt : ∃ δ1, T dm (F m) = some (.ok (), δ1) ∧ S δ1 = some (.ok (.rt z), δ2)) : sFor I T S δ = some (.ok (.rt z), δ2) := by
  unfold sFor
  rw [bind_ok hi, h0]
  refine forM_ret ds 0 m hm (fun i d hi hd => ?_) (by rw [Nat.zero_add]; exact rt)
  rw [Nat.zero_add]; exact st i d hi hd
theorem getmap {α : Type} {g : α → D} {l : List α} {i : Nat} {d : D} (h : (l.map g)[i]? = some d) : ∃ v, l[i]? = some v ∧ d = g v := by
  rw [List.getElem?_map] at h
  cases q : l[i]? with
  | none => rw [q] at h; cases h
  | some v => rw [q] at h; cases h; exact ⟨v, rfl, rfl⟩
end M
set_option Elab.async false
set_option linter.all false
set_option maxRecDepth 100000
namespace M
open PySem L2
section
variable {δ δ1 δ2 : Env} {a b c : Mo Out} {T : Mo Bool} {r : Re Out} {d : D} {N n : Nat} {body : Mo Out}
theorem fn_rt (h : body (δ ++ List.replicate (N - n) .no) = some (.ok (.rt d), δ1)) : fnM N n body δ = some (.ok d, ios n δ1) := by rw [x_fn, h]; rfl
theorem sf {a b : Mo Out} (h : T δ = some (.ok false, δ1)) (h2 : b δ1 = r) : sIf T a b δ = r := by rw [sIf_f h]; exact h2
theorem st {a b : Mo Out} (h : T δ = some (.ok true, δ1)) (h2 : a δ1 = r) : sIf T a b δ = r := by rw [sIf_t h]; exact h2
/-- a test that does not hold, nothing else -/
theorem ssq_f (h : T δ = some (.ok false, δ1)) (h2 : c δ1 = r) : sSeq (sIf T a sNx) c δ = r := ssq (sf h rfl) h2
theorem ssq_t (h : T δ = some (.ok true, δ1)) (h2 : sSeq a c δ1 = r) : sSeq (sIf T a b) c δ = r := by
  rw [x_seq, sIf_t h]; rw [x_seq] at h2; exact h2
theorem s1f (h : T δ = some (.ok false, δ1)) : sIf T a sNx δ = some (.ok .nx, δ1) := sf h rfl
theorem ssq_rt (h : a δ = some (.ok (.rt d), δ1)) : sSeq a b δ = some (.ok (.rt d), δ1) := by rw [x_seq, h]; rfl
end
theorem x_eSl {f : D → Option Int → Option Int → Option D} {E : Mo D} {L U : Mo (Option Int)} {δ : Env} : eSl f E L U δ = bk (fun d => L.bind fun l => U.bind fun u => Mo.lift (f d l u)) (E δ) := x_bind
theorem x_eP0 {δ : Env} : eP0 δ = some (.ok none, δ) := rfl
theorem x_eP1 {E : Mo D} {δ : Env} : eP1 E δ = bk (fun d => Mo.lift (dPart d)) (E δ) := x_bind
theorem part_i {i : Int} : dPart (.int i) = some (some i) := rfl
end M
namespace M
open PySem L2
theorem lcM_acc {T : D → Mo Unit} {E : Mo D} {vs : List Nat} (Inv : List D → Env → Prop) : ∀ (ds acc : List D) (δ : Env), Inv acc δ →
    (∀ i x acc' δ, ds[i]? = some x → acc'.length = acc.length + i → Inv acc' δ → ∃ δ1 y δ3, T x δ = some (.ok (), δ1) ∧ E δ1 = some (.ok y, δ3) ∧ Inv (acc' ++ [y]) (wipeE δ3 vs)) →
    ∃ ys δ', lcM T tYesM E vs ds acc δ = some (.ok (.lst (acc ++ ys)), δ') ∧ Inv (acc ++ ys) δ' ∧ ys.length = ds.length
  | [], acc, δ, h, _ => ⟨[], δ, by unfold lcM; rw [List.append_nil], by rw [List.append_nil]; exact h, rfl⟩
  | x :: ds, acc, δ, h, st => by
    obtain ⟨δ1, y, δ3, h1, h2, h3⟩ := st 0 x acc δ rfl rfl h
    have hy : ∀ δ, tYesM δ = some (.ok true, δ) := fun _ => rfl
    obtain ⟨ys, δ', e, i, l⟩ := lcM_acc Inv ds (acc ++ [y]) (wipeE δ3 vs) h3 fun i x' acc' δ hd hl hi => st (i + 1) x' acc' δ (by simpa using hd) (by rw [hl, List.length_append, List.length_singleton]; omega) hi
    refine ⟨y :: ys, δ', ?_, by rw [List.append_assoc] at i; exact i, by rw [List.length_cons, List.length_cons, l]⟩
    unfold lcM
    simp only [h1, hy, h2]
    rw [e, List.append_assoc]; rfl
theorem eLc_acc {I : Mo (List D)} {T : D → Mo Unit} {E : Mo D} {vs : List Nat} {δ δ0 : Env} {ds : List D} (Inv : List D → Env → Prop) (hi : I δ = some (.ok ds, δ0)) (hl : ds.length ≤ 1000) (h0 : Inv [] (wipeE δ0 vs))
    (st : ∀ i x acc δ, ds[i]? = some x → acc.length = i → Inv acc δ → ∃ δ1 y δ3, T x δ = some (.ok (), δ1) ∧ E δ1 = some (.ok y, δ3) ∧ Inv (acc ++ [y]) (wipeE δ3 vs)) :
    ∃ ys δ', eLc I T tYesM E vs δ = some (.ok (.lst ys), δ') ∧ Inv ys δ' ∧ ys.length = ds.length := by
  obtain ⟨ys, δ', e, i, l⟩ := lcM_acc Inv ds [] (wipeE δ0 vs) h0 fun i x acc δ h1 h2 h3 => st i x acc δ h1 (by simpa using h2) h3
  refine ⟨ys, δ', ?_, by simpa using i, l⟩
  unfold eLc
  rw [bind_ok hi, if_pos (small_line hl), e]; rfl
end M
set_option Elab.async false
set_option linter.all false
set_option maxRecDepth 100000
set_option maxHeartbeats 1000000
namespace M
open PySem L2
def plD (ns : List Int) (x p : Int) : D := .lst [.int x, .lst (ns.map D.int), .int p]
def IsPl (ns : List Int) (d : D) : Prop := ∃ x p : Int, -1 ≤ p ∧ d = plD ns x p
theorem dSet3_0 {a b c v : D} : dSet (.int 0) v (.lst [a, b, c]) = some (.lst [v, b, c]) := rfl
theorem dSet3_2 {a b c v : D} : dSet (.int 2) v (.lst [a, b, c]) = some (.lst [a, b, v]) := rfl
theorem wide_tail {KL KA KB KM KC KQ : Int} (k2 : ∀ x : Int, dMul (.int x) (.int KA) = some (.int (x * KA))) (k3 : ∀ x : Int, dMul (.int x) (.int KB) = some (.int (x * KB))) (k4 : ∀ x : Int, dMul (.int x) (.int KC) = some (.int (x * KC))) (m1 : ∀ x : Int, dMod (.int x) (.int KM) = some (.int (x % KM))) (q1 : ∀ x : Int, dDiv (.int x) (.int KQ) = some (.int (x / KQ))) {a b : Sl} {p c : Int} : ∃ t : Int,
    fk 2 (sSeq (sIf (eB (eBin dGe (eV 2) (eC (.int KL))))
 (sRet (eV 2))
 sNx)
 (sSeq (sAsg (gN 3) (eBin dMod (eF fInt (aCons (eBin dAdd (eBin dMul (eBin dAdd (eV 2) (eC (.int 1))) (eC (.int KA))) (eBin dMul (eBin dAdd (eV 1) (eC (.int 1))) (eC (.int KB)))) aNil)) (eC (.int KM))))
 (sRet (eBin dMod (eF fInt (aCons (eBin dAdd (eBin dMul (eV 3) (eC (.int KC))) (eBin dDiv (eV 3) (eC (.int KQ)))) aNil)) (eC (.int KM))))) [.imm (.lst (List.map D.int b')), .imm (.int p), .imm (.int c), .no]) = some (.ok (.int t), [.no, .no]) := by
  have hc : (eB (eBin dGe (eV 2) (eC (.int KL)))) [.imm (.lst (List.map D.int b')), .imm (.int p), .imm (.int c), .no] = some (.ok (decide (KL ≤ c)), [.imm (.lst (List.map D.int b')), .imm (.int p), .imm (.int c), .no]) := by
    simp only [x_bind, bk_ok, bk_ite, x_ret, x_lift, lk_some, lk_ite, app_ite, x_eC, x_eV, vk_imm, vk_own, vk_bor, x_give, gk_own, x_bin, x_un, x_ix, x_tru, x_eB, dBl_bl, dTru_bl, dTru_int, dTru_lst, x_and, x_or, x_not, x_eAnd, x_eOr, x_eNot, x_eIf, x_chain, x_aNil, x_aCons, x_aVr, rk_own, rk_io, x_aVb, tk_own, tk_io, tk_imm, tk_bor, x_eTup, x_eLst, imms_nil, imms_im, x_eF, x_call, ixV_C, jk_imm, jk_own, jk_io, jk_bor, flk_int, x_lenV, nk_imm, nk_own, nk_io, nk_bor, x_inV, hk_imm, hk_own, hk_io, hk_bor, x_sNx, x_pass, x_cont, x_brk, x_seq, sk_nx, sk_rt, sk_rtO, sk_ct, sk_bk, sk_ite, x_drop, x_sRet, x_sRetO, x_sIf, x_asg, x_asgO, x_gN, x_gO, x_gNil, x_gCons, x_gTt, x_gTl, x_sApp, x_sSet, x_chM, ck_own, ck_io, x_iOf, x_iRg, x_fn, fk_rt, fk_nx, fk_ite, ios_z, ios_s, keep_io, keep_imm, keep_own, keep_bor, keep_no, dSub_i, dAdd_i, dLt_i, dLe_i, dGt_i, dGe_i, dEq_int, dNe_int, ix_lst, ix_scr, ix_tup, atI_0, atI_1, atI_2, atI_3, List.getElem?_cons_zero, List.getElem?_cons_succ, List.set_cons_zero, List.set_cons_succ, List.length_cons, List.length_nil, List.cons_append, List.nil_append, List.replicate_succ, List.replicate_zero, Option.map_some, Option.bind_some, Nat.reduceAdd, Nat.reduceSub, Nat.reduceLT, Nat.reduceLeDiff, if_true, if_false, Bool.false_eq_true, decide_eq_true_eq, reduceIte, ne_eq, not_false_eq_true, Nat.lt_add_left_iff_pos, Nat.zero_lt_succ, x_call1, x_call2, x_call3, x_call4, dk1, dk2, dk3, dk4, ixV_V, Nat.reduceEqDiff, not_false_eq_true, x_isLst, x_isSet, List.map_cons, List.map_nil, Option.map_none, Option.bind_none]
  by_cases h : KL ≤ c
  · rw [decide_eq_true h] at hc
    refine ⟨c, ?_⟩
    rw [x_seq, sIf_t hc]
    simp only [x_bind, bk_ok, bk_ite, x_ret, x_lift, lk_some, lk_ite, app_ite, x_eC, x_eV, vk_imm, vk_own, vk_bor, x_give, gk_own, x_bin, x_un, x_ix, x_tru, x_eB, dBl_bl, dTru_bl, dTru_int, dTru_lst, x_and, x_or, x_not, x_eAnd, x_eOr, x_eNot, x_eIf, x_chain, x_aNil, x_aCons, x_aVr, rk_own, rk_io, x_aVb, tk_own, tk_io, tk_imm, tk_bor, x_eTup, x_eLst, imms_nil, imms_im, x_eF, x_call, ixV_C, jk_imm, jk_own, jk_io, jk_bor, flk_int, x_lenV, nk_imm, nk_own, nk_io, nk_bor, x_inV, hk_imm, hk_own, hk_io, hk_bor, x_sNx, x_pass, x_cont, x_brk, x_seq, sk_nx, sk_rt, sk_rtO, sk_ct, sk_bk, sk_ite, x_drop, x_sRet, x_sRetO, x_sIf, x_asg, x_asgO, x_gN, x_gO, x_gNil, x_gCons, x_gTt, x_gTl, x_sApp, x_sSet, x_chM, ck_own, ck_io, x_iOf, x_iRg, x_fn, fk_rt, fk_nx, fk_ite, ios_z, ios_s, keep_io, keep_imm, keep_own, keep_bor, keep_no, dSub_i, dAdd_i, dLt_i, dLe_i, dGt_i, dGe_i, dEq_int, dNe_int, ix_lst, ix_scr, ix_tup, atI_0, atI_1, atI_2, atI_3, List.getElem?_cons_zero, List.getElem?_cons_succ, List.set_cons_zero, List.set_cons_succ, List.length_cons, List.length_nil, List.cons_append, List.nil_append, List.replicate_succ, List.replicate_zero, Option.map_some, Option.bind_some, Nat.reduceAdd, Nat.reduceSub, Nat.reduceLT, Nat.reduceLeDiff, if_true, if_false, Bool.false_eq_true, decide_eq_true_eq, reduceIte, ne_eq, not_false_eq_true, Nat.lt_add_left_iff_pos, Nat.zero_lt_succ, x_call1, x_call2, x_call3, x_call4, dk1, dk2, dk3, dk4, ixV_V, Nat.reduceEqDiff, not_false_eq_true, x_isLst, x_isSet, List.map_cons, List.map_nil, Option.map_none, Option.bind_none]
  · rw [decide_eq_false h] at hc
    refine ⟨(((c + 1) * KA + (p + 1) * KB) % KM * KC + ((c + 1) * KA + (p + 1) * KB) % KM / KQ) % KM, ?_⟩
    rw [x_seq, sIf_f hc, x_sNx, sk_nx]
    simp only [x_bind, bk_ok, bk_ite, x_ret, x_lift, lk_some, lk_ite, app_ite, x_eC, x_eV, vk_imm, vk_own, vk_bor, x_give, gk_own, x_bin, x_un, x_ix, x_tru, x_eB, dBl_bl, dTru_bl, dTru_int, dTru_lst, x_and, x_or, x_not, x_eAnd, x_eOr, x_eNot, x_eIf, x_chain, x_aNil, x_aCons, x_aVr, rk_own, rk_io, x_aVb, tk_own, tk_io, tk_imm, tk_bor, x_eTup, x_eLst, imms_nil, imms_im, x_eF, x_call, ixV_C, jk_imm, jk_own, jk_io, jk_bor, flk_int, x_lenV, nk_imm, nk_own, nk_io, nk_bor, x_inV, hk_imm, hk_own, hk_io, hk_bor, x_sNx, x_pass, x_cont, x_brk, x_seq, sk_nx, sk_rt, sk_rtO, sk_ct, sk_bk, sk_ite, x_drop, x_sRet, x_sRetO, x_sIf, x_asg, x_asgO, x_gN, x_gO, x_gNil, x_gCons, x_gTt, x_gTl, x_sApp, x_sSet, x_chM, ck_own, ck_io, x_iOf, x_iRg, x_fn, fk_rt, fk_nx, fk_ite, ios_z, ios_s, keep_io, keep_imm, keep_own, keep_bor, keep_no, dSub_i, dAdd_i, dLt_i, dLe_i, dGt_i, dGe_i, dEq_int, dNe_int, ix_lst, ix_scr, ix_tup, atI_0, atI_1, atI_2, atI_3, List.getElem?_cons_zero, List.getElem?_cons_succ, List.set_cons_zero, List.set_cons_succ, List.length_cons, List.length_nil, List.cons_append, List.nil_append, List.replicate_succ, List.replicate_zero, Option.map_some, Option.bind_some, Nat.reduceAdd, Nat.reduceSub, Nat.reduceLT, Nat.reduceLeDiff, if_true, if_false, Bool.false_eq_true, decide_eq_true_eq, reduceIte, ne_eq, not_false_eq_true, Nat.lt_add_left_iff_pos, Nat.zero_lt_succ, x_call1, x_call2, x_call3, x_call4, dk1, dk2, dk3, dk4, ixV_V, Nat.reduceEqDiff, not_false_eq_true, x_isLst, x_isSet, List.map_cons, List.map_nil, Option.map_none, Option.bind_none, k2, k3, k4, m1, q1, fInt_i]
theorem ev_wide {ns : List Int} {p : Int} (h0 : 0 ≤ p) : ∃ t : Int, m__law_wide [.imm (.lst (ns.map D.int)), .imm (.int p)] = some (.ok (.int t), [.no, .no]) := by
  have h1 : ∃ c : Int, (sIf (eB (eBin dLt (eV 1) (eF fLen (aCons (eV 0) aNil))))
 (sAsg (gN 2) (eF fAbs (aCons (eIxV 0 (eV 1)) aNil)))
 sNx) [.imm (.lst (ns.map D.int)), .imm (.int p), .imm (.int 0), .no] = some (.ok .nx, [.imm (.lst (ns.map D.int)), .imm (.int p), .imm (.int c), .no]) := by
    by_cases c : p < ((ns.map D.int).length : Nat)
    · have hp : p.toNat < ns.length := by rw [List.length_map] at c; omega
      have a1 : atI (ns.map D.int) p = some (.int ns[p.toNat]) := by
        have := at_map (f := D.int) (List.getElem?_eq_getElem hp)
        rw [Int.toNat_of_nonneg h0] at this; exact this
      refine ⟨if ns[p.toNat] < 0 then -ns[p.toNat] else ns[p.toNat], ?_⟩
      rw [sIf_t (δ1 := [.imm (.lst (ns.map D.int)), .imm (.int p), .imm (.int 0), .no])]
      · simp only [x_bind, bk_ok, bk_ite, x_ret, x_lift, lk_some, lk_ite, app_ite, x_eC, x_eV, vk_imm, vk_own, vk_bor, x_give, gk_own, x_bin, x_un, x_ix, x_tru, x_eB, dBl_bl, dTru_bl, dTru_int, dTru_lst, x_and, x_or, x_not, x_eAnd, x_eOr, x_eNot, x_eIf, x_chain, x_aNil, x_aCons, x_aVr, rk_own, rk_io, x_aVb, tk_own, tk_io, tk_imm, tk_bor, x_eTup, x_eLst, imms_nil, imms_im, x_eF, x_call, ixV_C, jk_imm, jk_own, jk_io, jk_bor, flk_int, x_lenV, nk_imm, nk_own, nk_io, nk_bor, x_inV, hk_imm, hk_own, hk_io, hk_bor, x_sNx, x_pass, x_cont, x_brk, x_seq, sk_nx, sk_rt, sk_rtO, sk_ct, sk_bk, sk_ite, x_drop, x_sRet, x_sRetO, x_sIf, x_asg, x_asgO, x_gN, x_gO, x_gNil, x_gCons, x_gTt, x_gTl, x_sApp, x_sSet, x_chM, ck_own, ck_io, x_iOf, x_iRg, x_fn, fk_rt, fk_nx, fk_ite, ios_z, ios_s, keep_io, keep_imm, keep_own, keep_bor, keep_no, dSub_i, dAdd_i, dLt_i, dLe_i, dGt_i, dGe_i, dEq_int, dNe_int, ix_lst, ix_scr, ix_tup, atI_0, atI_1, atI_2, atI_3, List.getElem?_cons_zero, List.getElem?_cons_succ, List.set_cons_zero, List.set_cons_succ, List.length_cons, List.length_nil, List.cons_append, List.nil_append, List.replicate_succ, List.replicate_zero, Option.map_some, Option.bind_some, Nat.reduceAdd, Nat.reduceSub, Nat.reduceLT, Nat.reduceLeDiff, if_true, if_false, Bool.false_eq_true, decide_eq_true_eq, reduceIte, ne_eq, not_false_eq_true, Nat.lt_add_left_iff_pos, Nat.zero_lt_succ, x_call1, x_call2, x_call3, x_call4, dk1, dk2, dk3, dk4, ixV_V, Nat.reduceEqDiff, not_false_eq_true, x_isLst, x_isSet, List.map_cons, List.map_nil, Option.map_none, Option.bind_none, a1, fAbs_i]
      · simp only [x_bind, bk_ok, bk_ite, x_ret, x_lift, lk_some, lk_ite, app_ite, x_eC, x_eV, vk_imm, vk_own, vk_bor, x_give, gk_own, x_bin, x_un, x_ix, x_tru, x_eB, dBl_bl, dTru_bl, dTru_int, dTru_lst, x_and, x_or, x_not, x_eAnd, x_eOr, x_eNot, x_eIf, x_chain, x_aNil, x_aCons, x_aVr, rk_own, rk_io, x_aVb, tk_own, tk_io, tk_imm, tk_bor, x_eTup, x_eLst, imms_nil, imms_im, x_eF, x_call, ixV_C, jk_imm, jk_own, jk_io, jk_bor, flk_int, x_lenV, nk_imm, nk_own, nk_io, nk_bor, x_inV, hk_imm, hk_own, hk_io, hk_bor, x_sNx, x_pass, x_cont, x_brk, x_seq, sk_nx, sk_rt, sk_rtO, sk_ct, sk_bk, sk_ite, x_drop, x_sRet, x_sRetO, x_sIf, x_asg, x_asgO, x_gN, x_gO, x_gNil, x_gCons, x_gTt, x_gTl, x_sApp, x_sSet, x_chM, ck_own, ck_io, x_iOf, x_iRg, x_fn, fk_rt, fk_nx, fk_ite, ios_z, ios_s, keep_io, keep_imm, keep_own, keep_bor, keep_no, dSub_i, dAdd_i, dLt_i, dLe_i, dGt_i, dGe_i, dEq_int, dNe_int, ix_lst, ix_scr, ix_tup, atI_0, atI_1, atI_2, atI_3, List.getElem?_cons_zero, List.getElem?_cons_succ, List.set_cons_zero, List.set_cons_succ, List.length_cons, List.length_nil, List.cons_append, List.nil_append, List.replicate_succ, List.replicate_zero, Option.map_some, Option.bind_some, Nat.reduceAdd, Nat.reduceSub, Nat.reduceLT, Nat.reduceLeDiff, if_true, if_false, Bool.false_eq_true, decide_eq_true_eq, reduceIte, ne_eq, not_false_eq_true, Nat.lt_add_left_iff_pos, Nat.zero_lt_succ, x_call1, x_call2, x_call3, x_call4, dk1, dk2, dk3, dk4, ixV_V, Nat.reduceEqDiff, not_false_eq_true, x_isLst, x_isSet, List.map_cons, List.map_nil, Option.map_none, Option.bind_none, fLen_lst, c, decide_true]
    · refine ⟨0, ?_⟩
      rw [sIf_f (δ1 := [.imm (.lst (ns.map D.int)), .imm (.int p), .imm (.int 0), .no])]
      · rfl
      · simp only [x_bind, bk_ok, bk_ite, x_ret, x_lift, lk_some, lk_ite, app_ite, x_eC, x_eV, vk_imm, vk_own, vk_bor, x_give, gk_own, x_bin, x_un, x_ix, x_tru, x_eB, dBl_bl, dTru_bl, dTru_int, dTru_lst, x_and, x_or, x_not, x_eAnd, x_eOr, x_eNot, x_eIf, x_chain, x_aNil, x_aCons, x_aVr, rk_own, rk_io, x_aVb, tk_own, tk_io, tk_imm, tk_bor, x_eTup, x_eLst, imms_nil, imms_im, x_eF, x_call, ixV_C, jk_imm, jk_own, jk_io, jk_bor, flk_int, x_lenV, nk_imm, nk_own, nk_io, nk_bor, x_inV, hk_imm, hk_own, hk_io, hk_bor, x_sNx, x_pass, x_cont, x_brk, x_seq, sk_nx, sk_rt, sk_rtO, sk_ct, sk_bk, sk_ite, x_drop, x_sRet, x_sRetO, x_sIf, x_asg, x_asgO, x_gN, x_gO, x_gNil, x_gCons, x_gTt, x_gTl, x_sApp, x_sSet, x_chM, ck_own, ck_io, x_iOf, x_iRg, x_fn, fk_rt, fk_nx, fk_ite, ios_z, ios_s, keep_io, keep_imm, keep_own, keep_bor, keep_no, dSub_i, dAdd_i, dLt_i, dLe_i, dGt_i, dGe_i, dEq_int, dNe_int, ix_lst, ix_scr, ix_tup, atI_0, atI_1, atI_2, atI_3, List.getElem?_cons_zero, List.getElem?_cons_succ, List.set_cons_zero, List.set_cons_succ, List.length_cons, List.length_nil, List.cons_append, List.nil_append, List.replicate_succ, List.replicate_zero, Option.map_some, Option.bind_some, Nat.reduceAdd, Nat.reduceSub, Nat.reduceLT, Nat.reduceLeDiff, if_true, if_false, Bool.false_eq_true, decide_eq_true_eq, reduceIte, ne_eq, not_false_eq_true, Nat.lt_add_left_iff_pos, Nat.zero_lt_succ, x_call1, x_call2, x_call3, x_call4, dk1, dk2, dk3, dk4, ixV_V, Nat.reduceEqDiff, not_false_eq_true, x_isLst, x_isSet, List.map_cons, List.map_nil, Option.map_none, Option.bind_none, fLen_lst, c, decide_false]
  obtain ⟨c, h1⟩ := h1
  obtain ⟨t, h2⟩ := wide_tail (b' := ns) (KL := 1000000000000000000) (KA := 6364136223846793005) (KB := 1442695040888963407) (KM := 2305843009213693951) (KC := 3202034522624059733) (KQ := 1000003) (fun x => dMul_r (by decide) (by decide)) (fun x => dMul_r (by decide) (by decide)) (fun x => dMul_r (by decide) (by decide)) (fun x => dMod_i (by decide)) (fun x => dDiv_i (by decide) (by decide)) (a := .no) (b := .no) (p := p) (c := c)
  refine ⟨t, ?_⟩
  unfold m__law_wide b__law_wide
  rw [x_fn]
  have e0 : ([.imm (.lst (ns.map D.int)), .imm (.int p)] ++ List.replicate (4 - 2) Sl.no : Env) = [.imm (.lst (ns.map D.int)), .imm (.int p), .no, .no] := rfl
  rw [e0]
  refine Eq.trans (congrArg (fk 2) (ssq (δ1 := [.imm (.lst (ns.map D.int)), .imm (.int p), .imm (.int 0), .no]) ?_ (ssq h1 rfl))) h2
  simp only [x_bind, bk_ok, bk_ite, x_ret, x_lift, lk_some, lk_ite, app_ite, x_eC, x_eV, vk_imm, vk_own, vk_bor, x_give, gk_own, x_bin, x_un, x_ix, x_tru, x_eB, dBl_bl, dTru_bl, dTru_int, dTru_lst, x_and, x_or, x_not, x_eAnd, x_eOr, x_eNot, x_eIf, x_chain, x_aNil, x_aCons, x_aVr, rk_own, rk_io, x_aVb, tk_own, tk_io, tk_imm, tk_bor, x_eTup, x_eLst, imms_nil, imms_im, x_eF, x_call, ixV_C, jk_imm, jk_own, jk_io, jk_bor, flk_int, x_lenV, nk_imm, nk_own, nk_io, nk_bor, x_inV, hk_imm, hk_own, hk_io, hk_bor, x_sNx, x_pass, x_cont, x_brk, x_seq, sk_nx, sk_rt, sk_rtO, sk_ct, sk_bk, sk_ite, x_drop, x_sRet, x_sRetO, x_sIf, x_asg, x_asgO, x_gN, x_gO, x_gNil, x_gCons, x_gTt, x_gTl, x_sApp, x_sSet, x_chM, ck_own, ck_io, x_iOf, x_iRg, x_fn, fk_rt, fk_nx, fk_ite, ios_z, ios_s, keep_io, keep_imm, keep_own, keep_bor, keep_no, dSub_i, dAdd_i, dLt_i, dLe_i, dGt_i, dGe_i, dEq_int, dNe_int, ix_lst, ix_scr, ix_tup, atI_0, atI_1, atI_2, atI_3, List.getElem?_cons_zero, List.getElem?_cons_succ, List.set_cons_zero, List.set_cons_succ, List.length_cons, List.length_nil, List.cons_append, List.nil_append, List.replicate_succ, List.replicate_zero, Option.map_some, Option.bind_some, Nat.reduceAdd, Nat.reduceSub, Nat.reduceLT, Nat.reduceLeDiff, if_true, if_false, Bool.false_eq_true, decide_eq_true_eq, reduceIte, ne_eq, not_false_eq_true, Nat.lt_add_left_iff_pos, Nat.zero_lt_succ, x_call1, x_call2, x_call3, x_call4, dk1, dk2, dk3, dk4, ixV_V, Nat.reduceEqDiff, not_false_eq_true, x_isLst, x_isSet, List.map_cons, List.map_nil, Option.map_none, Option.bind_none]
theorem call_w {ns : List Int} {p : Int} (h0 : 0 ≤ p) : ∃ t : Int, ∀ δ, callM m__law_wide [.im (.lst (ns.map D.int)), .im (.int p)] δ = some (.ok (.int t), δ) := by
  obtain ⟨t, h⟩ := ev_wide (ns := ns) h0
  exact ⟨t, fun δ => by rw [x_call2, h, dk2]⟩
theorem take_tail {ns : List Int} {x p m : Int} (h : 0 < m) (h2 : m ≤ 1000000) :
    fk 2 ((sSeq (sAsg (gN 2) (eBin dMod (eF fInt (aCons (eIxV 0 (eC (.int 0))) aNil)) (eV 1)))
 (sSeq (sSet 0 (eC (.int 0)) (eBin dDiv (eIxV 0 (eC (.int 0))) (eV 1)))
 (sRet (eV 2)))) [.io (plD ns x p), .imm (.int m), .no]) = some (.ok (.int (x % m)), [.io (plD ns (x / m) p), .no]) := by
  unfold plD
  simp only [x_bind, bk_ok, bk_ite, x_ret, x_lift, lk_some, lk_ite, app_ite, x_eC, x_eV, vk_imm, vk_own, vk_bor, x_give, gk_own, x_bin, x_un, x_ix, x_tru, x_eB, dBl_bl, dTru_bl, dTru_int, dTru_lst, x_and, x_or, x_not, x_eAnd, x_eOr, x_eNot, x_eIf, x_chain, x_aNil, x_aCons, x_aVr, rk_own, rk_io, x_aVb, tk_own, tk_io, tk_imm, tk_bor, x_eTup, x_eLst, imms_nil, imms_im, x_eF, x_call, ixV_C, jk_imm, jk_own, jk_io, jk_bor, flk_int, x_lenV, nk_imm, nk_own, nk_io, nk_bor, x_inV, hk_imm, hk_own, hk_io, hk_bor, x_sNx, x_pass, x_cont, x_brk, x_seq, sk_nx, sk_rt, sk_rtO, sk_ct, sk_bk, sk_ite, x_drop, x_sRet, x_sRetO, x_sIf, x_asg, x_asgO, x_gN, x_gO, x_gNil, x_gCons, x_gTt, x_gTl, x_sApp, x_sSet, x_chM, ck_own, ck_io, x_iOf, x_iRg, x_fn, fk_rt, fk_nx, fk_ite, ios_z, ios_s, keep_io, keep_imm, keep_own, keep_bor, keep_no, dSub_i, dAdd_i, dLt_i, dLe_i, dGt_i, dGe_i, dEq_int, dNe_int, ix_lst, ix_scr, ix_tup, atI_0, atI_1, atI_2, atI_3, List.getElem?_cons_zero, List.getElem?_cons_succ, List.set_cons_zero, List.set_cons_succ, List.length_cons, List.length_nil, List.cons_append, List.nil_append, List.replicate_succ, List.replicate_zero, Option.map_some, Option.bind_some, Nat.reduceAdd, Nat.reduceSub, Nat.reduceLT, Nat.reduceLeDiff, if_true, if_false, Bool.false_eq_true, decide_eq_true_eq, reduceIte, ne_eq, not_false_eq_true, Nat.lt_add_left_iff_pos, Nat.zero_lt_succ, x_call1, x_call2, x_call3, x_call4, dk1, dk2, dk3, dk4, ixV_V, Nat.reduceEqDiff, not_false_eq_true, x_isLst, x_isSet, List.map_cons, List.map_nil, Option.map_none, Option.bind_none, fInt_i, dMod_i h, dDiv_i h (show m < 1073741824 by omega), dSet3_0, iSk_io]
theorem ev_take {ns : List Int} {x p m : Int} (hp : -1 ≤ p) (h : 0 < m) (h2 : m ≤ 1000000) : ∃ (t x' p' : Int), m__law_take [.io (plD ns x p), .imm (.int m)] = some (.ok (.int t), [.io (plD ns x' p'), .no]) ∧ -1 ≤ p' ∧ 0 ≤ t ∧ t < m := by
  have h1 : ∃ x' p' : Int, -1 ≤ p' ∧ (sIf (eB (eBin dLt (eIxV 0 (eC (.int 0))) (eC (.int 1000))))
 (sSeq (sSet 0 (eC (.int 2)) (eBin dAdd (eIxV 0 (eC (.int 2))) (eC (.int 1))))
 (sSet 0 (eC (.int 0)) (eCall m__law_wide (aCons (eIxV 0 (eC (.int 1))) (aCons (eIxV 0 (eC (.int 2))) aNil)))))
 sNx) [.io (plD ns x p), .imm (.int m), .no] = some (.ok .nx, [.io (plD ns x' p'), .imm (.int m), .no]) := by
    have hc : (eB (eBin dLt (eIxV 0 (eC (.int 0))) (eC (.int 1000)))) [.io (plD ns x p), .imm (.int m), .no] = some (.ok (decide (x < 1000)), [.io (plD ns x p), .imm (.int m), .no]) := by
      unfold plD
      simp only [x_bind, bk_ok, bk_ite, x_ret, x_lift, lk_some, lk_ite, app_ite, x_eC, x_eV, vk_imm, vk_own, vk_bor, x_give, gk_own, x_bin, x_un, x_ix, x_tru, x_eB, dBl_bl, dTru_bl, dTru_int, dTru_lst, x_and, x_or, x_not, x_eAnd, x_eOr, x_eNot, x_eIf, x_chain, x_aNil, x_aCons, x_aVr, rk_own, rk_io, x_aVb, tk_own, tk_io, tk_imm, tk_bor, x_eTup, x_eLst, imms_nil, imms_im, x_eF, x_call, ixV_C, jk_imm, jk_own, jk_io, jk_bor, flk_int, x_lenV, nk_imm, nk_own, nk_io, nk_bor, x_inV, hk_imm, hk_own, hk_io, hk_bor, x_sNx, x_pass, x_cont, x_brk, x_seq, sk_nx, sk_rt, sk_rtO, sk_ct, sk_bk, sk_ite, x_drop, x_sRet, x_sRetO, x_sIf, x_asg, x_asgO, x_gN, x_gO, x_gNil, x_gCons, x_gTt, x_gTl, x_sApp, x_sSet, x_chM, ck_own, ck_io, x_iOf, x_iRg, x_fn, fk_rt, fk_nx, fk_ite, ios_z, ios_s, keep_io, keep_imm, keep_own, keep_bor, keep_no, dSub_i, dAdd_i, dLt_i, dLe_i, dGt_i, dGe_i, dEq_int, dNe_int, ix_lst, ix_scr, ix_tup, atI_0, atI_1, atI_2, atI_3, List.getElem?_cons_zero, List.getElem?_cons_succ, List.set_cons_zero, List.set_cons_succ, List.length_cons, List.length_nil, List.cons_append, List.nil_append, List.replicate_succ, List.replicate_zero, Option.map_some, Option.bind_some, Nat.reduceAdd, Nat.reduceSub, Nat.reduceLT, Nat.reduceLeDiff, if_true, if_false, Bool.false_eq_true, decide_eq_true_eq, reduceIte, ne_eq, not_false_eq_true, Nat.lt_add_left_iff_pos, Nat.zero_lt_succ, x_call1, x_call2, x_call3, x_call4, dk1, dk2, dk3, dk4, ixV_V, Nat.reduceEqDiff, not_false_eq_true, x_isLst, x_isSet, List.map_cons, List.map_nil, Option.map_none, Option.bind_none]
    by_cases c : x < 1000
    · rw [decide_eq_true c] at hc
      obtain ⟨t, ht⟩ := call_w (ns := ns) (p := p + 1) (by omega)
      refine ⟨t, p + 1, by omega, ?_⟩
      rw [sIf_t hc]
      refine ssq (δ1 := [.io (plD ns x (p + 1)), .imm (.int m), .no]) ?_ ?_
      · unfold plD
        simp only [x_bind, bk_ok, bk_ite, x_ret, x_lift, lk_some, lk_ite, app_ite, x_eC, x_eV, vk_imm, vk_own, vk_bor, x_give, gk_own, x_bin, x_un, x_ix, x_tru, x_eB, dBl_bl, dTru_bl, dTru_int, dTru_lst, x_and, x_or, x_not, x_eAnd, x_eOr, x_eNot, x_eIf, x_chain, x_aNil, x_aCons, x_aVr, rk_own, rk_io, x_aVb, tk_own, tk_io, tk_imm, tk_bor, x_eTup, x_eLst, imms_nil, imms_im, x_eF, x_call, ixV_C, jk_imm, jk_own, jk_io, jk_bor, flk_int, x_lenV, nk_imm, nk_own, nk_io, nk_bor, x_inV, hk_imm, hk_own, hk_io, hk_bor, x_sNx, x_pass, x_cont, x_brk, x_seq, sk_nx, sk_rt, sk_rtO, sk_ct, sk_bk, sk_ite, x_drop, x_sRet, x_sRetO, x_sIf, x_asg, x_asgO, x_gN, x_gO, x_gNil, x_gCons, x_gTt, x_gTl, x_sApp, x_sSet, x_chM, ck_own, ck_io, x_iOf, x_iRg, x_fn, fk_rt, fk_nx, fk_ite, ios_z, ios_s, keep_io, keep_imm, keep_own, keep_bor, keep_no, dSub_i, dAdd_i, dLt_i, dLe_i, dGt_i, dGe_i, dEq_int, dNe_int, ix_lst, ix_scr, ix_tup, atI_0, atI_1, atI_2, atI_3, List.getElem?_cons_zero, List.getElem?_cons_succ, List.set_cons_zero, List.set_cons_succ, List.length_cons, List.length_nil, List.cons_append, List.nil_append, List.replicate_succ, List.replicate_zero, Option.map_some, Option.bind_some, Nat.reduceAdd, Nat.reduceSub, Nat.reduceLT, Nat.reduceLeDiff, if_true, if_false, Bool.false_eq_true, decide_eq_true_eq, reduceIte, ne_eq, not_false_eq_true, Nat.lt_add_left_iff_pos, Nat.zero_lt_succ, x_call1, x_call2, x_call3, x_call4, dk1, dk2, dk3, dk4, ixV_V, Nat.reduceEqDiff, not_false_eq_true, x_isLst, x_isSet, List.map_cons, List.map_nil, Option.map_none, Option.bind_none, dSet3_2, iSk_io]
      · unfold plD
        simp only [x_bind, bk_ok, bk_ite, x_ret, x_lift, lk_some, lk_ite, app_ite, x_eC, x_eV, vk_imm, vk_own, vk_bor, x_give, gk_own, x_bin, x_un, x_ix, x_tru, x_eB, dBl_bl, dTru_bl, dTru_int, dTru_lst, x_and, x_or, x_not, x_eAnd, x_eOr, x_eNot, x_eIf, x_chain, x_aNil, x_aCons, x_aVr, rk_own, rk_io, x_aVb, tk_own, tk_io, tk_imm, tk_bor, x_eTup, x_eLst, imms_nil, imms_im, x_eF, x_call, ixV_C, jk_imm, jk_own, jk_io, jk_bor, flk_int, x_lenV, nk_imm, nk_own, nk_io, nk_bor, x_inV, hk_imm, hk_own, hk_io, hk_bor, x_sNx, x_pass, x_cont, x_brk, x_seq, sk_nx, sk_rt, sk_rtO, sk_ct, sk_bk, sk_ite, x_drop, x_sRet, x_sRetO, x_sIf, x_asg, x_asgO, x_gN, x_gO, x_gNil, x_gCons, x_gTt, x_gTl, x_sApp, x_sSet, x_chM, ck_own, ck_io, x_iOf, x_iRg, x_fn, fk_rt, fk_nx, fk_ite, ios_z, ios_s, keep_io, keep_imm, keep_own, keep_bor, keep_no, dSub_i, dAdd_i, dLt_i, dLe_i, dGt_i, dGe_i, dEq_int, dNe_int, ix_lst, ix_scr, ix_tup, atI_0, atI_1, atI_2, atI_3, List.getElem?_cons_zero, List.getElem?_cons_succ, List.set_cons_zero, List.set_cons_succ, List.length_cons, List.length_nil, List.cons_append, List.nil_append, List.replicate_succ, List.replicate_zero, Option.map_some, Option.bind_some, Nat.reduceAdd, Nat.reduceSub, Nat.reduceLT, Nat.reduceLeDiff, if_true, if_false, Bool.false_eq_true, decide_eq_true_eq, reduceIte, ne_eq, not_false_eq_true, Nat.lt_add_left_iff_pos, Nat.zero_lt_succ, x_call1, x_call2, x_call3, x_call4, dk1, dk2, dk3, dk4, ixV_V, Nat.reduceEqDiff, not_false_eq_true, x_isLst, x_isSet, List.map_cons, List.map_nil, Option.map_none, Option.bind_none, dSet3_0, iSk_io, ht]
    · rw [decide_eq_false c] at hc
      exact ⟨x, p, hp, by rw [sIf_f hc]; rfl⟩
  obtain ⟨x', p', hp', h1⟩ := h1
  refine ⟨x' % m, x' / m, p', ?_, hp', Int.emod_nonneg _ (by omega), Int.emod_lt_of_pos _ h⟩
  unfold m__law_take b__law_take
  rw [x_fn]
  have e0 : ([.io (plD ns x p), .imm (.int m)] ++ List.replicate (3 - 2) Sl.no : Env) = [.io (plD ns x p), .imm (.int m), .no] := rfl
  rw [e0]
  exact (congrArg (fk 2) (ssq h1 rfl)).trans (take_tail h h2)
theorem ev_tk {ns : List Int} {d : D} {m : Int} (hd : IsPl ns d) (h : 0 < m) (h2 : m ≤ 1000000) : ∃ t d', (∀ δ, callM m__law_take [.vr 0, .im (.int m)] (.io d :: δ) = some (.ok (.int t), .io d' :: δ)) ∧ IsPl ns d' ∧ 0 ≤ t ∧ t < m := by
  obtain ⟨x, p, hp, rfl⟩ := hd
  obtain ⟨t, x', p', h1, h3, h4, h5⟩ := ev_take (ns := ns) (x := x) hp h h2
  exact ⟨t, _, fun δ => call_v1 h1, ⟨x', p', h3, rfl⟩, h4, h5⟩
end M
set_option Elab.async false
set_option linter.all false
set_option maxRecDepth 100000
set_option maxHeartbeats 2000000
namespace M
open PySem L2
local macro_rules
  | `(tactic| simp! only [$as,*]) => `(tactic| simp only [x_bind, bk_ok, bk_ite, x_ret, x_lift, lk_some, lk_ite, app_ite, x_eC, x_eV, vk_imm, vk_own, vk_bor, x_give, gk_own, x_bin, x_un, x_ix, x_tru, x_eB, dBl_bl, dTru_bl, dTru_int, dTru_lst, x_and, x_or, x_not, x_eAnd, x_eOr, x_eNot, x_eIf, x_chain, x_aNil, x_aCons, x_aVr, rk_own, rk_io, x_aVb, tk_own, tk_io, tk_imm, tk_bor, x_eTup, x_eLst, imms_nil, imms_im, x_eF, x_call, ixV_C, jk_imm, jk_own, jk_io, jk_bor, flk_int, x_lenV, nk_imm, nk_own, nk_io, nk_bor, x_inV, hk_imm, hk_own, hk_io, hk_bor, x_sNx, x_pass, x_cont, x_brk, x_seq, sk_nx, sk_rt, sk_rtO, sk_ct, sk_bk, sk_ite, x_drop, x_sRet, x_sRetO, x_sIf, x_asg, x_asgO, x_gN, x_gO, x_gNil, x_gCons, x_gTt, x_gTl, x_sApp, x_sSet, x_chM, ck_own, ck_io, x_iOf, x_iRg, x_fn, fk_rt, fk_nx, fk_ite, ios_z, ios_s, keep_io, keep_imm, keep_own, keep_bor, keep_no, dSub_i, dAdd_i, dLt_i, dLe_i, dGt_i, dGe_i, dEq_int, dNe_int, ix_lst, ix_scr, ix_tup, atI_0, atI_1, atI_2, atI_3, List.getElem?_cons_zero, List.getElem?_cons_succ, List.set_cons_zero, List.set_cons_succ, List.length_cons, List.length_nil, List.cons_append, List.nil_append, List.replicate_succ, List.replicate_zero, Option.map_some, Option.bind_some, Nat.reduceAdd, Nat.reduceSub, Nat.reduceLT, Nat.reduceLeDiff, if_true, if_false, Bool.false_eq_true, decide_eq_true_eq, reduceIte, ne_eq, not_false_eq_true, Nat.lt_add_left_iff_pos, Nat.zero_lt_succ, x_call1, x_call2, x_call3, x_call4, dk1, dk2, dk3, dk4, ixV_V, Nat.reduceEqDiff, not_false_eq_true, x_isLst, x_isSet, List.map_cons, List.map_nil, Option.map_none, Option.bind_none, x_eSl, x_eP0, x_eP1, part_i, $as,*])
def mkS (l : List Nat) : Str := ⟨l.toArray⟩
theorem mkS_cps {l : List Nat} : (mkS l).cps.toList = l := by unfold mkS; simp
theorem mkS_len {l : List Nat} : (mkS l).length = l.length := by unfold mkS Str.length; simp
theorem len_cps {s : Str} : s.length = s.cps.toList.length := by unfold Str.length; simp
theorem mkS_add {l m : List Nat} : mkS l ++ mkS m = mkS (l ++ m) := by
  show Str.append (mkS l) (mkS m) = _
  unfold Str.append mkS
  simp
theorem mkS_inj {l m : List Nat} (h : mkS l = mkS m) : l = m := by
  have := congrArg (fun s : Str => s.cps.toList) h
  simpa [mkS_cps] using this
def lowB (c : Nat) : Bool := decide (97 ≤ c) && decide (c ≤ 122)
def namB (c : Nat) : Bool := lowB c || (decide (48 ≤ c) && decide (c ≤ 57))
/-- the form of a name -/
def nmL (l : List Nat) : Bool := decide (l.length ≤ 8) && (match l with | [] => false | c :: _ => lowB c) && l.all namB
def nmB (s : Str) : Bool := nmL s.cps.toList
theorem nmB_mk {l : List Nat} : nmB (mkS l) = nmL l := by unfold nmB; rw [mkS_cps]
theorem namB_le {c : Nat} (h : namB c = true) : c ≤ 122 := by
  unfold namB lowB at h
  simp at h
  omega
theorem nmB_ok {s : Str} (h : nmB s = true) : (toPy (.str s)).canLay0 = true := by
  unfold nmB nmL at h
  simp only [Bool.and_eq_true, List.all_eq_true] at h
  show (s.cps.all fun x => decide (x < 0x110000)) = true
  rw [Array.all_eq_true_iff_forall_mem]
  intro c hc
  have := namB_le (h.2 c (by simpa using hc))
  exact decide_eq_true (by omega)
theorem nmB_len {s : Str} (h : nmB s = true) : s.length ≤ 8 := by
  unfold nmB nmL at h
  simp only [Bool.and_eq_true, decide_eq_true_eq] at h
  rw [len_cps]; exact h.1.1
theorem fine_s {s : Str} (h : (toPy (.str s)).canLay0 = true) : Fine (.str s) ∧ (toPy (.str s)).depth ≤ 0 := ⟨⟨h, by unfold toPy PyData.depth; omega, by unfold toPy PyData.eqv; simp⟩, by unfold toPy PyData.depth; omega⟩
theorem fine_nm {s : Str} (h : nmB s = true) : Fine (.str s) ∧ (toPy (.str s)).depth ≤ 0 := fine_s (nmB_ok h)
def strsD (l : List Str) : D := .lst (l.map D.str)
theorem fine_strs {l : List Str} (h : ∀ s ∈ l, nmB s = true) : Fine (strsD l) := (fine_lst (k := 0) (by omega) fun d m => by
  obtain ⟨s, hs, rfl⟩ := List.mem_map.mp m
  exact fine_nm (h s hs)).1
theorem has_str {v : Str} : ∀ {l : List Str}, hasPy (.str v) (l.map D.str) = decide (v ∈ l)
  | [] => rfl
  | x :: l => by
    have ih := has_str (v := v) (l := l)
    unfold hasPy at ih ⊢
    rw [List.map_cons, toPys, List.any_cons, ih]
    show (PyData.eqv (toPy (.str x)) (toPy (.str v)) || _) = _
    unfold toPy PyData.eqv
    by_cases c : x = v
    · subst c; simp
    · simp [c, Ne.symm c]
theorem dIn_strs {neg : Bool} {v : Str} {l : List Str} (hv : nmB v = true) (h : ∀ s ∈ l, nmB s = true) : dIn neg (.str v) (strsD l) = some (.bl (if neg then !decide (v ∈ l) else decide (v ∈ l))) := by
  show (if shp (.str v) = true ∧ shp (.lst (l.map D.str)) = true then some (D.bl (if neg then !hasPy (.str v) (l.map D.str) else hasPy (.str v) (l.map D.str))) else none) = _
  rw [if_pos ⟨fine_shp (fine_nm hv).1, fine_shp (fine_strs h)⟩, has_str]
theorem small_len {n : Nat} (h : n ≤ 1000) : n ≤ sizeLine := by rw [sizeLine_eq]; omega
theorem add_str {l m : List Nat} (h : l.length ≤ 100) (h2 : m.length ≤ 100) : dAdd (.str (mkS l)) (.str (mkS m)) = some (.str (mkS (l ++ m))) := by
  show (if (mkS l).length + (mkS m).length ≤ sizeLine then some (D.str (mkS l ++ mkS m)) else none) = _
  rw [mkS_len, mkS_len, if_pos (small_len (by omega)), mkS_add]
theorem ix_str {l : List Nat} {t : Int} {c : Nat} (hl : l.length ≤ 100) (h : atI l t = some c) : dIx (.str (mkS l)) (.int t) = some (.str (mkS [c])) := by
  show (if (mkS l).length ≤ sizeLine then (atI (mkS l).cps.toList t).map fun c => D.str ⟨#[c]⟩ else none) = _
  rw [mkS_len, if_pos (small_len (by omega)), mkS_cps, h]; rfl
def abc : List Nat := (List.range 26).map (97 + ·)
def digs : List Nat := (List.range 10).map (48 + ·)
theorem abc_eq : ("abcdefghijklmnopqrstuvwxyz" : Str) = mkS abc := by decide +kernel
theorem digs_eq : ("0123456789" : Str) = mkS digs := by decide +kernel
theorem at_abc {t : Int} (h0 : 0 ≤ t) (h : t < 26) : ∃ c, atI abc t = some c ∧ lowB c = true := by
  obtain ⟨n, rfl⟩ : ∃ n : Nat, t = (n : Int) := ⟨t.toNat, by omega⟩
  refine ⟨97 + n, atI_nat ?_, ?_⟩
  · unfold abc; rw [List.getElem?_map, List.getElem?_range (by omega)]; rfl
  · unfold lowB; simp; omega
theorem at_both {t : Int} (h0 : 0 ≤ t) (h : t < 36) : ∃ c, atI (abc ++ digs) t = some c ∧ namB c = true := by
  obtain ⟨n, rfl⟩ : ∃ n : Nat, t = (n : Int) := ⟨t.toNat, by omega⟩
  by_cases c : n < 26
  · refine ⟨97 + n, atI_nat ?_, ?_⟩
    · rw [List.getElem?_append_left (by unfold abc; simp; omega)]
      unfold abc; rw [List.getElem?_map, List.getElem?_range (by omega)]; rfl
    · unfold namB lowB; simp; omega
  · refine ⟨48 + (n - 26), atI_nat ?_, ?_⟩
    · rw [List.getElem?_append_right (by unfold abc; simp; omega)]
      unfold abc digs
      rw [List.getElem?_map, List.length_map, List.length_range, List.getElem?_range (by omega)]; rfl
    · unfold namB lowB; simp; omega
/-- what is drawn: a name of 1, 2, 4 or 8 signs, or `end` -/
def DrL (l : List Nat) : Prop := nmL l = true ∧ (l.length ≠ 3 ∨ l = [101, 110, 100])
theorem six_nm {t : Int} (h0 : 0 ≤ t) (h : t < 6) : ∃ l, atI [D.str "a", .str "b", .str "view", .str "end", .str "link", .str "c"] t = some (.str (mkS l)) ∧ DrL l := by
  have : t = 0 ∨ t = 1 ∨ t = 2 ∨ t = 3 ∨ t = 4 ∨ t = 5 := by omega
  rcases this with e | e | e | e | e | e <;> rw [e]
  · exact ⟨[97], atI_0, by decide +kernel, .inl (by decide)⟩
  · exact ⟨[98], atI_1, by decide +kernel, .inl (by decide)⟩
  · exact ⟨("view" : Str).cps.toList, atI_2, by decide +kernel, .inl (by decide +kernel)⟩
  · exact ⟨("end" : Str).cps.toList, atI_3, by decide +kernel, .inr (by decide +kernel)⟩
  · exact ⟨("link" : Str).cps.toList, rfl, by decide +kernel, .inl (by decide +kernel)⟩
  · exact ⟨[99], rfl, by decide +kernel, .inl (by decide)⟩
theorem four_at {t : Int} (h0 : 0 ≤ t) (h : t < 4) : ∃ m : Nat, atI [D.int 0, .int 1, .int 3, .int 7] t = some (.int (m : Nat)) ∧ m ≤ 7 ∧ m ≠ 2 := by
  have : t = 0 ∨ t = 1 ∨ t = 2 ∨ t = 3 := by omega
  rcases this with e | e | e | e <;> rw [e]
  · exact ⟨0, atI_0, by omega, by omega⟩
  · exact ⟨1, atI_1, by omega, by omega⟩
  · exact ⟨3, atI_2, by omega, by omega⟩
  · exact ⟨7, atI_3, by omega, by omega⟩
theorem nmL_snoc {l : List Nat} {c : Nat} (h : nmL l = true) (hl : l.length < 8) (hc : namB c = true) : nmL (l ++ [c]) = true := by
  unfold nmL at *
  simp only [Bool.and_eq_true, decide_eq_true_eq] at *
  refine ⟨⟨by rw [List.length_append, List.length_singleton]; omega, ?_⟩, ?_⟩
  · cases l with
    | nil => exact absurd h.1.2 Bool.false_ne_true
    | cons x l => exact h.1.2
  · rw [List.all_append, h.2]; simp [hc]
/-- x[e], where e leaves the slot -/
theorem ixV_E {i : Nat} {B : Mo D} {δ δ' : Env} {d y : D} (h1 : δ[i]? = some (.imm d)) (h2 : B δ = some (.ok y, δ')) (h3 : δ'[i]? = some (.imm d)) : eIxV i B δ = lk (dIx d y) δ' := by
  rw [ixV_of h1 rfl (fun y' δ'' q => by rw [h2] at q; cases q; exact h3)]
  unfold ik
  rw [h2]
  show (match dIx d y with
    | some z => if isBor (Sl.imm d) = true then (if flatD z = true then some (Except.ok z, δ') else none) else some (Except.ok z, δ')
    | none => none) = _
  unfold lk
  cases dIx d y with
  | none => rfl
  | some z => rfl
theorem ev_name {ns : List Int} {d : D} (hd : IsPl ns d) : ∃ l d', m__law_name [.io d] = some (.ok (.str (mkS l)), [.io d']) ∧ IsPl ns d' ∧ DrL l := by
  obtain ⟨t1, d1, c1, i1, a1, b1⟩ := ev_tk hd (m := 6) (by omega) (by omega)
  obtain ⟨l1, e1, D1⟩ := six_nm a1 b1
  obtain ⟨t2, d2, c2, i2, a2, b2⟩ := ev_tk i1 (m := 3) (by omega) (by omega)
  by_cases h2 : t2 = 0
  · obtain ⟨t3, d3, c3, i3, a3, b3⟩ := ev_tk i2 (m := 26) (by omega) (by omega)
    obtain ⟨ch, e3, lo⟩ := at_abc a3 b3
    obtain ⟨t4, d4, c4, i4, a4, b4⟩ := ev_tk i3 (m := 4) (by omega) (by omega)
    obtain ⟨m, e4, m7, m2⟩ := four_at a4 b4
    have x3 := ix_str (by decide +kernel : abc.length ≤ 100) e3
    have x5 := add_str (by decide +kernel : abc.length ≤ 100) (by decide +kernel : digs.length ≤ 100)
    rw [← abc_eq] at x3
    rw [← abc_eq, ← digs_eq] at x5
    obtain ⟨δ', f1, d5, l, y3, rfl, i5, ll, nl⟩ := sFor_inv (I := (iRg rg1 (aCons (eIx (eLst (aCons (eC (.int 0)) (aCons (eC (.int 1)) (aCons (eC (.int 3)) (aCons (eC (.int 7)) aNil))))) (eCall m__law_take (aVr 0 (aCons (eC (.int 4)) aNil)))) aNil))) (T := gN 3)
      (S := (sAsg (gN 2) (eBin dAdd (eV 2) (eIx (eBin dAdd (eV 1) (eC (.str "0123456789"))) (eCall m__law_take (aVr 0 (aCons (eC (.int 36)) aNil))))))) (ds := rgD 0 m)
      (δ := [.io d3, .imm (.str "abcdefghijklmnopqrstuvwxyz"), .imm (.str (mkS [ch])), .no]) (δ0 := [.io d4, .imm (.str "abcdefghijklmnopqrstuvwxyz"), .imm (.str (mkS [ch])), .no])
      (fun k δ => ∃ (d5 : D) (l : List Nat) (y3 : Sl), δ = [.io d5, .imm (.str "abcdefghijklmnopqrstuvwxyz"), .imm (.str (mkS l)), y3] ∧ IsPl ns d5 ∧ l.length = 1 + k ∧ nmL l = true)
      (by
        have e4 : dIx (.lst [D.int 0, .int 1, .int 3, .int 7]) (.int t4) = some (.int (m : Nat)) := e4
        simp only [ix_lst] at e4
        simp! only [c4, e4, rg1_n (show m ≤ 1000 by omega)]) ⟨d4, [ch], .no, rfl, i4, rfl, by unfold nmL namB; simp [lo]⟩ (fun k d δ hk hδ => by
        obtain ⟨d5, l, y3, rfl, i5, ll, nl⟩ := hδ
        obtain ⟨hk, rfl⟩ := rgD_get hk
        obtain ⟨t6, d6, c6, i6, a6, b6⟩ := ev_tk i5 (m := 36) (by omega) (by omega)
        obtain ⟨c, e6, nc⟩ := at_both a6 b6
        have x6 := ix_str (by decide +kernel : (abc ++ digs).length ≤ 100) e6
        have x7 := add_str (l := l) (m := [c]) (by omega) (by simp)
        generalize (mkS (abc ++ digs)) = AB at *
        generalize (k : Int) = kk at *
        exact ⟨[.io d5, .imm (.str "abcdefghijklmnopqrstuvwxyz"), .imm (.str (mkS l)), .imm (.int kk)], [.io d6, .imm (.str "abcdefghijklmnopqrstuvwxyz"), .imm (.str (mkS (l ++ [c]))), .imm (.int kk)], by simp! only [], .inl (by simp! only [x5, c6, x6, x7]), d6, l ++ [c], _, rfl, i6, by rw [List.length_append, ll]; rfl, nmL_snoc nl (by omega) nc⟩)
    rw [rgD_len] at ll
    refine ⟨l, d5, (fn_rt (δ1 := [.io d5, .imm (.str "abcdefghijklmnopqrstuvwxyz"), .imm (.str (mkS l)), y3]) ?_).trans rfl, i5, nl, .inl (by omega)⟩
    unfold b__law_name
    refine ssq (by simp! only [] <;> rfl) ?_
    refine ssq (by simp! only [c1, e1] <;> rfl) ?_
    refine ssq (δ1 := [.io d5, .imm (.str "abcdefghijklmnopqrstuvwxyz"), .imm (.str (mkS l)), y3]) (st (by simp! only [c2, h2, decide_true]; rfl) ?_) (by simp! only [])
    have e5 : eIxV 1 (eCall m__law_take (aVr 0 (aCons (eC (.int 26)) aNil))) [.io d2, .imm (.str "abcdefghijklmnopqrstuvwxyz"), .imm (.str (mkS l1)), .no] = lk (some (.str (mkS [ch]))) [.io d3, .imm (.str "abcdefghijklmnopqrstuvwxyz"), .imm (.str (mkS l1)), .no] := by
      rw [ixV_E (d := .str "abcdefghijklmnopqrstuvwxyz") (y := .int t3) (δ' := [.io d3, .imm (.str "abcdefghijklmnopqrstuvwxyz"), .imm (.str (mkS l1)), .no]) rfl (by simp! only [c3]) rfl, x3]
    refine ssq (by simp! only [e5] <;> rfl) ?_
    exact f1
  · refine ⟨l1, d2, (fn_rt (δ1 := [.io d2, .imm (.str "abcdefghijklmnopqrstuvwxyz"), .imm (.str (mkS l1)), .no]) ?_).trans rfl, i2, D1⟩
    unfold b__law_name
    refine ssq (by simp! only [] <;> rfl) ?_
    refine ssq (by simp! only [c1, e1] <;> rfl) ?_
    refine ssq_f (by simp! only [c2, h2, decide_false] <;> rfl) ?_
    simp! only []
def zq (k : Nat) : List Nat := [122, 48 + k, 113]
def KdL (j : Nat) (l : List Nat) : Prop := nmL l = true ∧ (l.length ≠ 3 ∨ l = [101, 110, 100] ∨ (∃ c, l.getLast? = some c ∧ c ≤ 48 + j) ∨ l = zq j)
theorem str_dig : ∀ k : Nat, k < 10 → ((toString ((k : Nat) : Int) : String) : Str) = mkS [48 + k] ∧ ((k : Nat) : Int).natAbs.log2 < 1920 := by decide +kernel
theorem fStr_dig {k : Nat} (h : k < 10) : fStr [.int (k : Nat)] = some (.str (mkS [48 + k])) := by
  obtain ⟨h1, h2⟩ := str_dig k h
  show (if ((k : Nat) : Int).natAbs.log2 < 1920 then some (D.str ((toString ((k : Nat) : Int) : String) : Str)) else none) = _
  rw [if_pos h2, h1]
theorem cut6 {l : List Nat} : cutS (mkS l) none (some 6) = mkS (l.take 6) := by
  unfold cutS
  rw [mkS_cps, mkS_len, HT.sIx_none, List.drop_zero, Nat.sub_zero]
  have e : HT.sIx l.length l.length (some 6) = min 6 l.length := HT.sIx_nat _ _ 6
  rw [e]
  show mkS (l.take (min 6 l.length)) = _
  congr 1
  by_cases c : 6 ≤ l.length
  · rw [Nat.min_eq_left c]
  · rw [Nat.min_eq_right (by omega), List.take_length, List.take_of_length_le (by omega)]
theorem sl_s {l : List Nat} {a b : Option Int} (h : l.length ≤ 100) : dSl (.str (mkS l)) a b = some (.str (cutS (mkS l) a b)) := by
  show (if (mkS l).length ≤ sizeLine then some (D.str (cutS (mkS l) a b)) else none) = _
  rw [mkS_len, if_pos (small_len (by omega))]
theorem nmL_take {l : List Nat} (h : nmL l = true) : nmL (l.take 6) = true := by
  unfold nmL at *
  simp only [Bool.and_eq_true, decide_eq_true_eq, List.all_eq_true] at *
  refine ⟨⟨by rw [List.length_take]; omega, ?_⟩, fun x hx => h.2 x (List.mem_of_mem_take hx)⟩
  cases l with
  | nil => exact absurd h.1.2 Bool.false_ne_true
  | cons x l => exact h.1.2
theorem dig_nam {k : Nat} (h : k < 10) : namB (48 + k) = true := by unfold namB; simp; omega
theorem zq_nm {k : Nat} (h : k < 10) : nmL (zq k) = true := by
  have := dig_nam h
  unfold nmL zq
  simp [namB, lowB]
  omega
/-- the third try is new -/
theorem zq_new {k : Nat} {names : List (List Nat)} (hk : k < 10) (hl : names.length = k) (h : ∀ j l, names[j]? = some l → KdL j l) : zq k ∉ names := fun c => by
  obtain ⟨j, hj, e⟩ := List.getElem_of_mem c
  have := (h j _ (List.getElem?_eq_getElem hj)).2
  rw [e] at this
  rcases this with z | z | ⟨x, z, z2⟩ | z
  · exact z rfl
  · unfold zq at z; simp at z
  · unfold zq at z; simp at z; omega
  · unfold zq at z; simp at z; omega
theorem mem_mk {l : List Nat} {names : List (List Nat)} : (mkS l ∈ names.map mkS) ↔ l ∈ names := by
  constructor
  · intro h
    obtain ⟨m, hm, e⟩ := List.mem_map.mp h
    rw [← mkS_inj e]; exact hm
  · exact fun h => List.mem_map.mpr ⟨l, h, rfl⟩
end M
set_option Elab.async false
set_option linter.all false
set_option maxRecDepth 100000
set_option maxHeartbeats 2000000
namespace M
open PySem L2
local macro_rules
  | `(tactic| simp! only [$as,*]) => `(tactic| simp only [x_bind, bk_ok, bk_ite, x_ret, x_lift, lk_some, lk_ite, app_ite, x_eC, x_eV, vk_imm, vk_own, vk_bor, x_give, gk_own, x_bin, x_un, x_ix, x_tru, x_eB, dBl_bl, dTru_bl, dTru_int, dTru_lst, x_and, x_or, x_not, x_eAnd, x_eOr, x_eNot, x_eIf, x_chain, x_aNil, x_aCons, x_aVr, rk_own, rk_io, x_aVb, tk_own, tk_io, tk_imm, tk_bor, x_eTup, x_eLst, imms_nil, imms_im, x_eF, x_call, ixV_C, jk_imm, jk_own, jk_io, jk_bor, flk_int, x_lenV, nk_imm, nk_own, nk_io, nk_bor, x_inV, hk_imm, hk_own, hk_io, hk_bor, x_sNx, x_pass, x_cont, x_brk, x_seq, sk_nx, sk_rt, sk_rtO, sk_ct, sk_bk, sk_ite, x_drop, x_sRet, x_sRetO, x_sIf, x_asg, x_asgO, x_gN, x_gO, x_gNil, x_gCons, x_gTt, x_gTl, x_sApp, x_sSet, x_chM, ck_own, ck_io, x_iOf, x_iRg, x_fn, fk_rt, fk_nx, fk_ite, ios_z, ios_s, keep_io, keep_imm, keep_own, keep_bor, keep_no, dSub_i, dAdd_i, dLt_i, dLe_i, dGt_i, dGe_i, dEq_int, dNe_int, ix_lst, ix_scr, ix_tup, atI_0, atI_1, atI_2, atI_3, List.getElem?_cons_zero, List.getElem?_cons_succ, List.set_cons_zero, List.set_cons_succ, List.length_cons, List.length_nil, List.cons_append, List.nil_append, List.replicate_succ, List.replicate_zero, Option.map_some, Option.bind_some, Nat.reduceAdd, Nat.reduceSub, Nat.reduceLT, Nat.reduceLeDiff, if_true, if_false, Bool.false_eq_true, decide_eq_true_eq, reduceIte, ne_eq, not_false_eq_true, Nat.lt_add_left_iff_pos, Nat.zero_lt_succ, x_call1, x_call2, x_call3, x_call4, dk1, dk2, dk3, dk4, ixV_V, Nat.reduceEqDiff, not_false_eq_true, x_isLst, x_isSet, List.map_cons, List.map_nil, Option.map_none, Option.bind_none, x_eSl, x_eP0, x_eP1, part_i, $as,*])
theorem ev_namesK {ns : List Int} {d : D} {n : Nat} (hd : IsPl ns d) (hn : n ≤ 10) : ∃ (names : List (List Nat)) (d' : D), m__law_names [.io d, .imm (.int (n : Nat))] = some (.ok (strsD (names.map mkS)), [.io d', .no]) ∧ IsPl ns d' ∧ names.length = n ∧ names.Nodup ∧ (∀ l ∈ names, nmL l = true) ∧ ∀ j l, names[j]? = some l → KdL j l := by
  obtain ⟨δ', f1, d1, names, y3, y4, rfl, i1, ln, nd, kd⟩ := sFor_inv (I := (iRg rg1 (aCons (eV 1) aNil))) (T := gN 3)
    (S := (sSeq (sAsg (gN 4) (eCall m__law_name (aVr 0 aNil)))
 (sSeq (sIf (eB (eInV false (eV 4) 2))
 (sAsg (gN 4) (eBin dAdd (eSl dSl (eV 4) eP0 (eP1 (eC (.int 6)))) (eF fStr (aCons (eV 3) aNil))))
 sNx)
 (sSeq (sIf (eB (eInV false (eV 4) 2))
 (sAsg (gN 4) (eBin dAdd (eBin dAdd (eC (.str "z")) (eF fStr (aCons (eV 3) aNil))) (eC (.str "q"))))
 sNx)
 (sApp 2 (eV 4)))))) (ds := rgD 0 n)
    (δ := [.io d, .imm (.int (n : Nat)), .own (strsD []), .no, .no]) (δ0 := [.io d, .imm (.int (n : Nat)), .own (strsD []), .no, .no])
    (fun k δ => ∃ (d1 : D) (names : List (List Nat)) (y3 y4 : Sl), δ = [.io d1, .imm (.int (n : Nat)), .own (strsD (names.map mkS)), y3, y4] ∧ IsPl ns d1 ∧ names.length = k ∧ names.Nodup ∧ ∀ j l, names[j]? = some l → KdL j l)
    (by simp! only [rg1_n (show n ≤ 1000 by omega)]) ⟨d, [], .no, .no, rfl, hd, rfl, List.nodup_nil, fun j l h => by simp at h⟩ (fun k x δ hk hδ => by
      obtain ⟨d1, names, y3, y4, rfl, i1, ln, nd, kd⟩ := hδ
      obtain ⟨hk, rfl⟩ := rgD_get hk
      obtain ⟨l0, d2, e1, i2, dr⟩ := ev_name i1
      have hk10 : k < 10 := by omega
      have nms : ∀ s ∈ names.map mkS, nmB s = true := fun s hs => by
        obtain ⟨l, hl, rfl⟩ := List.mem_map.mp hs
        obtain ⟨j, hj, e⟩ := List.getElem_of_mem hl
        rw [nmB_mk, ← e]
        exact (kd j _ (List.getElem?_eq_getElem hj)).1
      have isin : ∀ l, nmL l = true → dIn false (.str (mkS l)) (strsD (names.map mkS)) = some (.bl (decide (l ∈ names))) := fun l hl => by
        rw [dIn_strs (by rw [nmB_mk]; exact hl) nms, if_neg Bool.false_ne_true]
        congr 2
        exact decide_eq_decide.mpr mem_mk
      have app : ∀ l, dAppend (.str (mkS l)) (strsD (names.map mkS)) = some (strsD ((names ++ [l]).map mkS)) := fun l => by
        unfold strsD
        rw [dApp_l (by rw [List.length_map, List.length_map]; omega), List.map_append, List.map_append]; rfl
      have il : iLk (some (.own (strsD (names.map mkS)))) = true := rfl
      have fs := fStr_dig hk10
      have call1 : callM m__law_name [.vr 0] [.io d1, .imm (.int (n : Nat)), .own (strsD (names.map mkS)), .imm (.int ((k : Nat) : Int)), y4] = some (.ok (.str (mkS l0)), [.io d2, .imm (.int (n : Nat)), .own (strsD (names.map mkS)), .imm (.int ((k : Nat) : Int)), y4]) :=
        call_of (by simp only [argSls, argSl, List.getElem?_cons_zero]) ⟨by simp [vrs], by simp [vbs]⟩ e1 (by simp only [backs, List.getElem?_cons_zero, List.set_cons_zero])
      have fin : ∀ l y, nmL l = true → l ∉ names → KdL k l → ∃ (d' : D) (names' : List (List Nat)) (y3 y4 : Sl), [Sl.io d2, .imm (.int (n : Nat)), .own (strsD ((names ++ [l]).map mkS)), .imm (.int ((k : Nat) : Int)), y] = [.io d', .imm (.int (n : Nat)), .own (strsD (names'.map mkS)), y3, y4] ∧ IsPl ns d' ∧ names'.length = k + 1 ∧ names'.Nodup ∧ ∀ j l, names'[j]? = some l → KdL j l := fun l y h1 h2 h3 => by
        refine ⟨d2, names ++ [l], _, _, rfl, i2, by rw [List.length_append, ln]; rfl, ?_, fun j l' hj => ?_⟩
        · rw [List.nodup_append]
          exact ⟨nd, by simp, fun a ha b hb e => by rw [List.mem_singleton.mp hb] at e; exact h2 (e ▸ ha)⟩
        · by_cases c : j < names.length
          · rw [List.getElem?_append_left c] at hj; exact kd j l' hj
          · rw [List.getElem?_append_right (by omega)] at hj
            have : j - names.length = 0 := by
              refine Classical.byContradiction fun z => ?_
              rw [List.getElem?_eq_none (by rw [List.length_singleton]; omega)] at hj; cases hj
            rw [this] at hj
            cases hj
            have : j = k := by omega
            rw [this]; exact h3
      by_cases in1 : l0 ∈ names
      · have l0len : l0.length ≤ 100 := by
          have := dr.1
          unfold nmL at this
          simp only [Bool.and_eq_true, decide_eq_true_eq] at this
          omega
        have nl1 : nmL (l0.take 6 ++ [48 + k]) = true := nmL_snoc (nmL_take dr.1) (by rw [List.length_take]; omega) (dig_nam hk10)
        have x1 := add_str (l := l0.take 6) (m := [48 + k]) (by rw [List.length_take]; omega) (by simp)
        have s6 := sl_s (l := l0) (a := none) (b := some 6) l0len
        rw [cut6] at s6
        by_cases in2 : (l0.take 6 ++ [48 + k]) ∈ names
        · have zn := zq_new hk10 ln kd
          have x2 : dAdd (.str "z") (.str (mkS [48 + k])) = some (.str (mkS [122, 48 + k])) := add_str (l := [122]) (m := [48 + k]) (by simp) (by simp)
          have x3 : dAdd (.str (mkS [122, 48 + k])) (.str "q") = some (.str (mkS (zq k))) := add_str (l := [122, 48 + k]) (m := [113]) (by simp) (by simp)
          have i0 := isin l0 dr.1
          have i3 := isin _ nl1
          have a3 := app (zq k)
          have fi := fin (zq k) (.imm (.str (mkS (zq k)))) (zq_nm hk10) zn ⟨zq_nm hk10, .inr (.inr (.inr rfl))⟩
          generalize strsD (names.map mkS) = NM at *
          generalize strsD ((names ++ [zq k]).map mkS) = NM' at *
          generalize ((k : Nat) : Int) = kk at *
          refine ⟨[.io d1, .imm (.int (n : Nat)), .own NM, .imm (.int kk), y4], _, by simp! only [], .inl ?_, fi⟩
          refine ssq (by simp! only [call1] <;> rfl) ?_
          refine ssq (st (by simp! only [i0, in1, decide_true]; rfl) (by simp! only [s6, fs, x1]; rfl)) ?_
          refine ssq (st (by simp! only [i3, in2, decide_true]; rfl) (by simp! only [fs, x2, x3]; rfl)) ?_
          simp! only [il, a3]
        · have i0 := isin l0 dr.1
          have i3 := isin _ nl1
          have a3 := app (l0.take 6 ++ [48 + k])
          have fi := fin (l0.take 6 ++ [48 + k]) (.imm (.str (mkS (l0.take 6 ++ [48 + k])))) nl1 in2 ⟨nl1, .inr (.inr (.inl ⟨48 + k, by simp, by omega⟩))⟩
          generalize strsD (names.map mkS) = NM at *
          generalize strsD ((names ++ [l0.take 6 ++ [48 + k]]).map mkS) = NM' at *
          generalize ((k : Nat) : Int) = kk at *
          refine ⟨[.io d1, .imm (.int (n : Nat)), .own NM, .imm (.int kk), y4], _, by simp! only [], .inl ?_, fi⟩
          refine ssq (by simp! only [call1] <;> rfl) ?_
          refine ssq (st (by simp! only [i0, in1, decide_true]; rfl) (by simp! only [s6, fs, x1]; rfl)) ?_
          refine ssq_f (by simp! only [i3, in2, decide_false] <;> rfl) ?_
          simp! only [il, a3]
      · have i0 := isin l0 dr.1
        have a3 := app l0
        have fi := fin l0 (.imm (.str (mkS l0))) dr.1 in1 ⟨dr.1, dr.2.elim .inl fun z => .inr (.inl z)⟩
        generalize strsD (names.map mkS) = NM at *
        generalize strsD ((names ++ [l0]).map mkS) = NM' at *
        generalize ((k : Nat) : Int) = kk at *
        refine ⟨[.io d1, .imm (.int (n : Nat)), .own NM, .imm (.int kk), y4], _, by simp! only [], .inl ?_, fi⟩
        refine ssq (by simp! only [call1] <;> rfl) ?_
        refine ssq_f (by simp! only [i0, in1, decide_false] <;> rfl) ?_
        refine ssq_f (by simp! only [i0, in1, decide_false] <;> rfl) ?_
        simp! only [il, a3])
  rw [rgD_len] at ln
  refine ⟨names, d1, (fn_rt (δ1 := [.io d1, .imm (.int (n : Nat)), .imm (strsD (names.map mkS)), y3, y4]) ?_).trans rfl, i1, ln, nd, fun l hl => ?_, kd⟩
  · unfold b__law_names
    refine ssq (δ1 := [.io d, .imm (.int (n : Nat)), .own (strsD []), .no, .no]) rfl ?_
    refine ssq f1 ?_
    simp! only []
  · obtain ⟨j, hj, e⟩ := List.getElem_of_mem hl
    rw [← e]
    exact (kd j _ (List.getElem?_eq_getElem hj)).1
theorem ev_names {ns : List Int} {d : D} {n : Nat} (hd : IsPl ns d) (hn : n ≤ 10) : ∃ (names : List (List Nat)) (d' : D), m__law_names [.io d, .imm (.int (n : Nat))] = some (.ok (strsD (names.map mkS)), [.io d', .no]) ∧ IsPl ns d' ∧ names.length = n ∧ names.Nodup ∧ ∀ l ∈ names, nmL l = true := by
  obtain ⟨names, d', e, i, ln, nd, nok, _⟩ := ev_namesK hd hn
  exact ⟨names, d', e, i, ln, nd, nok⟩
end M
set_option Elab.async false
set_option linter.all false
set_option maxRecDepth 100000
set_option maxHeartbeats 2000000
namespace M
open PySem L2
local macro_rules
  | `(tactic| simp! only [$as,*]) => `(tactic| simp only [x_bind, bk_ok, bk_ite, x_ret, x_lift, lk_some, lk_ite, app_ite, x_eC, x_eV, vk_imm, vk_own, vk_bor, x_give, gk_own, x_bin, x_un, x_ix, x_tru, x_eB, dBl_bl, dTru_bl, dTru_int, dTru_lst, x_and, x_or, x_not, x_eAnd, x_eOr, x_eNot, x_eIf, x_chain, x_aNil, x_aCons, x_aVr, rk_own, rk_io, x_aVb, tk_own, tk_io, tk_imm, tk_bor, x_eTup, x_eLst, imms_nil, imms_im, x_eF, x_call, ixV_C, jk_imm, jk_own, jk_io, jk_bor, flk_int, x_lenV, nk_imm, nk_own, nk_io, nk_bor, x_inV, hk_imm, hk_own, hk_io, hk_bor, x_sNx, x_pass, x_cont, x_brk, x_seq, sk_nx, sk_rt, sk_rtO, sk_ct, sk_bk, sk_ite, x_drop, x_sRet, x_sRetO, x_sIf, x_asg, x_asgO, x_gN, x_gO, x_gNil, x_gCons, x_gTt, x_gTl, x_sApp, x_sSet, x_chM, ck_own, ck_io, x_iOf, x_iRg, x_fn, fk_rt, fk_nx, fk_ite, ios_z, ios_s, keep_io, keep_imm, keep_own, keep_bor, keep_no, dSub_i, dAdd_i, dLt_i, dLe_i, dGt_i, dGe_i, dEq_int, dNe_int, ix_lst, ix_scr, ix_tup, atI_0, atI_1, atI_2, atI_3, List.getElem?_cons_zero, List.getElem?_cons_succ, List.set_cons_zero, List.set_cons_succ, List.length_cons, List.length_nil, List.cons_append, List.nil_append, List.replicate_succ, List.replicate_zero, Option.map_some, Option.bind_some, Nat.reduceAdd, Nat.reduceSub, Nat.reduceLT, Nat.reduceLeDiff, if_true, if_false, Bool.false_eq_true, decide_eq_true_eq, reduceIte, ne_eq, not_false_eq_true, Nat.lt_add_left_iff_pos, Nat.zero_lt_succ, x_call1, x_call2, x_call3, x_call4, dk1, dk2, dk3, dk4, ixV_V, Nat.reduceEqDiff, not_false_eq_true, x_isLst, x_isSet, List.map_cons, List.map_nil, Option.map_none, Option.bind_none, x_eSl, x_eP0, x_eP1, part_i, $as,*])
abbrev Row := List (Option Int)
def rowT (r : Row) : D := .tup (r.map oI)
def rowsT (rs : List Row) : D := .tup (rs.map rowT)
def RdOk (o : Option Int) : Prop := ∀ v, o = some v → 0 ≤ v ∧ v ≤ 999
structure Rect (w h : Nat) (rs : List Row) : Prop where
  len : rs.length = h
  wid : ∀ r ∈ rs, r.length = w
  rd : ∀ r ∈ rs, ∀ o ∈ r, RdOk o
theorem eight_at {t v : Int} (h0 : 0 ≤ t) (h : t < 8) (v0 : 0 ≤ v) (v1 : v < 1000) : ∃ o, atI [D.non, .int 0, .int 999, .int 7, .int 8, .int 9, .int v, .int 10] t = some (oI o) ∧ RdOk o := by
  have : t = 0 ∨ t = 1 ∨ t = 2 ∨ t = 3 ∨ t = 4 ∨ t = 5 ∨ t = 6 ∨ t = 7 := by omega
  have ok : ∀ x : Int, 0 ≤ x → x ≤ 999 → RdOk (some x) := fun x a b y e => by cases e; exact ⟨a, b⟩
  rcases this with e | e | e | e | e | e | e | e <;> rw [e]
  · exact ⟨none, atI_0, fun y e => by cases e⟩
  · exact ⟨some 0, atI_1, ok 0 (by omega) (by omega)⟩
  · exact ⟨some 999, atI_2, ok 999 (by omega) (by omega)⟩
  · exact ⟨some 7, atI_3, ok 7 (by omega) (by omega)⟩
  · exact ⟨some 8, rfl, ok 8 (by omega) (by omega)⟩
  · exact ⟨some 9, rfl, ok 9 (by omega) (by omega)⟩
  · exact ⟨some v, rfl, ok v v0 (by omega)⟩
  · exact ⟨some 10, rfl, ok 10 (by omega) (by omega)⟩
theorem ev_reading {ns : List Int} {d : D} (hd : IsPl ns d) : ∃ o d', m__law_reading [.io d] = some (.ok (oI o), [.io d']) ∧ IsPl ns d' ∧ RdOk o := by
  obtain ⟨t1, d1, c1, i1, a1, b1⟩ := ev_tk hd (m := 1000) (by omega) (by omega)
  obtain ⟨t2, d2, c2, i2, a2, b2⟩ := ev_tk i1 (m := 8) (by omega) (by omega)
  obtain ⟨o, e, r⟩ := eight_at a2 b2 a1 b1
  refine ⟨o, d2, (fn_rt (δ1 := [.io d2]) ?_).trans rfl, i2, r⟩
  unfold b__law_reading
  simp! only [c1, c2, e]
theorem ev_rd {ns : List Int} {d : D} (hd : IsPl ns d) : ∃ o d', (∀ δ, callM m__law_reading [.vr 0] (.io d :: δ) = some (.ok (oI o), .io d' :: δ)) ∧ IsPl ns d' ∧ RdOk o := by
  obtain ⟨o, d', e, i, r⟩ := ev_reading hd
  exact ⟨o, d', fun δ => call_of (by simp only [argSls, argSl, List.getElem?_cons_zero]) ⟨by simp [vrs], by simp [vbs]⟩ e (by simp only [backs, List.getElem?_cons_zero, List.set_cons_zero]), i, r⟩
theorem ev_rows {ns : List Int} {d : D} {most : Nat} (hd : IsPl ns d) (h1 : 1 ≤ most) (h2 : most ≤ 12) : ∃ (w h : Nat) (rs : List Row) (d' : D), m__law_rows [.io d, .imm (.int (most : Nat))] = some (.ok (rowsT rs), [.io d', .no]) ∧ IsPl ns d' ∧ Rect w h rs ∧ 1 ≤ w ∧ w ≤ most ∧ 1 ≤ h ∧ h ≤ most := by
  obtain ⟨t1, d1, c1, i1, a1, b1⟩ := ev_tk hd (m := (most : Nat)) (by omega) (by omega)
  obtain ⟨t2, d2, c2, i2, a2, b2⟩ := ev_tk i1 (m := (most : Nat)) (by omega) (by omega)
  obtain ⟨w, hw⟩ : ∃ w : Nat, 1 + t1 = (w : Int) := ⟨(1 + t1).toNat, by omega⟩
  obtain ⟨h, hh⟩ : ∃ h : Nat, 1 + t2 = (h : Int) := ⟨(1 + t2).toNat, by omega⟩
  obtain ⟨ys, δ', e, ⟨rs, d3, erow, rfl, i3, ok⟩, ly⟩ := eLc_acc (I := (iRg rg1 (aCons (eV 3) aNil))) (T := gN 5) (E := (eF fTuple (aCons (eLc (iRg rg1 (aCons (eV 2) aNil)) (gN 4) tYesM (eCall m__law_reading (aVr 0 aNil)) [4]) aNil))) (vs := [5]) (ds := rgD 0 h)
    (δ := [.io d2, .imm (.int (most : Nat)), .imm (.int (w : Nat)), .imm (.int (h : Nat)), .no, .no]) (δ0 := [.io d2, .imm (.int (most : Nat)), .imm (.int (w : Nat)), .imm (.int (h : Nat)), .no, .no])
    (fun acc δ => ∃ (rs : List Row) (d3 : D), acc = rs.map rowT ∧ δ = [.io d3, .imm (.int (most : Nat)), .imm (.int (w : Nat)), .imm (.int (h : Nat)), .no, .no] ∧ IsPl ns d3 ∧ ∀ r ∈ rs, r.length = w ∧ ∀ o ∈ r, RdOk o)
    (by simp! only [rg1_n (show h ≤ 1000 by omega)]) (by rw [rgD_len]; omega) ⟨[], d2, rfl, rfl, i2, fun r hr => by simp at hr⟩ (fun i x acc δ hx hl hI => by
      obtain ⟨rs, d3, rfl, rfl, i3, ok⟩ := hI
      obtain ⟨ys, δ', e, ⟨r, d4, erow, rfl, i4, ok4⟩, ly⟩ := eLc_acc (I := (iRg rg1 (aCons (eV 2) aNil))) (T := gN 4) (E := eCall m__law_reading (aVr 0 aNil)) (vs := [4]) (ds := rgD 0 w)
        (δ := [.io d3, .imm (.int (most : Nat)), .imm (.int (w : Nat)), .imm (.int (h : Nat)), .no, .imm x]) (δ0 := [.io d3, .imm (.int (most : Nat)), .imm (.int (w : Nat)), .imm (.int (h : Nat)), .no, .imm x])
        (fun acc δ => ∃ (r : Row) (d4 : D), acc = r.map oI ∧ δ = [.io d4, .imm (.int (most : Nat)), .imm (.int (w : Nat)), .imm (.int (h : Nat)), .no, .imm x] ∧ IsPl ns d4 ∧ ∀ o ∈ r, RdOk o)
        (by simp! only [rg1_n (show w ≤ 1000 by omega)]) (by rw [rgD_len]; omega) ⟨[], d3, rfl, rfl, i3, fun r hr => by simp at hr⟩ (fun i y acc δ hy hl hI => by
          obtain ⟨r, d4, rfl, rfl, i4, ok4⟩ := hI
          obtain ⟨o, d5, c5, i5, r5⟩ := ev_rd i4
          refine ⟨[.io d4, .imm (.int (most : Nat)), .imm (.int (w : Nat)), .imm (.int (h : Nat)), .imm y, .imm x], oI o, [.io d5, .imm (.int (most : Nat)), .imm (.int (w : Nat)), .imm (.int (h : Nat)), .imm y, .imm x], by simp! only [], by simp! only [c5], r ++ [o], d5, by rw [List.map_append]; rfl, rfl, i5, fun z hz => ?_⟩
          rcases List.mem_append.mp hz with hz | hz
          · exact ok4 z hz
          · rw [List.mem_singleton.mp hz]; exact r5)
      subst erow
      rw [List.length_map, rgD_len] at ly
      have ft : fTuple [.lst (r.map oI)] = some (rowT r) := rfl
      refine ⟨[.io d3, .imm (.int (most : Nat)), .imm (.int (w : Nat)), .imm (.int (h : Nat)), .no, .imm x], rowT r, [.io d4, .imm (.int (most : Nat)), .imm (.int (w : Nat)), .imm (.int (h : Nat)), .no, .imm x], by simp! only [], by simp! only [e, ft], rs ++ [r], d4, by rw [List.map_append]; rfl, rfl, i4, fun z hz => ?_⟩
      rcases List.mem_append.mp hz with hz | hz
      · exact ok z hz
      · rw [List.mem_singleton.mp hz]; exact ⟨ly, ok4⟩)
  subst erow
  rw [List.length_map, rgD_len] at ly
  have ft : fTuple [.lst (rs.map rowT)] = some (rowsT rs) := rfl
  refine ⟨w, h, rs, d3, (fn_rt (δ1 := [.io d3, .imm (.int (most : Nat)), .imm (.int (w : Nat)), .imm (.int (h : Nat)), .no, .no]) ?_).trans rfl, i3, ⟨ly, fun r hr => (ok r hr).1, fun r hr => (ok r hr).2⟩, by omega, by omega, by omega, by omega⟩
  unfold b__law_rows
  refine ssq (by simp! only [c1, hw] <;> rfl) ?_
  refine ssq (by simp! only [c2, hh] <;> rfl) ?_
  simp! only [e, ft]
end M
set_option Elab.async false
set_option linter.all false
set_option maxRecDepth 100000
set_option maxHeartbeats 2000000
namespace M
open PySem L2
local macro_rules
  | `(tactic| simp! only [$as,*]) => `(tactic| simp only [x_bind, bk_ok, bk_ite, x_ret, x_lift, lk_some, lk_ite, app_ite, x_eC, x_eV, vk_imm, vk_own, vk_bor, x_give, gk_own, x_bin, x_un, x_ix, x_tru, x_eB, dBl_bl, dTru_bl, dTru_int, dTru_lst, x_and, x_or, x_not, x_eAnd, x_eOr, x_eNot, x_eIf, x_chain, x_aNil, x_aCons, x_aVr, rk_own, rk_io, x_aVb, tk_own, tk_io, tk_imm, tk_bor, x_eTup, x_eLst, imms_nil, imms_im, x_eF, x_call, ixV_C, jk_imm, jk_own, jk_io, jk_bor, flk_int, x_lenV, nk_imm, nk_own, nk_io, nk_bor, x_inV, hk_imm, hk_own, hk_io, hk_bor, x_sNx, x_pass, x_cont, x_brk, x_seq, sk_nx, sk_rt, sk_rtO, sk_ct, sk_bk, sk_ite, x_drop, x_sRet, x_sRetO, x_sIf, x_asg, x_asgO, x_gN, x_gO, x_gNil, x_gCons, x_gTt, x_gTl, x_sApp, x_sSet, x_chM, ck_own, ck_io, x_iOf, x_iRg, x_fn, fk_rt, fk_nx, fk_ite, ios_z, ios_s, keep_io, keep_imm, keep_own, keep_bor, keep_no, dSub_i, dAdd_i, dLt_i, dLe_i, dGt_i, dGe_i, dEq_int, dNe_int, ix_lst, ix_scr, ix_tup, atI_0, atI_1, atI_2, atI_3, List.getElem?_cons_zero, List.getElem?_cons_succ, List.set_cons_zero, List.set_cons_succ, List.length_cons, List.length_nil, List.cons_append, List.nil_append, List.replicate_succ, List.replicate_zero, Option.map_some, Option.bind_some, Nat.reduceAdd, Nat.reduceSub, Nat.reduceLT, Nat.reduceLeDiff, if_true, if_false, Bool.false_eq_true, decide_eq_true_eq, reduceIte, ne_eq, not_false_eq_true, Nat.lt_add_left_iff_pos, Nat.zero_lt_succ, x_call1, x_call2, x_call3, x_call4, dk1, dk2, dk3, dk4, ixV_V, Nat.reduceEqDiff, not_false_eq_true, x_isLst, x_isSet, List.map_cons, List.map_nil, Option.map_none, Option.bind_none, x_eSl, x_eP0, x_eP1, part_i, $as,*])
abbrev T3r := Nat × Nat × Int
def t3D (t : T3r) : D := .tup [.int (t.1 : Nat), .int (t.2.1 : Nat), .int t.2.2]
def at2 (rs : List Row) (x y : Nat) : Option Int := ((rs[y]?).bind (·[x]?)).join
def rowRd (r : Row) (y : Nat) : List T3r := (List.range r.length).filterMap fun x => (r[x]?.join).map fun v => (x, y, v)
def rds (rs : List Row) : List T3r := (List.range rs.length).flatMap fun y => rowRd (rs.getD y []) y
theorem mem_rowRd {r : Row} {y : Nat} {t : T3r} : t ∈ rowRd r y ↔ t.2.1 = y ∧ r[t.1]?.join = some t.2.2 := by
  unfold rowRd
  rw [List.mem_filterMap]
  constructor
  · rintro ⟨x, _, h⟩
    obtain ⟨v, hv, rfl⟩ := Option.map_eq_some_iff.mp h
    exact ⟨rfl, hv⟩
  · rintro ⟨h1, h2⟩
    obtain ⟨x, y', v⟩ := t
    simp only at h1 h2
    subst h1
    have hx : x < r.length := by
      refine Classical.byContradiction fun c => ?_
      rw [List.getElem?_eq_none (by omega)] at h2; cases h2
    exact ⟨x, List.mem_range.mpr hx, by rw [h2]; rfl⟩
theorem mem_rds {rs : List Row} {t : T3r} : t ∈ rds rs ↔ at2 rs t.1 t.2.1 = some t.2.2 := by
  unfold rds at2
  rw [List.mem_flatMap]
  constructor
  · rintro ⟨y, hy, h⟩
    rw [List.mem_range] at hy
    obtain ⟨h1, h2⟩ := mem_rowRd.mp h
    rw [h1, List.getElem?_eq_getElem hy, Option.bind_some]
    rw [List.getD_eq_getElem?_getD, List.getElem?_eq_getElem hy, Option.getD_some] at h2
    exact h2
  · intro h
    have hy : t.2.1 < rs.length := by
      refine Classical.byContradiction fun c => ?_
      rw [List.getElem?_eq_none (by omega)] at h; cases h
    refine ⟨t.2.1, List.mem_range.mpr hy, mem_rowRd.mpr ⟨rfl, ?_⟩⟩
    rw [List.getElem?_eq_getElem hy, Option.bind_some] at h
    rw [List.getD_eq_getElem?_getD, List.getElem?_eq_getElem hy, Option.getD_some]
    exact h
theorem nodup_fm {α β : Type} {f : α → Option β} {l : List α} (nd : l.Nodup) (inj : ∀ a b c, f a = some c → f b = some c → a = b) : (l.filterMap f).Nodup := by
  induction l with
  | nil => exact List.nodup_nil
  | cons a l ih =>
    obtain ⟨n1, n2⟩ := List.nodup_cons.mp nd
    cases h : f a with
    | none => rw [List.filterMap_cons_none h]; exact ih n2
    | some b =>
      rw [List.filterMap_cons_some h, List.nodup_cons]
      refine ⟨fun c => ?_, ih n2⟩
      obtain ⟨x, hx, e⟩ := List.mem_filterMap.mp c
      exact n1 (inj a x b h e ▸ hx)
theorem nodup_flat {α β : Type} {f : α → List β} {l : List α} (nd : l.Nodup) (h1 : ∀ a ∈ l, (f a).Nodup) (h2 : ∀ a b c, c ∈ f a → c ∈ f b → a = b) : (l.flatMap f).Nodup := by
  induction l with
  | nil => exact List.nodup_nil
  | cons a l ih =>
    obtain ⟨n1, n2⟩ := List.nodup_cons.mp nd
    rw [List.flatMap_cons, List.nodup_append]
    refine ⟨h1 a List.mem_cons_self, ih n2 fun b hb => h1 b (List.mem_cons_of_mem _ hb), fun x hx y hy e => ?_⟩
    subst e
    obtain ⟨b, hb, hx2⟩ := List.mem_flatMap.mp hy
    exact n1 (h2 a b x hx hx2 ▸ hb)
theorem rds_nodup {rs : List Row} : (rds rs).Nodup := nodup_flat List.nodup_range (fun y _ => nodup_fm List.nodup_range fun a b c ha hb => by
  obtain ⟨_, _, rfl⟩ := Option.map_eq_some_iff.mp ha
  obtain ⟨_, _, e⟩ := Option.map_eq_some_iff.mp hb
  exact (congrArg Prod.fst e).symm) fun a b c ha hb => (mem_rowRd.mp ha).1.symm.trans (mem_rowRd.mp hb).1
theorem nodup_on {α β : Type} {f : α → β} : ∀ {l : List α}, l.Nodup → (∀ a ∈ l, ∀ b ∈ l, f a = f b → a = b) → (l.map f).Nodup
  | [], _, _ => List.nodup_nil
  | a :: l, nd, h => by
    obtain ⟨n1, n2⟩ := List.nodup_cons.mp nd
    rw [List.map_cons, List.nodup_cons]
    refine ⟨fun c => ?_, nodup_on n2 fun x hx y hy => h x (List.mem_cons_of_mem _ hx) y (List.mem_cons_of_mem _ hy)⟩
    obtain ⟨x, hx, e⟩ := List.mem_map.mp c
    have := h x (List.mem_cons_of_mem _ hx) a List.mem_cons_self e
    subst this
    exact n1 hx
theorem rds_keys {rs : List Row} : ((rds rs).map fun t => (t.1, t.2.1)).Nodup := nodup_on rds_nodup fun a ha b hb c => by
  have ha := mem_rds.mp ha
  have hb := mem_rds.mp hb
  have e1 := congrArg Prod.fst c
  have e2 := congrArg Prod.snd c
  simp only at e1 e2
  rw [e1, e2, hb] at ha
  obtain ⟨x, y, v⟩ := a
  obtain ⟨x', y', v'⟩ := b
  simp only at e1 e2 ha
  cases ha; subst e1; subst e2; rfl
theorem fm_len {α β : Type} {f : α → Option β} {l : List α} : (l.filterMap f).length ≤ l.length := List.length_filterMap_le _ _
theorem rowRd_len {r : Row} {y : Nat} : (rowRd r y).length ≤ r.length := by
  unfold rowRd
  have := fm_len (f := fun x => (r[x]?.join).map fun v => (x, y, v)) (l := List.range r.length)
  rw [List.length_range] at this
  exact this
theorem flat_le {α β : Type} {f : α → List β} {m : Nat} : ∀ {l : List α}, (∀ x ∈ l, (f x).length ≤ m) → (l.flatMap f).length ≤ m * l.length
  | [], _ => by simp
  | x :: l, h => by
    have := flat_le (l := l) fun y hy => h y (List.mem_cons_of_mem _ hy)
    have := h x List.mem_cons_self
    rw [List.flatMap_cons, List.length_append, List.length_cons, Nat.mul_add]
    omega
theorem getD_mem {rs : List Row} {y : Nat} (h : y < rs.length) : rs.getD y [] = rs[y] ∧ rs.getD y [] ∈ rs := by
  have e : rs.getD y [] = rs[y] := by rw [List.getD_eq_getElem?_getD, List.getElem?_eq_getElem h, Option.getD_some]
  exact ⟨e, by rw [e]; exact List.getElem_mem h⟩
theorem rds_len' {w h : Nat} {rs : List Row} (R : Rect w h rs) (k : Nat) : ((List.range k).flatMap fun y => rowRd (rs.getD y []) y).length ≤ w * k := by
  have := flat_le (f := fun y => rowRd (rs.getD y []) y) (m := w) (l := List.range k) fun y hy => by
    have h1 := rowRd_len (r := rs.getD y []) (y := y)
    by_cases c : y < rs.length
    · have := R.wid _ (getD_mem c).2
      omega
    · rw [List.getD_eq_getElem?_getD, List.getElem?_eq_none (by omega), Option.getD_none] at h1
      rw [List.getD_eq_getElem?_getD, List.getElem?_eq_none (by omega), Option.getD_none]
      have e0 : ([] : Row).length = 0 := rfl
      omega
  rw [List.length_range] at this
  exact this
theorem rds_len {w h : Nat} {rs : List Row} (R : Rect w h rs) : (rds rs).length ≤ w * h := by
  have := rds_len' R rs.length
  rw [R.len] at this
  unfold rds
  rw [R.len]; exact this
def vwD (s : Str) (rs : List Row) : D := .tup [.str s, rowsT rs]
theorem vw_1 {s : Str} {rs : List Row} : dIx (vwD s rs) (.int 1) = some (rowsT rs) := atI_1
theorem ix_rows {rs : List Row} {y : Nat} (h : y < rs.length) : dIx (rowsT rs) (.int (y : Nat)) = some (rowT (rs.getD y [])) := by
  rw [(getD_mem h).1]
  exact at_map (f := rowT) (List.getElem?_eq_getElem h)
theorem ix_row {r : Row} {x : Nat} (h : x < r.length) : dIx (rowT r) (.int (x : Nat)) = some (oI r[x]) := at_map (f := oI) (List.getElem?_eq_getElem h)
theorem len_rows {rs : List Row} : fLen [rowsT rs] = some (.int (rs.length : Nat)) := by
  show some (D.int ((rs.map rowT).length : Nat)) = _
  rw [List.length_map]
theorem len_row {r : Row} : fLen [rowT r] = some (.int (r.length : Nat)) := by
  show some (D.int ((r.map oI).length : Nat)) = _
  rw [List.length_map]
theorem dNot_oI {o : Option Int} : dIs true (oI o) .non = some (.bl o.isSome) := by cases o <;> rfl
theorem rgD0 {n : Nat} : rgD 0 n = (List.range n).map fun i : Nat => D.int (i : Int) := by
  unfold rgD
  apply List.map_congr_left
  intro i _
  rw [Int.zero_add]
theorem filterMap_filter {α β : Type} {p : α → Bool} {f : α → β} {g : α → Option β} {l : List α} (h : ∀ a ∈ l, g a = if p a = true then some (f a) else none) : (l.filter p).map f = l.filterMap g := by
  induction l with
  | nil => rfl
  | cons a l ih =>
    have ih := ih fun b hb => h b (List.mem_cons_of_mem _ hb)
    have ha := h a List.mem_cons_self
    by_cases c : p a = true
    · rw [if_pos c] at ha
      rw [List.filter_cons_of_pos c, List.map_cons, List.filterMap_cons_some ha, ih]
    · rw [if_neg c] at ha
      rw [List.filter_cons_of_neg c, List.filterMap_cons_none ha, ih]
theorem rowRd_D {r : Row} {y : Nat} : ((List.range r.length).filter fun x => (r[x]?.join).isSome).map (fun x => D.tup [.int (x : Nat), .int (y : Nat), oI (r[x]?.join)]) = (rowRd r y).map t3D := by
  rw [filterMap_filter (g := fun x => (r[x]?.join).map fun v => t3D (x, y, v))]
  · unfold rowRd
    rw [List.map_filterMap]
    congr 1
    funext x
    cases r[x]?.join <;> rfl
  · intro x _
    cases h : r[x]?.join with
    | none => rfl
    | some v => rfl
theorem get_join {r : Row} {x : Nat} (h : x < r.length) : r[x]?.join = r[x] := by rw [List.getElem?_eq_getElem h]; rfl
theorem ev_readings {w h : Nat} {s : Str} {rs : List Row} (R : Rect w h rs) (hw : w ≤ 12) (hh : h ≤ 12) : m_readings [.imm (vwD s rs)] = some (.ok (.lst ((rds rs).map t3D)), [.no]) := by
  have hl : rs.length ≤ 12 := by rw [R.len]; exact hh
  obtain ⟨δ', f1, y2, y3, rfl⟩ := sFor_inv (I := (iRg rg1 (aCons (eF fLen (aCons (eIxV 0 (eC (.int 1))) aNil)) aNil))) (T := gN 2) (S := (sSeq (sAsg (gN 3) (eIx (eIxV 0 (eC (.int 1))) (eV 2)))
 (sAsg (gN 1) (eBin dAdd (eV 1) (eLc (iRg rg1 (aCons (eF fLen (aCons (eV 3) aNil)) aNil)) (gN 4) (eB (eBin (dIs true) (eIxV 3 (eV 4)) (eC .non))) (eTup (aCons (eV 4) (aCons (eV 2) (aCons (eIxV 3 (eV 4)) aNil)))) [4]))))) (ds := rgD 0 rs.length)
    (δ := [.imm (vwD s rs), .imm (.lst []), .no, .no, .no]) (δ0 := [.imm (vwD s rs), .imm (.lst []), .no, .no, .no])
    (fun k δ => ∃ y2 y3 : Sl, δ = [.imm (vwD s rs), .imm (.lst (((List.range k).flatMap fun y => rowRd (rs.getD y []) y).map t3D)), y2, y3, .no])
    (by simp! only [vw_1, len_rows, rg1_n (show rs.length ≤ 1000 by omega)]) ⟨.no, .no, rfl⟩ (fun k x δ hk hδ => by
      obtain ⟨y2, y3, rfl⟩ := hδ
      obtain ⟨hkk, rfl⟩ := rgD_get hk
      have l1 := rds_len' R k
      have l1 : ((List.range k).flatMap fun y => rowRd (rs.getD y []) y).length ≤ 1000 := by
        have : w * k ≤ 12 * 12 := Nat.mul_le_mul hw (by omega)
        omega
      have e0 := ix_rows hkk
      have hr := R.wid _ (getD_mem hkk).2
      rw [List.range_succ, List.flatMap_append, List.map_append, List.flatMap_singleton]
      have l2 := rowRd_len (r := rs.getD k []) (y := k)
      generalize rs.getD k [] = r at *
      have l3 : (((List.range k).flatMap fun y => rowRd (rs.getD y []) y).map t3D).length ≤ 1000 := by rw [List.length_map]; exact l1
      generalize ((List.range k).flatMap fun y => rowRd (rs.getD y []) y).map t3D = L at *
      have e1 : (eLc (iRg rg1 (aCons (eF fLen (aCons (eV 3) aNil)) aNil)) (gN 4) (eB (eBin (dIs true) (eIxV 3 (eV 4)) (eC .non))) (eTup (aCons (eV 4) (aCons (eV 2) (aCons (eIxV 3 (eV 4)) aNil)))) [4]) [.imm (vwD s rs), .imm (.lst L), .imm (.int (k : Nat)), .imm (rowT r), .no] = some (.ok (.lst ((rowRd r k).map t3D)), [.imm (vwD s rs), .imm (.lst L), .imm (.int (k : Nat)), .imm (rowT r), .no]) := by
        rw [eLc_map (l := List.range r.length) (g := fun i : Nat => D.int (i : Int)) (p := fun x => (r[x]?.join).isSome) (f := fun x => D.tup [.int (x : Nat), .int (k : Nat), oI (r[x]?.join)]) (δ0 := [.imm (vwD s rs), .imm (.lst L), .imm (.int (k : Nat)), .imm (rowT r), .no])]
        · rw [rowRd_D]; rfl
        · simp! only [len_row, rg1_n (show r.length ≤ 1000 by omega), rgD0]
        · rw [List.length_range]; omega
        · intro x hx
          have hx := List.mem_range.mp hx
          have e2 := ix_row hx
          rw [← get_join hx] at e2
          generalize r[x]?.join = o at *
          generalize (x : Int) = X at *
          refine ⟨[.imm (vwD s rs), .imm (.lst L), .imm (.int (k : Nat)), .imm (rowT r), .imm (.int X)], [.imm (vwD s rs), .imm (.lst L), .imm (.int (k : Nat)), .imm (rowT r), .imm (.int X)], ?_, ?_, fun _ => rfl, fun _ => ⟨[.imm (vwD s rs), .imm (.lst L), .imm (.int (k : Nat)), .imm (rowT r), .imm (.int X)], ?_, rfl⟩⟩
          · simp! only [wipeE]
          · simp! only [e2, dNot_oI]
          · simp! only [e2]
      have e3 := lst_app (l := L) (m := (rowRd r k).map t3D) l3 (by rw [List.length_map]; omega)
      generalize (k : Int) = K at *
      refine ⟨[.imm (vwD s rs), .imm (.lst L), .imm (.int K), y3, .no], [.imm (vwD s rs), .imm (.lst (L ++ (rowRd r k).map t3D)), .imm (.int K), .imm (rowT r), .no], by simp! only [], .inl ?_, _, _, rfl⟩
      refine ssq (by simp! only [vw_1, e0] <;> rfl) ?_
      simp! only [e1, e3])
  rw [rgD_len] at f1
  refine (fn_rt (δ1 := [.imm (vwD s rs), .imm (.lst ((rds rs).map t3D)), y2, y3, .no]) ?_).trans rfl
  unfold b_readings
  refine ssq (by simp! only [] <;> rfl) ?_
  refine ssq f1 ?_
  unfold rds
  simp! only []
end M
set_option Elab.async false
set_option linter.all false
set_option maxRecDepth 100000
set_option maxHeartbeats 2000000
namespace M
open PySem L2
local macro_rules
  | `(tactic| simp! only [$as,*]) => `(tactic| simp only [x_bind, bk_ok, bk_ite, x_ret, x_lift, lk_some, lk_ite, app_ite, x_eC, x_eV, vk_imm, vk_own, vk_bor, x_give, gk_own, x_bin, x_un, x_ix, x_tru, x_eB, dBl_bl, dTru_bl, dTru_int, dTru_lst, x_and, x_or, x_not, x_eAnd, x_eOr, x_eNot, x_eIf, x_chain, x_aNil, x_aCons, x_aVr, rk_own, rk_io, x_aVb, tk_own, tk_io, tk_imm, tk_bor, x_eTup, x_eLst, imms_nil, imms_im, x_eF, x_call, ixV_C, jk_imm, jk_own, jk_io, jk_bor, flk_int, x_lenV, nk_imm, nk_own, nk_io, nk_bor, x_inV, hk_imm, hk_own, hk_io, hk_bor, x_sNx, x_pass, x_cont, x_brk, x_seq, sk_nx, sk_rt, sk_rtO, sk_ct, sk_bk, sk_ite, x_drop, x_sRet, x_sRetO, x_sIf, x_asg, x_asgO, x_gN, x_gO, x_gNil, x_gCons, x_gTt, x_gTl, x_sApp, x_sSet, x_chM, ck_own, ck_io, x_iOf, x_iRg, x_fn, fk_rt, fk_nx, fk_ite, ios_z, ios_s, keep_io, keep_imm, keep_own, keep_bor, keep_no, dSub_i, dAdd_i, dLt_i, dLe_i, dGt_i, dGe_i, dEq_int, dNe_int, ix_lst, ix_scr, ix_tup, atI_0, atI_1, atI_2, atI_3, List.getElem?_cons_zero, List.getElem?_cons_succ, List.set_cons_zero, List.set_cons_succ, List.length_cons, List.length_nil, List.cons_append, List.nil_append, List.replicate_succ, List.replicate_zero, Option.map_some, Option.bind_some, Nat.reduceAdd, Nat.reduceSub, Nat.reduceLT, Nat.reduceLeDiff, if_true, if_false, Bool.false_eq_true, decide_eq_true_eq, reduceIte, ne_eq, not_false_eq_true, Nat.lt_add_left_iff_pos, Nat.zero_lt_succ, x_call1, x_call2, x_call3, x_call4, dk1, dk2, dk3, dk4, ixV_V, Nat.reduceEqDiff, not_false_eq_true, x_isLst, x_isSet, List.map_cons, List.map_nil, Option.map_none, Option.bind_none, x_eSl, x_eP0, x_eP1, part_i, $as,*])
def isiV' (T : String) (d : D) : Option D := if notScr d = true then (kitB (tyN d) T).map D.bl else none
theorem x_isi2' {T : String} {E : Mo D} {δ : Env} : eIsi2 T E δ = bk (fun d => Mo.lift (isiV' T d)) (E δ) := x_bind
/-- neither a dict nor the script -/
def plain : D → Bool
  | .scr _ => false | .dK _ => false | .dT _ => false | .alb _ _ => false | _ => true
def isStr : D → Bool | .str _ => true | _ => false
def isTup : D → Bool | .tup _ => true | _ => false
def isWh : D → Bool | .int _ => true | _ => false
def isBl : D → Bool | .bl _ => true | _ => false
theorem kbs : (kitB "NoneType" "int" = some false ∧ kitB "bool" "int" = some true ∧ kitB "int" "int" = some true ∧ kitB "str" "int" = some false ∧ kitB "tuple" "int" = some false ∧ kitB "list" "int" = some false)
  ∧ (kitB "NoneType" "bool" = some false ∧ kitB "bool" "bool" = some true ∧ kitB "int" "bool" = some false ∧ kitB "str" "bool" = some false ∧ kitB "tuple" "bool" = some false ∧ kitB "list" "bool" = some false)
  ∧ (kitB "NoneType" "str" = some false ∧ kitB "bool" "str" = some false ∧ kitB "int" "str" = some false ∧ kitB "str" "str" = some true ∧ kitB "tuple" "str" = some false ∧ kitB "list" "str" = some false)
  ∧ (kitB "NoneType" "tuple" = some false ∧ kitB "bool" "tuple" = some false ∧ kitB "int" "tuple" = some false ∧ kitB "str" "tuple" = some false ∧ kitB "tuple" "tuple" = some true ∧ kitB "list" "tuple" = some false) := by decide +kernel
theorem isi_int {d : D} (h : plain d = true) : isiV' "int" d = some (.bl (isWh d || isBl d)) := by
  obtain ⟨⟨a, b, c, e, f, g⟩, _⟩ := kbs
  cases d with
  | scr _ => cases h
  | dK _ => cases h
  | dT _ => cases h
  | alb _ _ => cases h
  | non => show (kitB "NoneType" "int").map D.bl = _; rw [a]; rfl
  | bl _ => show (kitB "bool" "int").map D.bl = _; rw [b]; rfl
  | int _ => show (kitB "int" "int").map D.bl = _; rw [c]; rfl
  | str _ => show (kitB "str" "int").map D.bl = _; rw [e]; rfl
  | tup _ => show (kitB "tuple" "int").map D.bl = _; rw [f]; rfl
  | lst _ => show (kitB "list" "int").map D.bl = _; rw [g]; rfl
theorem isi_bool {d : D} (h : plain d = true) : isiV' "bool" d = some (.bl (isBl d)) := by
  obtain ⟨_, ⟨a, b, c, e, f, g⟩, _⟩ := kbs
  cases d with
  | scr _ => cases h
  | dK _ => cases h
  | dT _ => cases h
  | alb _ _ => cases h
  | non => show (kitB "NoneType" "bool").map D.bl = _; rw [a]; rfl
  | bl _ => show (kitB "bool" "bool").map D.bl = _; rw [b]; rfl
  | int _ => show (kitB "int" "bool").map D.bl = _; rw [c]; rfl
  | str _ => show (kitB "str" "bool").map D.bl = _; rw [e]; rfl
  | tup _ => show (kitB "tuple" "bool").map D.bl = _; rw [f]; rfl
  | lst _ => show (kitB "list" "bool").map D.bl = _; rw [g]; rfl
theorem isi_str {d : D} (h : plain d = true) : isiV' "str" d = some (.bl (isStr d)) := by
  obtain ⟨_, _, ⟨a, b, c, e, f, g⟩, _⟩ := kbs
  cases d with
  | scr _ => cases h
  | dK _ => cases h
  | dT _ => cases h
  | alb _ _ => cases h
  | non => show (kitB "NoneType" "str").map D.bl = _; rw [a]; rfl
  | bl _ => show (kitB "bool" "str").map D.bl = _; rw [b]; rfl
  | int _ => show (kitB "int" "str").map D.bl = _; rw [c]; rfl
  | str _ => show (kitB "str" "str").map D.bl = _; rw [e]; rfl
  | tup _ => show (kitB "tuple" "str").map D.bl = _; rw [f]; rfl
  | lst _ => show (kitB "list" "str").map D.bl = _; rw [g]; rfl
theorem isi_tup {d : D} (h : plain d = true) : isiV' "tuple" d = some (.bl (isTup d)) := by
  obtain ⟨_, _, _, ⟨a, b, c, e, f, g⟩⟩ := kbs
  cases d with
  | scr _ => cases h
  | dK _ => cases h
  | dT _ => cases h
  | alb _ _ => cases h
  | non => show (kitB "NoneType" "tuple").map D.bl = _; rw [a]; rfl
  | bl _ => show (kitB "bool" "tuple").map D.bl = _; rw [b]; rfl
  | int _ => show (kitB "int" "tuple").map D.bl = _; rw [c]; rfl
  | str _ => show (kitB "str" "tuple").map D.bl = _; rw [e]; rfl
  | tup _ => show (kitB "tuple" "tuple").map D.bl = _; rw [f]; rfl
  | lst _ => show (kitB "list" "tuple").map D.bl = _; rw [g]; rfl
theorem ev_wh {d : D} (h : plain d = true) : m_is_whole [.imm d] = some (.ok (.bl (isWh d)), [.no]) := by
  have e1 := isi_int h
  have e2 := isi_bool h
  refine (fn_rt (δ1 := [.imm d]) ?_).trans rfl
  unfold b_is_whole
  cases a : isWh d <;> cases b : isBl d
  · rw [a, b] at e1; rw [b] at e2; simp! only [x_isi2', e1, e2, Bool.or_self, Bool.not_false, Bool.not_true, Bool.true_or, Bool.or_true]
  · rw [a, b] at e1; rw [b] at e2; simp! only [x_isi2', e1, e2, Bool.or_self, Bool.not_false, Bool.not_true, Bool.true_or, Bool.or_true]
  · rw [a, b] at e1; rw [b] at e2; simp! only [x_isi2', e1, e2, Bool.or_self, Bool.not_false, Bool.not_true, Bool.true_or, Bool.or_true, Bool.or_false]
  · cases d <;> cases a <;> cases b
def rdB : D → Bool
  | .non => true
  | .int i => decide (0 ≤ i) && decide (i ≤ 999)
  | _ => false
theorem dIs_plain {d : D} (h : d ≠ .non) : dIs false d .non = some (.bl false) := by cases d <;> first | rfl | exact absurd rfl h
theorem ev_isrd {d : D} (h : plain d = true) : m_is_reading [.imm d] = some (.ok (.bl (rdB d)), [.no]) := by
  refine (fn_rt (δ1 := [.imm d]) ?_).trans rfl
  unfold b_is_reading
  have e1 := ev_wh h
  by_cases hn : d = .non
  · subst hn
    have : dIs false .non .non = some (.bl true) := rfl
    simp! only [this]
    rfl
  · have e2 := dIs_plain hn
    cases d with
    | non => exact absurd rfl hn
    | int i =>
      have e1 : m_is_whole [.imm (.int i)] = some (.ok (.bl true), [.no]) := e1
      by_cases c : 0 ≤ i
      · simp! only [e1, e2, c, decide_true]
        rw [show rdB (.int i) = (decide (0 ≤ i) && decide (i ≤ 999)) from rfl, decide_eq_true c]; rfl
      · simp! only [e1, e2, c, decide_false]
        rw [show rdB (.int i) = (decide (0 ≤ i) && decide (i ≤ 999)) from rfl, decide_eq_false c]; rfl
    | scr _ => cases h
    | dK _ => cases h
    | dT _ => cases h
    | alb _ _ => cases h
    | bl _ => simp! only [e1, e2]; rfl
    | str _ => simp! only [e1, e2]; rfl
    | tup _ => simp! only [e1, e2]; rfl
    | lst _ => simp! only [e1, e2]; rfl
end M
set_option Elab.async false
set_option linter.all false
set_option maxRecDepth 100000
set_option maxHeartbeats 2000000
namespace M
open PySem L2
local macro_rules
  | `(tactic| simp! only [$as,*]) => `(tactic| simp only [x_bind, bk_ok, bk_ite, x_ret, x_lift, lk_some, lk_ite, app_ite, x_eC, x_eV, vk_imm, vk_own, vk_bor, x_give, gk_own, x_bin, x_un, x_ix, x_tru, x_eB, dBl_bl, dTru_bl, dTru_int, dTru_lst, x_and, x_or, x_not, x_eAnd, x_eOr, x_eNot, x_eIf, x_chain, x_aNil, x_aCons, x_aVr, rk_own, rk_io, x_aVb, tk_own, tk_io, tk_imm, tk_bor, x_eTup, x_eLst, imms_nil, imms_im, x_eF, x_call, ixV_C, jk_imm, jk_own, jk_io, jk_bor, flk_int, x_lenV, nk_imm, nk_own, nk_io, nk_bor, x_inV, hk_imm, hk_own, hk_io, hk_bor, x_sNx, x_pass, x_cont, x_brk, x_seq, sk_nx, sk_rt, sk_rtO, sk_ct, sk_bk, sk_ite, x_drop, x_sRet, x_sRetO, x_sIf, x_asg, x_asgO, x_gN, x_gO, x_gNil, x_gCons, x_gTt, x_gTl, x_sApp, x_sSet, x_chM, ck_own, ck_io, x_iOf, x_iRg, x_fn, fk_rt, fk_nx, fk_ite, ios_z, ios_s, keep_io, keep_imm, keep_own, keep_bor, keep_no, dSub_i, dAdd_i, dLt_i, dLe_i, dGt_i, dGe_i, dEq_int, dNe_int, ix_lst, ix_scr, ix_tup, atI_0, atI_1, atI_2, atI_3, List.getElem?_cons_zero, List.getElem?_cons_succ, List.set_cons_zero, List.set_cons_succ, List.length_cons, List.length_nil, List.cons_append, List.nil_append, List.replicate_succ, List.replicate_zero, Option.map_some, Option.bind_some, Nat.reduceAdd, Nat.reduceSub, Nat.reduceLT, Nat.reduceLeDiff, if_true, if_false, Bool.false_eq_true, decide_eq_true_eq, reduceIte, ne_eq, not_false_eq_true, Nat.lt_add_left_iff_pos, Nat.zero_lt_succ, x_call1, x_call2, x_call3, x_call4, dk1, dk2, dk3, dk4, ixV_V, Nat.reduceEqDiff, not_false_eq_true, x_isLst, x_isSet, List.map_cons, List.map_nil, Option.map_none, Option.bind_none, x_eSl, x_eP0, x_eP1, part_i, $as,*])
theorem lt_one {a c : Nat} : ([c] < [a]) ↔ c < a := by
  rw [List.cons_lt_cons_iff]
  constructor
  · rintro (h | ⟨rfl, h⟩)
    · exact h
    · exact absurd h (List.not_lt_nil _)
  · exact fun h => .inl h
theorem dLe_ch {a c : Nat} : dLe (.str (mkS [a])) (.str (mkS [c])) = some (.bl (decide (a ≤ c))) := by
  show some (D.bl (!decide ((mkS [c]).cps.toList < (mkS [a]).cps.toList))) = _
  rw [mkS_cps, mkS_cps]
  congr 2
  by_cases h : a ≤ c
  · rw [decide_eq_false (fun z => by have := lt_one.mp z; omega), decide_eq_true h]; rfl
  · rw [decide_eq_true (lt_one.mpr (by omega)), decide_eq_false h]; rfl
theorem chs : ("a" : Str) = mkS [97] ∧ ("z" : Str) = mkS [122] ∧ ("0" : Str) = mkS [48] ∧ ("9" : Str) = mkS [57] := by decide +kernel
theorem dEq_strs {a b : Str} (ha : (toPy (.str a)).canLay0 = true) (hb : (toPy (.str b)).canLay0 = true) : dEq (.str a) (.str b) = some (.bl (decide (a = b))) := by
  show (if shp (.str a) = true ∧ shp (.str b) = true then some (D.bl (PyData.eqv (toPy (.str a)) (toPy (.str b)))) else none) = _
  rw [if_pos ⟨fine_shp (fine_s ha).1, fine_shp (fine_s hb).1⟩]
  unfold toPy PyData.eqv
  by_cases c : a = b <;> simp [c]
theorem fLen_str {s : Str} (h : s.length ≤ 1000) : fLen [.str s] = some (.int (s.length : Nat)) := if_pos (small_len h)
def nameB : D → Bool
  | .str s => nmB s
  | _ => false
/-- the strs among the values are of real signs -/
def strOk : D → Prop
  | .str s => (toPy (.str s)).canLay0 = true ∧ s.length ≤ 1000
  | _ => True
theorem stD_map {s : Str} : stD s = s.cps.toList.map fun c => D.str (mkS [c]) := by
  unfold stD; rfl
theorem all_bl {α : Type} {p : α → Bool} : ∀ {l : List α}, blsD (l.map fun x => D.bl (p x)) = some (l.map p)
  | [] => rfl
  | x :: l => by
    rw [List.map_cons, List.map_cons]
    unfold blsD
    rw [all_bl (l := l)]; rfl
theorem fAll_map {α : Type} {p : α → Bool} {l : List α} : fAll [.lst (l.map fun x => D.bl (p x))] = some (.bl (l.all p)) := by
  show (match blsD (l.map fun x => D.bl (p x)) with | some bs => some (D.bl (bs.all id)) | none => none) = _
  rw [all_bl]
  simp [List.all_map]
theorem ev_isnm {d : D} (h : plain d = true) (hs : strOk d) : m_is_name [.imm d] = some (.ok (.bl (nameB d)), [.no]) := by
  have e1 := isi_str h
  cases d with
  | str s =>
    have e1 : isiV' "str" (.str s) = some (.bl true) := e1
    have e2 := dEq_strs (b := "") hs.1 (by decide +kernel)
    obtain ⟨q1, q2, q3, q4⟩ := chs
    by_cases c1 : s = ""
    · rw [decide_eq_true c1] at e2
      refine (fn_rt (δ1 := [.imm (.str s), .no]) ?_).trans rfl
      unfold b_is_name
      refine ssq_rt (st (by simp! only [x_isi2', e1, e2]; rfl) ?_)
      subst c1
      rfl
    · rw [decide_eq_false c1] at e2
      by_cases c2 : s.length > 8
      · refine (fn_rt (δ1 := [.imm (.str s), .no]) ?_).trans rfl
        unfold b_is_name
        have c3 : ((s.length : Nat) : Int) > 8 := by omega
        refine ssq_rt (st (by simp! only [x_isi2', e1, e2, fLen_str hs.2, c3, decide_true]; rfl) ?_)
        show some (Except.ok (Out.rt (D.bl false)), _) = _
        have : nameB (.str s) = false := by
          show nmB s = false
          unfold nmB nmL
          rw [len_cps] at c2
          rw [decide_eq_false (by omega)]; rfl
        rw [this]
      · have c3 : ¬ ((s.length : Nat) : Int) > 8 := by omega
        have hl : s.cps.toList.length ≤ 8 := by rw [← len_cps]; omega
        have el : (eLc (iOf (eV 0)) (gN 1) tYesM (eOr (eChain dLe dLe (eC (.str "a")) (eV 1) (eC (.str "z"))) (eChain dLe dLe (eC (.str "0")) (eV 1) (eC (.str "9")))) [1]) [.imm (.str s), .no] = some (.ok (.lst (s.cps.toList.map fun c => .bl (namB c))), [.imm (.str s), .no]) := by
          rw [eLc_map (l := s.cps.toList) (g := fun c => D.str (mkS [c])) (p := fun _ => true) (f := fun c => D.bl (namB c)) (δ0 := [.imm (.str s), .no])]
          · rw [List.filter_eq_self.mpr (fun _ _ => rfl)]; rfl
          · simp! only [itD, stD_map]
          · omega
          · intro c hc
            refine ⟨[.imm (.str s), .imm (.str (mkS [c]))], [.imm (.str s), .imm (.str (mkS [c]))], by simp! only [wipeE], rfl, (fun z => by cases z), fun _ => ⟨[.imm (.str s), .imm (.str (mkS [c]))], ?_, rfl⟩⟩
            rw [q1, q2, q3, q4]
            unfold namB lowB
            by_cases d1 : 97 ≤ c
            · by_cases d2 : c ≤ 122
              · simp! only [dLe_ch, d1, d2, decide_true, Bool.and_true, Bool.true_or]
              · by_cases d3 : 48 ≤ c <;> by_cases d4 : c ≤ 57 <;> simp! only [dLe_ch, d1, d2, d3, d4, decide_true, decide_false, Bool.and_true, Bool.and_false, Bool.false_and, Bool.false_or]
            · by_cases d3 : 48 ≤ c <;> by_cases d4 : c ≤ 57 <;> simp! only [dLe_ch, d1, d3, d4, decide_true, decide_false, Bool.and_true, Bool.and_false, Bool.false_and, Bool.false_or]
        refine (fn_rt (δ1 := [.imm (.str s), .no]) ?_).trans rfl
        unfold b_is_name
        generalize hn : ((s.length : Nat) : Int) = n at c3
        refine ssq_f (by simp! only [x_isi2', e1, e2, fLen_str hs.2, hn, c3, decide_false] <;> rfl) ?_
        have hne : s.cps.toList ≠ [] := fun z => c1 (by
          have : s = mkS s.cps.toList := rfl
          rw [this, z]; decide +kernel)
        have em : nameB (.str s) = ((match s.cps.toList with | [] => false | c :: _ => lowB c) && s.cps.toList.all namB) := by
          show nmL s.cps.toList = _
          unfold nmL
          rw [decide_eq_true hl, Bool.true_and]
          try rfl
        cases ha : s.cps.toList.all namB with
        | false =>
          rw [em, ha, Bool.and_false]
          refine ssq_rt (st (by simp! only [el, fAll_map, ha]; rfl) rfl)
        | true =>
          rw [em, ha, Bool.and_true]
          refine ssq_f (by simp! only [el, fAll_map, ha] <;> rfl) ?_
          cases hc : s.cps.toList with
          | nil => exact absurd hc hne
          | cons c l =>
            have hx : dIx (.str s) (.int 0) = some (.str (mkS [c])) := by
              show (if s.length ≤ sizeLine then (atI s.cps.toList 0).map fun c => D.str ⟨#[c]⟩ else none) = _
              rw [if_pos (small_len (by omega)), hc, atI_0]; rfl
            rw [q1, q2]
            show _ = some (Except.ok (Out.rt (.bl (lowB c))), _)
            unfold lowB
            by_cases d1 : 97 ≤ c
            · simp! only [hx, dLe_ch, d1, decide_true, Bool.true_and]
            · simp! only [hx, dLe_ch, d1, decide_false, Bool.false_and]
  | scr _ => cases h
  | dK _ => cases h
  | dT _ => cases h
  | alb _ _ => cases h
  | non => exact (fn_rt (δ1 := [.imm .non, .no]) (ssq_rt (st (by have e1 : isiV' "str" .non = some (.bl false) := e1; simp! only [x_isi2', e1]; rfl) rfl))).trans rfl
  | bl b => exact (fn_rt (δ1 := [.imm (.bl b), .no]) (ssq_rt (st (by have e1 : isiV' "str" (.bl b) = some (.bl false) := e1; simp! only [x_isi2', e1]; rfl) rfl))).trans rfl
  | int b => exact (fn_rt (δ1 := [.imm (.int b), .no]) (ssq_rt (st (by have e1 : isiV' "str" (.int b) = some (.bl false) := e1; simp! only [x_isi2', e1]; rfl) rfl))).trans rfl
  | tup b => exact (fn_rt (δ1 := [.imm (.tup b), .no]) (ssq_rt (st (by have e1 : isiV' "str" (.tup b) = some (.bl false) := e1; simp! only [x_isi2', e1]; rfl) rfl))).trans rfl
  | lst b => exact (fn_rt (δ1 := [.imm (.lst b), .no]) (ssq_rt (st (by have e1 : isiV' "str" (.lst b) = some (.bl false) := e1; simp! only [x_isi2', e1]; rfl) rfl))).trans rfl
end M
set_option Elab.async false
set_option linter.all false
set_option maxRecDepth 100000
set_option maxHeartbeats 2000000
namespace M
open PySem L2
local macro_rules
  | `(tactic| simp! only [$as,*]) => `(tactic| simp only [x_bind, bk_ok, bk_ite, x_ret, x_lift, lk_some, lk_ite, app_ite, x_eC, x_eV, vk_imm, vk_own, vk_bor, x_give, gk_own, x_bin, x_un, x_ix, x_tru, x_eB, dBl_bl, dTru_bl, dTru_int, dTru_lst, x_and, x_or, x_not, x_eAnd, x_eOr, x_eNot, x_eIf, x_chain, x_aNil, x_aCons, x_aVr, rk_own, rk_io, x_aVb, tk_own, tk_io, tk_imm, tk_bor, x_eTup, x_eLst, imms_nil, imms_im, x_eF, x_call, ixV_C, jk_imm, jk_own, jk_io, jk_bor, flk_int, x_lenV, nk_imm, nk_own, nk_io, nk_bor, x_inV, hk_imm, hk_own, hk_io, hk_bor, x_sNx, x_pass, x_cont, x_brk, x_seq, sk_nx, sk_rt, sk_rtO, sk_ct, sk_bk, sk_ite, x_drop, x_sRet, x_sRetO, x_sIf, x_asg, x_asgO, x_gN, x_gO, x_gNil, x_gCons, x_gTt, x_gTl, x_sApp, x_sSet, x_chM, ck_own, ck_io, x_iOf, x_iRg, x_fn, fk_rt, fk_nx, fk_ite, ios_z, ios_s, keep_io, keep_imm, keep_own, keep_bor, keep_no, dSub_i, dAdd_i, dLt_i, dLe_i, dGt_i, dGe_i, dEq_int, dNe_int, ix_lst, ix_scr, ix_tup, atI_0, atI_1, atI_2, atI_3, List.getElem?_cons_zero, List.getElem?_cons_succ, List.set_cons_zero, List.set_cons_succ, List.length_cons, List.length_nil, List.cons_append, List.nil_append, List.replicate_succ, List.replicate_zero, Option.map_some, Option.bind_some, Nat.reduceAdd, Nat.reduceSub, Nat.reduceLT, Nat.reduceLeDiff, if_true, if_false, Bool.false_eq_true, decide_eq_true_eq, reduceIte, ne_eq, not_false_eq_true, Nat.lt_add_left_iff_pos, Nat.zero_lt_succ, x_call1, x_call2, x_call3, x_call4, dk1, dk2, dk3, dk4, ixV_V, Nat.reduceEqDiff, not_false_eq_true, x_isLst, x_isSet, List.map_cons, List.map_nil, Option.map_none, Option.bind_none, x_eSl, x_eP0, x_eP1, part_i, $as,*])
theorem forM_all {T : D → Mo Unit} {S : Mo Out} {p : D → Bool} {z : D} (Inv : Env → Prop) : ∀ (ds : List D) (δ : Env), Inv δ →
    (∀ d ∈ ds, ∀ δ, Inv δ → ∃ δ1 δ2, T d δ = some (.ok (), δ1) ∧ S δ1 = some (.ok (if p d = true then .nx else .rt z), δ2) ∧ Inv δ2) →
    ∃ δ', forM T S ds δ = some (.ok (if ds.all p = true then .nx else .rt z), δ') ∧ Inv δ'
  | [], δ, h, _ => ⟨δ, by unfold forM; rfl, h⟩
  | d :: ds, δ, h, st => by
    obtain ⟨δ1, δ2, h1, h2, h3⟩ := st d List.mem_cons_self δ h
    rw [List.all_cons]
    unfold forM
    cases hp : p d with
    | false =>
      rw [hp] at h2
      rw [bind_ok h1]
      exact ⟨δ2, by simp only [h2, if_false, Bool.false_eq_true, Bool.false_and, reduceIte], h3⟩
    | true =>
      rw [hp] at h2
      obtain ⟨δ', e, i⟩ := forM_all Inv ds δ2 h3 fun d m => st d (List.mem_cons_of_mem _ m)
      rw [bind_ok h1]
      exact ⟨δ', by simp only [h2, if_true, Bool.true_and, reduceIte]; exact e, i⟩
theorem sFor_all {I : Mo (List D)} {T : D → Mo Unit} {S : Mo Out} {p : D → Bool} {z : D} {ds : List D} {δ δ0 : Env} (Inv : Env → Prop) (hi : I δ = some (.ok ds, δ0)) (h0 : Inv δ0)
    (st : ∀ d ∈ ds, ∀ δ, Inv δ → ∃ δ1 δ2, T d δ = some (.ok (), δ1) ∧ S δ1 = some (.ok (if p d = true then .nx else .rt z), δ2) ∧ Inv δ2) :
    ∃ δ', sFor I T S δ = some (.ok (if ds.all p = true then .nx else .rt z), δ') ∧ Inv δ' := by
  obtain ⟨δ', h1, h2⟩ := forM_all Inv ds δ0 h0 st
  exact ⟨δ', by unfold sFor; rw [bind_ok hi]; exact h1, h2⟩
def rowB (w : Nat) : D → Bool
  | .tup l => (decide (1 ≤ l.length ∧ l.length ≤ 12) && decide (l.length = w)) && l.all rdB
  | _ => false
def rowsB : D → Bool
  | .tup (.tup r0 :: rs) => decide (rs.length + 1 ≤ 12) && (D.tup r0 :: rs).all (rowB r0.length)
  | _ => false
def viewB : D → Bool
  | .tup [n, r] => nameB n && rowsB r
  | _ => false
def rowOk : D → Prop
  | .tup l => ∀ d ∈ l, plain d = true
  | _ => True
def rowsOk : D → Prop
  | .tup l => ∀ d ∈ l, plain d = true ∧ rowOk d
  | _ => True
def viewOk : D → Prop
  | .tup [n, r] => plain n = true ∧ strOk n ∧ plain r = true ∧ rowsOk r
  | _ => True
theorem len_t {l : List D} : fLen [.tup l] = some (.int (l.length : Nat)) := rfl
noncomputable def vBody : Mo Out := (sSeq (sIf (tOrM (tNotM (eTru (eIsi2 "tuple" (eV 2)))) (tOrM (tNotM (eB (eChain dLe dLe (eC (.int 1)) (eF fLen (aCons (eV 2) aNil)) (eC (.int 12))))) (eB (eBin dNe (eF fLen (aCons (eV 2) aNil)) (eF fLen (aCons (eIxV 1 (eC (.int 0))) aNil))))))
 (sRet (eC (.bl false)))
 sNx)
 (sIf (tNotM (eTru (eF fAll (aCons (eLc (iOf (eV 2)) (gN 3) tYesM (eCall m_is_reading (aCons (eV 3) aNil)) [3]) aNil))))
 (sRet (eC (.bl false)))
 sNx))
theorem not_tup {d : D} (h : isTup d = false) (w : Nat) : rowB w d = false := by cases d <;> first | rfl | cases h
def wid0 : D → Nat | .tup r0 => r0.length | _ => 0
theorem ev_vrow {v d0 d : D} {rs : List D} (hp : plain d = true) (ok : rowOk d) (h0 : isTup d = true → ∃ r0, d0 = .tup r0) :
    vBody [.imm v, .imm (.tup (d0 :: rs)), .imm d, .no] = some (.ok (if rowB (wid0 d0) d = true then .nx else .rt (.bl false)), [.imm v, .imm (.tup (d0 :: rs)), .imm d, .no]) := by
  have e1 := isi_tup hp
  unfold vBody
  cases ht : isTup d with
  | false =>
    rw [ht] at e1
    rw [not_tup ht]
    exact ssq_rt (st (by simp! only [x_isi2', e1] <;> rfl) rfl)
  | true =>
    rw [ht] at e1
    obtain ⟨r0, rfl⟩ := h0 ht
    cases d with
    | tup l =>
      have a0 : dIx (.tup (D.tup r0 :: rs)) (.int 0) = some (.tup r0) := atI_0
      have hw : rowB r0.length (.tup l) = ((decide (1 ≤ l.length ∧ l.length ≤ 12) && decide (l.length = r0.length)) && l.all rdB) := rfl
      show _ = some (Except.ok (if rowB r0.length (.tup l) = true then Out.nx else .rt (.bl false)), _)
      by_cases c1 : 1 ≤ l.length ∧ l.length ≤ 12
      · by_cases c2 : l.length = r0.length
        · have el : (eLc (iOf (eV 2)) (gN 3) tYesM (eCall m_is_reading (aCons (eV 3) aNil)) [3]) [.imm v, .imm (.tup (D.tup r0 :: rs)), .imm (.tup l), .no] = some (.ok (.lst (l.map fun d => .bl (rdB d))), [.imm v, .imm (.tup (D.tup r0 :: rs)), .imm (.tup l), .no]) := by
            rw [eLc_map (l := l) (g := id) (p := fun _ => true) (f := fun d => D.bl (rdB d)) (δ0 := [.imm v, .imm (.tup (D.tup r0 :: rs)), .imm (.tup l), .no])]
            · rw [List.filter_eq_self.mpr (fun _ _ => rfl)]; rfl
            · rw [List.map_id]; simp! only [itD]
            · omega
            · intro d hd
              have er := ev_isrd (ok d hd)
              refine ⟨[.imm v, .imm (.tup (D.tup r0 :: rs)), .imm (.tup l), .imm d], [.imm v, .imm (.tup (D.tup r0 :: rs)), .imm (.tup l), .imm d], by simp! only [wipeE, id], rfl, (fun z => by cases z), fun _ => ⟨[.imm v, .imm (.tup (D.tup r0 :: rs)), .imm (.tup l), .imm d], ?_, rfl⟩⟩
              simp! only [er]
          rw [hw, decide_eq_true c1, decide_eq_true c2, Bool.true_and, Bool.true_and]
          have c3 : (1 : Int) ≤ (l.length : Nat) := by omega
          have c4 : ((l.length : Nat) : Int) ≤ 12 := by omega
          have c5 : ((l.length : Nat) : Int) = (r0.length : Nat) := by omega
          have lt := @len_t l
          have lt0 := @len_t r0
          generalize ((l.length : Nat) : Int) = n at *
          generalize ((r0.length : Nat) : Int) = n0 at *
          subst c5
          have q : dNe (.int n) (.int n) = some (.bl false) := by rw [dNe_int]; simp
          refine ssq_f (by simp! only [x_isi2', e1, lt, lt0, c3, c4, decide_true, a0, q, Bool.not_true] <;> rfl) ?_
          cases ha : l.all rdB with
          | true => refine s1f (by simp! only [el, fAll_map, ha] <;> rfl)
          | false => exact st (by simp! only [el, fAll_map, ha] <;> rfl) rfl
        · rw [hw, decide_eq_false c2, Bool.and_false, Bool.false_and]
          have c3 : (1 : Int) ≤ (l.length : Nat) := by omega
          have c4 : ((l.length : Nat) : Int) ≤ 12 := by omega
          have c5 : ¬ ((l.length : Nat) : Int) = (r0.length : Nat) := by omega
          have lt := @len_t l
          have lt0 := @len_t r0
          generalize ((l.length : Nat) : Int) = n at *
          generalize ((r0.length : Nat) : Int) = n0 at *
          have q : dNe (.int n) (.int n0) = some (.bl true) := by rw [dNe_int]; simp [c5]
          exact ssq_rt (st (by simp! only [x_isi2', e1, lt, lt0, c3, c4, decide_true, a0, q, Bool.not_true] <;> rfl) rfl)
      · rw [hw, decide_eq_false c1, Bool.false_and, Bool.false_and]
        have lt := @len_t l
        by_cases c3 : (1 : Int) ≤ (l.length : Nat)
        · have c4 : ¬ ((l.length : Nat) : Int) ≤ 12 := by omega
          generalize ((l.length : Nat) : Int) = n at *
          exact ssq_rt (st (by simp! only [x_isi2', e1, lt, c3, c4, decide_true, decide_false, Bool.not_true] <;> rfl) rfl)
        · generalize ((l.length : Nat) : Int) = n at *
          exact ssq_rt (st (by simp! only [x_isi2', e1, lt, c3, decide_true, decide_false, Bool.not_true] <;> rfl) rfl)
    | _ => cases ht
theorem ev_isvw {d : D} (h : plain d = true) (ok : viewOk d) : m_is_view [.imm d] = some (.ok (.bl (viewB d)), [.no]) := by
  have e1 := isi_tup h
  cases ht : isTup d with
  | false =>
    rw [ht] at e1
    have : viewB d = false := by cases d <;> first | rfl | cases ht
    rw [this]
    exact (fn_rt (δ1 := [.imm d, .no, .no, .no]) (ssq_rt (st (by simp! only [x_isi2', e1] <;> rfl) rfl))).trans rfl
  | true =>
    rw [ht] at e1
    obtain ⟨l, rfl⟩ : ∃ l, d = .tup l := by cases d <;> first | exact ⟨_, rfl⟩ | cases ht
    have lt := @len_t l
    by_cases hl : l.length = 2
    · obtain ⟨n, r, rfl⟩ : ∃ n r, l = [n, r] := by
        match l, hl with
        | [n, r], _ => exact ⟨n, r, rfl⟩
      obtain ⟨pn, sn, pr, okr⟩ := ok
      have en := ev_isnm pn sn
      have a0 : dIx (.tup [n, r]) (.int 0) = some n := atI_0
      have a1 : dIx (.tup [n, r]) (.int 1) = some r := atI_1
      have lt : fLen [.tup [n, r]] = some (.int 2) := rfl
      have q : dNe (.int 2) (.int 2) = some (.bl false) := by rw [dNe_int]; simp
      show _ = some (Except.ok (D.bl (nameB n && rowsB r)), _)
      cases hn : nameB n with
      | false =>
        rw [hn] at en
        exact (fn_rt (δ1 := [.imm (.tup [n, r]), .no, .no, .no]) (ssq_rt (st (by simp! only [x_isi2', e1, lt, q, a0, en, dTru_bl, Bool.not_false, Bool.not_true] <;> rfl) rfl))).trans rfl
      | true =>
        rw [hn] at en
        rw [Bool.true_and]
        have e2 := isi_tup pr
        have first : ∀ {δ' : Env} {b : Bool}, (sSeq (sIf (tOrM (tNotM (eTru (eIsi2 "tuple" (eV 1)))) (tNotM (eB (eChain dLe dLe (eC (.int 1)) (eF fLen (aCons (eV 1) aNil)) (eC (.int 12)))))) (sRet (eC (.bl false))) sNx) (sSeq (sFor (iOf (eV 1)) (gN 2) vBody) (sRet (eC (.bl true))))) [.imm (.tup [n, r]), .imm r, .no, .no] = some (.ok (.rt (.bl b)), δ') → δ'.length = 4 → m_is_view [.imm (.tup [n, r])] = some (.ok (.bl b), ios 1 δ') := fun {δ' b} e hl => by
          refine (fn_rt (δ1 := δ') ?_)
          unfold b_is_view
          refine ssq_f (by simp! only [x_isi2', e1, lt, q, a0, en, dTru_bl, Bool.not_false, Bool.not_true] <;> rfl) ?_
          refine ssq (by simp! only [a1] <;> rfl) ?_
          exact e
        cases ht2 : isTup r with
        | false =>
          rw [ht2] at e2
          have : rowsB r = false := by cases r <;> first | rfl | cases ht2
          rw [this]
          exact first (δ' := [.imm (.tup [n, r]), .imm r, .no, .no]) (ssq_rt (st (by simp! only [x_isi2', e2] <;> rfl) rfl)) rfl
        | true =>
          rw [ht2] at e2
          obtain ⟨rows, rfl⟩ : ∃ l, r = .tup l := by cases r <;> first | exact ⟨_, rfl⟩ | cases ht2
          have ltr := @len_t rows
          by_cases c1 : 1 ≤ rows.length ∧ rows.length ≤ 12
          · obtain ⟨d0, rs, rfl⟩ : ∃ d0 rs, rows = d0 :: rs := by
              cases rows with
              | nil => simp at c1
              | cons a b => exact ⟨a, b, rfl⟩
            have hrow : rowsB (.tup (d0 :: rs)) = (d0 :: rs).all (rowB (wid0 d0)) := by
              by_cases t0 : isTup d0 = true
              · obtain ⟨r0, rfl⟩ : ∃ l, d0 = .tup l := by cases d0 <;> first | exact ⟨_, rfl⟩ | cases t0
                show (decide (rs.length + 1 ≤ 12) && _) = _
                rw [decide_eq_true (by have := c1.2; rw [List.length_cons] at this; exact this), Bool.true_and]; rfl
              · have t0 : isTup d0 = false := by simpa using t0
                rw [List.all_cons, not_tup t0, Bool.false_and]
                cases d0 <;> first | rfl | cases t0
            have loop : ∃ y2, sFor (iOf (eV 1)) (gN 2) vBody [.imm (.tup [n, .tup (d0 :: rs)]), .imm (.tup (d0 :: rs)), .no, .no] = some (.ok (if (d0 :: rs).all (rowB (wid0 d0)) = true then .nx else .rt (.bl false)), [.imm (.tup [n, .tup (d0 :: rs)]), .imm (.tup (d0 :: rs)), y2, .no]) := by
              by_cases t0 : isTup d0 = true
              · obtain ⟨r0, h0⟩ : ∃ l, d0 = .tup l := by cases d0 <;> first | exact ⟨_, rfl⟩ | cases t0
                obtain ⟨δ', f1, y2, rfl⟩ := sFor_all (I := iOf (eV 1)) (T := gN 2) (S := vBody) (p := rowB (wid0 d0)) (z := .bl false) (ds := d0 :: rs) (δ := [.imm (.tup [n, .tup (d0 :: rs)]), .imm (.tup (d0 :: rs)), .no, .no]) (δ0 := [.imm (.tup [n, .tup (d0 :: rs)]), .imm (.tup (d0 :: rs)), .no, .no])
                  (fun δ => ∃ y2, δ = [.imm (.tup [n, .tup (d0 :: rs)]), .imm (.tup (d0 :: rs)), y2, .no]) (by simp! only [itD]) ⟨_, rfl⟩ (fun d hd δ hδ => by
                    obtain ⟨y2, rfl⟩ := hδ
                    obtain ⟨pd, okd⟩ := okr d hd
                    exact ⟨[.imm (.tup [n, .tup (d0 :: rs)]), .imm (.tup (d0 :: rs)), .imm d, .no], [.imm (.tup [n, .tup (d0 :: rs)]), .imm (.tup (d0 :: rs)), .imm d, .no], by simp! only [], ev_vrow pd okd (fun _ => ⟨r0, h0⟩), _, rfl⟩)
                exact ⟨y2, f1⟩
              · have t0 : isTup d0 = false := by simpa using t0
                obtain ⟨pd, okd⟩ := okr d0 List.mem_cons_self
                refine ⟨.imm d0, ?_⟩
                rw [List.all_cons, not_tup t0, Bool.false_and]
                have hv := ev_vrow (v := .tup [n, .tup (d0 :: rs)]) (rs := rs) (d0 := d0) pd okd (fun z => by rw [t0] at z; cases z)
                rw [not_tup t0] at hv
                exact sFor_ret (F := fun _ => [.imm (.tup [n, .tup (d0 :: rs)]), .imm (.tup (d0 :: rs)), .no, .no]) (m := 0) (dm := d0) (ds := d0 :: rs) (by simp! only [itD]) rfl rfl (fun i d hi => absurd hi (Nat.not_lt_zero _)) ⟨[.imm (.tup [n, .tup (d0 :: rs)]), .imm (.tup (d0 :: rs)), .imm d0, .no], by simp! only [], hv⟩
            obtain ⟨y2, f1⟩ := loop
            rw [hrow]
            have c3 : (1 : Int) ≤ ((d0 :: rs).length : Nat) := by omega
            have c4 : (((d0 :: rs).length : Nat) : Int) ≤ 12 := by omega
            generalize (((d0 :: rs).length : Nat) : Int) = nn at *
            cases ha : (d0 :: rs).all (rowB (wid0 d0)) with
            | true =>
              rw [ha] at f1
              refine first (δ' := [.imm (.tup [n, .tup (d0 :: rs)]), .imm (.tup (d0 :: rs)), y2, .no]) ?_ rfl
              refine ssq_f (by simp! only [x_isi2', e2, ltr, c3, c4, decide_true, Bool.not_true] <;> rfl) ?_
              exact ssq f1 (by simp! only [])
            | false =>
              rw [ha] at f1
              refine first (δ' := [.imm (.tup [n, .tup (d0 :: rs)]), .imm (.tup (d0 :: rs)), y2, .no]) ?_ rfl
              refine ssq_f (by simp! only [x_isi2', e2, ltr, c3, c4, decide_true, Bool.not_true] <;> rfl) ?_
              exact ssq_rt f1
          · have : rowsB (.tup rows) = false := by
              cases rows with
              | nil => rfl
              | cons a b =>
                cases a <;> try rfl
                show (decide (b.length + 1 ≤ 12) && _) = _
                rw [decide_eq_false (by rw [List.length_cons] at c1; omega), Bool.false_and]
            rw [this]
            by_cases c3 : (1 : Int) ≤ (rows.length : Nat)
            · have c4 : ¬ ((rows.length : Nat) : Int) ≤ 12 := by omega
              generalize ((rows.length : Nat) : Int) = nn at *
              exact first (δ' := [.imm (.tup [n, .tup rows]), .imm (.tup rows), .no, .no]) (ssq_rt (st (by simp! only [x_isi2', e2, ltr, c3, c4, decide_true, decide_false, Bool.not_true, Bool.not_false] <;> rfl) rfl)) rfl
            · generalize ((rows.length : Nat) : Int) = nn at *
              exact first (δ' := [.imm (.tup [n, .tup rows]), .imm (.tup rows), .no, .no]) (ssq_rt (st (by simp! only [x_isi2', e2, ltr, c3, decide_true, decide_false, Bool.not_true, Bool.not_false] <;> rfl) rfl)) rfl
    · have : viewB (.tup l) = false := by
        match l, hl with
        | [], _ => rfl
        | [_], _ => rfl
        | [_, _], h => exact absurd rfl h
        | _ :: _ :: _ :: _, _ => rfl
      rw [this]
      have c : ¬ ((l.length : Nat) : Int) = 2 := by omega
      generalize ((l.length : Nat) : Int) = n at *
      have q : dNe (.int n) (.int 2) = some (.bl true) := by rw [dNe_int]; simp [c]
      exact (fn_rt (δ1 := [.imm (.tup l), .no, .no, .no]) (ssq_rt (st (by simp! only [x_isi2', e1, lt, q, Bool.not_true] <;> rfl) rfl))).trans rfl
end M
set_option Elab.async false
set_option linter.all false
set_option maxRecDepth 100000
set_option maxHeartbeats 1000000
namespace M
open PySem L2
abbrev C2 := Int × Int
abbrev Ev := C2 × Str × Int
theorem fine_p (p : C2) : Fine (pD p) ∧ (toPy (pD p)).depth ≤ 1 := fine_tup (k := 0) (by omega) fun d m => by
  simp only [List.mem_cons, List.not_mem_nil, or_false] at m
  rcases m with rfl | rfl <;> exact fine_int' _
theorem eqv_p {a b : C2} : PyData.eqv (toPy (pD a)) (toPy (pD b)) = decide (a = b) := by
  obtain ⟨x, y⟩ := a
  obtain ⟨z, w⟩ := b
  unfold pD
  simp only [toPy, toPys, PyData.eqv, PyData.eqvAll]
  rw [Bool.eq_iff_iff]
  simp
theorem dEq_p {a b : C2} : dEq (pD a) (pD b) = some (.bl (decide (a = b))) := by
  unfold dEq
  rw [if_pos ⟨fine_shp (fine_p a).1, fine_shp (fine_p b).1⟩, eqv_p]
theorem has_p {k : C2} : ∀ {l : List C2}, hasPy (pD k) (l.map pD) = decide (k ∈ l)
  | [] => rfl
  | x :: l => by
    have ih := has_p (k := k) (l := l)
    unfold hasPy at ih ⊢
    rw [List.map_cons, toPys, List.any_cons, ih, eqv_p]
    by_cases c : x = k
    · subst c; simp
    · simp [c, Ne.symm c]
theorem fine_ps (l : List C2) : Fine (.lst (l.map pD)) := (fine_lst (k := 1) (by omega) fun d m => by
  obtain ⟨p, _, rfl⟩ := List.mem_map.mp m
  exact fine_p p).1
theorem dIn_p {neg : Bool} {k : C2} {l : List C2} : dIn neg (pD k) (.lst (l.map pD)) = some (.bl (if neg then !decide (k ∈ l) else decide (k ∈ l))) := by
  show (if shp (pD k) = true ∧ shp (.lst (l.map pD)) = true then some (D.bl (if neg then !hasPy (pD k) (l.map pD) else hasPy (pD k) (l.map pD))) else none) = _
  rw [if_pos ⟨fine_shp (fine_p k).1, fine_shp (fine_ps l)⟩, has_p]
theorem pairs_map {l : List (Int × Int)} : pairsD (l.map pD) = some l := by
  induction l with
  | nil => rfl
  | cons p l ih =>
    rw [List.map_cons]
    unfold pairsD
    rw [ih]; rfl
theorem fSortP_m {l : List (Int × Int)} : fSortP [.lst (l.map pD)] = some (.lst ((sortP l).map pD)) := by
  show (pairsD (l.map pD)).map _ = _
  rw [pairs_map]; rfl
section
variable {α : Type} [DecidableEq α]
def addK (l : List α) (k : α) : List α := if k ∈ l then l else l ++ [k]
def dd (l : List α) : List α := l.foldl addK []
theorem dd_snoc {l : List α} {k : α} : dd (l ++ [k]) = addK (dd l) k := by unfold dd; rw [List.foldl_append]; rfl
theorem addK_mem {l : List α} {k x : α} : x ∈ addK l k ↔ x ∈ l ∨ x = k := by
  unfold addK
  split
  · rename_i h
    exact ⟨.inl, fun z => z.elim id fun e => e ▸ h⟩
  · rw [List.mem_append, List.mem_singleton]
theorem addK_nd {l : List α} {k : α} (h : l.Nodup) : (addK l k).Nodup := by
  unfold addK
  split
  · exact h
  · rename_i c
    exact List.nodup_append.mpr ⟨h, by simp, fun a ha b hb e => by rw [List.mem_singleton.mp hb] at e; exact c (e ▸ ha)⟩
theorem fold_dd : ∀ {l acc : List α}, (∀ x, x ∈ l.foldl addK acc ↔ x ∈ acc ∨ x ∈ l) ∧ (acc.Nodup → (l.foldl addK acc).Nodup) ∧ ∃ t, l.foldl addK acc = acc ++ t ∧ t.Sublist l
  | [], acc => ⟨by simp, id, [], by simp, List.Sublist.refl _⟩
  | k :: l, acc => by
    obtain ⟨h1, h2, t, h3, h4⟩ := fold_dd (l := l) (acc := addK acc k)
    refine ⟨fun x => ?_, fun n => h2 (addK_nd n), ?_⟩
    · rw [List.foldl_cons, h1, addK_mem, List.mem_cons, or_assoc]
    · rw [List.foldl_cons, h3]
      unfold addK
      split
      · exact ⟨t, rfl, h4.cons _⟩
      · exact ⟨k :: t, by simp, h4.cons₂ _⟩
theorem ddm {l : List α} {x : α} : x ∈ dd l ↔ x ∈ l := by unfold dd; rw [fold_dd.1]; simp
theorem dd_nd {l : List α} : (dd l).Nodup := fold_dd.2.1 List.nodup_nil
theorem dd_sub {l : List α} : (dd l).Sublist l := by
  obtain ⟨t, h, s⟩ := (fold_dd (l := l) (acc := [])).2.2
  unfold dd
  rw [h, List.nil_append]; exact s
theorem dd_len {l : List α} : (dd l).length ≤ l.length := dd_sub.length_le
theorem first_dd [Inhabited α] {l : List α} : ∀ {j : Nat}, j ≤ l.length → ((List.range j).filter fun k => !decide (l.getD k default ∈ l.take k)).map (fun k => l.getD k default) = dd (l.take j)
  | 0, _ => rfl
  | j + 1, h => by
    have hj : l[j]? = some (l.getD j default) := by rw [List.getD_eq_getElem?_getD, List.getElem?_eq_getElem (by omega)]; rfl
    rw [List.range_succ, List.filter_append, List.map_append, first_dd (by omega), take_snoc hj, dd_snoc]
    generalize l.getD j default = x at *
    unfold addK
    by_cases c : x ∈ l.take j
    · rw [if_pos (ddm.mpr c)]
      simp only [List.filter_cons, List.filter_nil]
      rw [show l.getD j default = x by rw [List.getD_eq_getElem?_getD, hj]; rfl]
      simp [c]
    · rw [if_neg (fun m => c (ddm.mp m))]
      simp only [List.filter_cons, List.filter_nil]
      rw [show l.getD j default = x by rw [List.getD_eq_getElem?_getD, hj]; rfl]
      simp [c, hj]
end
theorem sortSet_dd {t : List Int} : dd (sortI t) = sortSet t := by
  refine sortSet_uniq ?_ fun k => by rw [ddm, (sortI_perm t).mem_iff]
  have h1 := (sortI_sorted t).sublist dd_sub
  have h2 : (dd (sortI t)).Pairwise (· ≠ ·) := dd_nd
  exact (h1.and h2).imp fun ⟨a, b⟩ => by omega
theorem rowLe_anti {a b : C2} (h1 : rowLe a b = true) (h2 : rowLe b a = true) : a = b := by
  unfold rowLe at *
  rw [decide_eq_true_eq] at *
  obtain ⟨x, y⟩ := a
  obtain ⟨z, w⟩ := b
  simp only at *
  have e1 : x = z := by omega
  have e2 : y = w := by omega
  rw [e1, e2]
def swp (p : C2) : C2 := (p.2, p.1)
theorem cells_rows {R : List C2} : dd ((sortP (R.map swp)).map swp) = byRows (dd R) := by
  have hp : (dd ((sortP (R.map swp)).map swp)).Perm (dd R) := (List.perm_ext_iff_of_nodup dd_nd dd_nd).mpr fun k => by
    rw [ddm, ddm]
    have hm : ∀ x, x ∈ sortP (R.map swp) ↔ x ∈ R.map swp := fun x => (List.mergeSort_perm (R.map swp) pairLe).mem_iff
    constructor
    · intro h
      obtain ⟨x, hx, rfl⟩ := List.mem_map.mp h
      obtain ⟨y, hy, rfl⟩ := List.mem_map.mp ((hm x).mp hx)
      exact hy
    · intro h
      exact List.mem_map.mpr ⟨swp k, (hm _).mpr (List.mem_map.mpr ⟨k, h, rfl⟩), rfl⟩
  have s1 : (dd ((sortP (R.map swp)).map swp)).Pairwise (fun a b => rowLe a b = true) := by
    refine List.Pairwise.sublist dd_sub ?_
    rw [List.pairwise_map]
    refine (List.pairwise_mergeSort (fun a b c => pairLe_tr a b c) (fun a b => pairLe_total a b) (R.map swp)).imp fun {a b} h => ?_
    unfold pairLe at h
    unfold rowLe swp
    exact h
  have s2 : (byRows (dd R)).Pairwise (fun a b => rowLe a b = true) := List.pairwise_mergeSort (fun a b c h1 h2 => by
    unfold rowLe at *
    rw [decide_eq_true_eq] at *
    omega) (fun a b => by
    unfold rowLe
    rw [Bool.or_eq_true, decide_eq_true_eq, decide_eq_true_eq]
    omega) _
  exact (hp.trans (List.mergeSort_perm (dd R) rowLe).symm).eq_of_pairwise (fun a b _ _ x y => rowLe_anti x y) s1 s2
def gD (ks : List C2) (g : C2 → D) : D := .dT (ks.map fun k => (pK k, g k))
theorem pK_inj {a b : C2} (h : pK a = pK b) : a = b := by
  unfold pK at h
  obtain ⟨x, y⟩ := a
  obtain ⟨z, w⟩ := b
  simp only [List.cons.injEq, Sum.inl.injEq, and_true] at h
  exact Prod.ext h.1 h.2
theorem look_g {g : C2 → D} {k : C2} : ∀ {ks : List C2}, lookA (ks.map fun k => (pK k, g k)) (pK k) = if k ∈ ks then some (g k) else none
  | [] => rfl
  | x :: ks => by
    have ih := look_g (g := g) (k := k) (ks := ks)
    unfold lookA at ih ⊢
    rw [List.map_cons, List.find?_cons]
    by_cases e : x = k
    · subst e; simp
    · have e2 : ¬ pK x = pK k := fun z => e (pK_inj z)
      simp only [e2, decide_false]
      rw [ih]
      simp [Ne.symm e]
theorem get_g {ks : List C2} {g : C2 → D} {k : C2} : dGet (gD ks g) (pD k) = some (if k ∈ ks then some (g k) else none) := by
  show some (lookA (ks.map fun k => (pK k, g k)) (pK k)) = _
  rw [look_g]
theorem ix_g {ks : List C2} {g : C2 → D} {k : C2} (h : k ∈ ks) : dIx (gD ks g) (pD k) = some (g k) := by
  show (dGet (gD ks g) (pD k)).bind id = _
  rw [get_g, if_pos h]; rfl
theorem put_g {ks : List C2} {g g' : C2 → D} {k : C2} {v : D} (hl : ks.length ≤ 1000) (h1 : g' k = v) (h2 : ∀ x ∈ ks, x ≠ k → g' x = g x) : dSet (pD k) v (gD ks g) = some (gD (addK ks k) g') := by
  show (if (ks.map fun k => (pK k, g k)).length < sizeLine then some (D.dT (putA (ks.map fun k => (pK k, g k)) (pK k) v)) else none) = _
  rw [if_pos (by rw [List.length_map, sizeLine_eq]; omega)]
  unfold gD addK
  by_cases c : k ∈ ks
  · rw [if_pos c]
    unfold putA
    rw [if_pos (by
      rw [List.any_eq_true]
      exact ⟨(pK k, g k), List.mem_map.mpr ⟨k, c, rfl⟩, by simp⟩), List.map_map]
    congr 2
    refine List.map_congr_left fun x hx => ?_
    show (if pK x = pK k then (pK x, v) else (pK x, g x)) = _
    by_cases e : x = k
    · subst e; rw [if_pos rfl, h1]
    · rw [if_neg (fun z => e (pK_inj z)), h2 x hx e]
  · rw [if_neg c, putA_new (fun p hp => by
      obtain ⟨x, hx, rfl⟩ := List.mem_map.mp hp
      exact fun z => c (pK_inj z ▸ hx)), List.map_append]
    have : ks.map (fun k => (pK k, g k)) = ks.map fun k => (pK k, g' k) := List.map_congr_left fun x hx => by rw [h2 x hx (fun e => c (e ▸ hx))]
    rw [this, List.map_cons, List.map_nil, h1]
theorem short_g : ∀ {ks : List C2} {g : C2 → D}, shortK ((ks.map fun k => (pK k, g k)).map (·.1)) = true := fun {ks g} => by
  unfold shortK
  rw [List.all_eq_true]
  intro k hk
  obtain ⟨p, hp, rfl⟩ := List.mem_map.mp hk
  obtain ⟨x, hx, rfl⟩ := List.mem_map.mp hp
  rfl
theorem keys_g {ks : List C2} {g : C2 → D} : keysD (gD ks g) = some (ks.map pD) := by
  show (if shortK ((ks.map fun k => (pK k, g k)).map (·.1)) = true then some ((ks.map fun k => (pK k, g k)).map fun p => D.tup (p.1.map kD)) else none) = _
  rw [if_pos short_g, List.map_map]; rfl
theorem list_g {ks : List C2} {g : C2 → D} : fList' [gD ks g] = some (.lst (ks.map pD)) := by
  show (if shortK ((ks.map fun k => (pK k, g k)).map (·.1)) = true then some (D.lst ((ks.map fun k => (pK k, g k)).map fun p => D.tup (p.1.map kD))) else none) = _
  rw [if_pos short_g, List.map_map]; rfl
theorem keyD_g {ks : List C2} {g : C2 → D} : fKeyD [gD ks g] = some (.lst ((byRows ks).map pD)) := by
  show (pairsK ((ks.map fun k => (pK k, g k)).map (·.1))).map _ = _
  rw [List.map_map, show ((fun p : List Key × D => p.1) ∘ fun k => (pK k, g k)) = pK from rfl, pairsK_map]; rfl
theorem vals_g {ks : List C2} {g : C2 → D} : dVals (gD ks g) = some (.lst (ks.map g)) := by
  show some (D.lst ((ks.map fun k => (pK k, g k)).map (·.2))) = _
  rw [List.map_map]; rfl
def rowD (r : Str × Int) : D := .tup [.str r.1, .int r.2]
def sel (R : List Ev) (k : C2) : List (Str × Int) := (R.filter fun e => decide (e.1 = k)).map (·.2)
def selD (R : List Ev) (k : C2) : D := .tup ((sel R k).map rowD)
def cel (R : List Ev) : List C2 := dd (R.map (·.1))
theorem sel_snoc {R : List Ev} {e : Ev} {k : C2} : sel (R ++ [e]) k = if e.1 = k then sel R k ++ [e.2] else sel R k := by
  unfold sel
  rw [List.filter_append, List.map_append]
  by_cases c : e.1 = k
  · rw [if_pos c]; simp [c]
  · rw [if_neg c]; simp [c]
theorem sel_none {R : List Ev} {k : C2} (h : k ∉ cel R) : sel R k = [] := by
  unfold sel
  rw [List.map_eq_nil_iff, List.filter_eq_nil_iff]
  intro e he
  rw [decide_eq_true_eq]
  rintro rfl
  exact h (ddm.mpr (List.mem_map.mpr ⟨e, he, rfl⟩))
theorem sel_len {R : List Ev} {k : C2} : (sel R k).length ≤ R.length := by
  unfold sel; rw [List.length_map]; exact List.length_filter_le _ _
theorem cel_snoc {R : List Ev} {e : Ev} : cel (R ++ [e]) = addK (cel R) e.1 := by
  unfold cel; rw [List.map_append, List.map_cons, List.map_nil, dd_snoc]
theorem cel_len {R : List Ev} : (cel R).length ≤ R.length := by unfold cel; exact Nat.le_trans dd_len (by rw [List.length_map]; exact Nat.le_refl _)
theorem get_sel {R : List Ev} {k : C2} : dGet (gD (cel R) (selD R)) (pD k) = some (if k ∈ cel R then some (selD R k) else none) := get_g
theorem getD_sel {R : List Ev} {k : C2} : (if k ∈ cel R then some (selD R k) else none).getD (.tup []) = selD R k := by
  by_cases c : k ∈ cel R
  · rw [if_pos c]; rfl
  · rw [if_neg c]; unfold selD; rw [sel_none c]; rfl
theorem put_sel {R : List Ev} {e : Ev} (hl : R.length ≤ 1000) : dSet (pD e.1) (.tup ((sel R e.1).map rowD ++ [rowD e.2])) (gD (cel R) (selD R)) = some (gD (cel (R ++ [e])) (selD (R ++ [e]))) := by
  rw [cel_snoc]
  refine put_g (Nat.le_trans cel_len hl) ?_ fun x _ hx => ?_
  · unfold selD; rw [sel_snoc, if_pos rfl, List.map_append]; rfl
  · unfold selD; rw [sel_snoc, if_neg (Ne.symm hx)]
theorem maxL_ex {l : List Int} (h : l ≠ []) : ∃ m, maxL l = some m := by
  cases l with
  | nil => exact absurd rfl h
  | cons n ns => exact ⟨_, rfl⟩
theorem fMax_i {l : List Int} {m : Int} (h : maxL l = some m) : fMax [iD l] = some (.int m) := by
  unfold fMax lstInts iD
  simp only [intsD_map, Option.bind_some, h, Option.map_some]
end M
set_option Elab.async false
set_option linter.all false
set_option maxRecDepth 100000
set_option maxHeartbeats 1000000
namespace M
open PySem L2
local macro_rules
  | `(tactic| simp! only [$as,*]) => `(tactic| simp only [x_bind, bk_ok, bk_ite, x_ret, x_lift, lk_some, lk_ite, app_ite, x_eC, x_eV, vk_imm, vk_own, vk_bor, x_give, gk_own, x_bin, x_un, x_ix, x_tru, x_eB, dBl_bl, dTru_bl, dTru_int, dTru_lst, x_and, x_or, x_not, x_eAnd, x_eOr, x_eNot, x_eIf, x_chain, x_aNil, x_aCons, x_aVr, rk_own, rk_io, x_aVb, tk_own, tk_io, tk_imm, tk_bor, x_eTup, x_eLst, imms_nil, imms_im, x_eF, x_call, ixV_C, jk_imm, jk_own, jk_io, jk_bor, flk_int, x_lenV, nk_imm, nk_own, nk_io, nk_bor, x_inV, hk_imm, hk_own, hk_io, hk_bor, x_sNx, x_pass, x_cont, x_brk, x_seq, sk_nx, sk_rt, sk_rtO, sk_ct, sk_bk, sk_ite, x_drop, x_sRet, x_sRetO, x_sIf, x_asg, x_asgO, x_gN, x_gO, x_gNil, x_gCons, x_gTt, x_gTl, x_sApp, x_sSet, x_chM, ck_own, ck_io, x_iOf, x_iRg, x_fn, fk_rt, fk_nx, fk_ite, ios_z, ios_s, keep_io, keep_imm, keep_own, keep_bor, keep_no, dSub_i, dAdd_i, dLt_i, dLe_i, dGt_i, dGe_i, dEq_int, dNe_int, ix_lst, ix_scr, ix_tup, atI_0, atI_1, atI_2, atI_3, List.getElem?_cons_zero, List.getElem?_cons_succ, List.set_cons_zero, List.set_cons_succ, List.length_cons, List.length_nil, List.cons_append, List.nil_append, List.replicate_succ, List.replicate_zero, Option.map_some, Option.bind_some, Nat.reduceAdd, Nat.reduceSub, Nat.reduceLT, Nat.reduceLeDiff, if_true, if_false, Bool.false_eq_true, decide_eq_true_eq, reduceIte, ne_eq, not_false_eq_true, Nat.lt_add_left_iff_pos, Nat.zero_lt_succ, x_call1, x_call2, x_call3, x_call4, dk1, dk2, dk3, dk4, ixV_V, Nat.reduceEqDiff, not_false_eq_true, x_isLst, x_isSet, List.map_cons, List.map_nil, Option.map_none, Option.bind_none, x_eSl, x_eP0, x_eP1, part_i, $as,*])
structure V5 where
  nm : List Nat
  rs : List Row
  g : Int
  x : Int
  y : Int
  l : Int
structure VOk (v : V5) : Prop where
  rect : ∃ w h, Rect w h v.rs ∧ 1 ≤ w ∧ w ≤ 3 ∧ 1 ≤ h ∧ h ≤ 3
  nm : nmL v.nm = true
  x : -2 ≤ v.x ∧ v.x ≤ 2
  y : -2 ≤ v.y ∧ v.y ≤ 2
def vD (v : V5) : D := vwD (mkS v.nm) v.rs
def plD5 (v : V5) : D := .tup [.int v.g, .int v.x, .int v.y, .int v.l]
def tlv (v : V5) (t : T3r) : C2 × Int := ((v.x + (t.1 : Int), v.y + (t.2.1 : Int)), t.2.2 - v.l)
def told (v : V5) : List (C2 × Int) := (rds v.rs).map (tlv v)
def cvD (c : C2 × Int) : D := .tup [pD c.1, .int c.2]
theorem told_nd {v : V5} : ((told v).map (·.1)).Nodup := by
  unfold told
  rw [List.map_map]
  have := rds_keys (rs := v.rs)
  refine (nodup_on rds_nodup fun a ha b hb c => ?_)
  have h1 := mem_rds.mp ha
  have h2 := mem_rds.mp hb
  simp only [Function.comp, tlv, Prod.mk.injEq] at c
  have e1 : a.1 = b.1 := by omega
  have e2 : a.2.1 = b.2.1 := by omega
  rw [e1, e2] at h1
  have e3 : a.2.2 = b.2.2 := Option.some.inj (h1.symm.trans h2)
  exact Prod.ext e1 (Prod.ext e2 e3)
theorem told_len {v : V5} (o : VOk v) : (told v).length ≤ 9 := by
  obtain ⟨w, h, R, h1, h2, h3, h4⟩ := o.rect
  unfold told
  rw [List.length_map]
  have := rds_len R
  have : w * h ≤ 3 * 3 := Nat.mul_le_mul h2 h4
  omega
def vf (L : List (C2 × Int)) (k : C2) : Int := ((L.find? fun c => decide (c.1 = k)).map (·.2)).getD 0
theorem vf_eq : ∀ {L : List (C2 × Int)} {c : C2 × Int}, (L.map (·.1)).Nodup → c ∈ L → vf L c.1 = c.2
  | [], c, _, h => by simp at h
  | b :: L, c, nd, h => by
    rw [List.map_cons] at nd
    obtain ⟨n1, n2⟩ := List.nodup_cons.mp nd
    have ih := vf_eq (c := c) n2
    unfold vf at ih ⊢
    rw [List.find?_cons]
    by_cases e : b.1 = c.1
    · have : b = c := by
        rcases List.mem_cons.mp h with h | h
        · exact h.symm
        · exact absurd (List.mem_map.mpr ⟨c, h, e.symm⟩) n1
      subst this
      simp
    · rw [decide_eq_false e]
      rcases List.mem_cons.mp h with rfl | h
      · exact absurd rfl e
      · exact ih h
def picG (v : V5) (k : C2) : D := .int (vf (told v) k)
def picD (v : V5) : D := gD ((told v).map (·.1)) (picG v)
theorem picD_eq {v : V5} : picD v = .dT ((told v).map fun c => (pK c.1, .int c.2)) := by
  unfold picD gD
  rw [List.map_map]
  congr 1
  refine List.map_congr_left fun c hc => ?_
  show (pK c.1, D.int (vf (told v) c.1)) = _
  rw [vf_eq told_nd hc]
theorem pic_vals {v : V5} : ((told v).map (·.1)).map (picG v) = (told v).map fun c => D.int c.2 := by
  rw [List.map_map]
  refine List.map_congr_left fun c hc => ?_
  show D.int (vf (told v) c.1) = _
  rw [vf_eq told_nd hc]
theorem ix_pic {v : V5} {c : C2 × Int} (h : c ∈ told v) : dIx (picD v) (pD c.1) = some (.int c.2) := by
  unfold picD
  rw [ix_g (List.mem_map.mpr ⟨c, h, rfl⟩)]
  unfold picG
  rw [vf_eq told_nd h]
theorem pl_cut {v : V5} : dSl (plD5 v) (some 1) none = some (.tup [.int v.x, .int v.y, .int v.l]) := rfl
theorem pK_nd {v : V5} : ((rds v.rs).map fun t => pK (tlv v t).1).Nodup := by
  have h := told_nd (v := v)
  unfold told at h
  rw [List.map_map] at h
  have := nodup_on (f := pK) h fun a _ b _ e => pK_inj e
  rw [List.map_map] at this
  exact this
theorem ev_pic {v : V5} (o : VOk v) : m_picture_of [.imm (vD v), .imm (plD5 v)] = some (.ok (picD v), [.no, .no]) := by
  obtain ⟨w, h, R, h1, h2, h3, h4⟩ := o.rect
  have er := ev_readings (s := mkS v.nm) R (by omega) (by omega)
  have er : m_readings [.imm (vD v)] = _ := er
  have cr : ∀ δ, callM m_readings [.im (vD v)] δ = some (.ok (.lst ((rds v.rs).map t3D)), δ) := fun δ => by rw [x_call1, er]; rfl
  have hl : (rds v.rs).length ≤ 1000 := by have := told_len o; unfold told at this; rw [List.length_map] at this; omega
  have ec := pl_cut (v := v)
  rw [picD_eq]
  have et : (told v).map (fun c => (pK c.1, D.int c.2)) = ((rds v.rs).filter fun _ => true).map fun t => (pK (tlv v t).1, D.int (t.2.2 - v.l)) := by
    rw [List.filter_eq_self.mpr (fun _ _ => rfl)]
    unfold told
    rw [List.map_map]; rfl
  have hi : itD (.lst ((rds v.rs).map t3D)) = some ((rds v.rs).map t3D) := rfl
  have e : (eDcT (iOf (eCall m_readings (aCons (eV 0) aNil))) (gT 3 (gCons (gN 5) (gCons (gN 6) (gCons (gN 7) gNil)))) tYesM (eTup (aCons (eBin dAdd (eV 2) (eV 5)) (aCons (eBin dAdd (eV 3) (eV 6)) aNil))) (eBin dSub (eV 7) (eV 4)) [5, 6, 7]) [.imm (vD v), .imm (plD5 v), .imm (.int v.x), .imm (.int v.y), .imm (.int v.l), .no, .no, .no] = some (.ok (.dT ((told v).map fun c => (pK c.1, .int c.2))), [.imm (vD v), .imm (plD5 v), .imm (.int v.x), .imm (.int v.y), .imm (.int v.l), .no, .no, .no]) := by
    rw [et, eDcT_map (l := rds v.rs) (g := t3D) (p := fun _ => true) (kk := fun t => pK (tlv v t).1) (f := fun t => .int (t.2.2 - v.l)) (δ0 := [.imm (vD v), .imm (plD5 v), .imm (.int v.x), .imm (.int v.y), .imm (.int v.l), .no, .no, .no])]
    · rfl
    · simp! only [cr, hi]
    · exact hl
    · exact pK_nd
    · intro t ht
      obtain ⟨a, b, c⟩ := t
      generalize hA : ((a : Nat) : Int) = A at *
      generalize hB : ((b : Nat) : Int) = B at *
      refine ⟨[.imm (vD v), .imm (plD5 v), .imm (.int v.x), .imm (.int v.y), .imm (.int v.l), .imm (.int A), .imm (.int B), .imm (.int c)], [.imm (vD v), .imm (plD5 v), .imm (.int v.x), .imm (.int v.y), .imm (.int v.l), .imm (.int A), .imm (.int B), .imm (.int c)], ?_, rfl, (fun z => by cases z), fun _ => ⟨pD (v.x + A, v.y + B), [.imm (vD v), .imm (plD5 v), .imm (.int v.x), .imm (.int v.y), .imm (.int v.l), .imm (.int A), .imm (.int B), .imm (.int c)], [.imm (vD v), .imm (plD5 v), .imm (.int v.x), .imm (.int v.y), .imm (.int v.l), .imm (.int A), .imm (.int B), .imm (.int c)], ?_, ?_, ?_, rfl⟩⟩
      · subst hA hB
        unfold t3D
        simp! only [wipeE]
      · unfold pD
        simp! only []
      · subst hA hB
        rfl
      · simp! only []
  refine (fn_rt (δ1 := [.imm (vD v), .imm (plD5 v), .imm (.int v.x), .imm (.int v.y), .imm (.int v.l), .no, .no, .no]) ?_).trans rfl
  unfold b_picture_of
  refine ssq (δ1 := [.imm (vD v), .imm (plD5 v), .imm (.int v.x), .imm (.int v.y), .imm (.int v.l), .no, .no, .no]) (by simp! only [ec]) ?_
  simp! only [e]
def rowP (r : Row) (y j : Nat) : List T3r := (List.range j).filterMap fun x => (r[x]?.join).map fun v => (x, y, v)
theorem rowP_all {r : Row} {y : Nat} : rowP r y r.length = rowRd r y := rfl
theorem rowP_snoc {r : Row} {y j : Nat} : rowP r y (j + 1) = rowP r y j ++ ((r[j]?.join).map fun v => (j, y, v)).toList := by
  unfold rowP
  rw [List.range_succ, List.filterMap_append]
  cases h : (r[j]?.join) <;> simp [h]
theorem rowP_len {r : Row} {y j : Nat} : (rowP r y j).length ≤ j := Nat.le_trans (List.length_filterMap_le _ _) (by rw [List.length_range]; exact Nat.le_refl _)
def tvD (v : V5) (t : T3r) : D := cvD (tlv v t)
theorem told_D {v : V5} : (told v).map cvD = (rds v.rs).map (tvD v) := by unfold told; rw [List.map_map]; rfl
theorem pl_0 {v : V5} : dIx (plD5 v) (.int 0) = some (.int v.g) := atI_0
theorem pl_1 {v : V5} : dIx (plD5 v) (.int 1) = some (.int v.x) := atI_1
theorem pl_2 {v : V5} : dIx (plD5 v) (.int 2) = some (.int v.y) := atI_2
theorem pl_3 {v : V5} : dIx (plD5 v) (.int 3) = some (.int v.l) := atI_3
theorem dSub_oI {i l : Int} : dSub (oI (some i)) (.int l) = some (.int (i - l)) := rfl
theorem v_1 {v : V5} : dIx (vD v) (.int 1) = some (rowsT v.rs) := atI_1
theorem v_0 {v : V5} : dIx (vD v) (.int 0) = some (.str (mkS v.nm)) := atI_0
theorem ev_told {v : V5} (o : VOk v) : m__law_told [.imm (vD v), .imm (plD5 v)] = some (.ok (.lst ((told v).map cvD)), [.no, .no]) := by
  obtain ⟨w, h, R, h1, h2, h3, h4⟩ := o.rect
  have hl : v.rs.length ≤ 3 := by rw [R.len]; exact h4
  rw [told_D]
  obtain ⟨δ', f1, y3, y4, rfl⟩ := sFor_inv (I := (iRg rg1 (aCons (eF fLen (aCons (eIxV 0 (eC (.int 1))) aNil)) aNil))) (T := gN 3) (S := (sFor (iRg rg1 (aCons (eF fLen (aCons (eIx (eIxV 0 (eC (.int 1))) (eV 3)) aNil)) aNil)) (gN 4)
 (sIf (eB (eBin (dIs true) (eIx (eIx (eIxV 0 (eC (.int 1))) (eV 3)) (eV 4)) (eC .non)))
 (sApp 2 (eTup (aCons (eTup (aCons (eBin dAdd (eIxV 1 (eC (.int 1))) (eV 4)) (aCons (eBin dAdd (eIxV 1 (eC (.int 2))) (eV 3)) aNil))) (aCons (eBin dSub (eIx (eIx (eIxV 0 (eC (.int 1))) (eV 3)) (eV 4)) (eIxV 1 (eC (.int 3)))) aNil))))
 sNx))) (ds := rgD 0 v.rs.length)
    (δ := [.imm (vD v), .imm (plD5 v), .own (.lst []), .no, .no]) (δ0 := [.imm (vD v), .imm (plD5 v), .own (.lst []), .no, .no])
    (fun k δ => ∃ y3 y4 : Sl, δ = [.imm (vD v), .imm (plD5 v), .own (.lst (((List.range k).flatMap fun y => rowRd (v.rs.getD y []) y).map (tvD v))), y3, y4])
    (by simp! only [v_1, len_rows, rg1_n (show v.rs.length ≤ 1000 by omega)]) ⟨.no, .no, rfl⟩ (fun k x δ hk hδ => by
      obtain ⟨y3, y4, rfl⟩ := hδ
      obtain ⟨hkk, rfl⟩ := rgD_get hk
      have l1 := rds_len' R k
      have l1 : ((List.range k).flatMap fun y => rowRd (v.rs.getD y []) y).length ≤ 100 := by
        have : w * k ≤ 3 * 3 := Nat.mul_le_mul h2 (by omega)
        omega
      have e0 := ix_rows hkk
      have hr := R.wid _ (getD_mem hkk).2
      rw [List.range_succ, List.flatMap_append, List.map_append, List.flatMap_singleton]
      generalize v.rs.getD k [] = r at *
      have l3 : (((List.range k).flatMap fun y => rowRd (v.rs.getD y []) y).map (tvD v)).length ≤ 100 := by rw [List.length_map]; exact l1
      generalize ((List.range k).flatMap fun y => rowRd (v.rs.getD y []) y).map (tvD v) = L at *
      obtain ⟨δ', f1, y4', rfl⟩ := sFor_inv (I := (iRg rg1 (aCons (eF fLen (aCons (eIx (eIxV 0 (eC (.int 1))) (eV 3)) aNil)) aNil))) (T := gN 4) (S := (sIf (eB (eBin (dIs true) (eIx (eIx (eIxV 0 (eC (.int 1))) (eV 3)) (eV 4)) (eC .non)))
 (sApp 2 (eTup (aCons (eTup (aCons (eBin dAdd (eIxV 1 (eC (.int 1))) (eV 4)) (aCons (eBin dAdd (eIxV 1 (eC (.int 2))) (eV 3)) aNil))) (aCons (eBin dSub (eIx (eIx (eIxV 0 (eC (.int 1))) (eV 3)) (eV 4)) (eIxV 1 (eC (.int 3)))) aNil))))
 sNx)) (ds := rgD 0 r.length)
        (δ := [.imm (vD v), .imm (plD5 v), .own (.lst L), .imm (.int (k : Nat)), y4]) (δ0 := [.imm (vD v), .imm (plD5 v), .own (.lst L), .imm (.int (k : Nat)), y4])
        (fun j δ => ∃ y4 : Sl, δ = [.imm (vD v), .imm (plD5 v), .own (.lst (L ++ (rowP r k j).map (tvD v))), .imm (.int (k : Nat)), y4])
        (by
          generalize ((k : Nat) : Int) = KI at *
          simp! only [v_1, e0, len_row, rg1_n (show r.length ≤ 1000 by omega)]) ⟨y4, by unfold rowP; rw [List.range_zero, List.filterMap_nil, List.map_nil, List.append_nil]⟩ (fun j d δ hj hδ => by
          obtain ⟨y4, rfl⟩ := hδ
          obtain ⟨hjj, rfl⟩ := rgD_get hj
          have e2 := ix_row hjj
          rw [← get_join hjj] at e2
          rw [rowP_snoc]
          have l4 : (L ++ (rowP r k j).map (tvD v)).length ≤ 1000 := by
            have := rowP_len (r := r) (y := k) (j := j)
            rw [List.length_append, List.length_map]; omega
          have tvx : ∀ i : Int, tvD v (j, k, i) = .tup [.tup [.int (v.x + (j : Nat)), .int (v.y + (k : Nat))], .int (i - v.l)] := fun i => rfl
          cases ho : r[j]?.join with
          | none =>
            rw [ho] at e2
            have hn : dIs true (oI none) .non = some (.bl false) := rfl
            rw [Option.map_none, Option.toList_none, List.append_nil]
            generalize ((k : Nat) : Int) = KI at *
            generalize ((j : Nat) : Int) = JI at *
            refine ⟨[.imm (vD v), .imm (plD5 v), .own (.lst (L ++ (rowP r k j).map (tvD v))), .imm (.int KI), .imm (.int JI)], _, by simp! only [], .inl (s1f (δ1 := [.imm (vD v), .imm (plD5 v), .own (.lst (L ++ (rowP r k j).map (tvD v))), .imm (.int KI), .imm (.int JI)]) ?_), _, rfl⟩
            simp! only [v_1, e0, e2, hn]
          | some i =>
            rw [ho] at e2
            have hn : dIs true (oI (some i)) .non = some (.bl true) := rfl
            have da := dApp_l (x := tvD v (j, k, i)) l4
            rw [Option.map_some, Option.toList_some, List.map_append, List.map_cons, List.map_nil, ← List.append_assoc]
            rw [tvx] at da ⊢
            generalize L ++ (rowP r k j).map (tvD v) = M at *
            generalize ((k : Nat) : Int) = KI at *
            generalize ((j : Nat) : Int) = JI at *
            refine ⟨[.imm (vD v), .imm (plD5 v), .own (.lst M), .imm (.int KI), .imm (.int JI)], [.imm (vD v), .imm (plD5 v), .own (.lst (M ++ [.tup [.tup [.int (v.x + JI), .int (v.y + KI)], .int (i - v.l)]])), .imm (.int KI), .imm (.int JI)], by simp! only [], .inl (st (δ1 := [.imm (vD v), .imm (plD5 v), .own (.lst M), .imm (.int KI), .imm (.int JI)]) (by simp! only [v_1, e0, e2, hn]) ?_), _, rfl⟩
            simp! only [x_sApp, x_isLst, iLk_l, v_1, e0, e2, pl_1, pl_2, pl_3, dSub_oI, da])
      rw [rgD_len, rowP_all] at f1
      refine ⟨[.imm (vD v), .imm (plD5 v), .own (.lst L), .imm (.int (k : Nat)), y4], _, by simp! only [], .inl f1, _, _, rfl⟩)
  rw [rgD_len] at f1
  refine (fn_rt (δ1 := [.imm (vD v), .imm (plD5 v), .imm (.lst ((rds v.rs).map (tvD v))), y3, y4]) ?_).trans rfl
  unfold b__law_told
  refine ssq (δ1 := [.imm (vD v), .imm (plD5 v), .own (.lst []), .no, .no]) rfl ?_
  refine ssq f1 ?_
  unfold rds
  simp! only []
end M
set_option Elab.async false
set_option linter.all false
set_option maxRecDepth 100000
set_option maxHeartbeats 1000000
namespace M
open PySem L2
def albD5 (vs : List V5) : D := .alb (vs.map vD) []
def layD5 (vs : List V5) : D := .dK (vs.map fun v => (.inr (mkS v.nm), plD5 v))
structure VsOk (vs : List V5) : Prop where
  ok : ∀ v ∈ vs, VOk v
  nd : (vs.map (·.nm)).Nodup
  len : vs.length ≤ 4
theorem look_lay : ∀ {vs : List V5} {v : V5}, (vs.map (·.nm)).Nodup → v ∈ vs → lookA (vs.map fun v => ((.inr (mkS v.nm) : Key), plD5 v)) (.inr (mkS v.nm)) = some (plD5 v)
  | [], v, _, h => by simp at h
  | b :: vs, v, nd, h => by
    rw [List.map_cons] at nd
    obtain ⟨n1, n2⟩ := List.nodup_cons.mp nd
    have ih := look_lay (v := v) n2
    unfold lookA at ih ⊢
    rw [List.map_cons, List.find?_cons]
    by_cases e : b.nm = v.nm
    · have : b = v := by
        rcases List.mem_cons.mp h with h | h
        · exact h.symm
        · exact absurd (List.mem_map.mpr ⟨v, h, e.symm⟩) n1
      subst this
      simp
    · have e2 : ¬ ((.inr (mkS b.nm) : Key) = .inr (mkS v.nm)) := fun z => e (mkS_inj (Sum.inr.inj z))
      simp only [e2, decide_false]
      rcases List.mem_cons.mp h with rfl | h
      · exact absurd rfl e
      · exact ih h
theorem ix_lay {vs : List V5} (o : VsOk vs) {v : V5} (h : v ∈ vs) : dIx (layD5 vs) (.str (mkS v.nm)) = some (plD5 v) := by
  show (dGet (layD5 vs) (.str (mkS v.nm))).bind id = _
  show (some (lookA (vs.map fun v => ((.inr (mkS v.nm) : Key), plD5 v)) (.inr (mkS v.nm)))).bind id = _
  rw [look_lay o.nd h]; rfl
theorem pure_oI {o : Option Int} : pureD (oI o) = true := by cases o <;> (unfold oI; simp only [pureD])
theorem pure_all : ∀ {l : List D}, (∀ d ∈ l, pureD d = true) → pureDs l = true
  | [], _ => by unfold pureDs; rfl
  | d :: l, h => by
    unfold pureDs
    rw [h d List.mem_cons_self, pure_all fun q m => h q (List.mem_cons_of_mem _ m)]; rfl
theorem pure_row {r : Row} : pureD (rowT r) = true := by
  unfold rowT pureD
  exact pure_all fun d m => by
    obtain ⟨o, _, rfl⟩ := List.mem_map.mp m
    exact pure_oI
theorem pure_rows {rs : List Row} : pureD (rowsT rs) = true := by
  unfold rowsT pureD
  exact pure_all fun d m => by
    obtain ⟨r, _, rfl⟩ := List.mem_map.mp m
    exact pure_row
theorem pure_v {v : V5} : pureD (vD v) = true := by
  show pureDs [.str (mkS v.nm), rowsT v.rs] = true
  refine pure_all fun d m => ?_
  simp only [List.mem_cons, List.not_mem_nil, or_false] at m
  rcases m with rfl | rfl
  · unfold pureD; rfl
  · exact pure_rows
theorem pure_vs {vs : List V5} : pureDs (vs.map vD) = true := pure_all fun d m => by
  obtain ⟨v, _, rfl⟩ := List.mem_map.mp m
  exact pure_v
theorem meth0 {m : Mo D} {δ : Env} {i : Nat} {vs ls : List D} {r : D} {s : Sl} (h : δ[i]? = some (.bor (.alb vs ls)) ∨ δ[i]? = some (.imm (.alb vs ls))) (hm : m [.bor (.alb vs ls)] = some (.ok r, [s])) : eMeth m i aNil δ = some (.ok r, δ) := by
  have ha : isAlb δ i = true := by
    unfold isAlb
    rcases h with h | h <;> rw [h]
  unfold eMeth
  rw [if_pos ha]
  show (Mo.bind aNil fun as => callM m (.vb i :: as)) δ = _
  rw [bind_ok (a := []) (δ1 := δ) rfl]
  unfold callM
  have hs : argSls δ [.vb i] = some [.bor (.alb vs ls)] := by
    simp only [argSls, argSl]
    rcases h with h | h <;> rw [h]
  rw [hs]
  simp only []
  rw [if_pos ⟨by simp [vrs], by simp [vbs, vrs]⟩, hm]
  rfl
theorem iFld_of {δ : Env} {i : Nat} {b : Bool} {vs ls : List D} (h : δ[i]? = some (.bor (.alb vs ls))) (hp : pureDs (fldL b vs ls) = true) : iFld i b δ = some (.ok (fldL b vs ls), δ) := by
  unfold iFld albSl
  rw [h]
  simp only []
  rw [if_pos hp]
theorem ev_a_views {vs : List V5} : m_Album_views [.bor (albD5 vs)] = some (.ok (.lst (vs.map vD)), [.no]) := by
  have e : eLstF 0 true [.bor (albD5 vs)] = some (.ok (.lst (vs.map vD)), [.bor (albD5 vs)]) := by
    unfold eLstF
    rw [bind_ok (iFld_of (b := true) (vs := vs.map vD) (ls := []) rfl pure_vs)]; rfl
  refine (fn_rt (δ1 := [.bor (albD5 vs)]) ?_).trans rfl
  unfold b_Album_views
  simp only [x_bind, bk_ok, bk_ite, x_ret, x_lift, lk_some, lk_ite, app_ite, x_eC, x_eV, vk_imm, vk_own, vk_bor, x_give, gk_own, x_bin, x_un, x_ix, x_tru, x_eB, dBl_bl, dTru_bl, dTru_int, dTru_lst, x_and, x_or, x_not, x_eAnd, x_eOr, x_eNot, x_eIf, x_chain, x_aNil, x_aCons, x_aVr, rk_own, rk_io, x_aVb, tk_own, tk_io, tk_imm, tk_bor, x_eTup, x_eLst, imms_nil, imms_im, x_eF, x_call, ixV_C, jk_imm, jk_own, jk_io, jk_bor, flk_int, x_lenV, nk_imm, nk_own, nk_io, nk_bor, x_inV, hk_imm, hk_own, hk_io, hk_bor, x_sNx, x_pass, x_cont, x_brk, x_seq, sk_nx, sk_rt, sk_rtO, sk_ct, sk_bk, sk_ite, x_drop, x_sRet, x_sRetO, x_sIf, x_asg, x_asgO, x_gN, x_gO, x_gNil, x_gCons, x_gTt, x_gTl, x_sApp, x_sSet, x_chM, ck_own, ck_io, x_iOf, x_iRg, x_fn, fk_rt, fk_nx, fk_ite, ios_z, ios_s, keep_io, keep_imm, keep_own, keep_bor, keep_no, dSub_i, dAdd_i, dLt_i, dLe_i, dGt_i, dGe_i, dEq_int, dNe_int, ix_lst, ix_scr, ix_tup, atI_0, atI_1, atI_2, atI_3, List.getElem?_cons_zero, List.getElem?_cons_succ, List.set_cons_zero, List.set_cons_succ, List.length_cons, List.length_nil, List.cons_append, List.nil_append, List.replicate_succ, List.replicate_zero, Option.map_some, Option.bind_some, Nat.reduceAdd, Nat.reduceSub, Nat.reduceLT, Nat.reduceLeDiff, if_true, if_false, Bool.false_eq_true, decide_eq_true_eq, reduceIte, ne_eq, not_false_eq_true, Nat.lt_add_left_iff_pos, Nat.zero_lt_succ, x_call1, x_call2, x_call3, x_call4, dk1, dk2, dk3, dk4, ixV_V, Nat.reduceEqDiff, not_false_eq_true, x_isLst, x_isSet, List.map_cons, List.map_nil, Option.map_none, Option.bind_none, x_eSl, x_eP0, x_eP1, part_i, e]
def evD (e : Ev) : D := .tup [pD e.1, .str e.2.1, .int e.2.2]
def evV (v : V5) : List Ev := (told v).map fun c => (c.1, mkS v.nm, c.2)
def evG (g : Int) (v : V5) : List Ev := if v.g = g then evV v else []
def evs (g : Int) (vs : List V5) : List Ev := vs.flatMap (evG g)
theorem evG_len {g : Int} {v : V5} (o : VOk v) : (evG g v).length ≤ 9 := by
  unfold evG
  split
  · unfold evV; rw [List.length_map]; exact told_len o
  · exact Nat.zero_le _
theorem evs_take {g : Int} {vs : List V5} {j : Nat} {v : V5} (h : vs[j]? = some v) : evs g (vs.take (j + 1)) = evs g (vs.take j) ++ evG g v := by
  unfold evs
  rw [take_snoc h, List.flatMap_append, List.flatMap_singleton]
theorem flat_le9 {g : Int} : ∀ {vs : List V5}, (∀ v ∈ vs, VOk v) → (evs g vs).length ≤ 9 * vs.length
  | [], _ => Nat.zero_le _
  | v :: vs, h => by
    have ih := flat_le9 (g := g) fun q m => h q (List.mem_cons_of_mem _ m)
    have := evG_len (g := g) (h v List.mem_cons_self)
    unfold evs at ih ⊢
    rw [List.flatMap_cons, List.length_append, List.length_cons]; omega
theorem evs_len {g : Int} {vs : List V5} (o : VsOk vs) (j : Nat) : (evs g (vs.take j)).length ≤ 36 := by
  have h1 := flat_le9 (g := g) (vs := vs.take j) fun v m => o.ok v (List.mem_of_mem_take m)
  have h2 : (vs.take j).length ≤ 4 := by rw [List.length_take]; have := o.len; omega
  omega
theorem evs_len' {g : Int} {vs : List V5} (o : VsOk vs) : (evs g vs).length ≤ 36 := by
  have := evs_len (g := g) o vs.length
  rwa [List.take_of_length_le (Nat.le_refl _)] at this
/-- the ground that is told -/
def gatD (R : List Ev) : D := gD (byRows (cel R)) (selD R)
theorem rows_mem {l : List C2} {k : C2} : k ∈ byRows l ↔ k ∈ l := (List.mergeSort_perm l rowLe).mem_iff
theorem rows_nd {l : List C2} (h : l.Nodup) : (byRows l).Nodup := (List.mergeSort_perm l rowLe).nodup_iff.mpr h
theorem rows_len {l : List C2} : (byRows l).length = l.length := by unfold byRows; rw [List.length_mergeSort]
abbrev gaE (vs : List V5) (g : Int) (R : List Ev) (s4 s5 s6 s7 : Sl) : Env := [.bor (albD5 vs), .imm (layD5 vs), .imm (.int g), .own (gD (cel R) (selD R)), s4, s5, s6, s7]
theorem tup_app {l m : List D} (h : l.length ≤ 1000) (h2 : m.length ≤ 1000) : dAdd (.tup l) (.tup m) = some (.tup (l ++ m)) := by
  show (if l.length + m.length ≤ sizeLine then _ else none) = _
  rw [if_pos (by rw [sizeLine_eq]; omega)]
theorem x_get2 {A B C : Mo D} {δ : Env} : eGet2 A B C δ = bk (fun d => fun δ => if isDct d = true then (B.bind fun k => C.bind fun x => Mo.lift ((dGet d k).map fun o => o.getD x)) δ else none) (A δ) := x_bind
end M
set_option Elab.async false
set_option linter.all false
set_option maxRecDepth 100000
set_option maxHeartbeats 1000000
namespace M
open PySem L2
local macro_rules
  | `(tactic| simp! only [$as,*]) => `(tactic| simp only [x_bind, bk_ok, bk_ite, x_ret, x_lift, lk_some, lk_ite, app_ite, x_eC, x_eV, vk_imm, vk_own, vk_bor, x_give, gk_own, x_bin, x_un, x_ix, x_tru, x_eB, dBl_bl, dTru_bl, dTru_int, dTru_lst, x_and, x_or, x_not, x_eAnd, x_eOr, x_eNot, x_eIf, x_chain, x_aNil, x_aCons, x_aVr, rk_own, rk_io, x_aVb, tk_own, tk_io, tk_imm, tk_bor, x_eTup, x_eLst, imms_nil, imms_im, x_eF, x_call, ixV_C, jk_imm, jk_own, jk_io, jk_bor, flk_int, x_lenV, nk_imm, nk_own, nk_io, nk_bor, x_inV, hk_imm, hk_own, hk_io, hk_bor, x_sNx, x_pass, x_cont, x_brk, x_seq, sk_nx, sk_rt, sk_rtO, sk_ct, sk_bk, sk_ite, x_drop, x_sRet, x_sRetO, x_sIf, x_asg, x_asgO, x_gN, x_gO, x_gNil, x_gCons, x_gTt, x_gTl, x_sApp, x_sSet, x_chM, ck_own, ck_io, x_iOf, x_iRg, x_fn, fk_rt, fk_nx, fk_ite, ios_z, ios_s, keep_io, keep_imm, keep_own, keep_bor, keep_no, dSub_i, dAdd_i, dLt_i, dLe_i, dGt_i, dGe_i, dEq_int, dNe_int, ix_lst, ix_scr, ix_tup, atI_0, atI_1, atI_2, atI_3, List.getElem?_cons_zero, List.getElem?_cons_succ, List.set_cons_zero, List.set_cons_succ, List.length_cons, List.length_nil, List.cons_append, List.nil_append, List.replicate_succ, List.replicate_zero, Option.map_some, Option.bind_some, Nat.reduceAdd, Nat.reduceSub, Nat.reduceLT, Nat.reduceLeDiff, if_true, if_false, Bool.false_eq_true, decide_eq_true_eq, reduceIte, ne_eq, not_false_eq_true, Nat.lt_add_left_iff_pos, Nat.zero_lt_succ, x_call1, x_call2, x_call3, x_call4, dk1, dk2, dk3, dk4, ixV_V, Nat.reduceEqDiff, not_false_eq_true, x_isLst, x_isSet, List.map_cons, List.map_nil, Option.map_none, Option.bind_none, x_eSl, x_eP0, x_eP1, part_i, $as,*])
theorem getV_ok {i : Nat} {Eb Ec : Mo D} {δ : Env} {s : Sl} {d k x : D} {o : Option D} (h : δ[i]? = some s) (hs : slD s = some d) (hb : isBor s = false) (hd : isDct d = true) (h1 : Eb δ = some (.ok k, δ)) (h2 : Ec δ = some (.ok x, δ)) (hg : dGet d k = some o) : eGetV i Eb Ec δ = some (.ok (o.getD x), δ) := by
  have hsl : slotDct δ i = some true := by unfold slotDct; rw [h]; simp only [hs, Option.map_some, hd]
  unfold eGetV
  rw [if_pos hsl, bind_ok h1, bind_ok h2]
  unfold getSl
  rw [h]
  simp only [hs]
  rw [if_pos ⟨hb, hd⟩, hg]; rfl
noncomputable def putT : Mo Out := (sSet 3 (eV 7) (eBin dAdd (eGetV 3 (eV 7) (eTup aNil)) (eTup (aCons (eTup (aCons (eIxV 4 (eC (.int 0))) (aCons (eIxV 6 (eV 7)) aNil))) aNil))))
theorem ev_put {vs : List V5} {g : Int} {R : List Ev} {v : V5} {c : C2 × Int} (hc : c ∈ told v) (hl : R.length ≤ 100) : putT (gaE vs g R (.imm (vD v)) (.imm (plD5 v)) (.imm (picD v)) (.imm (pD c.1))) = some (.ok .nx, gaE vs g (R ++ [(c.1, mkS v.nm, c.2)]) (.imm (vD v)) (.imm (plD5 v)) (.imm (picD v)) (.imm (pD c.1))) := by
  have eg : eGetV 3 (eV 7) (eTup aNil) (gaE vs g R (.imm (vD v)) (.imm (plD5 v)) (.imm (picD v)) (.imm (pD c.1))) = some (.ok (selD R c.1), gaE vs g R (.imm (vD v)) (.imm (plD5 v)) (.imm (picD v)) (.imm (pD c.1))) := by
    rw [getV_ok (s := .own (gD (cel R) (selD R))) (d := gD (cel R) (selD R)) (k := pD c.1) (x := .tup []) rfl rfl rfl rfl (by simp! only []) (by simp! only []) get_sel, getD_sel]
  have da : dAdd (selD R c.1) (.tup [.tup [.str (mkS v.nm), .int c.2]]) = some (.tup ((sel R c.1).map rowD ++ [rowD (mkS v.nm, c.2)])) := tup_app (by rw [List.length_map]; have := sel_len (R := R) (k := c.1); omega) (by simp)
  have ds := put_sel (R := R) (e := (c.1, mkS v.nm, c.2)) (by omega)
  have ip := ix_pic hc
  unfold putT
  unfold gaE at eg ⊢
  generalize gD (cel (R ++ [(c.1, mkS v.nm, c.2)])) (selD (R ++ [(c.1, mkS v.nm, c.2)])) = G2 at *
  generalize gD (cel R) (selD R) = G1 at *
  simp! only [x_sSet, x_isSet, iSk_own, eg, v_0, ip, da, ds]
theorem evV_get {v : V5} {j : Nat} {k : C2} (h : ((told v).map (·.1))[j]? = some k) : ∃ c, (told v)[j]? = some c ∧ c.1 = k ∧ (evV v).take (j + 1) = (evV v).take j ++ [(c.1, mkS v.nm, c.2)] := by
  rw [List.getElem?_map] at h
  cases q : (told v)[j]? with
  | none => rw [q] at h; cases h
  | some c =>
    rw [q] at h
    refine ⟨c, rfl, Option.some.inj h, take_snoc ?_⟩
    unfold evV
    rw [List.getElem?_map, q]; rfl
theorem ev_gather {vs : List V5} {g : Int} (o : VsOk vs) : m_gather [.bor (albD5 vs), .imm (layD5 vs), .imm (.int g)] = some (.ok (gatD (evs g vs)), [.no, .no, .no]) := by
  have em : eMeth m_Album_views 0 aNil [.bor (albD5 vs), .imm (layD5 vs), .imm (.int g), .own (gD (cel []) (selD [])), .no, .no, .no, .no] = some (.ok (.lst (vs.map vD)), [.bor (albD5 vs), .imm (layD5 vs), .imm (.int g), .own (gD (cel []) (selD [])), .no, .no, .no, .no]) := meth0 (.inl rfl) ev_a_views
  have hi : itD (.lst (vs.map vD)) = some (vs.map vD) := rfl
  obtain ⟨δ', f1, s4, s5, s6, s7, rfl⟩ := sFor_inv (I := (iOf (eMeth m_Album_views 0 aNil))) (T := gN 4) (S := (sSeq (sAsg (gN 5) (eIxV 1 (eIxV 4 (eC (.int 0)))))
 (sIf (eB (eBin dEq (eIxV 5 (eC (.int 0))) (eV 2)))
 (sSeq (sAsg (gN 6) (eCall m_picture_of (aCons (eV 4) (aCons (eV 5) aNil))))
 (sFor (iKy 6) (gN 7) putT))
 sNx))) (ds := vs.map vD)
    (δ := gaE vs g [] .no .no .no .no) (δ0 := gaE vs g [] .no .no .no .no)
    (fun j δ => ∃ s4 s5 s6 s7 : Sl, δ = gaE vs g (evs g (vs.take j)) s4 s5 s6 s7)
    (by unfold gaE; simp! only [em, hi]) ⟨.no, .no, .no, .no, rfl⟩ (fun j d δ hj hδ => by
      obtain ⟨s4, s5, s6, s7, rfl⟩ := hδ
      obtain ⟨v, hv, rfl⟩ := getmap hj
      have hm := List.mem_of_getElem? hv
      have hR := evs_len (g := g) o j
      have ov := o.ok v hm
      rw [evs_take hv]
      generalize evs g (vs.take j) = R at *
      have il := ix_lay o hm
      have e5 : eIxV 1 (eIxV 4 (eC (.int 0))) (gaE vs g R (.imm (vD v)) s5 s6 s7) = some (.ok (plD5 v), gaE vs g R (.imm (vD v)) s5 s6 s7) := by
        rw [ixV_E (d := layD5 vs) (y := .str (mkS v.nm)) (δ' := gaE vs g R (.imm (vD v)) s5 s6 s7) rfl (by unfold gaE; simp! only [v_0]) rfl, il]; rfl
      have hp := pl_0 (v := v)
      by_cases hg : v.g = g
      · have hev : evG g v = evV v := by unfold evG; rw [if_pos hg]
        have ep := ev_pic ov
        have cp : ∀ δ, callM m_picture_of [.im (vD v), .im (plD5 v)] δ = some (.ok (picD v), δ) := fun δ => by rw [x_call2, ep]; rfl
        have hlt := told_len ov
        obtain ⟨δ', f2, z7, rfl⟩ := sFor_inv (I := iKy 6) (T := gN 7) (S := putT) (ds := ((told v).map (·.1)).map pD)
          (δ := gaE vs g R (.imm (vD v)) (.imm (plD5 v)) (.imm (picD v)) s7) (δ0 := gaE vs g R (.imm (vD v)) (.imm (plD5 v)) (.imm (picD v)) s7)
          (fun j δ => ∃ s7 : Sl, δ = gaE vs g (R ++ (evV v).take j) (.imm (vD v)) (.imm (plD5 v)) (.imm (picD v)) s7)
          (by
            show (keysD (picD v)).map _ = _
            unfold picD
            rw [keys_g]; rfl) ⟨s7, by rw [List.take_zero, List.append_nil]⟩ (fun j d δ hj hδ => by
            obtain ⟨s7, rfl⟩ := hδ
            obtain ⟨k, hk, rfl⟩ := getmap hj
            obtain ⟨c, hc, rfl, ht⟩ := evV_get hk
            rw [ht, ← List.append_assoc]
            refine ⟨gaE vs g (R ++ (evV v).take j) (.imm (vD v)) (.imm (plD5 v)) (.imm (picD v)) (.imm (pD c.1)), _, by unfold gaE; simp! only [], .inl (ev_put (List.mem_of_getElem? hc) ?_), _, rfl⟩
            rw [List.length_append, List.length_take]
            unfold evV
            rw [List.length_map]; omega)
        have he : (evV v).take (((told v).map (·.1)).map pD).length = evV v := List.take_of_length_le (by unfold evV; rw [List.length_map, List.length_map, List.length_map]; exact Nat.le_refl _)
        rw [he] at f2
        have ee : dEq (.int v.g) (.int g) = some (.bl true) := by rw [dEq_int, decide_eq_true hg]
        rw [hev]
        refine ⟨gaE vs g R (.imm (vD v)) s5 s6 s7, _, by unfold gaE; simp! only [], .inl (ssq (δ1 := gaE vs g R (.imm (vD v)) (.imm (plD5 v)) s6 s7) (by unfold gaE at e5 ⊢; simp! only [e5]) (st (δ1 := gaE vs g R (.imm (vD v)) (.imm (plD5 v)) s6 s7) (by unfold gaE; simp! only [hp, ee]) (ssq (δ1 := gaE vs g R (.imm (vD v)) (.imm (plD5 v)) (.imm (picD v)) s7) (by unfold gaE; simp! only [cp]) f2))), _, _, _, _, rfl⟩
      · have hev : evG g v = [] := by unfold evG; rw [if_neg hg]
        have ee : dEq (.int v.g) (.int g) = some (.bl false) := by rw [dEq_int, decide_eq_false hg]
        rw [hev, List.append_nil]
        refine ⟨gaE vs g R (.imm (vD v)) s5 s6 s7, gaE vs g R (.imm (vD v)) (.imm (plD5 v)) s6 s7, by unfold gaE; simp! only [], .inl (ssq (δ1 := gaE vs g R (.imm (vD v)) (.imm (plD5 v)) s6 s7) (by unfold gaE at e5 ⊢; simp! only [e5]) (s1f (by unfold gaE; simp! only [hp, ee]))), _, _, _, _, rfl⟩)
  rw [List.length_map, List.take_of_length_le (Nat.le_refl _)] at f1
  have hR := evs_len' (g := g) o
  generalize evs g vs = R at *
  have hk := keyD_g (ks := cel R) (g := selD R)
  have ed : eDcT (iOf (eF fKeyD (aCons (eV 3) aNil))) (gN 7) tYesM (eV 7) (eIxV 3 (eV 7)) [7] (gaE vs g R s4 s5 s6 s7) = some (.ok (gatD R), [.bor (albD5 vs), .imm (layD5 vs), .imm (.int g), .imm (gD (cel R) (selD R)), s4, s5, s6, .no]) := by
    have hi : itD (.lst ((byRows (cel R)).map pD)) = some ((byRows (cel R)).map pD) := rfl
    rw [eDcT_map (l := byRows (cel R)) (g := pD) (p := fun _ => true) (kk := pK) (f := selD R) (δ0 := [.bor (albD5 vs), .imm (layD5 vs), .imm (.int g), .imm (gD (cel R) (selD R)), s4, s5, s6, s7])]
    · rw [List.filter_eq_self.mpr (fun _ _ => rfl)]; rfl
    · unfold gaE
      generalize gD (cel R) (selD R) = G1 at *
      simp! only [hk, hi]
    · rw [rows_len]; have := cel_len (R := R); omega
    · exact nodup_on (rows_nd dd_nd) fun a _ b _ e => pK_inj e
    · intro k hk2
      have ix := ix_g (g := selD R) (rows_mem.mp hk2)
      generalize gD (cel R) (selD R) = G1 at *
      refine ⟨[.bor (albD5 vs), .imm (layD5 vs), .imm (.int g), .imm G1, s4, s5, s6, .imm (pD k)], [.bor (albD5 vs), .imm (layD5 vs), .imm (.int g), .imm G1, s4, s5, s6, .imm (pD k)], by simp! only [wipeE], rfl, (fun z => by cases z), fun _ => ⟨pD k, [.bor (albD5 vs), .imm (layD5 vs), .imm (.int g), .imm G1, s4, s5, s6, .imm (pD k)], [.bor (albD5 vs), .imm (layD5 vs), .imm (.int g), .imm G1, s4, s5, s6, .imm (pD k)], by simp! only [], rfl, by simp! only [ix], rfl⟩⟩
  refine (fn_rt (δ1 := [.bor (albD5 vs), .imm (layD5 vs), .imm (.int g), .imm (gD (cel R) (selD R)), s4, s5, s6, .no]) ?_).trans rfl
  unfold b_gather
  refine ssq (δ1 := gaE vs g [] .no .no .no .no) rfl ?_
  refine ssq f1 ?_
  simp! only [ed]
def bnd (ks : List C2) : D := if ks = [] then .non else .tup [.int ((minL (ks.map (·.1))).getD 0), .int ((minL (ks.map (·.2))).getD 0), .int ((maxL (ks.map (·.1))).getD 0), .int ((maxL (ks.map (·.2))).getD 0)]
theorem p_x {k : C2} : dIx (pD k) (.int 0) = some (.int k.1) := atI_0
theorem p_y {k : C2} : dIx (pD k) (.int 1) = some (.int k.2) := atI_1
theorem mins {l : List Int} (h : l ≠ []) : fMin [iD l] = some (.int ((minL l).getD 0)) ∧ fMax [iD l] = some (.int ((maxL l).getD 0)) := by
  obtain ⟨m, h1, _⟩ := minL_ex h
  obtain ⟨m2, h2⟩ := maxL_ex h
  rw [fMin_i h1, fMax_i h2, h1, h2]; exact ⟨rfl, rfl⟩
theorem tru_g {ks : List C2} {g : C2 → D} : dTru (gD ks g) = some (!ks.isEmpty) := by
  show some (!(ks.map fun k => (pK k, g k)).isEmpty) = _
  rw [List.isEmpty_map]
theorem ev_bounds {ks : List C2} {g : C2 → D} (hl : ks.length ≤ 100) : m_bounds [.imm (gD ks g)] = some (.ok (bnd ks), [.no]) := by
  have ht := tru_g (ks := ks) (g := g)
  have hk := keys_g (ks := ks) (g := g)
  generalize gD ks g = G1 at *
  unfold bnd
  by_cases c : ks = []
  · subst c
    have ht : dTru G1 = some false := ht
    refine (fn_rt (d := .non) (δ1 := [.imm G1, .no, .no, .no]) ?_).trans rfl
    unfold b_bounds
    refine ssq_t (δ1 := [.imm G1, .no, .no, .no]) (by unfold tNotM; simp! only [ht, Bool.not_false]) ?_
    rfl
  · have ht : dTru G1 = some true := by rw [ht]; cases ks <;> first | rfl | exact absurd rfl c
    have hi : ∀ s1 s2 s3 : Sl, iKy 0 [.imm G1, s1, s2, s3] = some (.ok (ks.map pD), [.imm G1, s1, s2, s3]) := fun s1 s2 s3 => by
      show (keysD G1).map _ = _
      rw [hk]; rfl
    have e1 : ∀ s1 s2 : Sl, eLc (iKy 0) (gN 3) tYesM (eIxV 3 (eC (.int 0))) [3] [.imm G1, s1, s2, .no] = some (.ok (iD (ks.map (·.1))), [.imm G1, s1, s2, .no]) := fun s1 s2 => by
      rw [eLc_map (l := ks) (g := pD) (p := fun _ => true) (f := fun k => .int k.1) (hi s1 s2 .no) (by omega)]
      · rw [List.filter_eq_self.mpr (fun _ _ => rfl)]
        unfold iD
        rw [List.map_map]; rfl
      · intro k _
        have := p_x (k := k)
        refine ⟨[.imm G1, s1, s2, .imm (pD k)], [.imm G1, s1, s2, .imm (pD k)], by simp! only [wipeE], rfl, (fun z => by cases z), fun _ => ⟨[.imm G1, s1, s2, .imm (pD k)], by simp! only [this], rfl⟩⟩
    have e2 : ∀ s1 s2 : Sl, eLc (iKy 0) (gN 3) tYesM (eIxV 3 (eC (.int 1))) [3] [.imm G1, s1, s2, .no] = some (.ok (iD (ks.map (·.2))), [.imm G1, s1, s2, .no]) := fun s1 s2 => by
      rw [eLc_map (l := ks) (g := pD) (p := fun _ => true) (f := fun k => .int k.2) (hi s1 s2 .no) (by omega)]
      · rw [List.filter_eq_self.mpr (fun _ _ => rfl)]
        unfold iD
        rw [List.map_map]; rfl
      · intro k _
        have := p_y (k := k)
        refine ⟨[.imm G1, s1, s2, .imm (pD k)], [.imm G1, s1, s2, .imm (pD k)], by simp! only [wipeE], rfl, (fun z => by cases z), fun _ => ⟨[.imm G1, s1, s2, .imm (pD k)], by simp! only [this], rfl⟩⟩
    obtain ⟨m1, m3⟩ := mins (l := ks.map (·.1)) (by simpa using c)
    obtain ⟨m2, m4⟩ := mins (l := ks.map (·.2)) (by simpa using c)
    rw [if_neg c]
    refine (fn_rt (δ1 := [.imm G1, .imm (iD (ks.map (·.1))), .imm (iD (ks.map (·.2))), .no]) ?_).trans rfl
    unfold b_bounds
    refine ssq_f (δ1 := [.imm G1, .no, .no, .no]) (by unfold tNotM; simp! only [ht, Bool.not_true]) ?_
    refine ssq (δ1 := [.imm G1, .own (iD (ks.map (·.1))), .no, .no]) (by simp! only [e1]) ?_
    refine ssq (δ1 := [.imm G1, .own (iD (ks.map (·.1))), .own (iD (ks.map (·.2))), .no]) (by simp! only [e2]) ?_
    simp! only [m1, m2, m3, m4]
theorem ev_vals {R : List Ev} {k : C2} (hl : R.length ≤ 36) : m_values_at [.imm (gatD R), .imm (pD k)] = some (.ok (iD (sortSet ((sel R k).map (·.2)))), [.no, .no]) := by
  have hg : dGet (gatD R) (pD k) = some (if k ∈ byRows (cel R) then some (selD R k) else none) := get_g
  have hq : (if k ∈ byRows (cel R) then some (selD R k) else none).getD (.tup []) = selD R k := by
    have : (k ∈ byRows (cel R)) ↔ k ∈ cel R := rows_mem
    simp only [this]
    exact getD_sel
  have hd : isDct (gatD R) = true := rfl
  have hi : itD (selD R k) = some ((sel R k).map rowD) := rfl
  have hs := sel_len (R := R) (k := k)
  have e : eSortSc (iOf (eGet2 (eV 0) (eV 1) (eTup aNil))) (gT 2 (gCons (gN 2) (gCons (gN 3) gNil))) tYesM (eV 3) [2, 3] [.imm (gatD R), .imm (pD k), .no, .no] = some (.ok (iD (sortSet ((sel R k).map (·.2)))), [.imm (gatD R), .imm (pD k), .no, .no]) := by
    rw [eSc_map (l := sel R k) (g := rowD) (p := fun _ => true) (fi := fun r => r.2) (δ0 := [.imm (gatD R), .imm (pD k), .no, .no])]
    · rw [List.filter_eq_self.mpr (fun _ _ => rfl)]; rfl
    · generalize (if k ∈ byRows (cel R) then some (selD R k) else none) = O at *
      generalize gatD R = G1 at *
      simp! only [x_get2, hd, if_true, hg, hq, hi, Option.map_some]
    · omega
    · intro r _
      refine ⟨[.imm (gatD R), .imm (pD k), .imm (.str r.1), .imm (.int r.2)], [.imm (gatD R), .imm (pD k), .imm (.str r.1), .imm (.int r.2)], ?_, rfl, (fun z => by cases z), fun _ => ⟨[.imm (gatD R), .imm (pD k), .imm (.str r.1), .imm (.int r.2)], by simp! only [], rfl⟩⟩
      unfold rowD
      simp! only [wipeE]
  refine (fn_rt (δ1 := [.imm (gatD R), .imm (pD k), .no, .no]) ?_).trans rfl
  unfold b_values_at
  simp! only [e]
end M
set_option Elab.async false
set_option linter.all false
set_option maxRecDepth 100000
set_option maxHeartbeats 2000000
namespace M
open PySem L2
local macro_rules
  | `(tactic| simp! only [$as,*]) => `(tactic| simp only [x_bind, bk_ok, bk_ite, x_ret, x_lift, lk_some, lk_ite, app_ite, x_eC, x_eV, vk_imm, vk_own, vk_bor, x_give, gk_own, x_bin, x_un, x_ix, x_tru, x_eB, dBl_bl, dTru_bl, dTru_int, dTru_lst, x_and, x_or, x_not, x_eAnd, x_eOr, x_eNot, x_eIf, x_chain, x_aNil, x_aCons, x_aVr, rk_own, rk_io, x_aVb, tk_own, tk_io, tk_imm, tk_bor, x_eTup, x_eLst, imms_nil, imms_im, x_eF, x_call, ixV_C, jk_imm, jk_own, jk_io, jk_bor, flk_int, x_lenV, nk_imm, nk_own, nk_io, nk_bor, x_inV, hk_imm, hk_own, hk_io, hk_bor, x_sNx, x_pass, x_cont, x_brk, x_seq, sk_nx, sk_rt, sk_rtO, sk_ct, sk_bk, sk_ite, x_drop, x_sRet, x_sRetO, x_sIf, x_asg, x_asgO, x_gN, x_gO, x_gNil, x_gCons, x_gTt, x_gTl, x_sApp, x_sSet, x_chM, ck_own, ck_io, x_iOf, x_iRg, x_fn, fk_rt, fk_nx, fk_ite, ios_z, ios_s, keep_io, keep_imm, keep_own, keep_bor, keep_no, dSub_i, dAdd_i, dLt_i, dLe_i, dGt_i, dGe_i, dEq_int, dNe_int, ix_lst, ix_scr, ix_tup, atI_0, atI_1, atI_2, atI_3, List.getElem?_cons_zero, List.getElem?_cons_succ, List.set_cons_zero, List.set_cons_succ, List.length_cons, List.length_nil, List.cons_append, List.nil_append, List.replicate_succ, List.replicate_zero, Option.map_some, Option.bind_some, Nat.reduceAdd, Nat.reduceSub, Nat.reduceLT, Nat.reduceLeDiff, if_true, if_false, Bool.false_eq_true, decide_eq_true_eq, reduceIte, ne_eq, not_false_eq_true, Nat.lt_add_left_iff_pos, Nat.zero_lt_succ, x_call1, x_call2, x_call3, x_call4, dk1, dk2, dk3, dk4, ixV_V, Nat.reduceEqDiff, not_false_eq_true, x_isLst, x_isSet, List.map_cons, List.map_nil, Option.map_none, Option.bind_none, x_eSl, x_eP0, x_eP1, part_i, $as,*])
theorem call_w1 {m : Mo D} {a d d' r : D} {s s0 : Sl} {δ : Env} (hm : m [.io d, .imm a] = some (.ok r, [.io d', s])) : callM m [.vr 1, .im a] (s0 :: .own d :: δ) = some (.ok r, s0 :: .own d' :: δ) :=
  call_of (by simp only [argSls, argSl, List.getElem?_cons_zero, List.getElem?_cons_succ]) ⟨by simp [vrs], by simp [vbs]⟩ hm (by simp only [backs, List.getElem?_cons_zero, List.getElem?_cons_succ, List.set_cons_zero, List.set_cons_succ])
theorem ev_tk1 {ns : List Int} {d : D} {m : Int} (hd : IsPl ns d) (h : 0 < m) (h2 : m ≤ 1000000) : ∃ t d', (∀ s0 δ, callM m__law_take [.vr 1, .im (.int m)] (s0 :: .own d :: δ) = some (.ok (.int t), s0 :: .own d' :: δ)) ∧ IsPl ns d' ∧ 0 ≤ t ∧ t < m := by
  obtain ⟨x, p, hp, rfl⟩ := hd
  obtain ⟨t, x', p', h1, h3, h4, h5⟩ := ev_take (ns := ns) (x := x) hp h h2
  exact ⟨t, _, fun s0 δ => call_w1 h1, ⟨x', p', h3, rfl⟩, h4, h5⟩
theorem ev_pool {ns : List Int} : ∃ d, m__law_pool [.imm (.scr (ns.map D.int))] = some (.ok d, [.no]) ∧ IsPl ns d := by
  refine ⟨plD ns 0 (-1), ?_, 0, -1, by omega, rfl⟩
  rfl
theorem sAdd_ok {i n : Nat} {b : Bool} {Pm : Mo Out} {E : Mo D} {δ : Env} {vs ls : List D} {d : D} {tl : Env} (h : δ[i]? = some (.bor (.alb vs ls))) (hE : E δ = some (.ok d, δ)) (p1 : pureDs vs = true) (p2 : pureDs ls = true) (hP : Pm ([.bor (.alb vs ls), .imm d] ++ List.replicate n .no) = some (.ok .nx, .bor (.alb vs ls) :: .imm d :: tl)) (pd : pureD d = true) (hl : (fldL b vs ls).length ≤ 1000) : sAdd i b Pm n E δ = some (.ok .nx, δ.set i (.bor (albAdd b vs ls d))) := by
  unfold sAdd
  rw [if_pos (by unfold isAlb; rw [h]), bind_ok hE]
  have ha : albSl δ i = some (vs, ls) := by unfold albSl; rw [h]
  simp only [ha]
  rw [if_pos (by rw [p1, p2]; rfl), hP]
  simp only []
  have : (fldL b vs ls).length < sizeLine := by rw [sizeLine_eq]; omega
  rw [if_pos (by rw [pd, decide_eq_true this]; rfl)]
theorem sAlb_ok {i : Nat} {S : Mo Out} {δ δ' : Env} {o : Out} (hi : i < δ.length) (h : S (δ.set i (.bor (.alb [] []))) = some (.ok o, δ')) : sAlb i S δ = some (.ok o, δ'.set i .no) := by
  unfold sAlb
  rw [if_pos hi, h]
theorem ev_a_names {vs : List V5} (hl : vs.length ≤ 4) : m_Album_names [.bor (albD5 vs)] = some (.ok (strsD ((vs.map (·.nm)).map mkS)), [.no]) := by
  have e : (eLc (iFld 0 true) (gN 1) tYesM (eIxV 1 (eC (.int 0))) [1]) [.bor (albD5 vs), .no] = some (.ok (strsD ((vs.map (·.nm)).map mkS)), [.bor (albD5 vs), .no]) := by
    rw [eLc_map (l := vs) (g := vD) (p := fun _ => true) (f := fun v => D.str (mkS v.nm)) (δ0 := [.bor (albD5 vs), .no])]
    · rw [List.filter_eq_self.mpr (fun _ _ => rfl)]
      unfold strsD
      rw [List.map_map, List.map_map]; rfl
    · exact iFld_of (vs := vs.map vD) (ls := []) rfl pure_vs
    · omega
    · intro v _
      exact ⟨[.bor (albD5 vs), .imm (vD v)], [.bor (albD5 vs), .imm (vD v)], by simp! only [wipeE], rfl, (fun z => by cases z), fun _ => ⟨[.bor (albD5 vs), .imm (vD v)], by simp! only [v_0], rfl⟩⟩
  refine (fn_rt (δ1 := [.bor (albD5 vs), .no]) ?_).trans rfl
  unfold b_Album_names
  simp! only [e]
theorem row_ok {w : Nat} {r : Row} (h : r.length = w) (h1 : 1 ≤ w) (h2 : w ≤ 3) (ok : ∀ o ∈ r, RdOk o) : rowB w (rowT r) = true := by
  show ((decide (1 ≤ (r.map oI).length ∧ (r.map oI).length ≤ 12) && decide ((r.map oI).length = w)) && (r.map oI).all rdB) = true
  rw [List.length_map, h, decide_eq_true (show 1 ≤ w ∧ w ≤ 12 by omega), decide_eq_true rfl]
  show (r.map oI).all rdB = true
  rw [List.all_eq_true]
  intro d m
  obtain ⟨o, ho, rfl⟩ := List.mem_map.mp m
  cases o with
  | none => rfl
  | some i =>
    have := ok _ ho i rfl
    show (decide (0 ≤ i) && decide (i ≤ 999)) = true
    rw [decide_eq_true this.1, decide_eq_true this.2]; rfl
theorem view_ok {v : V5} (o : VOk v) : viewB (vD v) = true ∧ viewOk (vD v) := by
  obtain ⟨w, h, R, h1, h2, h3, h4⟩ := o.rect
  have hb : nmB (mkS v.nm) = true := by rw [nmB_mk]; exact o.nm
  constructor
  · show (nmB (mkS v.nm) && rowsB (rowsT v.rs)) = true
    rw [hb]
    have hl := R.len
    cases hr : v.rs with
    | nil => rw [hr] at hl; simp at hl; omega
    | cons r0 rs =>
      rw [hr] at hl
      have hw : ∀ r ∈ r0 :: rs, rowB w (rowT r) = true := fun r m => row_ok (R.wid r (hr ▸ m)) h1 h2 (R.rd r (hr ▸ m))
      show (true && (decide ((rs.map rowT).length + 1 ≤ 12) && (D.tup (r0.map oI) :: rs.map rowT).all (rowB (r0.map oI).length))) = true
      rw [List.length_map, List.length_map, R.wid r0 (by rw [hr]; exact List.mem_cons_self), decide_eq_true (by rw [List.length_cons] at hl; omega)]
      show ((r0 :: rs).map rowT).all (rowB w) = true
      rw [List.all_eq_true]
      intro d m
      obtain ⟨r, hr, rfl⟩ := List.mem_map.mp m
      exact hw r hr
  · refine ⟨rfl, ⟨nmB_ok hb, by have := nmB_len hb; omega⟩, rfl, fun d m => ?_⟩
    obtain ⟨r, _, rfl⟩ := List.mem_map.mp m
    exact ⟨rfl, fun d m => by
      obtain ⟨o, _, rfl⟩ := List.mem_map.mp m
      cases o <;> rfl⟩
theorem ev_addv {vs : List V5} {v : V5} (ok : ∀ u ∈ vs, VOk u) (o : VOk v) (hnew : v.nm ∉ vs.map (·.nm)) (hl : vs.length < 4) : b_Album_add_view ([.bor (albD5 vs), .imm (vD v)] ++ List.replicate 0 .no) = some (.ok .nx, [.bor (albD5 vs), .imm (vD v)]) := by
  obtain ⟨hv, vo⟩ := view_ok o
  have e1 := ev_isvw (d := vD v) rfl vo
  rw [hv] at e1
  have en : eMeth m_Album_names 0 aNil [.bor (albD5 vs), .imm (vD v)] = some (.ok (strsD ((vs.map (·.nm)).map mkS)), [.bor (albD5 vs), .imm (vD v)]) := meth0 (.inl rfl) (ev_a_names (by omega))
  have hb : nmB (mkS v.nm) = true := by rw [nmB_mk]; exact o.nm
  have din := dIn_strs (neg := false) (v := mkS v.nm) (l := (vs.map (·.nm)).map mkS) hb (fun s m => by
    obtain ⟨l, hl, rfl⟩ := List.mem_map.mp m
    obtain ⟨u, hu, rfl⟩ := List.mem_map.mp hl
    rw [nmB_mk]; exact (ok u hu).nm)
  have din : dIn false (.str (mkS v.nm)) (strsD ((vs.map (·.nm)).map mkS)) = some (.bl false) := by
    rw [din, decide_eq_false (fun m => hnew (mem_mk.mp m))]; rfl
  have eln : eLenF 0 true [.bor (albD5 vs), .imm (vD v)] = some (.ok (.int (vs.length : Nat)), [.bor (albD5 vs), .imm (vD v)]) := by
    show some (Except.ok (D.int ((vs.map vD).length : Nat)), _) = _
    rw [List.length_map]
  have c : ¬ ((vs.length : Nat) : Int) ≥ 30 := by omega
  unfold b_Album_add_view
  refine ssq_f (δ1 := [.bor (albD5 vs), .imm (vD v)]) (by simp! only [e1, dTru_bl, Bool.not_true]) ?_
  refine ssq_f (δ1 := [.bor (albD5 vs), .imm (vD v)]) (by simp! only [v_0, en, din]) ?_
  generalize ((vs.length : Nat) : Int) = N at *
  refine ssq_f (δ1 := [.bor (albD5 vs), .imm (vD v)]) (by simp! only [eln, c, decide_false]) ?_
  rfl
abbrev wE (s0 : Sl) (p N a l v : D) (s6 s7 s8 : Sl) : Env := [s0, .own p, .imm N, .bor a, .own l, .own v, s6, s7, s8, .no, .no, .no, .no, .no, .no, .no, .no, .no, .no, .no, .no, .no, .no]
noncomputable def bodyB : Mo Out := (sSeq (sApp 5 (eTup (aCons (eIxV 2 (eV 6)) (aCons (eCall m__law_rows (aVr 1 (aCons (eC (.int 3)) aNil))) aNil))))
 (sSeq (sAdd 3 true b_Album_add_view 0 (eIxV 5 (eV 6)))
 (sSeq (sAsg (gN 7) (eIx (eLst (aCons (eC (.int 0)) (aCons (eV 6) aNil))) (eCall m__law_take (aVr 1 (aCons (eC (.int 2)) aNil)))))
 (sSeq (sAsg (gN 8) (eTup (aCons (eBin dSub (eCall m__law_take (aVr 1 (aCons (eC (.int 5)) aNil))) (eC (.int 2))) (aCons (eBin dSub (eCall m__law_take (aVr 1 (aCons (eC (.int 5)) aNil))) (eC (.int 2))) (aCons (eBin dSub (eCall m__law_take (aVr 1 (aCons (eC (.int 7)) aNil))) (eC (.int 3))) aNil)))))
 (sSet 4 (eIxV 2 (eV 6)) (eBin dAdd (eTup (aCons (eV 7) aNil)) (eIx (eLst (aCons (eV 8) (aCons (eTup (aCons (eC (.int 0)) (aCons (eC (.int 0)) (aCons (eC (.int 0)) aNil)))) aNil))) (eF fInt (aCons (eBin dEq (eV 7) (eV 6)) aNil)))))))))
theorem put_lay {vs : List V5} {v : V5} (hnew : v.nm ∉ vs.map (·.nm)) (hl : vs.length < 4) : dSet (.str (mkS v.nm)) (plD5 v) (layD5 vs) = some (layD5 (vs ++ [v])) := by
  show (if (vs.map fun v => ((.inr (mkS v.nm) : Key), plD5 v)).length < sizeLine then some (D.dK (putA (vs.map fun v => ((.inr (mkS v.nm) : Key), plD5 v)) (.inr (mkS v.nm)) (plD5 v))) else none) = _
  rw [if_pos (by rw [List.length_map, sizeLine_eq]; omega), putA_new (fun p hp => by
    obtain ⟨u, hu, rfl⟩ := List.mem_map.mp hp
    exact fun z => hnew (List.mem_map.mpr ⟨u, hu, mkS_inj (Sum.inr.inj z)⟩))]
  unfold layD5
  rw [List.map_append]; rfl
theorem two_at {t k : Int} (h0 : 0 ≤ t) (h : t < 2) : ∃ g, atI [D.int 0, .int k] t = some (.int g) ∧ (g = 0 ∨ g = k) := by
  have : t = 0 ∨ t = 1 := by omega
  rcases this with rfl | rfl
  · exact ⟨0, atI_0, .inl rfl⟩
  · exact ⟨k, atI_1, .inr rfl⟩
theorem ev_body {ns : List Int} {p : D} (ip : IsPl ns p) {s0 s7 s8 : Sl} {names : List (List Nat)} {vs : List V5} (nok : ∀ l ∈ names, nmL l = true) (nd : names.Nodup) (ok : ∀ u ∈ vs, VOk u) {j : Nat} (hj : j < names.length) (hnm : vs.map (·.nm) = names.take j) (hl : names.length ≤ 4) :
    ∃ v p' s7' s8', bodyB (wE s0 p (strsD (names.map mkS)) (albD5 vs) (layD5 vs) (.lst (vs.map vD)) (.imm (.int (j : Nat))) s7 s8) = some (.ok .nx, wE s0 p' (strsD (names.map mkS)) (albD5 (vs ++ [v])) (layD5 (vs ++ [v])) (.lst ((vs ++ [v]).map vD)) (.imm (.int (j : Nat))) s7' s8') ∧ IsPl ns p' ∧ VOk v ∧ v.nm = names[j] := by
  have hvl : vs.length = j := by
    have := congrArg List.length hnm
    rw [List.length_map, List.length_take] at this; omega
  obtain ⟨w, h, rs, p1, er, i1, R, w1, w2, h1, h2⟩ := ev_rows (most := 3) ip (by omega) (by omega)
  have er : ∀ δ, callM m__law_rows [.vr 1, .im (.int 3)] (s0 :: .own p :: δ) = some (.ok (rowsT rs), s0 :: .own p1 :: δ) := fun δ => call_w1 (s0 := s0) (δ := δ) er
  obtain ⟨t2, p2, c2, i2, a2, b2⟩ := ev_tk1 i1 (m := 2) (by omega) (by omega)
  obtain ⟨t3, p3, c3, i3, a3, b3⟩ := ev_tk1 i2 (m := 5) (by omega) (by omega)
  obtain ⟨t4, p4, c4, i4, a4, b4⟩ := ev_tk1 i3 (m := 5) (by omega) (by omega)
  obtain ⟨t5, p5, c5, i5, a5, b5⟩ := ev_tk1 i4 (m := 7) (by omega) (by omega)
  obtain ⟨g, hg, hg2⟩ := two_at (k := ((j : Nat) : Int)) a2 b2
  obtain ⟨v, hv1, hv2, hv3, hv4, hv5⟩ : ∃ v : V5, v.nm = names[j] ∧ v.rs = rs ∧ v.g = g ∧ VOk v ∧ atI [D.tup [.int (t3 - 2), .int (t4 - 2), .int (t5 - 3)], .tup [.int 0, .int 0, .int 0]] (if decide (g = ((j : Nat) : Int)) = true then 1 else 0) = some (.tup [.int v.x, .int v.y, .int v.l]) := by
    by_cases c : g = ((j : Nat) : Int)
    · refine ⟨⟨names[j], rs, g, 0, 0, 0⟩, rfl, rfl, rfl, ⟨⟨w, h, R, w1, w2, h1, h2⟩, nok _ (List.getElem_mem _), (show -2 ≤ (0 : Int) ∧ (0 : Int) ≤ 2 by omega), (show -2 ≤ (0 : Int) ∧ (0 : Int) ≤ 2 by omega)⟩, ?_⟩
      rw [decide_eq_true c]; exact atI_1
    · refine ⟨⟨names[j], rs, g, t3 - 2, t4 - 2, t5 - 3⟩, rfl, rfl, rfl, ⟨⟨w, h, R, w1, w2, h1, h2⟩, nok _ (List.getElem_mem _), by simp only; omega, by simp only; omega⟩, ?_⟩
      rw [decide_eq_false c]; exact atI_0
  have hnew : v.nm ∉ vs.map (·.nm) := by
    rw [hnm, hv1]
    intro m
    obtain ⟨i, hi, he⟩ := List.mem_iff_getElem.mp m
    rw [List.length_take] at hi
    rw [List.getElem_take] at he
    have := (List.getElem_inj nd).mp he
    omega
  have en : dIx (strsD (names.map mkS)) (.int (j : Nat)) = some (.str (mkS v.nm)) := by
    rw [hv1]
    have : (names.map mkS)[j]? = some (mkS names[j]) := by rw [List.getElem?_map, List.getElem?_eq_getElem hj]; rfl
    exact at_map (f := D.str) this
  have evw : (D.tup [.str (mkS v.nm), rowsT rs]) = vD v := by unfold vD vwD; rw [hv2]
  have ap : dAppend (vD v) (.lst (vs.map vD)) = some (.lst ((vs ++ [v]).map vD)) := by rw [List.map_append]; exact dApp_l (by rw [List.length_map]; omega)
  have ix : dIx (.lst ((vs ++ [v]).map vD)) (.int (j : Nat)) = some (vD v) := at_map (f := vD) (by rw [← hvl, List.getElem?_append_right (Nat.le_refl _), Nat.sub_self]; rfl)
  have ea := ev_addv ok hv4 hnew (by omega)
  have es := put_lay hnew (by omega)
  have ee : dEq (.int g) (.int ((j : Nat) : Int)) = some (.bl (decide (g = ((j : Nat) : Int)))) := dEq_int _ _
  have hd : dAdd (.tup [.int g]) (.tup [.int v.x, .int v.y, .int v.l]) = some (plD5 v) := by rw [tup_app (by simp) (by simp)]; unfold plD5; rw [hv3]; rfl
  refine ⟨v, p5, .imm (.int g), .imm (.tup [.int (t3 - 2), .int (t4 - 2), .int (t5 - 3)]), ?_, i5, hv4, hv1⟩
  unfold bodyB
  refine ssq (δ1 := wE s0 p1 (strsD (names.map mkS)) (albD5 vs) (layD5 vs) (.lst ((vs ++ [v]).map vD)) (.imm (.int (j : Nat))) s7 s8) ?_ ?_
  · unfold wE
    generalize hJ : ((j : Nat) : Int) = J at *
    generalize strsD (names.map mkS) = N at *
    simp! only [x_sApp, x_isLst, iLk_l, en, er, evw, ap]
  refine ssq (δ1 := wE s0 p1 (strsD (names.map mkS)) (albD5 (vs ++ [v])) (layD5 vs) (.lst ((vs ++ [v]).map vD)) (.imm (.int (j : Nat))) s7 s8) ?_ ?_
  · rw [sAdd_ok (vs := vs.map vD) (ls := []) (d := vD v) (tl := []) rfl ?_ pure_vs (by unfold pureDs; rfl) ea pure_v (by show (vs.map vD).length ≤ 1000; rw [List.length_map]; omega)]
    · unfold albD5 albAdd wE
      rw [List.map_append]; rfl
    · unfold wE
      generalize ((j : Nat) : Int) = J at *
      generalize D.lst ((vs ++ [v]).map vD) = VL at *
      simp! only [ix]
  generalize ((j : Nat) : Int) = J at *
  generalize strsD (names.map mkS) = N at *
  generalize (albD5 (vs ++ [v])) = AL at *
  generalize D.lst ((vs ++ [v]).map vD) = VL at *
  generalize layD5 (vs ++ [v]) = L2 at *
  refine ssq (δ1 := wE s0 p2 N AL (layD5 vs) VL (.imm (.int J)) (.imm (.int g)) s8) (by unfold wE; simp! only [c2, hg]) ?_
  refine ssq (δ1 := wE s0 p5 N AL (layD5 vs) VL (.imm (.int J)) (.imm (.int g)) (.imm (.tup [.int (t3 - 2), .int (t4 - 2), .int (t5 - 3)]))) (by unfold wE; simp! only [c3, c4, c5]) ?_
  have fi : fInt [.bl (decide (g = J))] = some (.int (if decide (g = J) = true then 1 else 0)) := rfl
  generalize (if decide (g = J) = true then (1 : Int) else 0) = B at *
  unfold wE
  generalize hLL : layD5 vs = LL at *
  simp! only [x_sSet, x_isSet, iSk_own, ee, fi, hv5, hd, en, es]
end M
set_option Elab.async false
set_option linter.all false
set_option maxRecDepth 100000
set_option maxHeartbeats 2000000
namespace M
open PySem L2
local macro_rules
  | `(tactic| simp! only [$as,*]) => `(tactic| simp only [x_bind, bk_ok, bk_ite, x_ret, x_lift, lk_some, lk_ite, app_ite, x_eC, x_eV, vk_imm, vk_own, vk_bor, x_give, gk_own, x_bin, x_un, x_ix, x_tru, x_eB, dBl_bl, dTru_bl, dTru_int, dTru_lst, x_and, x_or, x_not, x_eAnd, x_eOr, x_eNot, x_eIf, x_chain, x_aNil, x_aCons, x_aVr, rk_own, rk_io, x_aVb, tk_own, tk_io, tk_imm, tk_bor, x_eTup, x_eLst, imms_nil, imms_im, x_eF, x_call, ixV_C, jk_imm, jk_own, jk_io, jk_bor, flk_int, x_lenV, nk_imm, nk_own, nk_io, nk_bor, x_inV, hk_imm, hk_own, hk_io, hk_bor, x_sNx, x_pass, x_cont, x_brk, x_seq, sk_nx, sk_rt, sk_rtO, sk_ct, sk_bk, sk_ite, x_drop, x_sRet, x_sRetO, x_sIf, x_asg, x_asgO, x_gN, x_gO, x_gNil, x_gCons, x_gTt, x_gTl, x_sApp, x_sSet, x_chM, ck_own, ck_io, x_iOf, x_iRg, x_fn, fk_rt, fk_nx, fk_ite, ios_z, ios_s, keep_io, keep_imm, keep_own, keep_bor, keep_no, dSub_i, dAdd_i, dLt_i, dLe_i, dGt_i, dGe_i, dEq_int, dNe_int, ix_lst, ix_scr, ix_tup, atI_0, atI_1, atI_2, atI_3, List.getElem?_cons_zero, List.getElem?_cons_succ, List.set_cons_zero, List.set_cons_succ, List.length_cons, List.length_nil, List.cons_append, List.nil_append, List.replicate_succ, List.replicate_zero, Option.map_some, Option.bind_some, Nat.reduceAdd, Nat.reduceSub, Nat.reduceLT, Nat.reduceLeDiff, if_true, if_false, Bool.false_eq_true, decide_eq_true_eq, reduceIte, ne_eq, not_false_eq_true, Nat.lt_add_left_iff_pos, Nat.zero_lt_succ, x_call1, x_call2, x_call3, x_call4, dk1, dk2, dk3, dk4, ixV_V, Nat.reduceEqDiff, not_false_eq_true, x_isLst, x_isSet, List.map_cons, List.map_nil, Option.map_none, Option.bind_none, x_eSl, x_eP0, x_eP1, part_i, $as,*])
theorem fSortI_i {l : List Int} : fSortI [iD l] = some (iD (sortI l)) := by
  show (intsD (l.map D.int)).map _ = _
  rw [intsD_map]; rfl
theorem cut_to {α : Type} {l : List α} {k : Nat} (h : k ≤ l.length) : cutD l none (some (k : Int)) = l.take k := by
  unfold cutD
  rw [HT.sIx_nat, HT.sIx_none, Nat.min_eq_left h, List.drop_zero, Nat.sub_zero]
theorem ixV_S {i : Nat} {B : Mo D} {δ δ' : Env} {d y : D} {s : Sl} (h1 : δ[i]? = some s) (hs : slD s = some d) (hb : isBor s = false) (h2 : B δ = some (.ok y, δ')) (h3 : δ'[i]? = some s) : eIxV i B δ = lk (dIx d y) δ' := by
  rw [ixV_of h1 hs (fun y' δ'' q => by rw [h2] at q; cases q; exact h3)]
  unfold ik
  rw [h2, hb]
  show (match dIx d y with
    | some z => if false = true then (if flatD z = true then some (Except.ok z, δ') else none) else some (Except.ok z, δ')
    | none => none) = _
  unfold lk
  cases dIx d y with
  | none => rfl
  | some z => rfl
def Keep (s : Sl) (d : D) : Prop := s = .own d ∨ s = .imm d
theorem Keep.sl {s : Sl} {d : D} (h : Keep s d) : slD s = some d ∧ isBor s = false := by rcases h with rfl | rfl <;> exact ⟨rfl, rfl⟩
abbrev hE (s0 : Sl) (p N a : D) (y4 y5 s6 s7 s8 s9 s10 s11 s12 s13 s14 s15 s16 s17 s18 s19 s20 s21 s22 : Sl) : Env := [s0, .own p, .imm N, .bor a, y4, y5, s6, s7, s8, s9, s10, s11, s12, s13, s14, s15, s16, s17, s18, s19, s20, s21, s22]
noncomputable def rowsF : Mo Out := (sIf (eB (eBin dEq (eIx (eIxV 4 (eIxV 10 (eC (.int 0)))) (eC (.int 0))) (eV 7)))
 (sFor (iOf (eCall m__law_told (aCons (eV 10) (aCons (eIxV 4 (eIxV 10 (eC (.int 0)))) aNil)))) (gT 2 (gCons (gN 11) (gCons (gN 12) gNil)))
 (sApp 9 (eTup (aCons (eV 11) (aCons (eIxV 10 (eC (.int 0))) (aCons (eV 12) aNil))))))
 sNx)
section
variable {s0 : Sl} {p N a : D} {y4 y5 s6 s8 s14 s15 s16 s17 s18 s19 s20 s21 s22 : Sl} {vs : List V5} {g : Int}
theorem evV_snoc {v : V5} {j : Nat} {c : C2 × Int} (h : (told v)[j]? = some c) : (evV v).take (j + 1) = (evV v).take j ++ [(c.1, mkS v.nm, c.2)] := take_snoc (by unfold evV; rw [List.getElem?_map, h]; rfl)
theorem ev_rowsT (o : VsOk vs) (k4 : Keep y4 (layD5 vs)) {R : List Ev} (hR : R.length ≤ 36) {v : V5} (hm : v ∈ vs) {s11 s12 s13 : Sl} :
    ∃ z11 z12, rowsF (hE s0 p N a y4 y5 s6 (.imm (.int g)) s8 (.own (.lst (R.map evD))) (.imm (vD v)) s11 s12 s13 s14 s15 s16 s17 s18 s19 s20 s21 s22) = some (.ok .nx, hE s0 p N a y4 y5 s6 (.imm (.int g)) s8 (.own (.lst ((R ++ evG g v).map evD))) (.imm (vD v)) z11 z12 s13 s14 s15 s16 s17 s18 s19 s20 s21 s22) := by
  obtain ⟨ks, kb⟩ := k4.sl
  have il := ix_lay o hm
  have ov := o.ok v hm
  have hp := pl_0 (v := v)
  have e4 : eIxV 4 (eIxV 10 (eC (.int 0))) (hE s0 p N a y4 y5 s6 (.imm (.int g)) s8 (.own (.lst (R.map evD))) (.imm (vD v)) s11 s12 s13 s14 s15 s16 s17 s18 s19 s20 s21 s22) = some (.ok (plD5 v), hE s0 p N a y4 y5 s6 (.imm (.int g)) s8 (.own (.lst (R.map evD))) (.imm (vD v)) s11 s12 s13 s14 s15 s16 s17 s18 s19 s20 s21 s22) := by
    rw [ixV_S (s := y4) (d := layD5 vs) (y := .str (mkS v.nm)) (δ' := hE s0 p N a y4 y5 s6 (.imm (.int g)) s8 (.own (.lst (R.map evD))) (.imm (vD v)) s11 s12 s13 s14 s15 s16 s17 s18 s19 s20 s21 s22) rfl ks kb (by unfold hE; simp! only [v_0]) rfl, il]; rfl
  have et := ev_told ov
  have ct : ∀ δ, callM m__law_told [.im (vD v), .im (plD5 v)] δ = some (.ok (.lst ((told v).map cvD)), δ) := fun δ => by rw [x_call2, et]; rfl
  have hi : itD (.lst ((told v).map cvD)) = some ((told v).map cvD) := rfl
  have hlt := told_len ov
  unfold rowsF
  by_cases hg : v.g = g
  · have ee : dEq (.int v.g) (.int g) = some (.bl true) := by rw [dEq_int, decide_eq_true hg]
    have hev : evG g v = evV v := by unfold evG; rw [if_pos hg]
    obtain ⟨δ', f1, z11, z12, rfl⟩ := sFor_inv (I := (iOf (eCall m__law_told (aCons (eV 10) (aCons (eIxV 4 (eIxV 10 (eC (.int 0)))) aNil))))) (T := (gT 2 (gCons (gN 11) (gCons (gN 12) gNil)))) (S := (sApp 9 (eTup (aCons (eV 11) (aCons (eIxV 10 (eC (.int 0))) (aCons (eV 12) aNil)))))) (ds := (told v).map cvD)
      (δ := hE s0 p N a y4 y5 s6 (.imm (.int g)) s8 (.own (.lst (R.map evD))) (.imm (vD v)) s11 s12 s13 s14 s15 s16 s17 s18 s19 s20 s21 s22) (δ0 := hE s0 p N a y4 y5 s6 (.imm (.int g)) s8 (.own (.lst (R.map evD))) (.imm (vD v)) s11 s12 s13 s14 s15 s16 s17 s18 s19 s20 s21 s22)
      (fun j δ => ∃ z11 z12 : Sl, δ = hE s0 p N a y4 y5 s6 (.imm (.int g)) s8 (.own (.lst ((R ++ (evV v).take j).map evD))) (.imm (vD v)) z11 z12 s13 s14 s15 s16 s17 s18 s19 s20 s21 s22)
      (by
        unfold hE at e4 ⊢
        generalize D.lst (R.map evD) = RD at *
        simp! only [e4, ct, hi]) ⟨s11, s12, by rw [List.take_zero, List.append_nil]⟩ (fun j d δ hj hδ => by
        obtain ⟨z11, z12, rfl⟩ := hδ
        obtain ⟨c, hc, rfl⟩ := getmap hj
        have ap := dApp_l (x := evD (c.1, mkS v.nm, c.2)) (l := (R ++ (evV v).take j).map evD) (by
          rw [List.length_map, List.length_append, List.length_take]
          unfold evV
          rw [List.length_map]; omega)
        have hq : ((R ++ (evV v).take (j + 1)).map evD) = (R ++ (evV v).take j).map evD ++ [evD (c.1, mkS v.nm, c.2)] := by rw [evV_snoc hc, ← List.append_assoc, List.map_append]; rfl
        rw [hq]
        have hev : evD (c.1, mkS v.nm, c.2) = .tup [pD c.1, .str (mkS v.nm), .int c.2] := rfl
        rw [hev] at ap ⊢
        generalize (R ++ (evV v).take j).map evD = RL at *
        refine ⟨hE s0 p N a y4 y5 s6 (.imm (.int g)) s8 (.own (.lst RL)) (.imm (vD v)) (.imm (pD c.1)) (.imm (.int c.2)) s13 s14 s15 s16 s17 s18 s19 s20 s21 s22, hE s0 p N a y4 y5 s6 (.imm (.int g)) s8 (.own (.lst (RL ++ [.tup [pD c.1, .str (mkS v.nm), .int c.2]]))) (.imm (vD v)) (.imm (pD c.1)) (.imm (.int c.2)) s13 s14 s15 s16 s17 s18 s19 s20 s21 s22, by unfold hE cvD; simp! only [], .inl ?_, _, _, rfl⟩
        unfold hE
        simp! only [x_sApp, x_isLst, iLk_l, v_0, ap])
    rw [List.length_map, List.take_of_length_le (by unfold evV; rw [List.length_map]; exact Nat.le_refl _)] at f1
    rw [hev]
    exact ⟨z11, z12, st (δ1 := hE s0 p N a y4 y5 s6 (.imm (.int g)) s8 (.own (.lst (R.map evD))) (.imm (vD v)) s11 s12 s13 s14 s15 s16 s17 s18 s19 s20 s21 s22) (by
      unfold hE at e4 ⊢
      generalize D.lst (R.map evD) = RD at *
      simp! only [e4, hp, ee]) f1⟩
  · have ee : dEq (.int v.g) (.int g) = some (.bl false) := by rw [dEq_int, decide_eq_false hg]
    have hev : evG g v = [] := by unfold evG; rw [if_neg hg]
    rw [hev, List.append_nil]
    exact ⟨s11, s12, s1f (δ1 := hE s0 p N a y4 y5 s6 (.imm (.int g)) s8 (.own (.lst (R.map evD))) (.imm (vD v)) s11 s12 s13 s14 s15 s16 s17 s18 s19 s20 s21 s22) (by
      unfold hE at e4 ⊢
      generalize D.lst (R.map evD) = RD at *
      simp! only [e4, hp, ee])⟩
theorem ev_rowsL (o : VsOk vs) (k4 : Keep y4 (layD5 vs)) (k5 : Keep y5 (.lst (vs.map vD))) {s10 s11 s12 s13 : Sl} :
    ∃ z10 z11 z12, sFor (iOf (eV 5)) (gN 10) rowsF (hE s0 p N a y4 y5 s6 (.imm (.int g)) s8 (.own (.lst [])) s10 s11 s12 s13 s14 s15 s16 s17 s18 s19 s20 s21 s22) = some (.ok .nx, hE s0 p N a y4 (.imm (.lst (vs.map vD))) s6 (.imm (.int g)) s8 (.own (.lst ((evs g vs).map evD))) z10 z11 z12 s13 s14 s15 s16 s17 s18 s19 s20 s21 s22) := by
  have hi : itD (.lst (vs.map vD)) = some (vs.map vD) := rfl
  obtain ⟨δ', f1, z10, z11, z12, rfl⟩ := sFor_inv (I := iOf (eV 5)) (T := gN 10) (S := rowsF) (ds := vs.map vD)
    (δ := hE s0 p N a y4 y5 s6 (.imm (.int g)) s8 (.own (.lst [])) s10 s11 s12 s13 s14 s15 s16 s17 s18 s19 s20 s21 s22) (δ0 := hE s0 p N a y4 (.imm (.lst (vs.map vD))) s6 (.imm (.int g)) s8 (.own (.lst [])) s10 s11 s12 s13 s14 s15 s16 s17 s18 s19 s20 s21 s22)
    (fun j δ => ∃ z10 z11 z12 : Sl, δ = hE s0 p N a y4 (.imm (.lst (vs.map vD))) s6 (.imm (.int g)) s8 (.own (.lst ((evs g (vs.take j)).map evD))) z10 z11 z12 s13 s14 s15 s16 s17 s18 s19 s20 s21 s22)
    (by
      unfold hE
      rcases k5 with rfl | rfl
      · simp! only [hi]
      · simp! only [hi]) ⟨s10, s11, s12, rfl⟩ (fun j d δ hj hδ => by
      obtain ⟨z10, z11, z12, rfl⟩ := hδ
      obtain ⟨v, hv, rfl⟩ := getmap hj
      have hm := List.mem_of_getElem? hv
      obtain ⟨w11, w12, e⟩ := ev_rowsT (s0 := s0) (p := p) (N := N) (a := a) (y5 := .imm (.lst (vs.map vD))) (s6 := s6) (s8 := s8) (s11 := z11) (s12 := z12) (s13 := s13) (s14 := s14) (s15 := s15) (s16 := s16) (s17 := s17) (s18 := s18) (s19 := s19) (s20 := s20) (s21 := s21) (s22 := s22) (g := g) o k4 (evs_len (g := g) o j) hm
      rw [evs_take hv]
      exact ⟨hE s0 p N a y4 (.imm (.lst (vs.map vD))) s6 (.imm (.int g)) s8 (.own (.lst ((evs g (vs.take j)).map evD))) (.imm (vD v)) z11 z12 s13 s14 s15 s16 s17 s18 s19 s20 s21 s22, _, by unfold hE; simp! only [], .inl e, _, _, _, rfl⟩)
  rw [List.length_map, List.take_of_length_le (Nat.le_refl _)] at f1
  exact ⟨z10, z11, z12, f1⟩
noncomputable def cellB : Mo Out := (sIf (eB (eInV true (eTup (aCons (eIxV 14 (eC (.int 1))) (aCons (eIxV 14 (eC (.int 0))) aNil))) 13))
 (sApp 13 (eTup (aCons (eIxV 14 (eC (.int 1))) (aCons (eIxV 14 (eC (.int 0))) aNil))))
 sNx)
theorem ev_0 {e : Ev} : dIx (evD e) (.int 0) = some (pD e.1) := atI_0
theorem ev_1 {e : Ev} : dIx (evD e) (.int 1) = some (.str e.2.1) := atI_1
theorem ev_2 {e : Ev} : dIx (evD e) (.int 2) = some (.int e.2.2) := atI_2
theorem ev_cells {R : List Ev} (hR : R.length ≤ 36) {y5 s7 s10 s11 s12 : Sl} :
    ∃ z14, sFor (iOf (eF fSortP (aCons (eLc (iOf (eV 9)) (gN 22) tYesM (eTup (aCons (eIx (eIxV 22 (eC (.int 0))) (eC (.int 1))) (aCons (eIx (eIxV 22 (eC (.int 0))) (eC (.int 0))) aNil))) [22]) aNil))) (gN 14) cellB (hE s0 p N a y4 y5 s6 s7 s8 (.own (.lst (R.map evD))) s10 s11 s12 (.own (.lst [])) s14 s15 s16 s17 s18 s19 s20 s21 .no) =
      some (.ok .nx, hE s0 p N a y4 y5 s6 s7 s8 (.imm (.lst (R.map evD))) s10 s11 s12 (.own (.lst ((byRows (cel R)).map pD))) z14 s15 s16 s17 s18 s19 s20 s21 .no) := by
  have hi : itD (.lst (R.map evD)) = some (R.map evD) := rfl
  have hsl : (sortP ((R.map (·.1)).map swp)).length = R.length := by rw [sortP_len, List.length_map, List.length_map]
  have el : eLc (iOf (eV 9)) (gN 22) tYesM (eTup (aCons (eIx (eIxV 22 (eC (.int 0))) (eC (.int 1))) (aCons (eIx (eIxV 22 (eC (.int 0))) (eC (.int 0))) aNil))) [22] (hE s0 p N a y4 y5 s6 s7 s8 (.own (.lst (R.map evD))) s10 s11 s12 (.own (.lst [])) s14 s15 s16 s17 s18 s19 s20 s21 .no) = some (.ok (.lst (((R.map (·.1)).map swp).map pD)), hE s0 p N a y4 y5 s6 s7 s8 (.imm (.lst (R.map evD))) s10 s11 s12 (.own (.lst [])) s14 s15 s16 s17 s18 s19 s20 s21 .no) := by
    rw [eLc_map (l := R) (g := evD) (p := fun _ => true) (f := fun e => pD (swp e.1)) (δ0 := hE s0 p N a y4 y5 s6 s7 s8 (.imm (.lst (R.map evD))) s10 s11 s12 (.own (.lst [])) s14 s15 s16 s17 s18 s19 s20 s21 .no)]
    · rw [List.filter_eq_self.mpr (fun _ _ => rfl), List.map_map, List.map_map]; rfl
    · unfold hE; simp! only [hi]
    · omega
    · intro e _
      have x0 := ev_0 (e := e)
      have x1 := p_x (k := e.1)
      have x2 := p_y (k := e.1)
      refine ⟨hE s0 p N a y4 y5 s6 s7 s8 (.imm (.lst (R.map evD))) s10 s11 s12 (.own (.lst [])) s14 s15 s16 s17 s18 s19 s20 s21 (.imm (evD e)), hE s0 p N a y4 y5 s6 s7 s8 (.imm (.lst (R.map evD))) s10 s11 s12 (.own (.lst [])) s14 s15 s16 s17 s18 s19 s20 s21 (.imm (evD e)), by unfold hE; simp! only [wipeE], rfl, (fun z => by cases z), fun _ => ⟨hE s0 p N a y4 y5 s6 s7 s8 (.imm (.lst (R.map evD))) s10 s11 s12 (.own (.lst [])) s14 s15 s16 s17 s18 s19 s20 s21 (.imm (evD e)), ?_, rfl⟩⟩
      show _ = some (Except.ok (D.tup [.int e.1.2, .int e.1.1]), _)
      unfold hE
      simp! only [x0, x1, x2]
  have hs := fSortP_m (l := (R.map (·.1)).map swp)
  have hc := cells_rows (R := R.map (·.1))
  have hii : itD (.lst ((sortP ((R.map (·.1)).map swp)).map pD)) = some ((sortP ((R.map (·.1)).map swp)).map pD) := rfl
  generalize hSS : sortP ((R.map (·.1)).map swp) = S at *
  generalize ((R.map (·.1)).map swp) = SR at *
  obtain ⟨δ', f1, z14, rfl⟩ := sFor_inv (I := (iOf (eF fSortP (aCons (eLc (iOf (eV 9)) (gN 22) tYesM (eTup (aCons (eIx (eIxV 22 (eC (.int 0))) (eC (.int 1))) (aCons (eIx (eIxV 22 (eC (.int 0))) (eC (.int 0))) aNil))) [22]) aNil)))) (T := gN 14) (S := cellB) (ds := S.map pD)
    (δ := hE s0 p N a y4 y5 s6 s7 s8 (.own (.lst (R.map evD))) s10 s11 s12 (.own (.lst [])) s14 s15 s16 s17 s18 s19 s20 s21 .no) (δ0 := hE s0 p N a y4 y5 s6 s7 s8 (.imm (.lst (R.map evD))) s10 s11 s12 (.own (.lst [])) s14 s15 s16 s17 s18 s19 s20 s21 .no)
    (fun j δ => ∃ z14 : Sl, δ = hE s0 p N a y4 y5 s6 s7 s8 (.imm (.lst (R.map evD))) s10 s11 s12 (.own (.lst ((dd ((S.map swp).take j)).map pD))) z14 s15 s16 s17 s18 s19 s20 s21 .no)
    (by
      unfold hE at el ⊢
      generalize D.lst (R.map evD) = RD at *
      simp! only [el, hs, hii]) ⟨s14, rfl⟩ (fun j d δ hj hδ => by
      obtain ⟨z14, rfl⟩ := hδ
      obtain ⟨k, hk, rfl⟩ := getmap hj
      have hjl := (List.getElem?_eq_some_iff.mp hk).1
      have ht : (S.map swp).take (j + 1) = (S.map swp).take j ++ [swp k] := take_snoc (by rw [List.getElem?_map, hk]; rfl)
      rw [ht, dd_snoc]
      have hl : (dd ((S.map swp).take j)).length ≤ 36 := Nat.le_trans dd_len (by rw [List.length_take]; omega)
      generalize dd ((S.map swp).take j) = L at *
      have x1 := p_x (k := k)
      have x2 := p_y (k := k)
      have hin := dIn_p (neg := true) (k := swp k) (l := L)
      have hsw : pD (swp k) = .tup [.int k.2, .int k.1] := rfl
      rw [hsw] at hin
      generalize D.lst (R.map evD) = RD at *
      unfold addK
      by_cases c : swp k ∈ L
      · rw [if_pos c]
        rw [decide_eq_true c] at hin
        refine ⟨hE s0 p N a y4 y5 s6 s7 s8 (.imm RD) s10 s11 s12 (.own (.lst (L.map pD))) (.imm (pD k)) s15 s16 s17 s18 s19 s20 s21 .no, hE s0 p N a y4 y5 s6 s7 s8 (.imm RD) s10 s11 s12 (.own (.lst (L.map pD))) (.imm (pD k)) s15 s16 s17 s18 s19 s20 s21 .no, by unfold hE; simp! only [], .inl (s1f ?_), _, rfl⟩
        unfold hE
        simp! only [x1, x2, hin, if_true, Bool.not_true]
      · rw [if_neg c]
        rw [decide_eq_false c] at hin
        have ap := dApp_l (x := .tup [.int k.2, .int k.1]) (l := L.map pD) (by rw [List.length_map]; omega)
        have hq : (L ++ [swp k]).map pD = L.map pD ++ [.tup [.int k.2, .int k.1]] := by rw [List.map_append]; rfl
        rw [hq]
        generalize L.map pD = LD at *
        refine ⟨hE s0 p N a y4 y5 s6 s7 s8 (.imm RD) s10 s11 s12 (.own (.lst LD)) (.imm (pD k)) s15 s16 s17 s18 s19 s20 s21 .no, hE s0 p N a y4 y5 s6 s7 s8 (.imm RD) s10 s11 s12 (.own (.lst (LD ++ [.tup [.int k.2, .int k.1]]))) (.imm (pD k)) s15 s16 s17 s18 s19 s20 s21 .no, by unfold hE; simp! only [], .inl (st (δ1 := hE s0 p N a y4 y5 s6 s7 s8 (.imm RD) s10 s11 s12 (.own (.lst LD)) (.imm (pD k)) s15 s16 s17 s18 s19 s20 s21 .no) (by unfold hE; simp! only [x1, x2, hin, if_true, Bool.not_false]) ?_), _, rfl⟩
        unfold hE
        simp! only [x_sApp, x_isLst, iLk_l, x1, x2, ap])
  rw [List.length_map, List.take_of_length_le (by rw [List.length_map]; exact Nat.le_refl _), hc] at f1
  exact ⟨z14, f1⟩
end
end M
set_option Elab.async false
set_option linter.all false
set_option maxRecDepth 100000
set_option maxHeartbeats 2000000
namespace M
open PySem L2
local macro_rules
  | `(tactic| simp! only [$as,*]) => `(tactic| simp only [x_bind, bk_ok, bk_ite, x_ret, x_lift, lk_some, lk_ite, app_ite, x_eC, x_eV, vk_imm, vk_own, vk_bor, x_give, gk_own, x_bin, x_un, x_ix, x_tru, x_eB, dBl_bl, dTru_bl, dTru_int, dTru_lst, x_and, x_or, x_not, x_eAnd, x_eOr, x_eNot, x_eIf, x_chain, x_aNil, x_aCons, x_aVr, rk_own, rk_io, x_aVb, tk_own, tk_io, tk_imm, tk_bor, x_eTup, x_eLst, imms_nil, imms_im, x_eF, x_call, ixV_C, jk_imm, jk_own, jk_io, jk_bor, flk_int, x_lenV, nk_imm, nk_own, nk_io, nk_bor, x_inV, hk_imm, hk_own, hk_io, hk_bor, x_sNx, x_pass, x_cont, x_brk, x_seq, sk_nx, sk_rt, sk_rtO, sk_ct, sk_bk, sk_ite, x_drop, x_sRet, x_sRetO, x_sIf, x_asg, x_asgO, x_gN, x_gO, x_gNil, x_gCons, x_gTt, x_gTl, x_sApp, x_sSet, x_chM, ck_own, ck_io, x_iOf, x_iRg, x_fn, fk_rt, fk_nx, fk_ite, ios_z, ios_s, keep_io, keep_imm, keep_own, keep_bor, keep_no, dSub_i, dAdd_i, dLt_i, dLe_i, dGt_i, dGe_i, dEq_int, dNe_int, ix_lst, ix_scr, ix_tup, atI_0, atI_1, atI_2, atI_3, List.getElem?_cons_zero, List.getElem?_cons_succ, List.set_cons_zero, List.set_cons_succ, List.length_cons, List.length_nil, List.cons_append, List.nil_append, List.replicate_succ, List.replicate_zero, Option.map_some, Option.bind_some, Nat.reduceAdd, Nat.reduceSub, Nat.reduceLT, Nat.reduceLeDiff, if_true, if_false, Bool.false_eq_true, decide_eq_true_eq, reduceIte, ne_eq, not_false_eq_true, Nat.lt_add_left_iff_pos, Nat.zero_lt_succ, x_call1, x_call2, x_call3, x_call4, dk1, dk2, dk3, dk4, ixV_V, Nat.reduceEqDiff, not_false_eq_true, x_isLst, x_isSet, List.map_cons, List.map_nil, Option.map_none, Option.bind_none, x_eSl, x_eP0, x_eP1, part_i, $as,*])
def EvOk (R : List Ev) : Prop := ∀ e ∈ R, nmB e.2.1 = true ∧ e.1.1 ≤ 4
theorem rds_lt {w h : Nat} {rs : List Row} (R : Rect w h rs) {t : T3r} (m : t ∈ rds rs) : t.1 < w := by
  have h1 := mem_rds.mp m
  unfold at2 at h1
  cases q : rs[t.2.1]? with
  | none => rw [q] at h1; cases h1
  | some r =>
    rw [q] at h1
    have h1 : (r[t.1]?).join = some t.2.2 := h1
    cases q2 : r[t.1]? with
    | none => rw [q2] at h1; cases h1
    | some o =>
      have := (List.getElem?_eq_some_iff.mp q2).1
      rw [R.wid r (List.mem_of_getElem? q)] at this
      exact this
theorem evs_ok {vs : List V5} (o : VsOk vs) {g : Int} : EvOk (evs g vs) := fun e m => by
  unfold evs at m
  obtain ⟨v, hv, m⟩ := List.mem_flatMap.mp m
  have ov := o.ok v hv
  unfold evG at m
  split at m
  · unfold evV told at m
    obtain ⟨c, hc, rfl⟩ := List.mem_map.mp m
    obtain ⟨t, ht, rfl⟩ := List.mem_map.mp hc
    obtain ⟨w, h, R, h1, h2, _⟩ := ov.rect
    have := rds_lt R ht
    have hx := ov.x
    refine ⟨by show nmB (mkS v.nm) = true; rw [nmB_mk]; exact ov.nm, ?_⟩
    show v.x + (t.1 : Int) ≤ 4
    omega
  · simp at m
theorem sel_ok {R : List Ev} (ok : EvOk R) {k : C2} {r : Str × Int} (h : r ∈ sel R k) : nmB r.1 = true := by
  unfold sel at h
  obtain ⟨e, he, rfl⟩ := List.mem_map.mp h
  exact (ok e (List.mem_filter.mp he).1).1
theorem fine_selD {R : List Ev} (ok : EvOk R) {k : C2} : Fine (selD R k) := (fine_tup (k := 1) (by omega) fun d m => by
  obtain ⟨r, hr, rfl⟩ := List.mem_map.mp m
  exact fine_tup (k := 0) (by omega) fun d m => by
    simp only [List.mem_cons, List.not_mem_nil, or_false] at m
    rcases m with rfl | rfl
    · exact fine_nm (sel_ok ok hr)
    · exact fine_int' _).1
theorem r_1 {r : Str × Int} : dIx (rowD r) (.int 1) = some (.int r.2) := atI_1
noncomputable def cellT : Mo Out := (sSeq (sAsgO 16 (eLc (iOf (eV 9)) (gN 22) (eB (eBin dEq (eIxV 22 (eC (.int 0))) (eV 11))) (eTup (aCons (eIxV 22 (eC (.int 1))) (aCons (eIxV 22 (eC (.int 2))) aNil))) [22]))
 (sSeq (sIf (eB (eBin dNe (eIxV 15 (eV 11)) (eF fTuple (aCons (eV 16) aNil))))
 (sRet (eC (.bl false)))
 sNx)
 (sSeq (sAsg (gN 17) (eF fSortI (aCons (eLc (iOf (eV 16)) (gN 22) tYesM (eIxV 22 (eC (.int 1))) [22]) aNil)))
 (sIf (eB (eBin dNe (eCall m_values_at (aCons (eV 15) (aCons (eV 11) aNil))) (eLc (iRg rg1 (aCons (eF fLen (aCons (eV 17) aNil)) aNil)) (gN 6) (eB (eBin (dIn true) (eIxV 17 (eV 6)) (eSl dSlL (eV 17) eP0 (eP1 (eV 6))))) (eIxV 17 (eV 6)) [6])))
 (sRet (eC (.bl false)))
 sNx))))
section
variable {s0 : Sl} {p N a : D} {y4 y5 s6 s7 s8 s10 s12 s13 s14 s16 s17 s18 s19 s20 s21 : Sl}
abbrev cE (s0 : Sl) (p N a : D) (y4 y5 s6 s7 s8 : Sl) (RD : D) (s10 : Sl) (c : D) (s12 s13 s14 : Sl) (G : D) (s16 s17 s18 s19 s20 s21 s22 : Sl) : Env := hE s0 p N a y4 y5 s6 s7 s8 (.imm RD) s10 (.imm c) s12 s13 s14 (.imm G) s16 s17 s18 s19 s20 s21 s22
theorem ev_sel {R : List Ev} (hR : R.length ≤ 36) {c : C2} {G : D} : eLc (iOf (eV 9)) (gN 22) (eB (eBin dEq (eIxV 22 (eC (.int 0))) (eV 11))) (eTup (aCons (eIxV 22 (eC (.int 1))) (aCons (eIxV 22 (eC (.int 2))) aNil))) [22] (cE s0 p N a y4 y5 s6 s7 s8 (.lst (R.map evD)) s10 (pD c) s12 s13 s14 G s16 s17 s18 s19 s20 s21 .no) = some (.ok (.lst ((sel R c).map rowD)), cE s0 p N a y4 y5 s6 s7 s8 (.lst (R.map evD)) s10 (pD c) s12 s13 s14 G s16 s17 s18 s19 s20 s21 .no) := by
  have hi : itD (.lst (R.map evD)) = some (R.map evD) := rfl
  rw [eLc_map (l := R) (g := evD) (p := fun e => decide (e.1 = c)) (f := fun e => rowD e.2) (δ0 := cE s0 p N a y4 y5 s6 s7 s8 (.lst (R.map evD)) s10 (pD c) s12 s13 s14 G s16 s17 s18 s19 s20 s21 .no)]
  · unfold sel; rw [List.map_map]; rfl
  · unfold cE hE; simp! only [hi]
  · omega
  · intro e _
    have x0 := ev_0 (e := e)
    have x1 := ev_1 (e := e)
    have x2 := ev_2 (e := e)
    have hd := dEq_p (a := e.1) (b := c)
    generalize D.lst (R.map evD) = RD at *
    refine ⟨cE s0 p N a y4 y5 s6 s7 s8 RD s10 (pD c) s12 s13 s14 G s16 s17 s18 s19 s20 s21 (.imm (evD e)), cE s0 p N a y4 y5 s6 s7 s8 RD s10 (pD c) s12 s13 s14 G s16 s17 s18 s19 s20 s21 (.imm (evD e)), by unfold cE hE; simp! only [wipeE], by unfold cE hE; simp! only [x0, hd], (fun _ => rfl), fun _ => ⟨cE s0 p N a y4 y5 s6 s7 s8 RD s10 (pD c) s12 s13 s14 G s16 s17 s18 s19 s20 s21 (.imm (evD e)), ?_, rfl⟩⟩
    show _ = some (Except.ok (D.tup [.str e.2.1, .int e.2.2]), _)
    unfold cE hE
    simp! only [x1, x2]
theorem ev_nums {l : List (Str × Int)} (hl : l.length ≤ 36) {RD c G : D} : eLc (iOf (eV 16)) (gN 22) tYesM (eIxV 22 (eC (.int 1))) [22] (cE s0 p N a y4 y5 s6 s7 s8 RD s10 c s12 s13 s14 G (.imm (.lst (l.map rowD))) s17 s18 s19 s20 s21 .no) = some (.ok (iD (l.map (·.2))), cE s0 p N a y4 y5 s6 s7 s8 RD s10 c s12 s13 s14 G (.imm (.lst (l.map rowD))) s17 s18 s19 s20 s21 .no) := by
  have hi : itD (.lst (l.map rowD)) = some (l.map rowD) := rfl
  rw [eLc_map (l := l) (g := rowD) (p := fun _ => true) (f := fun r => .int r.2) (δ0 := cE s0 p N a y4 y5 s6 s7 s8 RD s10 c s12 s13 s14 G (.imm (.lst (l.map rowD))) s17 s18 s19 s20 s21 .no)]
  · rw [List.filter_eq_self.mpr (fun _ _ => rfl)]
    unfold iD
    rw [List.map_map]; rfl
  · unfold cE hE; simp! only [hi]
  · omega
  · intro r _
    generalize D.lst (l.map rowD) = LD at *
    exact ⟨cE s0 p N a y4 y5 s6 s7 s8 RD s10 c s12 s13 s14 G (.imm LD) s17 s18 s19 s20 s21 (.imm (rowD r)), cE s0 p N a y4 y5 s6 s7 s8 RD s10 c s12 s13 s14 G (.imm LD) s17 s18 s19 s20 s21 (.imm (rowD r)), by unfold cE hE; simp! only [wipeE], rfl, (fun z => by cases z), fun _ => ⟨cE s0 p N a y4 y5 s6 s7 s8 RD s10 c s12 s13 s14 G (.imm LD) s17 s18 s19 s20 s21 (.imm (rowD r)), by unfold cE hE; simp! only [r_1], rfl⟩⟩
theorem ev_first {t : List Int} (hl : t.length ≤ 36) {RD c G : D} : eLc (iRg rg1 (aCons (eF fLen (aCons (eV 17) aNil)) aNil)) (gN 6) (eB (eBin (dIn true) (eIxV 17 (eV 6)) (eSl dSlL (eV 17) eP0 (eP1 (eV 6))))) (eIxV 17 (eV 6)) [6] (cE s0 p N a y4 y5 s6 s7 s8 RD s10 c s12 s13 s14 G s16 (.imm (iD t)) s18 s19 s20 s21 .no) = some (.ok (iD (dd t)), cE s0 p N a y4 y5 .no s7 s8 RD s10 c s12 s13 s14 G s16 (.imm (iD t)) s18 s19 s20 s21 .no) := by
  rw [eLc_map (l := List.range t.length) (g := fun i : Nat => D.int (i : Int)) (p := fun k => !decide (t.getD k default ∈ t.take k)) (f := fun k => .int (t.getD k default)) (δ0 := cE s0 p N a y4 y5 s6 s7 s8 RD s10 c s12 s13 s14 G s16 (.imm (iD t)) s18 s19 s20 s21 .no)]
  · have := first_dd (l := t) (j := t.length) (Nat.le_refl _)
    rw [List.take_of_length_le (Nat.le_refl _)] at this
    rw [← this]
    unfold iD
    rw [List.map_map]; rfl
  · have hr := rg1_n (show t.length ≤ 1000 by omega)
    have hl := fLen_iD (l := t)
    have h0 : rgD 0 t.length = (List.range t.length).map fun i : Nat => D.int (i : Int) := by
      unfold rgD
      refine List.map_congr_left fun i _ => ?_
      simp
    rw [h0] at hr
    generalize (List.range t.length).map (fun i : Nat => D.int (i : Int)) = RR at *
    generalize ((t.length : Nat) : Int) = TL at *
    generalize iD t = TD at *
    unfold cE hE; simp! only [hl, hr]
  · rw [List.length_range]; omega
  · intro k hk
    have hk := List.mem_range.mp hk
    have hg : t[k]? = some (t.getD k default) := by rw [List.getD_eq_getElem?_getD, List.getElem?_eq_getElem hk]; rfl
    have ix : dIx (iD t) (.int (k : Nat)) = some (.int (t.getD k default)) := at_map (f := D.int) hg
    have sl : dSlL (iD t) none (some (k : Nat)) = some (iD (t.take k)) := by
      show some (D.lst (cutD (t.map D.int) none (some (k : Int)))) = _
      rw [cut_to (by rw [List.length_map]; omega), ← List.map_take]; rfl
    have hin := dIn_iD (neg := true) (v := t.getD k default) (l := t.take k)
    generalize t.getD k default = x at *
    generalize ((k : Nat) : Int) = K at *
    generalize iD (t.take k) = TK at *
    generalize iD t = TD at *
    exact ⟨cE s0 p N a y4 y5 (.imm (.int K)) s7 s8 RD s10 c s12 s13 s14 G s16 (.imm TD) s18 s19 s20 s21 .no, cE s0 p N a y4 y5 (.imm (.int K)) s7 s8 RD s10 c s12 s13 s14 G s16 (.imm TD) s18 s19 s20 s21 .no, by unfold cE hE; simp! only [wipeE], by unfold cE hE; simp! only [ix, sl, hin, if_true], (fun _ => rfl), fun _ => ⟨cE s0 p N a y4 y5 (.imm (.int K)) s7 s8 RD s10 c s12 s13 s14 G s16 (.imm TD) s18 s19 s20 s21 .no, by unfold cE hE; simp! only [ix], rfl⟩⟩
theorem ev_cellT {R : List Ev} (hR : R.length ≤ 36) (ok : EvOk R) {c : C2} (hc : c ∈ byRows (cel R)) :
    ∃ z16 z17, cellT (cE s0 p N a y4 y5 s6 s7 s8 (.lst (R.map evD)) s10 (pD c) s12 s13 s14 (gatD R) s16 s17 s18 s19 s20 s21 .no) = some (.ok .nx, cE s0 p N a y4 y5 .no s7 s8 (.lst (R.map evD)) s10 (pD c) s12 s13 s14 (gatD R) z16 z17 s18 s19 s20 s21 .no) := by
  have hsl := sel_len (R := R) (k := c)
  have ix : dIx (gatD R) (pD c) = some (selD R c) := ix_g hc
  have ft : fTuple [.lst ((sel R c).map rowD)] = some (selD R c) := rfl
  have dn := dNe_rfl (fine_selD ok (k := c))
  have e1 : ∀ {s16 s17 : Sl}, _ := fun {s16 s17} => ev_sel (s0 := s0) (p := p) (N := N) (a := a) (y4 := y4) (y5 := y5) (s6 := s6) (s7 := s7) (s8 := s8) (s10 := s10) (s12 := s12) (s13 := s13) (s14 := s14) (s16 := s16) (s17 := s17) (s18 := s18) (s19 := s19) (s20 := s20) (s21 := s21) hR (c := c) (G := gatD R)
  have e2 : ∀ {s17 : Sl}, _ := fun {s17} => ev_nums (s0 := s0) (p := p) (N := N) (a := a) (y4 := y4) (y5 := y5) (s6 := s6) (s7 := s7) (s8 := s8) (s10 := s10) (s12 := s12) (s13 := s13) (s14 := s14) (s17 := s17) (s18 := s18) (s19 := s19) (s20 := s20) (s21 := s21) (l := sel R c) (by omega) (RD := .lst (R.map evD)) (c := pD c) (G := gatD R)
  have e3 := ev_first (s0 := s0) (p := p) (N := N) (a := a) (y4 := y4) (y5 := y5) (s6 := s6) (s7 := s7) (s8 := s8) (s10 := s10) (s12 := s12) (s13 := s13) (s14 := s14) (s16 := .imm (.lst ((sel R c).map rowD))) (s18 := s18) (s19 := s19) (s20 := s20) (s21 := s21) (t := sortI ((sel R c).map (·.2))) (by rw [(sortI_perm _).length_eq, List.length_map]; omega) (RD := .lst (R.map evD)) (c := pD c) (G := gatD R)
  have fs := fSortI_i (l := (sel R c).map (·.2))
  have ev := ev_vals (R := R) (k := c) hR
  have cv : ∀ δ, callM m_values_at [.im (gatD R), .im (pD c)] δ = some (.ok (iD (sortSet ((sel R c).map (·.2)))), δ) := fun δ => by rw [x_call2, ev]; rfl
  rw [sortSet_dd] at e3
  have dn2 := dNe_rfl (fine_iD (sortSet ((sel R c).map (·.2))))
  generalize iD (sortSet ((sel R c).map (·.2))) = SS at *
  generalize iD (sortI ((sel R c).map (·.2))) = SI at *
  generalize iD ((sel R c).map (·.2)) = SL at *
  generalize selD R c = SD at *
  generalize D.lst ((sel R c).map rowD) = LD at *
  generalize gatD R = G at *
  generalize D.lst (R.map evD) = RD at *
  refine ⟨.imm LD, .imm SI, ?_⟩
  unfold cellT
  refine ssq (δ1 := cE s0 p N a y4 y5 s6 s7 s8 RD s10 (pD c) s12 s13 s14 G (.own LD) s17 s18 s19 s20 s21 .no) (by
    have e1 := e1 (s16 := s16) (s17 := s17)
    unfold cE hE at e1 ⊢; simp! only [e1]) ?_
  refine ssq_f (δ1 := cE s0 p N a y4 y5 s6 s7 s8 RD s10 (pD c) s12 s13 s14 G (.imm LD) s17 s18 s19 s20 s21 .no) (by unfold cE hE; simp! only [ix, ft, dn]) ?_
  refine ssq (δ1 := cE s0 p N a y4 y5 s6 s7 s8 RD s10 (pD c) s12 s13 s14 G (.imm LD) (.imm SI) s18 s19 s20 s21 .no) (by
    have e2 := e2 (s17 := s17)
    unfold cE hE at e2 ⊢; simp! only [e2, fs]) ?_
  refine s1f ?_
  unfold cE hE at e3 ⊢
  simp! only [cv, e3, dn2]
end
end M
set_option Elab.async false
set_option linter.all false
set_option maxRecDepth 100000
set_option maxHeartbeats 2000000
namespace M
open PySem L2
local macro_rules
  | `(tactic| simp! only [$as,*]) => `(tactic| simp only [x_bind, bk_ok, bk_ite, x_ret, x_lift, lk_some, lk_ite, app_ite, x_eC, x_eV, vk_imm, vk_own, vk_bor, x_give, gk_own, x_bin, x_un, x_ix, x_tru, x_eB, dBl_bl, dTru_bl, dTru_int, dTru_lst, x_and, x_or, x_not, x_eAnd, x_eOr, x_eNot, x_eIf, x_chain, x_aNil, x_aCons, x_aVr, rk_own, rk_io, x_aVb, tk_own, tk_io, tk_imm, tk_bor, x_eTup, x_eLst, imms_nil, imms_im, x_eF, x_call, ixV_C, jk_imm, jk_own, jk_io, jk_bor, flk_int, x_lenV, nk_imm, nk_own, nk_io, nk_bor, x_inV, hk_imm, hk_own, hk_io, hk_bor, x_sNx, x_pass, x_cont, x_brk, x_seq, sk_nx, sk_rt, sk_rtO, sk_ct, sk_bk, sk_ite, x_drop, x_sRet, x_sRetO, x_sIf, x_asg, x_asgO, x_gN, x_gO, x_gNil, x_gCons, x_gTt, x_gTl, x_sApp, x_sSet, x_chM, ck_own, ck_io, x_iOf, x_iRg, x_fn, fk_rt, fk_nx, fk_ite, ios_z, ios_s, keep_io, keep_imm, keep_own, keep_bor, keep_no, dSub_i, dAdd_i, dLt_i, dLe_i, dGt_i, dGe_i, dEq_int, dNe_int, ix_lst, ix_scr, ix_tup, atI_0, atI_1, atI_2, atI_3, List.getElem?_cons_zero, List.getElem?_cons_succ, List.set_cons_zero, List.set_cons_succ, List.length_cons, List.length_nil, List.cons_append, List.nil_append, List.replicate_succ, List.replicate_zero, Option.map_some, Option.bind_some, Nat.reduceAdd, Nat.reduceSub, Nat.reduceLT, Nat.reduceLeDiff, if_true, if_false, Bool.false_eq_true, decide_eq_true_eq, reduceIte, ne_eq, not_false_eq_true, Nat.lt_add_left_iff_pos, Nat.zero_lt_succ, x_call1, x_call2, x_call3, x_call4, dk1, dk2, dk3, dk4, ixV_V, Nat.reduceEqDiff, not_false_eq_true, x_isLst, x_isSet, List.map_cons, List.map_nil, Option.map_none, Option.bind_none, x_eSl, x_eP0, x_eP1, part_i, $as,*])
noncomputable def endT : Mo Out := (sSeq (sIf (eB (eBin dNe (eCall m_values_at (aCons (eV 15) (aCons (eTup (aCons (eC (.int 99)) (aCons (eC (.int 99)) aNil))) aNil))) (eLst aNil)))
 (sRet (eC (.bl false)))
 sNx)
 (sSeq (sAsg (gN 18) (eC .non))
 (sSeq (sIf (eTru (eV 13))
 (sSeq (sAsgO 19 (eLc (iOf (eV 13)) (gN 11) tYesM (eIxV 11 (eC (.int 0))) [11]))
 (sSeq (sAsgO 20 (eLc (iOf (eV 13)) (gN 11) tYesM (eIxV 11 (eC (.int 1))) [11]))
 (sAsg (gN 18) (eTup (aCons (eF fMin (aCons (eV 19) aNil)) (aCons (eF fMin (aCons (eV 20) aNil)) (aCons (eF fMax (aCons (eV 19) aNil)) (aCons (eF fMax (aCons (eV 20) aNil)) aNil))))))))
 sNx)
 (sIf (eB (eBin dNe (eCall m_bounds (aCons (eV 15) aNil)) (eV 18)))
 (sRet (eC (.bl false)))
 sNx))))
noncomputable def turnG : Mo Out := (sSeq (sAsgO 9 (eLst aNil))
 (sSeq (sFor (iOf (eV 5)) (gN 10) rowsF)
 (sSeq (sAsgO 13 (eLst aNil))
 (sSeq (sFor (iOf (eF fSortP (aCons (eLc (iOf (eV 9)) (gN 22) tYesM (eTup (aCons (eIx (eIxV 22 (eC (.int 0))) (eC (.int 1))) (aCons (eIx (eIxV 22 (eC (.int 0))) (eC (.int 0))) aNil))) [22]) aNil))) (gN 14) cellB)
 (sSeq (sAsg (gN 15) (eCall m_gather (aVb 3 (aCons (eV 4) (aCons (eV 7) aNil)))))
 (sSeq (sIf (eB (eBin dNe (eF fList' (aCons (eV 15) aNil)) (eV 13)))
 (sRet (eC (.bl false)))
 sNx)
 (sSeq (sFor (iOf (eV 13)) (gN 11) cellT)
 endT)))))))
theorem fine_bnd {ks : List C2} : Fine (bnd ks) := by
  unfold bnd
  split
  · exact ⟨rfl, by unfold toPy PyData.depth; omega, by unfold toPy PyData.eqv; rfl⟩
  · exact (fine_tup (k := 0) (by omega) fun d m => by
      simp only [List.mem_cons, List.not_mem_nil, or_false] at m
      rcases m with rfl | rfl | rfl | rfl <;> exact fine_int' _).1
section
variable {s0 : Sl} {p N a : D} {y4 y5 s6 s7 s8 s10 s11 s12 s13 s14 s16 s17 s18 s19 s20 s21 : Sl}
abbrev dE (s0 : Sl) (p N a : D) (y4 y5 s6 s7 s8 : Sl) (RD : D) (s10 s11 s12 : Sl) (CD : D) (s14 : Sl) (G : D) (s16 s17 s18 s19 s20 s21 s22 : Sl) : Env := hE s0 p N a y4 y5 s6 s7 s8 (.imm RD) s10 s11 s12 (.imm CD) s14 (.imm G) s16 s17 s18 s19 s20 s21 s22
theorem ev_endT {R : List Ev} (hR : R.length ≤ 36) (ok : EvOk R) : ∃ z11 z18 z19 z20, endT (dE s0 p N a y4 y5 s6 s7 s8 (.lst (R.map evD)) s10 s11 s12 (.lst ((byRows (cel R)).map pD)) s14 (gatD R) s16 s17 s18 s19 s20 s21 .no) = some (.ok .nx, dE s0 p N a y4 y5 s6 s7 s8 (.lst (R.map evD)) s10 z11 s12 (.lst ((byRows (cel R)).map pD)) s14 (gatD R) s16 s17 z18 z19 z20 s21 .no) := by
  have h99 : (((99 : Int), (99 : Int)) : C2) ∉ cel R := fun m => by
    obtain ⟨e, he, hh⟩ := List.mem_map.mp (ddm.mp m)
    have := (ok e he).2
    rw [hh] at this
    simp at this
  have ev := ev_vals (R := R) (k := (99, 99)) hR
  rw [sel_none h99] at ev
  have hz : iD (sortSet (([] : List (Str × Int)).map (·.2))) = .lst [] := by
    have : sortSet (([] : List (Str × Int)).map (·.2)) = [] := List.length_eq_zero_iff.mp (by rw [← sortSet_dd]; exact Nat.le_zero.mp (Nat.le_trans dd_len (by rw [(sortI_perm _).length_eq]; exact Nat.le_refl _)))
    rw [this]; rfl
  rw [hz] at ev
  have cv : ∀ δ, callM m_values_at [.im (gatD R), .im (.tup [.int 99, .int 99])] δ = some (.ok (.lst []), δ) := fun δ => by rw [x_call2, show (D.tup [.int 99, .int 99]) = pD (99, 99) from rfl, ev]; rfl
  have dn0 : dNe (.lst []) (.lst []) = some (.bl false) := dNe_rfl (fine_ps [])
  have hcl : (byRows (cel R)).length ≤ 36 := by rw [rows_len]; exact Nat.le_trans cel_len hR
  have eb := ev_bounds (ks := byRows (cel R)) (g := selD R) (by omega)
  have eb : m_bounds [.imm (gatD R)] = _ := eb
  have cb : ∀ δ, callM m_bounds [.im (gatD R)] δ = some (.ok (bnd (byRows (cel R))), δ) := fun δ => by rw [x_call1, eb]; rfl
  have dn := dNe_rfl (fine_bnd (ks := byRows (cel R)))
  generalize gatD R = G at *
  generalize D.lst (R.map evD) = RD at *
  generalize hC : byRows (cel R) = C at *
  have hi : itD (.lst (C.map pD)) = some (C.map pD) := rfl
  have e1 : ∀ {s11 s18 s19 s20 : Sl}, eLc (iOf (eV 13)) (gN 11) tYesM (eIxV 11 (eC (.int 0))) [11] (dE s0 p N a y4 y5 s6 s7 s8 RD s10 s11 s12 (.lst (C.map pD)) s14 G s16 s17 s18 s19 s20 s21 .no) = some (.ok (iD (C.map (·.1))), dE s0 p N a y4 y5 s6 s7 s8 RD s10 .no s12 (.lst (C.map pD)) s14 G s16 s17 s18 s19 s20 s21 .no) := fun {s11 s18 s19 s20} => by
    rw [eLc_map (l := C) (g := pD) (p := fun _ => true) (f := fun k => .int k.1) (δ0 := dE s0 p N a y4 y5 s6 s7 s8 RD s10 s11 s12 (.lst (C.map pD)) s14 G s16 s17 s18 s19 s20 s21 .no)]
    · rw [List.filter_eq_self.mpr (fun _ _ => rfl)]
      unfold iD
      rw [List.map_map]; rfl
    · unfold dE hE; simp! only [hi]
    · omega
    · intro k _
      have x1 := p_x (k := k)
      generalize D.lst (C.map pD) = CD at *
      exact ⟨dE s0 p N a y4 y5 s6 s7 s8 RD s10 (.imm (pD k)) s12 CD s14 G s16 s17 s18 s19 s20 s21 .no, dE s0 p N a y4 y5 s6 s7 s8 RD s10 (.imm (pD k)) s12 CD s14 G s16 s17 s18 s19 s20 s21 .no, by unfold dE hE; simp! only [wipeE], rfl, (fun z => by cases z), fun _ => ⟨dE s0 p N a y4 y5 s6 s7 s8 RD s10 (.imm (pD k)) s12 CD s14 G s16 s17 s18 s19 s20 s21 .no, by unfold dE hE; simp! only [x1], rfl⟩⟩
  have e2 : ∀ {s11 s18 s19 s20 : Sl}, eLc (iOf (eV 13)) (gN 11) tYesM (eIxV 11 (eC (.int 1))) [11] (dE s0 p N a y4 y5 s6 s7 s8 RD s10 s11 s12 (.lst (C.map pD)) s14 G s16 s17 s18 s19 s20 s21 .no) = some (.ok (iD (C.map (·.2))), dE s0 p N a y4 y5 s6 s7 s8 RD s10 .no s12 (.lst (C.map pD)) s14 G s16 s17 s18 s19 s20 s21 .no) := fun {s11 s18 s19 s20} => by
    rw [eLc_map (l := C) (g := pD) (p := fun _ => true) (f := fun k => .int k.2) (δ0 := dE s0 p N a y4 y5 s6 s7 s8 RD s10 s11 s12 (.lst (C.map pD)) s14 G s16 s17 s18 s19 s20 s21 .no)]
    · rw [List.filter_eq_self.mpr (fun _ _ => rfl)]
      unfold iD
      rw [List.map_map]; rfl
    · unfold dE hE; simp! only [hi]
    · omega
    · intro k _
      have x1 := p_y (k := k)
      generalize D.lst (C.map pD) = CD at *
      exact ⟨dE s0 p N a y4 y5 s6 s7 s8 RD s10 (.imm (pD k)) s12 CD s14 G s16 s17 s18 s19 s20 s21 .no, dE s0 p N a y4 y5 s6 s7 s8 RD s10 (.imm (pD k)) s12 CD s14 G s16 s17 s18 s19 s20 s21 .no, by unfold dE hE; simp! only [wipeE], rfl, (fun z => by cases z), fun _ => ⟨dE s0 p N a y4 y5 s6 s7 s8 RD s10 (.imm (pD k)) s12 CD s14 G s16 s17 s18 s19 s20 s21 .no, by unfold dE hE; simp! only [x1], rfl⟩⟩
  have ht : dTru (.lst (C.map pD)) = some (!C.isEmpty) := by
    show some (!(C.map pD).isEmpty) = _
    rw [List.isEmpty_map]
  generalize D.lst (C.map pD) = CD at *
  unfold endT
  by_cases c : C = []
  · have ht : dTru CD = some false := by rw [ht, c]; rfl
    have hb : bnd C = .non := if_pos c
    rw [hb] at cb dn
    refine ⟨s11, .imm .non, s19, s20, ?_⟩
    refine ssq_f (δ1 := dE s0 p N a y4 y5 s6 s7 s8 RD s10 s11 s12 CD s14 G s16 s17 s18 s19 s20 s21 .no) (by unfold dE hE; simp! only [cv, dn0]) ?_
    refine ssq (δ1 := dE s0 p N a y4 y5 s6 s7 s8 RD s10 s11 s12 CD s14 G s16 s17 (.imm .non) s19 s20 s21 .no) (by unfold dE hE; simp! only []) ?_
    refine ssq_f (δ1 := dE s0 p N a y4 y5 s6 s7 s8 RD s10 s11 s12 CD s14 G s16 s17 (.imm .non) s19 s20 s21 .no) (by unfold dE hE; simp! only [ht]) ?_
    refine s1f ?_
    unfold dE hE
    simp! only [cb, dn]
  · have ht : dTru CD = some true := by rw [ht]; cases C <;> first | rfl | exact absurd rfl c
    obtain ⟨m1, m3⟩ := mins (l := C.map (·.1)) (by simpa using c)
    obtain ⟨m2, m4⟩ := mins (l := C.map (·.2)) (by simpa using c)
    have hb : bnd C = .tup [.int ((minL (C.map (·.1))).getD 0), .int ((minL (C.map (·.2))).getD 0), .int ((maxL (C.map (·.1))).getD 0), .int ((maxL (C.map (·.2))).getD 0)] := if_neg c
    rw [hb] at cb dn
    generalize (minL (C.map (·.1))).getD 0 = M1 at *
    generalize (minL (C.map (·.2))).getD 0 = M2 at *
    generalize (maxL (C.map (·.1))).getD 0 = M3 at *
    generalize (maxL (C.map (·.2))).getD 0 = M4 at *
    generalize iD (C.map (·.1)) = I1 at *
    generalize iD (C.map (·.2)) = I2 at *
    refine ⟨.no, .imm (.tup [.int M1, .int M2, .int M3, .int M4]), .imm I1, .imm I2, ?_⟩
    refine ssq_f (δ1 := dE s0 p N a y4 y5 s6 s7 s8 RD s10 s11 s12 CD s14 G s16 s17 s18 s19 s20 s21 .no) (by unfold dE hE; simp! only [cv, dn0]) ?_
    refine ssq (δ1 := dE s0 p N a y4 y5 s6 s7 s8 RD s10 s11 s12 CD s14 G s16 s17 (.imm .non) s19 s20 s21 .no) (by unfold dE hE; simp! only []) ?_
    refine ssq (δ1 := dE s0 p N a y4 y5 s6 s7 s8 RD s10 .no s12 CD s14 G s16 s17 (.imm (.tup [.int M1, .int M2, .int M3, .int M4])) (.imm I1) (.imm I2) s21 .no) ?_ ?_
    · refine st (δ1 := dE s0 p N a y4 y5 s6 s7 s8 RD s10 s11 s12 CD s14 G s16 s17 (.imm .non) s19 s20 s21 .no) (by unfold dE hE; simp! only [ht]) ?_
      refine ssq (δ1 := dE s0 p N a y4 y5 s6 s7 s8 RD s10 .no s12 CD s14 G s16 s17 (.imm .non) (.own I1) s20 s21 .no) (by
        have e1 := e1 (s11 := s11) (s18 := .imm .non) (s19 := s19) (s20 := s20)
        unfold dE hE at e1 ⊢; simp! only [e1]) ?_
      refine ssq (δ1 := dE s0 p N a y4 y5 s6 s7 s8 RD s10 .no s12 CD s14 G s16 s17 (.imm .non) (.own I1) (.own I2) s21 .no) (by
        have e2 := e2 (s11 := .no) (s18 := .imm .non) (s19 := .own I1) (s20 := s20)
        unfold dE hE at e2 ⊢; simp! only [e2]) ?_
      unfold dE hE
      simp! only [m1, m2, m3, m4]
    refine s1f ?_
    unfold dE hE
    simp! only [cb, dn]
theorem ev_turn {vs : List V5} (o : VsOk vs) {g : Int} (k4 : Keep y4 (layD5 vs)) (k5 : Keep y5 (.lst (vs.map vD))) {s9 s15 : Sl} :
    ∃ z6 z9 z10 z11 z12 z13 z14 z15 z16 z17 z18 z19 z20, turnG (hE s0 p N (albD5 vs) y4 y5 s6 (.imm (.int g)) s8 s9 s10 s11 s12 s13 s14 s15 s16 s17 s18 s19 s20 s21 .no) = some (.ok .nx, hE s0 p N (albD5 vs) (.imm (layD5 vs)) (.imm (.lst (vs.map vD))) z6 (.imm (.int g)) s8 z9 z10 z11 z12 z13 z14 z15 z16 z17 z18 z19 z20 s21 .no) := by
  have hR := evs_len' (g := g) o
  have ok := evs_ok o (g := g)
  obtain ⟨w10, w11, w12, f1⟩ := ev_rowsL (s0 := s0) (p := p) (N := N) (a := albD5 vs) (s6 := s6) (s8 := s8) (s10 := s10) (s11 := s11) (s12 := s12) (s13 := s13) (s14 := s14) (s15 := s15) (s16 := s16) (s17 := s17) (s18 := s18) (s19 := s19) (s20 := s20) (s21 := s21) (s22 := .no) (g := g) o k4 k5
  have eg := ev_gather (g := g) o
  have hlg := list_g (ks := byRows (cel (evs g vs))) (g := selD (evs g vs))
  have hlg : fList' [gatD (evs g vs)] = _ := hlg
  generalize hRR : evs g vs = R at *
  obtain ⟨w14, f2⟩ := ev_cells (s0 := s0) (p := p) (N := N) (a := albD5 vs) (y4 := y4) (y5 := .imm (.lst (vs.map vD))) (s6 := s6) (s7 := .imm (.int g)) (s8 := s8) (s10 := w10) (s11 := w11) (s12 := w12) (s14 := s14) (s15 := s15) (s16 := s16) (s17 := s17) (s18 := s18) (s19 := s19) (s20 := s20) (s21 := s21) hR
  have cg : ∀ {s6 s9 s10 s11 s12 s13 s14 s15 s16 s17 s18 s19 s20 s21 s22 : Sl}, callM m_gather [.vb 3, .im (layD5 vs), .im (.int g)] (hE s0 p N (albD5 vs) (.imm (layD5 vs)) (.imm (.lst (vs.map vD))) s6 (.imm (.int g)) s8 s9 s10 s11 s12 s13 s14 s15 s16 s17 s18 s19 s20 s21 s22) = some (.ok (gatD R), hE s0 p N (albD5 vs) (.imm (layD5 vs)) (.imm (.lst (vs.map vD))) s6 (.imm (.int g)) s8 s9 s10 s11 s12 s13 s14 s15 s16 s17 s18 s19 s20 s21 s22) := fun {_ _ _ _ _ _ _ _ _ _ _ _ _ _ _} =>
    call_of (by simp only [argSls, argSl, List.getElem?_cons_zero, List.getElem?_cons_succ]) ⟨by simp [vrs], by simp [vbs, vrs]⟩ eg rfl
  have dn := dNe_rfl (fine_ps (byRows (cel R)))
  obtain ⟨δ', f3, z6, z11, z16, z17, rfl⟩ := sFor_inv (I := iOf (eV 13)) (T := gN 11) (S := cellT) (ds := (byRows (cel R)).map pD)
    (δ := dE s0 p N (albD5 vs) (.imm (layD5 vs)) (.imm (.lst (vs.map vD))) s6 (.imm (.int g)) s8 (.lst (R.map evD)) w10 w11 w12 (.lst ((byRows (cel R)).map pD)) w14 (gatD R) s16 s17 s18 s19 s20 s21 .no) (δ0 := dE s0 p N (albD5 vs) (.imm (layD5 vs)) (.imm (.lst (vs.map vD))) s6 (.imm (.int g)) s8 (.lst (R.map evD)) w10 w11 w12 (.lst ((byRows (cel R)).map pD)) w14 (gatD R) s16 s17 s18 s19 s20 s21 .no)
    (fun j δ => ∃ z6 z11 z16 z17 : Sl, δ = dE s0 p N (albD5 vs) (.imm (layD5 vs)) (.imm (.lst (vs.map vD))) z6 (.imm (.int g)) s8 (.lst (R.map evD)) w10 z11 w12 (.lst ((byRows (cel R)).map pD)) w14 (gatD R) z16 z17 s18 s19 s20 s21 .no)
    (by
      have hi : itD (.lst ((byRows (cel R)).map pD)) = some ((byRows (cel R)).map pD) := rfl
      generalize (byRows (cel R)).map pD = CD at *
      unfold dE hE; simp! only [hi]) ⟨_, _, _, _, rfl⟩ (fun j d δ hj hδ => by
      obtain ⟨z6, z11, z16, z17, rfl⟩ := hδ
      obtain ⟨c, hc, rfl⟩ := getmap hj
      obtain ⟨x16, x17, e⟩ := ev_cellT (s0 := s0) (p := p) (N := N) (a := albD5 vs) (y4 := .imm (layD5 vs)) (y5 := .imm (.lst (vs.map vD))) (s6 := z6) (s7 := .imm (.int g)) (s8 := s8) (s10 := w10) (s12 := w12) (s13 := .imm (.lst ((byRows (cel R)).map pD))) (s14 := w14) (s16 := z16) (s17 := z17) (s18 := s18) (s19 := s19) (s20 := s20) (s21 := s21) hR ok (List.mem_of_getElem? hc)
      exact ⟨dE s0 p N (albD5 vs) (.imm (layD5 vs)) (.imm (.lst (vs.map vD))) z6 (.imm (.int g)) s8 (.lst (R.map evD)) w10 (.imm (pD c)) w12 (.lst ((byRows (cel R)).map pD)) w14 (gatD R) z16 z17 s18 s19 s20 s21 .no, _, by unfold dE hE; simp! only [], .inl e, _, _, _, _, rfl⟩)
  obtain ⟨x11, x18, x19, x20, f4⟩ := ev_endT (s0 := s0) (p := p) (N := N) (a := albD5 vs) (y4 := .imm (layD5 vs)) (y5 := .imm (.lst (vs.map vD))) (s6 := z6) (s7 := .imm (.int g)) (s8 := s8) (s10 := w10) (s11 := z11) (s12 := w12) (s14 := w14) (s16 := z16) (s17 := z17) (s18 := s18) (s19 := s19) (s20 := s20) (s21 := s21) hR ok
  refine ⟨z6, .imm (.lst (R.map evD)), w10, x11, w12, .imm (.lst ((byRows (cel R)).map pD)), w14, .imm (gatD R), z16, z17, x18, x19, x20, ?_⟩
  unfold turnG
  refine ssq (δ1 := hE s0 p N (albD5 vs) y4 y5 s6 (.imm (.int g)) s8 (.own (.lst [])) s10 s11 s12 s13 s14 s15 s16 s17 s18 s19 s20 s21 .no) (by unfold hE; simp! only []) ?_
  refine ssq f1 ?_
  refine ssq (δ1 := hE s0 p N (albD5 vs) y4 (.imm (.lst (vs.map vD))) s6 (.imm (.int g)) s8 (.own (.lst (R.map evD))) w10 w11 w12 (.own (.lst [])) s14 s15 s16 s17 s18 s19 s20 s21 .no) (by
    generalize D.lst (R.map evD) = RD at *
    unfold hE; simp! only []) ?_
  refine ssq f2 ?_
  refine ssq (δ1 := hE s0 p N (albD5 vs) (.imm (layD5 vs)) (.imm (.lst (vs.map vD))) s6 (.imm (.int g)) s8 (.imm (.lst (R.map evD))) w10 w11 w12 (.own (.lst ((byRows (cel R)).map pD))) w14 (.imm (gatD R)) s16 s17 s18 s19 s20 s21 .no) (by
    clear f1 f2 f3 f4 hlg dn
    have cg1 := cg (s6 := s6) (s9 := .imm (.lst (R.map evD))) (s10 := w10) (s11 := w11) (s12 := w12) (s13 := .own (.lst ((byRows (cel R)).map pD))) (s14 := w14) (s15 := s15) (s16 := s16) (s17 := s17) (s18 := s18) (s19 := s19) (s20 := s20) (s21 := s21) (s22 := .no)
    clear cg
    generalize D.lst (R.map evD) = RD at *
    generalize D.lst ((byRows (cel R)).map pD) = CD at *
    generalize albD5 vs = AD at *
    unfold hE at cg1 ⊢
    rcases k4 with rfl | rfl
    · simp! only [cg1]
    · simp! only [cg1]) ?_
  refine ssq_f (δ1 := dE s0 p N (albD5 vs) (.imm (layD5 vs)) (.imm (.lst (vs.map vD))) s6 (.imm (.int g)) s8 (.lst (R.map evD)) w10 w11 w12 (.lst ((byRows (cel R)).map pD)) w14 (gatD R) s16 s17 s18 s19 s20 s21 .no) (by
    clear f1 f2 f3 f4 cg
    generalize D.lst (R.map evD) = RD at *
    generalize D.lst ((byRows (cel R)).map pD) = CD at *
    generalize gatD R = G at *
    unfold dE hE
    simp! only [hlg, dn]) ?_
  refine ssq f3 ?_
  exact f4
end
end M
set_option Elab.async false
set_option linter.all false
set_option maxRecDepth 100000
set_option maxHeartbeats 4000000
namespace M
open PySem L2
local macro_rules
  | `(tactic| simp! only [$as,*]) => `(tactic| simp only [x_bind, bk_ok, bk_ite, x_ret, x_lift, lk_some, lk_ite, app_ite, x_eC, x_eV, vk_imm, vk_own, vk_bor, x_give, gk_own, x_bin, x_un, x_ix, x_tru, x_eB, dBl_bl, dTru_bl, dTru_int, dTru_lst, x_and, x_or, x_not, x_eAnd, x_eOr, x_eNot, x_eIf, x_chain, x_aNil, x_aCons, x_aVr, rk_own, rk_io, x_aVb, tk_own, tk_io, tk_imm, tk_bor, x_eTup, x_eLst, imms_nil, imms_im, x_eF, x_call, ixV_C, jk_imm, jk_own, jk_io, jk_bor, flk_int, x_lenV, nk_imm, nk_own, nk_io, nk_bor, x_inV, hk_imm, hk_own, hk_io, hk_bor, x_sNx, x_pass, x_cont, x_brk, x_seq, sk_nx, sk_rt, sk_rtO, sk_ct, sk_bk, sk_ite, x_drop, x_sRet, x_sRetO, x_sIf, x_asg, x_asgO, x_gN, x_gO, x_gNil, x_gCons, x_gTt, x_gTl, x_sApp, x_sSet, x_chM, ck_own, ck_io, x_iOf, x_iRg, x_fn, fk_rt, fk_nx, fk_ite, ios_z, ios_s, keep_io, keep_imm, keep_own, keep_bor, keep_no, dSub_i, dAdd_i, dLt_i, dLe_i, dGt_i, dGe_i, dEq_int, dNe_int, ix_lst, ix_scr, ix_tup, atI_0, atI_1, atI_2, atI_3, List.getElem?_cons_zero, List.getElem?_cons_succ, List.set_cons_zero, List.set_cons_succ, List.length_cons, List.length_nil, List.cons_append, List.nil_append, List.replicate_succ, List.replicate_zero, Option.map_some, Option.bind_some, Nat.reduceAdd, Nat.reduceSub, Nat.reduceLT, Nat.reduceLeDiff, if_true, if_false, Bool.false_eq_true, decide_eq_true_eq, reduceIte, ne_eq, not_false_eq_true, Nat.lt_add_left_iff_pos, Nat.zero_lt_succ, x_call1, x_call2, x_call3, x_call4, dk1, dk2, dk3, dk4, ixV_V, Nat.reduceEqDiff, not_false_eq_true, x_isLst, x_isSet, List.map_cons, List.map_nil, Option.map_none, Option.bind_none, x_eSl, x_eP0, x_eP1, part_i, $as,*])
noncomputable def vwT : Mo Out := (sSeq (sAsg (gN 16) (eCall m__law_told (aCons (eV 10) (aCons (eIxV 4 (eIxV 10 (eC (.int 0)))) aNil))))
 (sSeq (sAsg (gN 21) (eCall m_picture_of (aCons (eV 10) (aCons (eIxV 4 (eIxV 10 (eC (.int 0)))) aNil))))
 (sIf (tOrM (eB (eBin dNe (eF fList' (aCons (eV 21) aNil)) (eLc (iOf (eV 16)) (gN 22) tYesM (eIxV 22 (eC (.int 0))) [22]))) (eB (eBin dNe (eUn dVals (eV 21)) (eLc (iOf (eV 16)) (gN 22) tYesM (eIxV 22 (eC (.int 1))) [22]))))
 (sRet (eC (.bl false)))
 sNx)))
theorem c_0 {c : C2 × Int} : dIx (cvD c) (.int 0) = some (pD c.1) := atI_0
theorem c_1 {c : C2 × Int} : dIx (cvD c) (.int 1) = some (.int c.2) := atI_1
section
variable {s0 : Sl} {p N a : D} {y4 y5 s6 s7 s8 s9 s10 s11 s12 s13 s14 s15 s16 s17 s18 s19 s20 s21 : Sl} {vs : List V5}
theorem ev_vwT (o : VsOk vs) (k4 : Keep y4 (layD5 vs)) {v : V5} (hm : v ∈ vs) : vwT (hE s0 p N a y4 y5 s6 s7 s8 s9 (.imm (vD v)) s11 s12 s13 s14 s15 s16 s17 s18 s19 s20 s21 .no) = some (.ok .nx, hE s0 p N a y4 y5 s6 s7 s8 s9 (.imm (vD v)) s11 s12 s13 s14 s15 (.imm (.lst ((told v).map cvD))) s17 s18 s19 s20 (.imm (picD v)) .no) := by
  have il := ix_lay o hm
  have ov := o.ok v hm
  have et := ev_told ov
  have ct : ∀ δ, callM m__law_told [.im (vD v), .im (plD5 v)] δ = some (.ok (.lst ((told v).map cvD)), δ) := fun δ => by rw [x_call2, et]; rfl
  have ep := ev_pic ov
  have cp : ∀ δ, callM m_picture_of [.im (vD v), .im (plD5 v)] δ = some (.ok (picD v), δ) := fun δ => by rw [x_call2, ep]; rfl
  have hlt := told_len ov
  have e4 : ∀ {s16 s21 : Sl}, eIxV 4 (eIxV 10 (eC (.int 0))) (hE s0 p N a y4 y5 s6 s7 s8 s9 (.imm (vD v)) s11 s12 s13 s14 s15 s16 s17 s18 s19 s20 s21 .no) = some (.ok (plD5 v), hE s0 p N a y4 y5 s6 s7 s8 s9 (.imm (vD v)) s11 s12 s13 s14 s15 s16 s17 s18 s19 s20 s21 .no) := fun {s16 s21} => by
    rw [ixV_S (s := y4) (d := layD5 vs) (y := .str (mkS v.nm)) (δ' := hE s0 p N a y4 y5 s6 s7 s8 s9 (.imm (vD v)) s11 s12 s13 s14 s15 s16 s17 s18 s19 s20 s21 .no) rfl k4.sl.1 k4.sl.2 (by unfold hE; simp! only [v_0]) rfl, il]; rfl
  have hl : fList' [picD v] = some (.lst (((told v).map (·.1)).map pD)) := list_g
  have hv : dVals (picD v) = some (iD ((told v).map (·.2))) := by
    unfold picD
    rw [vals_g, pic_vals]
    unfold iD
    rw [List.map_map]; rfl
  have hi : itD (.lst ((told v).map cvD)) = some ((told v).map cvD) := rfl
  have x1 : eLc (iOf (eV 16)) (gN 22) tYesM (eIxV 22 (eC (.int 0))) [22] (hE s0 p N a y4 y5 s6 s7 s8 s9 (.imm (vD v)) s11 s12 s13 s14 s15 (.imm (.lst ((told v).map cvD))) s17 s18 s19 s20 (.imm (picD v)) .no) = some (.ok (.lst (((told v).map (·.1)).map pD)), hE s0 p N a y4 y5 s6 s7 s8 s9 (.imm (vD v)) s11 s12 s13 s14 s15 (.imm (.lst ((told v).map cvD))) s17 s18 s19 s20 (.imm (picD v)) .no) := by
    rw [eLc_map (l := told v) (g := cvD) (p := fun _ => true) (f := fun c => pD c.1) (δ0 := hE s0 p N a y4 y5 s6 s7 s8 s9 (.imm (vD v)) s11 s12 s13 s14 s15 (.imm (.lst ((told v).map cvD))) s17 s18 s19 s20 (.imm (picD v)) .no)]
    · rw [List.filter_eq_self.mpr (fun _ _ => rfl), List.map_map]; rfl
    · unfold hE; simp! only [hi]
    · omega
    · intro c _
      have y1 := c_0 (c := c)
      generalize D.lst ((told v).map cvD) = TD at *
      exact ⟨hE s0 p N a y4 y5 s6 s7 s8 s9 (.imm (vD v)) s11 s12 s13 s14 s15 (.imm TD) s17 s18 s19 s20 (.imm (picD v)) (.imm (cvD c)), hE s0 p N a y4 y5 s6 s7 s8 s9 (.imm (vD v)) s11 s12 s13 s14 s15 (.imm TD) s17 s18 s19 s20 (.imm (picD v)) (.imm (cvD c)), by unfold hE; simp! only [wipeE], rfl, (fun z => by cases z), fun _ => ⟨hE s0 p N a y4 y5 s6 s7 s8 s9 (.imm (vD v)) s11 s12 s13 s14 s15 (.imm TD) s17 s18 s19 s20 (.imm (picD v)) (.imm (cvD c)), by unfold hE; simp! only [y1], rfl⟩⟩
  have x2 : eLc (iOf (eV 16)) (gN 22) tYesM (eIxV 22 (eC (.int 1))) [22] (hE s0 p N a y4 y5 s6 s7 s8 s9 (.imm (vD v)) s11 s12 s13 s14 s15 (.imm (.lst ((told v).map cvD))) s17 s18 s19 s20 (.imm (picD v)) .no) = some (.ok (iD ((told v).map (·.2))), hE s0 p N a y4 y5 s6 s7 s8 s9 (.imm (vD v)) s11 s12 s13 s14 s15 (.imm (.lst ((told v).map cvD))) s17 s18 s19 s20 (.imm (picD v)) .no) := by
    rw [eLc_map (l := told v) (g := cvD) (p := fun _ => true) (f := fun c => .int c.2) (δ0 := hE s0 p N a y4 y5 s6 s7 s8 s9 (.imm (vD v)) s11 s12 s13 s14 s15 (.imm (.lst ((told v).map cvD))) s17 s18 s19 s20 (.imm (picD v)) .no)]
    · rw [List.filter_eq_self.mpr (fun _ _ => rfl)]
      unfold iD
      rw [List.map_map]; rfl
    · unfold hE; simp! only [hi]
    · omega
    · intro c _
      have y1 := c_1 (c := c)
      generalize D.lst ((told v).map cvD) = TD at *
      exact ⟨hE s0 p N a y4 y5 s6 s7 s8 s9 (.imm (vD v)) s11 s12 s13 s14 s15 (.imm TD) s17 s18 s19 s20 (.imm (picD v)) (.imm (cvD c)), hE s0 p N a y4 y5 s6 s7 s8 s9 (.imm (vD v)) s11 s12 s13 s14 s15 (.imm TD) s17 s18 s19 s20 (.imm (picD v)) (.imm (cvD c)), by unfold hE; simp! only [wipeE], rfl, (fun z => by cases z), fun _ => ⟨hE s0 p N a y4 y5 s6 s7 s8 s9 (.imm (vD v)) s11 s12 s13 s14 s15 (.imm TD) s17 s18 s19 s20 (.imm (picD v)) (.imm (cvD c)), by unfold hE; simp! only [y1], rfl⟩⟩
  have d1 := dNe_rfl (fine_ps ((told v).map (·.1)))
  have d2 := dNe_rfl (fine_iD ((told v).map (·.2)))
  generalize D.lst (((told v).map (·.1)).map pD) = KD at *
  generalize iD ((told v).map (·.2)) = VD at *
  generalize D.lst ((told v).map cvD) = TD at *
  generalize picD v = PD at *
  unfold vwT
  refine ssq (δ1 := hE s0 p N a y4 y5 s6 s7 s8 s9 (.imm (vD v)) s11 s12 s13 s14 s15 (.imm TD) s17 s18 s19 s20 s21 .no) (by
    have e4 := e4 (s16 := s16) (s21 := s21)
    unfold hE at e4 ⊢; simp! only [e4, ct]) ?_
  refine ssq (δ1 := hE s0 p N a y4 y5 s6 s7 s8 s9 (.imm (vD v)) s11 s12 s13 s14 s15 (.imm TD) s17 s18 s19 s20 (.imm PD) .no) (by
    have e4 := e4 (s16 := .imm TD) (s21 := s21)
    unfold hE at e4 ⊢; simp! only [e4, cp]) ?_
  refine s1f ?_
  unfold tOrM hE at *
  simp! only [hl, x1, d1, hv, x2, d2]
end
noncomputable def grpL : Mo Out := (sFor (iRg rg1 (aCons (eBin dAdd (eF fLen (aCons (eV 2) aNil)) (eC (.int 1))) aNil)) (gN 7) turnG)
noncomputable def tail15 : Mo Out := (sSeq (sAsgO 4 (eD0 (.dK [])))
 (sSeq (sAsgO 5 (eLst aNil))
 (sSeq (sFor (iRg rg1 (aCons (eF fLen (aCons (eV 2) aNil)) aNil)) (gN 6) bodyB)
 (sSeq grpL
 (sSeq (sFor (iOf (eV 5)) (gN 10) vwT)
 (sRet (eC (.bl true))))))))
theorem len_names {names : List (List Nat)} : fLen [strsD (names.map mkS)] = some (.int (names.length : Nat)) := by
  show some (D.int (((names.map mkS).map D.str).length : Nat)) = _
  rw [List.length_map, List.length_map]
theorem ev_build {ns : List Int} {p : D} (ip : IsPl ns p) {s0 : Sl} {names : List (List Nat)} (nok : ∀ l ∈ names, nmL l = true) (nd : names.Nodup) (hl : names.length ≤ 4) :
    ∃ p1 vs s6 s7 s8, sFor (iRg rg1 (aCons (eF fLen (aCons (eV 2) aNil)) aNil)) (gN 6) bodyB (wE s0 p (strsD (names.map mkS)) (albD5 []) (layD5 []) (.lst []) .no .no .no) = some (.ok .nx, wE s0 p1 (strsD (names.map mkS)) (albD5 vs) (layD5 vs) (.lst (vs.map vD)) s6 s7 s8) ∧ VsOk vs := by
  have ln := len_names (names := names)
  have hr1 := rg1_n (show names.length ≤ 1000 by omega)
  generalize hN : strsD (names.map mkS) = N at *
  obtain ⟨δ1, f1, p1, vs, s6, s7, s8, rfl, i1, hnm, ok⟩ := sFor_inv (I := (iRg rg1 (aCons (eF fLen (aCons (eV 2) aNil)) aNil))) (T := gN 6) (S := bodyB) (ds := rgD 0 names.length)
    (δ := wE s0 p N (albD5 []) (layD5 []) (.lst []) .no .no .no) (δ0 := wE s0 p N (albD5 []) (layD5 []) (.lst []) .no .no .no)
    (fun j δ => ∃ p vs s6 s7 s8, δ = wE s0 p N (albD5 vs) (layD5 vs) (.lst (vs.map vD)) s6 s7 s8 ∧ IsPl ns p ∧ vs.map (·.nm) = names.take j ∧ ∀ u ∈ vs, VOk u)
    (by
      generalize ((names.length : Nat) : Int) = NL at *
      unfold wE; simp! only [ln, hr1]) ⟨p, [], .no, .no, .no, rfl, ip, by rw [List.take_zero]; rfl, fun u m => by simp at m⟩ (fun j d δ hj hδ => by
      obtain ⟨p, vs, s6, s7, s8, rfl, ip, hnm, ok⟩ := hδ
      obtain ⟨hjj, rfl⟩ := rgD_get hj
      obtain ⟨v, p', s7', s8', e, ip', ov, hv⟩ := ev_body ip (s0 := s0) (s7 := s7) (s8 := s8) nok nd ok hjj hnm hl
      rw [hN] at e
      refine ⟨wE s0 p N (albD5 vs) (layD5 vs) (.lst (vs.map vD)) (.imm (.int (j : Nat))) s7 s8, _, by unfold wE; simp! only [], .inl e, p', vs ++ [v], _, _, _, rfl, ip', ?_, ?_⟩
      · rw [List.map_append, hnm, List.map_cons, List.map_nil, hv, take_snoc (List.getElem?_eq_getElem hjj)]
      · intro u m
        rcases List.mem_append.mp m with m | m
        · exact ok u m
        · rw [List.mem_singleton.mp m]; exact ov)
  rw [rgD_len, List.take_of_length_le (Nat.le_refl _)] at hnm
  exact ⟨p1, vs, s6, s7, s8, f1, ok, hnm ▸ nd, by have := congrArg List.length hnm; rw [List.length_map] at this; omega⟩
theorem ev_grps {vs : List V5} (o : VsOk vs) {s0 s6 s7 s8 : Sl} {p1 N : D} {n : Nat} (hn : n ≤ 4) (ln : fLen [N] = some (.int (n : Nat))) :
    ∃ y4 y5 z6 z7 z8 z9 z10 z11 z12 z13 z14 z15 z16 z17 z18 z19 z20 z21, grpL (wE s0 p1 N (albD5 vs) (layD5 vs) (.lst (vs.map vD)) s6 s7 s8) = some (.ok .nx, hE s0 p1 N (albD5 vs) y4 y5 z6 z7 z8 z9 z10 z11 z12 z13 z14 z15 z16 z17 z18 z19 z20 z21 .no) ∧ Keep y4 (layD5 vs) ∧ Keep y5 (.lst (vs.map vD)) := by
  have hr2 := rg1_n (show n + 1 ≤ 1000 by omega)
  have ec : ((n + 1 : Nat) : Int) = (n : Int) + 1 := by omega
  rw [ec] at hr2
  have da : dAdd (.int (n : Int)) (.int 1) = some (.int ((n : Int) + 1)) := rfl
  have ei : iRg rg1 (aCons (eBin dAdd (eF fLen (aCons (eV 2) aNil)) (eC (.int 1))) aNil) (wE s0 p1 N (albD5 vs) (layD5 vs) (.lst (vs.map vD)) s6 s7 s8) = some (.ok (rgD 0 (n + 1)), wE s0 p1 N (albD5 vs) (layD5 vs) (.lst (vs.map vD)) s6 s7 s8) := by
    generalize rgD 0 (n + 1) = RR at *
    generalize hX : (n : Int) + 1 = X at *
    generalize (n : Int) = NL at *
    have e1 : eBin dAdd (eF fLen (aCons (eV 2) aNil)) (eC (.int 1)) (wE s0 p1 N (albD5 vs) (layD5 vs) (.lst (vs.map vD)) s6 s7 s8) = some (.ok (.int X), wE s0 p1 N (albD5 vs) (layD5 vs) (.lst (vs.map vD)) s6 s7 s8) := by
      unfold wE
      rw [x_bin, x_eF, x_aCons]
      simp only [x_eV, List.getElem?_cons_zero, List.getElem?_cons_succ, vk_imm, bk_ok, x_aNil, x_bind, x_ret, imms_im, imms_nil, Option.map_some, Option.bind_some, x_lift, ln, lk_some, x_eC, da]
    rw [x_iRg, x_aCons, e1, bk_ok, x_bind, x_aNil, bk_ok, x_ret, bk_ok, imms_im, imms_nil, Option.map_some, Option.bind_some, hr2, x_lift, lk_some]
  obtain ⟨δ2, f2, y4, y5, z6, z7, z8, z9, z10, z11, z12, z13, z14, z15, z16, z17, z18, z19, z20, z21, rfl, k4, k5⟩ := sFor_inv (I := (iRg rg1 (aCons (eBin dAdd (eF fLen (aCons (eV 2) aNil)) (eC (.int 1))) aNil))) (T := gN 7) (S := turnG) (ds := rgD 0 (n + 1))
    (δ := wE s0 p1 N (albD5 vs) (layD5 vs) (.lst (vs.map vD)) s6 s7 s8) (δ0 := wE s0 p1 N (albD5 vs) (layD5 vs) (.lst (vs.map vD)) s6 s7 s8)
    (fun j δ => ∃ y4 y5 z6 z7 z8 z9 z10 z11 z12 z13 z14 z15 z16 z17 z18 z19 z20 z21, δ = hE s0 p1 N (albD5 vs) y4 y5 z6 z7 z8 z9 z10 z11 z12 z13 z14 z15 z16 z17 z18 z19 z20 z21 .no ∧ Keep y4 (layD5 vs) ∧ Keep y5 (.lst (vs.map vD)))
    ei ⟨_, _, _, _, _, _, _, _, _, _, _, _, _, _, _, _, _, _, rfl, .inl rfl, .inl rfl⟩ (fun j d δ hj hδ => by
      obtain ⟨y4, y5, z6, z7, z8, z9, z10, z11, z12, z13, z14, z15, z16, z17, z18, z19, z20, z21, rfl, k4, k5⟩ := hδ
      obtain ⟨hjj, rfl⟩ := rgD_get hj
      obtain ⟨x6, x9, x10, x11, x12, x13, x14, x15, x16, x17, x18, x19, x20, e⟩ := ev_turn (s0 := s0) (p := p1) (N := N) (s6 := z6) (s8 := z8) (s9 := z9) (s10 := z10) (s11 := z11) (s12 := z12) (s13 := z13) (s14 := z14) (s15 := z15) (s16 := z16) (s17 := z17) (s18 := z18) (s19 := z19) (s20 := z20) (s21 := z21) o (g := ((j : Nat) : Int)) k4 k5
      exact ⟨hE s0 p1 N (albD5 vs) y4 y5 z6 (.imm (.int (j : Nat))) z8 z9 z10 z11 z12 z13 z14 z15 z16 z17 z18 z19 z20 z21 .no, _, by unfold hE; simp! only [], .inl e, _, _, _, _, _, _, _, _, _, _, _, _, _, _, _, _, _, _, rfl, .inr rfl, .inr rfl⟩)
  exact ⟨_, _, _, _, _, _, _, _, _, _, _, _, _, _, _, _, _, _, f2, k4, k5⟩
theorem ev_views {vs : List V5} (o : VsOk vs) {s0 y4 y5 z6 z7 z8 z9 z10 z11 z12 z13 z14 z15 z16 z17 z18 z19 z20 z21 : Sl} {p1 N : D} (k4 : Keep y4 (layD5 vs)) (k5 : Keep y5 (.lst (vs.map vD))) :
    ∃ x10 x16 x21, sFor (iOf (eV 5)) (gN 10) vwT (hE s0 p1 N (albD5 vs) y4 y5 z6 z7 z8 z9 z10 z11 z12 z13 z14 z15 z16 z17 z18 z19 z20 z21 .no) = some (.ok .nx, hE s0 p1 N (albD5 vs) y4 (.imm (.lst (vs.map vD))) z6 z7 z8 z9 x10 z11 z12 z13 z14 z15 x16 z17 z18 z19 z20 x21 .no) := by
  obtain ⟨δ3, f3, x10, x16, x21, rfl⟩ := sFor_inv (I := iOf (eV 5)) (T := gN 10) (S := vwT) (ds := vs.map vD)
    (δ := hE s0 p1 N (albD5 vs) y4 y5 z6 z7 z8 z9 z10 z11 z12 z13 z14 z15 z16 z17 z18 z19 z20 z21 .no) (δ0 := hE s0 p1 N (albD5 vs) y4 (.imm (.lst (vs.map vD))) z6 z7 z8 z9 z10 z11 z12 z13 z14 z15 z16 z17 z18 z19 z20 z21 .no)
    (fun j δ => ∃ x10 x16 x21 : Sl, δ = hE s0 p1 N (albD5 vs) y4 (.imm (.lst (vs.map vD))) z6 z7 z8 z9 x10 z11 z12 z13 z14 z15 x16 z17 z18 z19 z20 x21 .no)
    (by
      have hi : itD (.lst (vs.map vD)) = some (vs.map vD) := rfl
      unfold hE
      rcases k5 with rfl | rfl
      · simp! only [hi]
      · simp! only [hi]) ⟨_, _, _, rfl⟩ (fun j d δ hj hδ => by
      obtain ⟨x10, x16, x21, rfl⟩ := hδ
      obtain ⟨v, hv, rfl⟩ := getmap hj
      exact ⟨hE s0 p1 N (albD5 vs) y4 (.imm (.lst (vs.map vD))) z6 z7 z8 z9 (.imm (vD v)) z11 z12 z13 z14 z15 x16 z17 z18 z19 z20 x21 .no, _, by unfold hE; simp! only [], .inl (ev_vwT o k4 (List.mem_of_getElem? hv)), _, _, _, rfl⟩)
  exact ⟨_, _, _, f3⟩
theorem ev_tail {ns : List Int} {p : D} (ip : IsPl ns p) {s0 : Sl} {names : List (List Nat)} (nok : ∀ l ∈ names, nmL l = true) (nd : names.Nodup) (hl : names.length ≤ 4) :
    ∃ s1 δ', tail15 [s0, .own p, .imm (strsD (names.map mkS)), .bor (.alb [] []), .no, .no, .no, .no, .no, .no, .no, .no, .no, .no, .no, .no, .no, .no, .no, .no, .no, .no, .no] = some (.ok (.rt (.bl true)), s0 :: s1 :: δ') := by
  obtain ⟨p1, vs, s6, s7, s8, f1, o⟩ := ev_build ip (s0 := s0) nok nd hl
  obtain ⟨y4, y5, z6, z7, z8, z9, z10, z11, z12, z13, z14, z15, z16, z17, z18, z19, z20, z21, f2, k4, k5⟩ := ev_grps o (s0 := s0) (s6 := s6) (s7 := s7) (s8 := s8) (p1 := p1) hl (len_names (names := names))
  obtain ⟨x10, x16, x21, f3⟩ := ev_views o (s0 := s0) (z6 := z6) (z7 := z7) (z8 := z8) (z9 := z9) (z10 := z10) (z11 := z11) (z12 := z12) (z13 := z13) (z14 := z14) (z15 := z15) (z16 := z16) (z17 := z17) (z18 := z18) (z19 := z19) (z20 := z20) (z21 := z21) (p1 := p1) (N := strsD (names.map mkS)) k4 k5
  generalize strsD (names.map mkS) = N at *
  refine ⟨.own p1, [.imm N, .bor (albD5 vs), y4, .imm (.lst (vs.map vD)), z6, z7, z8, z9, x10, z11, z12, z13, z14, z15, x16, z17, z18, z19, z20, x21, .no], ?_⟩
  unfold tail15
  refine ssq (δ1 := [s0, .own p, .imm N, .bor (albD5 []), .own (layD5 []), .no, .no, .no, .no, .no, .no, .no, .no, .no, .no, .no, .no, .no, .no, .no, .no, .no, .no]) rfl ?_
  refine ssq (δ1 := wE s0 p N (albD5 []) (layD5 []) (.lst []) .no .no .no) rfl ?_
  refine ssq f1 ?_
  refine ssq f2 ?_
  refine ssq f3 ?_
  unfold hE
  simp! only []
theorem law_true (ns : List Int) (hl : ns.length ≤ 63) : m_law [.imm (.scr (ns.map D.int))] = some (.ok (.bl true), [.no]) := by
  obtain ⟨d0, e0, i0⟩ := ev_pool (ns := ns)
  obtain ⟨t, d1, c1, i1, a1, b1⟩ := ev_tk1 i0 (m := 4) (by omega) (by omega)
  obtain ⟨n, hn⟩ : ∃ n : Nat, 1 + t = (n : Int) := ⟨(1 + t).toNat, by omega⟩
  obtain ⟨names, d2, en, i2, ln, nd, nok⟩ := ev_names (n := n) i1 (by omega)
  have en : callM m__law_names [.vr 1, .im (.int (n : Nat))] _ = _ := call_w1 (s0 := .imm (.scr (ns.map D.int))) (δ := [.no, .no, .no, .no, .no, .no, .no, .no, .no, .no, .no, .no, .no, .no, .no, .no, .no, .no, .no, .no, .no]) en
  have s0k : keepIo (Sl.imm (.scr (ns.map D.int))) = .no := rfl
  generalize hs0 : Sl.imm (.scr (ns.map D.int)) = s0 at *
  obtain ⟨s1, δ', et⟩ := ev_tail i2 (s0 := s0) nok nd (by omega)
  have ea := sAlb_ok (i := 3) (S := tail15) (δ := [s0, .own d2, .imm (strsD (names.map mkS)), .no, .no, .no, .no, .no, .no, .no, .no, .no, .no, .no, .no, .no, .no, .no, .no, .no, .no, .no, .no]) (by simp) et
  refine (fn_rt (d := .bl true) (δ1 := (s0 :: s1 :: δ').set 3 .no) ?_).trans (by rw [show ios 1 ((s0 :: s1 :: δ').set 3 .no) = [keepIo s0] from by cases δ' <;> rfl, s0k])
  unfold b_law
  refine ssq (δ1 := [s0, .own d0, .no, .no, .no, .no, .no, .no, .no, .no, .no, .no, .no, .no, .no, .no, .no, .no, .no, .no, .no, .no, .no]) (by subst hs0; simp! only [e0, x_gO]) ?_
  refine ssq (δ1 := [s0, .own d2, .imm (strsD (names.map mkS)), .no, .no, .no, .no, .no, .no, .no, .no, .no, .no, .no, .no, .no, .no, .no, .no, .no, .no, .no, .no]) (by simp! only [c1, hn, en]) ?_
  exact ea
end M
set_option Elab.async false
set_option linter.all false
set_option maxRecDepth 100000
set_option maxHeartbeats 0
namespace M
open PySem L2 PySem.Spec PyProof.Rows
theorem walk {l : PySem.W.OpenLaw} {q : Program} {loose : List Str} {XP : (Str → Option Value) → Heap → Prop} {YP : World → Heap → Prop} {d : DefRec} {K : Params → PySem.W.Frag} (hz : ∀ p, tabOf (K p) = none) (hn : l.most = some 63) (hdf : d.params.defaults = [])
    (hY : ∀ (w : World) (h : Heap), YP w h → (K w.params).In h)
    (F : ∀ (w : World) (mg : Str → Option Value) (fa : Addr) (h : Heap), (K w.params).In h → h.Ns mainGlobals mg → mg d.name = some (.ref fa) →
      ∃ fd : FuncData, (∀ (s : Shared) (u : Value), BindsTo s fd ⟨[u], []⟩ [("_law_script", u)]) ∧ ∀ base : Heap, (K w.params).In base → base.Ns mainGlobals mg → FnOk l.prog w (K w.params) mg base CX0 5 fa fd ["_law_script"] (spM Wn (K w.params) 1 false m_law)) :
    PySem.W.WalkO q loose XP YP l.row.toRowW d [] (fun f vs => PySem.call f vs) :=
  L2.walk_of (n := 63) (k := 5) (x := "_law_script") (CX := fun _ => CX0) (sp := fun w => spM Wn (K w.params) 1 false m_law) hn (by decide) hdf ⟨rfl, by decide, by decide⟩ hY F (fun _ H a ns hl on hS => law_sp (fun P hP => by rw [hz] at hP; cases hP) hS hl (law_true ns hl)) fun _ _ _ _ _ z => z
end M
open PySem PySem.W PyProof.Rows in
set_option maxRecDepth 100000 in
set_option maxHeartbeats 0 in
theorem PySem.Challenge.cw_laidviews_k15_gathered_grounds_holds : PySem.Challenge.rw_laidviews_k15_gathered_grounds.Holds := by
  w_on; o_law; k_head; (case hw => w_witness2)
  k_fill
  refine M.walk (l := PySem.Challenge.rw_laidviews_k15_gathered_grounds) (fun _ => rfl) rfl rfl (fun w h Y => PySem.W.kIn_of Y) ?F
  case F =>
    intro w mg fa h KX G hmg
    refine' M.all_mk KX G hmg ?y_ns ?y_pg ?y_hd ?y_po ?y_sa ?y_nv ?y_nl ?y_mk ?y_kp ?a0 ?l0 ?c0 ?k0 ?a1 ?l1 ?c1 ?k1 ?a2 ?l2 ?c2 ?k2 ?a3 ?l3 ?c3 ?k3 ?a4 ?l4 ?c4 ?k4 ?a5 ?i5 ?l5 ?c5 ?k5 ?a6 ?l6 ?c6 ?k6 ?a7 ?l7 ?c7 ?k7 ?a8 ?l8 ?c8 ?k8 ?a9 ?l9 ?c9 ?k9 ?a10 ?i10 ?l10 ?c10 ?k10 ?a11 ?i11 ?l11 ?c11 ?k11 ?a12 ?i12 ?l12 ?c12 ?k12 ?a13 ?l13 ?c13 ?k13 ?a14 ?l14 ?c14 ?k14 ?a15 ?l15 ?c15 ?k15 ?a16 ?l16 ?c16 ?k16 ?a17 ?l17 ?c17 ?k17 ?a18 ?l18 ?c18 ?k18 ?a19 ?l19 ?c19 ?k19 ?a20 ?l20 ?c20 ?k20 ?a21 ?l21 ?c21 ?k21 ?a22 ?l22 ?c22 ?k22 ?z_abs ?z_all ?z_bool ?z_int ?z_isinstance ?z_len ?z_list ?z_max ?z_min ?z_range ?z_sorted ?z_str ?z_tuple ?q_MAX_NAME ?q_MOST ?q_MAX_SIDE ?q_MAX_VIEWS
    (case y_ns => k_is)
    (case y_pg => k_is)
    (case y_hd => k_is)
    (case y_po => k_is)
    (case y_sa => k_is)
    (case y_nv => k_is)
    (case y_nl => k_is)
    (case y_mk => k_is)
    (case y_kp => k_is)
    (case a0 => k_is)
    (case l0 => k_is)
    (case c0 => k_is)
    (case k0 => k_is)
    (case a1 => k_is)
    (case l1 => k_is)
    (case c1 => k_is)
    (case k1 => k_is)
    (case a2 => k_is)
    (case l2 => k_is)
    (case c2 => k_is)
    (case k2 => k_is)
    (case a3 => k_is)
    (case l3 => k_is)
    (case c3 => k_is)
    (case k3 => k_is)
    (case a4 => k_is)
    (case l4 => k_is)
    (case c4 => k_is)
    (case k4 => k_is)
    (case a5 => k_is)
    (case i5 => k_is)
    (case l5 => k_is)
    (case c5 => k_is)
    (case k5 => k_is)
    (case a6 => k_is)
    (case l6 => k_is)
    (case c6 => k_is)
    (case k6 => k_is)
    (case a7 => k_is)
    (case l7 => k_is)
    (case c7 => k_is)
    (case k7 => k_is)
    (case a8 => k_is)
    (case l8 => k_is)
    (case c8 => k_is)
    (case k8 => k_is)
    (case a9 => k_is)
    (case l9 => k_is)
    (case c9 => k_is)
    (case k9 => k_is)
    (case a10 => k_is)
    (case i10 => k_is)
    (case l10 => k_is)
    (case c10 => k_is)
    (case k10 => k_is)
    (case a11 => k_is)
    (case i11 => k_is)
    (case l11 => k_is)
    (case c11 => k_is)
    (case k11 => k_is)
    (case a12 => k_is)
    (case i12 => k_is)
    (case l12 => k_is)
    (case c12 => k_is)
    (case k12 => k_is)
    (case a13 => k_is)
    (case l13 => k_is)
    (case c13 => k_is)
    (case k13 => k_is)
    (case a14 => k_is)
    (case l14 => k_is)
    (case c14 => k_is)
    (case k14 => k_is)
    (case a15 => k_is)
    (case l15 => k_is)
    (case c15 => k_is)
    (case k15 => k_is)
    (case a16 => k_is)
    (case l16 => k_is)
    (case c16 => k_is)
    (case k16 => k_is)
    (case a17 => k_is)
    (case l17 => k_is)
    (case c17 => k_is)
    (case k17 => k_is)
    (case a18 => k_is)
    (case l18 => k_is)
    (case c18 => k_is)
    (case k18 => k_is)
    (case a19 => k_is)
    (case l19 => k_is)
    (case c19 => k_is)
    (case k19 => k_is)
    (case a20 => k_is)
    (case l20 => k_is)
    (case c20 => k_is)
    (case k20 => k_is)
    (case a21 => k_is)
    (case l21 => k_is)
    (case c21 => k_is)
    (case k21 => k_is)
    (case a22 => k_is)
    (case l22 => k_is)
    (case c22 => k_is)
    (case k22 => k_is)
    (case z_abs => k_is)
    (case z_all => k_is)
    (case z_bool => k_is)
    (case z_int => k_is)
    (case z_isinstance => k_is)
    (case z_len => k_is)
    (case z_list => k_is)
    (case z_max => k_is)
    (case z_min => k_is)
    (case z_range => k_is)
    (case z_sorted => k_is)
    (case z_str => k_is)
    (case z_tuple => k_is)
    (case q_MAX_NAME => k_is)
    (case q_MOST => k_is)
    (case q_MAX_SIDE => k_is)
    (case q_MAX_VIEWS => k_is)
