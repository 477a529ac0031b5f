import PyProof.Rows.All
import Wide.All
import OpenK.AllK
import Wide.FinOn
import HandS.ForMost
import HandS.TupAny
import HandS.TupMul
import HandS.TupLen
import HandS.DictComp
import HandS.SortRule
import HandS.SortInts
import HandS.Deep
import HandS.Flow
import HandS.IsInst
import HandS.Style
import HandS.Conv
import HandS.NoneIn
import HandS.Lambda
import HandS.EndTab
import KE.KDictOf
import KE.KDictKeyed
import HandS.More
import KE.SortData
import HandS.AnyAll
import KE.SortKeyHeap
import HandS.DictEq
import HandS.DeepEq
import HandS.SetFor
import HandS.Strs
import KE.KNestM
import HandS.SetBool
import HandS.Rev
import HandS.RevTup
import HandS.DictTup
import HandS.OwnEq
import KE.KExcSuper
import HandS.ExcInit
import HandS.WordsExc
import HandS.ExcOwn
import KE.KExcIs
import KE.RegKIsAll
import HandS.Defaults
import PyProof.StrOps2
import HandS.Star
import PyProof.DictUpdate
import PyProof.Rows.StrMeet
import KE.KDictSum
import KE.KDictCopyH
import KE.KDictWalk
import HandS.Text
import HandS.RaiseMore
import PyProof.StrLawsTight
import PyProof.StrLawsChain
import KE.KIntText
import PySem.Challenge.RW_laidviews_k02_albums_read
set_option Elab.async false
set_option linter.all false
set_option maxRecDepth 100000
namespace M
open PySem L2
abbrev St := L2.St
/-- data, without addresses -/
inductive D where
  | non | bl (b : Bool) | int (i : Int) | str (s : Str)
  | tup (l : List D) | lst (l : List D) | scr (l : List D)
  | dK (l : List (Key × D)) | dT (l : List (List Key × D))
  /-- an album: its views, its links -/
  | alb (vs ls : List D)
  /-- a builder: its album's views and links, its name, its rows -/
  | bld (vs ls : List D) (nm : D) (rows : List D)
  deriving Inhabited
mutual
inductive R (K : PySem.W.Frag) (G : Hp) : V → D → Prop
  | non : R K G .non .non
  | bl (b : Bool) : R K G (.bl b) (.bl b)
  | int (i : Int) : R K G (.int i) (.int i)
  | str (s : Str) : R K G (.str s) (.str s)
  | tup {a : Addr} {xs : List V} {ds : List D} : G a = some (.tup xs) → xs.length ≤ sizeLine → RL K G xs ds → R K G (.ref a) (.tup ds)
  | lst {a : Addr} {xs : List V} {ds : List D} : G a = some (.lst xs) → xs.length ≤ sizeLine → RL K G xs ds → R K G (.ref a) (.lst ds)
  | scr {a : Addr} {xs : List V} {ds : List D} : SqL K G a xs → xs.length ≤ sizeLine → RL K G xs ds → R K G (.ref a) (.scr ds)
  | dK {a : Addr} {kvs : List (Key × V)} {ds : List (Key × D)} : G a = some (.dK kvs) → kvs.length ≤ sizeLine → kvs.map (·.1) = ds.map (·.1) → RL K G (kvs.map (·.2)) (ds.map (·.2)) → R K G (.ref a) (.dK ds)
  | dT {a : Addr} {kvs : List (List Key × V)} {ds : List (List Key × D)} : G a = some (.dT kvs) → kvs.length ≤ sizeLine → kvs.map (·.1) = ds.map (·.1) → RL K G (kvs.map (·.2)) (ds.map (·.2)) → R K G (.ref a) (.dT ds)
  | alb {p av al C dx : Addr} {xs ys : List V} {vs ls : List D} : PySem.W.nsIn K mainGlobals "Album" = some (some (.ref C)) → G p = some (.ins C dx [("_views", .ref av), ("_links", .ref al)]) → G av = some (.lst xs) → G al = some (.lst ys) → xs.length ≤ sizeLine → ys.length ≤ sizeLine → RL K G xs vs → RL K G ys ls → R K G (.ref p) (.alb vs ls)
  | bld {p ap av al rp CB CA dx dy : Addr} {xs ys zs : List V} {nv : V} {vs ls rows : List D} {nm : D} : PySem.W.nsIn K mainGlobals "Builder" = some (some (.ref CB)) → PySem.W.nsIn K mainGlobals "Album" = some (some (.ref CA)) → G p = some (.ins CB dx [("album", .ref ap), ("name", nv), ("rows", .ref rp)]) → G ap = some (.ins CA dy [("_views", .ref av), ("_links", .ref al)]) → G av = some (.lst xs) → G al = some (.lst ys) → G rp = some (.lst zs) → (xs.length ≤ sizeLine ∧ ys.length ≤ sizeLine ∧ zs.length ≤ sizeLine) → RL K G xs vs → RL K G ys ls → RL K G zs rows → R K G nv nm → R K G (.ref p) (.bld vs ls nm rows)
inductive RL (K : PySem.W.Frag) (G : Hp) : List V → List D → Prop
  | nil : RL K G [] []
  | cons {v : V} {vs : List V} {d : D} {ds : List D} : R K G v d → RL K G vs ds → RL K G (v :: vs) (d :: ds)
end
def Ext (G G' : Hp) : Prop := ∀ a o, G a = some o → G' a = some o
theorem Ext.refl (G : Hp) : Ext G G := fun _ _ h => h
theorem Ext.trans {G G1 G2 : Hp} (a : Ext G G1) (b : Ext G1 G2) : Ext G G2 := fun x o h => b x o (a x o h)
theorem Ext.new {G : Hp} {p : Addr} {o : HO} (h : G p = none) : Ext G (upd G p o) := fun a u e => by
  rw [upd_ne (ne_of_none e h)]; exact e
theorem Ext.sql {K : PySem.W.Frag} {G G' : Hp} {a : Addr} {xs : List V} (e : Ext G G') (h : SqL K G a xs) : SqL K G' a xs := by
  rcases h with (h | ⟨o, h⟩) | h
  · exact .inl (.inl (e _ _ h))
  · exact .inl (.inr ⟨o, e _ _ h⟩)
  · exact .inr h
section
variable {K : PySem.W.Frag} {G G' : Hp}
mutual
theorem R.mono (e : Ext G G') : ∀ {v : V} {d : D}, R K G v d → R K G' v d
  | _, _, .non => .non
  | _, _, .bl b => .bl b
  | _, _, .int i => .int i
  | _, _, .str s => .str s
  | _, _, .tup h l r => .tup (e _ _ h) l (RL.mono e r)
  | _, _, .lst h l r => .lst (e _ _ h) l (RL.mono e r)
  | _, _, .scr h l r => .scr (e.sql h) l (RL.mono e r)
  | _, _, .dK h l k r => .dK (e _ _ h) l k (RL.mono e r)
  | _, _, .dT h l k r => .dT (e _ _ h) l k (RL.mono e r)
  | _, _, .alb c h1 h2 h3 l1 l2 r1 r2 => .alb c (e _ _ h1) (e _ _ h2) (e _ _ h3) l1 l2 (RL.mono e r1) (RL.mono e r2)
  | _, _, .bld c1 c2 h1 h2 h3 h4 h5 l r1 r2 r3 r4 => .bld c1 c2 (e _ _ h1) (e _ _ h2) (e _ _ h3) (e _ _ h4) (e _ _ h5) l (RL.mono e r1) (RL.mono e r2) (RL.mono e r3) (R.mono e r4)
theorem RL.mono (e : Ext G G') : ∀ {vs : List V} {ds : List D}, RL K G vs ds → RL K G' vs ds
  | _, _, .nil => .nil
  | _, _, .cons h t => .cons (R.mono e h) (RL.mono e t)
end
theorem RL.length : ∀ {vs : List V} {ds : List D}, RL K G vs ds → vs.length = ds.length
  | _, _, .nil => rfl
  | _, _, .cons _ t => by rw [List.length_cons, List.length_cons, RL.length t]
theorem RL.get : ∀ {vs : List V} {ds : List D} {i : Nat} {d : D}, RL K G vs ds → ds[i]? = some d → ∃ v, vs[i]? = some v ∧ R K G v d
  | _, _, _, _, .nil, e => by simp at e
  | _, _, 0, _, .cons h _, e => by simp at e; subst e; exact ⟨_, rfl, h⟩
  | _, _, i + 1, d, .cons _ t, e => by
    obtain ⟨v, h1, h2⟩ := RL.get (i := i) (d := d) t (by simpa using e)
    exact ⟨v, by simpa using h1, h2⟩
theorem RL.append : ∀ {vs ws : List V} {ds es : List D}, RL K G vs ds → RL K G ws es → RL K G (vs ++ ws) (ds ++ es)
  | _, _, _, _, .nil, s => s
  | _, _, _, _, .cons h t, s => .cons h (RL.append t s)
theorem RL.set : ∀ {vs : List V} {ds : List D} (i : Nat) {v : V} {d : D}, RL K G vs ds → R K G v d → RL K G (vs.set i v) (ds.set i d)
  | _, _, _, _, _, .nil, _ => .nil
  | _, _, 0, _, _, .cons _ t, r => .cons r t
  | _, _, i + 1, _, _, .cons h t, r => .cons h (RL.set i t r)
theorem RL.take : ∀ {vs : List V} {ds : List D} (n : Nat), RL K G vs ds → RL K G (vs.take n) (ds.take n)
  | _, _, 0, _ => .nil
  | _, _, _ + 1, .nil => .nil
  | _, _, n + 1, .cons h t => .cons h (RL.take n t)
theorem RL.drop : ∀ {vs : List V} {ds : List D} (n : Nat), RL K G vs ds → RL K G (vs.drop n) (ds.drop n)
  | _, _, 0, r => r
  | _, _, _ + 1, .nil => .nil
  | _, _, n + 1, .cons _ t => RL.drop n t
theorem RL.rep {vs : List V} {ds : List D} (h : RL K G vs ds) : ∀ k : Nat, RL K G (List.replicate k vs).flatten (List.replicate k ds).flatten
  | 0 => .nil
  | k + 1 => by
    rw [List.replicate_succ, List.replicate_succ, List.flatten_cons, List.flatten_cons]
    exact RL.append h (RL.rep h k)
end
/-- objects that are dicts -/
def isD : HO → Bool
  | .dK _ => true
  | .dT _ => true
  | _ => false
/-- G is a view of H: dicts of it may be locked in H -/
def Vw (G H : Hp) : Prop := ∀ a o, G a = some o → H a = some o ∨ (isD o = true ∧ ∃ x, H a = some (.frz x o))
theorem Vw.there {G H : Hp} (h : Vw G H) {a : Addr} {o : HO} (e : G a = some o) : H a ≠ none := by
  rcases h a o e with h | ⟨_, x, h⟩ <;> rw [h] <;> simp
theorem Vw.none {G H : Hp} (h : Vw G H) {a : Addr} (e : H a = none) : G a = Option.none := by
  cases q : G a with
  | none => rfl
  | some o => exact absurd e (h.there q)
theorem Vw.tup {G H : Hp} (h : Vw G H) {a : Addr} {xs : List V} (e : G a = some (.tup xs)) : H a = some (.tup xs) := by
  rcases h a _ e with h | ⟨h, _⟩
  · exact h
  · cases h
theorem Vw.lst {G H : Hp} (h : Vw G H) {a : Addr} {xs : List V} (e : G a = some (.lst xs)) : H a = some (.lst xs) := by
  rcases h a _ e with h | ⟨h, _⟩
  · exact h
  · cases h
theorem Vw.rd {G H : Hp} (h : Vw G H) {a : Addr} {o : HO} (e : G a = some o) : Rd H a o := by
  rcases h a _ e with h | ⟨_, x, h⟩
  · exact .inl h
  · exact .inr ⟨x, h⟩
theorem Vw.frz {G H : Hp} (h : Vw G H) {a : Addr} {x : Obj} {o : HO} (e : G a = some (.frz x o)) : H a = some (.frz x o) := by
  rcases h a _ e with h | ⟨h, _⟩
  · exact h
  · cases h
theorem Vw.sql {K : PySem.W.Frag} {G H : Hp} (h : Vw G H) {a : Addr} {xs : List V} (e : SqL K G a xs) : SqL K H a xs := by
  rcases e with (e | ⟨o, e⟩) | e
  · exact .inl (.inl (h.lst e))
  · exact .inl (.inr ⟨o, h.frz e⟩)
  · exact .inr e
/-- a slot of a def's frame: nothing known; data that stay; data at an object of the frame's own; at an object that the caller lent to be changed; at one lent to be read -/
inductive Sl where
  | no | imm (d : D) | own (d : D) | io (d : D) | bor (d : D)
  deriving Inhabited
abbrev Env := List Sl
structure Bs where
  H0 : Hp
  G0 : Hp
  Bo : Nat → Hp
  IO : List (Nat × Addr)
inductive Ow (K : PySem.W.Frag) (G H : Hp) (p : Addr) : D → Prop
  | lst {xs : List V} {ds : List D} : H p = some (.lst xs) → xs.length ≤ sizeLine → RL K G xs ds → Ow K G H p (.lst ds)
  | dK {kvs : List (Key × V)} {ds : List (Key × D)} : H p = some (.dK kvs) → kvs.length ≤ sizeLine → kvs.map (·.1) = ds.map (·.1) → RL K G (kvs.map (·.2)) (ds.map (·.2)) → Ow K G H p (.dK ds)
  | dT {kvs : List (List Key × V)} {ds : List (List Key × D)} : H p = some (.dT kvs) → kvs.length ≤ sizeLine → kvs.map (·.1) = ds.map (·.1) → RL K G (kvs.map (·.2)) (ds.map (·.2)) → Ow K G H p (.dT ds)
section
variable {K : PySem.W.Frag} {G G' H H' : Hp} {p : Addr} {d : D}
theorem Ow.mono (e : Ext G G') (h : Ow K G H p d) : Ow K G' H p d := by
  cases h with
  | lst a l r => exact .lst a l (r.mono e)
  | dK a l k r => exact .dK a l k (r.mono e)
  | dT a l k r => exact .dT a l k (r.mono e)
theorem Ow.at' (e : H' p = H p) (h : Ow K G H p d) : Ow K G H' p d := by
  cases h with
  | lst a l r => exact .lst (e.trans a) l r
  | dK a l k r => exact .dK (e.trans a) l k r
  | dT a l k r => exact .dT (e.trans a) l k r
/-- the object there -/
theorem Ow.obj (h : Ow K G H p d) : ∃ o, H p = some o ∧ Mut (some o) ∧ ∀ G', G' p = some o → Ext G G' → R K G' (.ref p) d := by
  cases h with
  | lst a l r => exact ⟨_, a, trivial, fun G' g e => .lst g l (r.mono e)⟩
  | dK a l k r => exact ⟨_, a, trivial, fun G' g e => .dK g l k (r.mono e)⟩
  | dT a l k r => exact ⟨_, a, trivial, fun G' g e => .dT g l k (r.mono e)⟩
end
/-- the slot i holds an object of the frame's own (or lent) at p -/
def OwnAt (δ : Env) (σ : St) (i : Nat) (p : Addr) : Prop := (∃ d, δ[i]? = some (.own d) ∨ δ[i]? = some (.io d)) ∧ σ[i]? = some (some (.ref p))
def SlOk (K : PySem.W.Frag) (B : Bs) (G H : Hp) (i : Nat) (ov : Option V) : Sl → Prop
  | .no => True
  | .imm d => ∃ v, ov = some v ∧ R K G v d
  | .own d => ∃ p, ov = some (.ref p) ∧ G p = none ∧ Ow K G H p d ∧ B.H0 p = none
  | .io d => ∃ p, ov = some (.ref p) ∧ G p = none ∧ Ow K G H p d ∧ (i, p) ∈ B.IO
  | .bor d => ∃ v, ov = some v ∧ R K (B.Bo i) v d
/-- the table of by_rows's code object, by the known objects -/
def codeTab (o : Obj) : Option Addr := match o with
  | ⟨_, _, .fields vs, _⟩ => match vs.toList with
    | _ :: .str n _ :: _ => if (n == ("" : Str)) = true then (match (vs[11]? : Option Value) with
      | some (Value.ref P) => some P
      | _ => none) else none
    | _ => none
  | _ => none
def tabOf (K : PySem.W.Frag) : Option Addr := K.findSome? fun p => codeTab p.2
abbrev tabQ : Str := "by_rows.<locals>.<lambda>"
/-- neither a tuple nor a table nor a code object -/
structure NT (o : HO) : Prop where
  tup : ∀ xs, o ≠ .tup xs
  tbl : ∀ ps, o ≠ .tbl ps
  code : ∀ c q, o ≠ LamX.CodeO c q
theorem nt_lst {xs : List V} : NT (.lst xs) := ⟨fun _ e => (by cases e), fun _ e => (by cases e), fun _ _ e => (by unfold LamX.CodeO at e; cases e)⟩
theorem nt_dK {xs : List (Key × V)} : NT (.dK xs) := ⟨fun _ e => (by cases e), fun _ e => (by cases e), fun _ _ e => (by unfold LamX.CodeO at e; cases e)⟩
theorem nt_dT {xs : List (List Key × V)} : NT (.dT xs) := ⟨fun _ e => (by cases e), fun _ e => (by cases e), fun _ _ e => (by unfold LamX.CodeO at e; cases e)⟩
theorem tabS_upd {H : Hp} {P p : Addr} {q : Str} {o o' : HO} (t : LamX.TabS H P q) (h : H p = some o) (n : NT o) : LamX.TabS (upd H p o') P q := by
  obtain ⟨ps, h1, h2, h3⟩ := t
  have c1 : P ≠ p := fun c => by subst c; rw [h] at h1; cases h1; exact n.tbl _ rfl
  refine ⟨ps, by rw [upd_ne c1]; exact h1, h2, fun pos cv hc => ?_⟩
  obtain ⟨c, e1, e2⟩ := h3 pos cv hc
  have c2 : c ≠ p := fun z => by subst z; rw [h] at e2; cases e2; exact n.code _ _ rfl
  exact ⟨c, e1, by rw [upd_ne c2]; exact e2⟩
theorem tabS_new {H : Hp} {P p : Addr} {q : Str} {o' : HO} (t : LamX.TabS H P q) (h : H p = none) : LamX.TabS (upd H p o') P q := t.ext fun b o e => by rw [upd_ne (ne_of_none e h)]; exact e
theorem Ow.nt {K : PySem.W.Frag} {G H : Hp} {p : Addr} {d : D} (h : Ow K G H p d) : ∃ o, H p = some o ∧ NT o := by
  cases h with
  | lst a l r => exact ⟨_, a, nt_lst⟩
  | dK a l k r => exact ⟨_, a, nt_dK⟩
  | dT a l k r => exact ⟨_, a, nt_dT⟩
theorem notbl_upd {G : Hp} {p : Addr} {o : HO} (h : ∀ b ps, G b ≠ some (.tbl ps)) (n : ∀ ps, o ≠ .tbl ps) : ∀ b ps, upd G p o b ≠ some (.tbl ps) := fun b ps e => by
  by_cases c : b = p
  · rw [c, upd_same] at e; cases e; exact n _ rfl
  · rw [upd_ne c] at e; exact h b ps e
theorem mut_notbl {o : HO} (h : Mut (some o)) : ∀ ps, o ≠ .tbl ps := fun xs e => by subst e; exact h
structure At (K : PySem.W.Frag) (B : Bs) (G : Hp) (δ : Env) (σ : St) (H : Hp) : Prop where
  vw : Vw G H
  g0 : Ext B.G0 G
  keep : ∀ a o, B.H0 a = some o → (∀ i, (i, a) ∉ B.IO) → H a = some o
  dom : ∀ a, B.H0 a ≠ none → H a ≠ none
  leak : ∀ a o, B.H0 a = some o → (∀ xs, o ≠ .tup xs) → B.G0 a = none → G a = none
  iok : ∀ i a, (i, a) ∈ B.IO → B.G0 a = none ∧ B.H0 a ≠ none ∧ (∀ j, B.Bo j a = none) ∧ ∃ o, H a = some o ∧ Mut (some o)
  bo : ∀ j, Vw (B.Bo j) H
  bod : ∀ j a, B.Bo j a ≠ none → B.H0 a ≠ none
  len : δ.length = σ.length
  sl : ∀ i s, δ[i]? = some s → ∃ ov, σ[i]? = some ov ∧ SlOk K B G H i ov s
  apart : ∀ i j p, OwnAt δ σ i p → OwnAt δ σ j p → i = j
  tb : (∀ P, tabOf K = some P → LamX.TabS H P tabQ) ∧ (∀ b ps, B.H0 b ≠ some (.tbl ps)) ∧ (∀ b ps, G b ≠ some (.tbl ps)) ∧ (∀ j b ps, B.Bo j b ≠ some (.tbl ps)) ∧ ∀ i b xs, (i, b) ∈ B.IO → B.H0 b ≠ some (.tup xs)
section
variable {K : PySem.W.Frag} {B : Bs} {G G' H H' : Hp} {δ : Env} {σ : St} {i : Nat} {p : Addr} {o : HO} {d : D} {v : V}
theorem mut_notup (h : Mut (some o)) : ∀ xs, o ≠ .tup xs := fun xs e => by subst e; exact h
theorem At.imm (h : At K B G δ σ H) (e : δ[i]? = some (.imm d)) : ∃ v, σ[i]? = some (some v) ∧ R K G v d := by
  obtain ⟨ov, h1, v, rfl, r⟩ := h.sl i _ e
  exact ⟨v, h1, r⟩
theorem At.bor (h : At K B G δ σ H) (e : δ[i]? = some (.bor d)) : ∃ v, σ[i]? = some (some v) ∧ R K (B.Bo i) v d := by
  obtain ⟨ov, h1, v, rfl, r⟩ := h.sl i _ e
  exact ⟨v, h1, r⟩
theorem At.own (h : At K B G δ σ H) (e : δ[i]? = some (.own d)) : ∃ p, σ[i]? = some (some (.ref p)) ∧ G p = none ∧ Ow K G H p d ∧ B.H0 p = none := by
  obtain ⟨ov, h1, p, rfl, r⟩ := h.sl i _ e
  exact ⟨p, h1, r⟩
theorem At.io (h : At K B G δ σ H) (e : δ[i]? = some (.io d)) : ∃ p, σ[i]? = some (some (.ref p)) ∧ G p = none ∧ Ow K G H p d ∧ (i, p) ∈ B.IO := by
  obtain ⟨ov, h1, p, rfl, r⟩ := h.sl i _ e
  exact ⟨p, h1, r⟩
/-- own or lent -/
theorem At.ownAt (h : At K B G δ σ H) {j : Nat} (e : OwnAt δ σ j p) : G p = none ∧ ∃ d, Ow K G H p d := by
  obtain ⟨⟨d, e | e⟩, e2⟩ := e
  · obtain ⟨q, h1, h2, h3, _⟩ := h.own e
    rw [h1] at e2; cases e2
    exact ⟨h2, d, h3⟩
  · obtain ⟨q, h1, h2, h3, _⟩ := h.io e
    rw [h1] at e2; cases e2
    exact ⟨h2, d, h3⟩
theorem At.lt (h : At K B G δ σ H) {s : Sl} (e : δ[i]? = some s) : i < σ.length := by
  have := (List.getElem?_eq_some_iff.mp e).1
  rw [← h.len]; exact this
/-- H grows by an object that nobody knows -/
theorem At.alloc (h : At K B G δ σ H) (n : H p = none) : At K B G δ σ (upd H p o) := by
  have ne : ∀ a, H a ≠ none → a ≠ p := fun a q z => q (by rw [z]; exact n)
  have vw : ∀ F, Vw F H → Vw F (upd H p o) := fun F q a u e => by rw [upd_ne (ne a (q.there e))]; exact q a u e
  refine ⟨vw _ h.vw, h.g0, fun a u e z => ?_, fun a e => ?_, h.leak, fun i a e => ?_, fun j => vw _ (h.bo j), h.bod, h.len, fun i s e => ?_, h.apart, ⟨fun P hP => tabS_new (h.tb.1 P hP) n, h.tb.2⟩⟩
  · have q := h.keep a u e z
    rw [upd_ne (ne a (by rw [q]; simp))]; exact q
  · rw [upd_ne (ne a (h.dom a e))]; exact h.dom a e
  · obtain ⟨a1, a2, a3, u, a4, a5⟩ := h.iok i a e
    exact ⟨a1, a2, a3, u, by rw [upd_ne (ne a (by rw [a4]; simp))]; exact a4, a5⟩
  · obtain ⟨ov, h1, h2⟩ := h.sl i s e
    refine ⟨ov, h1, ?_⟩
    cases s with
    | no => trivial
    | imm d => exact h2
    | bor d => exact h2
    | own d =>
      obtain ⟨q, a1, a2, a3, a4⟩ := h2
      obtain ⟨u, b1, _⟩ := a3.obj
      exact ⟨q, a1, a2, a3.at' (upd_ne (ne q (by rw [b1]; simp))), a4⟩
    | io d =>
      obtain ⟨q, a1, a2, a3, a4⟩ := h2
      obtain ⟨u, b1, _⟩ := a3.obj
      exact ⟨q, a1, a2, a3.at' (upd_ne (ne q (by rw [b1]; simp))), a4⟩
theorem At.fresh0 (h : At K B G δ σ H) (n : H p = none) : B.H0 p = none := by
  cases q : B.H0 p with
  | none => rfl
  | some u => exact absurd n (h.dom p (by rw [q]; simp))
theorem At.noOwn (h : At K B G δ σ H) (n : H p = none) : ∀ j, ¬ OwnAt δ σ j p := fun j e => by
  obtain ⟨_, d, w⟩ := h.ownAt e
  obtain ⟨u, b, _⟩ := w.obj
  rw [n] at b; cases b
/-- an object that H has, nobody's own, is told to be fixed -/
theorem At.fix (h : At K B G δ σ H) (e : H p = some o) (g : G p = none) (h0 : B.H0 p = none) (no : ∀ j, ¬ OwnAt δ σ j p) (nt : ∀ ps, o ≠ .tbl ps) : At K B (upd G p o) δ σ H := by
  have ex : Ext G (upd G p o) := Ext.new g
  refine ⟨fun a u q => ?_, h.g0.trans ex, h.keep, h.dom, fun a u q t z => ?_, h.iok, h.bo, h.bod, h.len, fun i s q => ?_, h.apart, ⟨h.tb.1, h.tb.2.1, notbl_upd h.tb.2.2.1 nt, h.tb.2.2.2⟩⟩
  · by_cases c : a = p
    · subst c; rw [upd_same] at q; cases q; exact .inl e
    · rw [upd_ne c] at q; exact h.vw a u q
  · have c : a ≠ p := fun c => by rw [c, h0] at q; cases q
    rw [upd_ne c]; exact h.leak a u q t z
  · obtain ⟨ov, h1, h2⟩ := h.sl i s q
    refine ⟨ov, h1, ?_⟩
    cases s with
    | no => trivial
    | imm d => obtain ⟨v, a, r⟩ := h2; exact ⟨v, a, r.mono ex⟩
    | bor d => exact h2
    | own d =>
      obtain ⟨b, a1, a2, a3, a4⟩ := h2
      subst a1
      have c : b ≠ p := fun c => by subst c; exact no i ⟨⟨d, .inl q⟩, h1⟩
      exact ⟨b, rfl, by rw [upd_ne c]; exact a2, a3.mono ex, a4⟩
    | io d =>
      obtain ⟨b, a1, a2, a3, a4⟩ := h2
      subst a1
      have c : b ≠ p := fun c => by subst c; exact no i ⟨⟨d, .inr q⟩, h1⟩
      exact ⟨b, rfl, by rw [upd_ne c]; exact a2, a3.mono ex, a4⟩
/-- a new object, told to be fixed -/
theorem At.laid (h : At K B G δ σ H) (n : H p = none) (nt : ∀ ps, o ≠ .tbl ps) : At K B (upd G p o) δ σ (upd H p o) :=
  (h.alloc n).fix upd_same (h.vw.none n) (h.fresh0 n) (h.noOwn n) nt
/-- tuples that H has may always be told -/
theorem At.tuple (h : At K B G δ σ H) {xs : List V} (e : H p = some (.tup xs)) : ∃ G', At K B G' δ σ H ∧ Ext G G' ∧ G' p = some (.tup xs) := by
  cases g : G p with
  | some u =>
    have q : u = .tup xs := by
      rcases h.vw p u g with z | ⟨_, x, z⟩
      · rw [e] at z; exact (Option.some.inj z).symm
      · rw [e] at z; cases z
    subst q
    exact ⟨G, h, Ext.refl G, g⟩
  | none =>
    have ex : Ext G (upd G p (.tup xs)) := Ext.new g
    have no : ∀ j, ¬ OwnAt δ σ j p := fun j q => by
      obtain ⟨_, d, w⟩ := h.ownAt q
      obtain ⟨u, b, m, _⟩ := w.obj
      rw [e] at b; cases b; exact m
    refine ⟨upd G p (.tup xs), ⟨fun a u q => ?_, h.g0.trans ex, h.keep, h.dom, fun a u q t z => ?_, h.iok, h.bo, h.bod, h.len, fun i s q => ?_, h.apart, ⟨h.tb.1, h.tb.2.1, notbl_upd h.tb.2.2.1 (fun _ z => by cases z), h.tb.2.2.2⟩⟩, ex, upd_same⟩
    · by_cases c : a = p
      · subst c; rw [upd_same] at q; cases q; exact .inl e
      · rw [upd_ne c] at q; exact h.vw a u q
    · have c : a ≠ p := fun c => by
        subst c
        by_cases io : ∀ i, (i, a) ∉ B.IO
        · have := h.keep a u q io
          rw [e] at this; cases this
          exact t xs rfl
        · have ⟨i, io⟩ : ∃ i, (i, a) ∈ B.IO := Classical.byContradiction fun z => io fun i hi => z ⟨i, hi⟩
          obtain ⟨_, _, _, u', z1, z2⟩ := h.iok i a io
          rw [e] at z1; cases z1; exact z2
      rw [upd_ne c]; exact h.leak a u q t z
    · obtain ⟨ov, h1, h2⟩ := h.sl i s q
      refine ⟨ov, h1, ?_⟩
      cases s with
      | no => trivial
      | imm d => obtain ⟨v, a, r⟩ := h2; exact ⟨v, a, r.mono ex⟩
      | bor d => exact h2
      | own d =>
        obtain ⟨b, a1, a2, a3, a4⟩ := h2
        subst a1
        have c : b ≠ p := fun c => by subst c; exact no i ⟨⟨d, .inl q⟩, h1⟩
        exact ⟨b, rfl, by rw [upd_ne c]; exact a2, a3.mono ex, a4⟩
      | io d =>
        obtain ⟨b, a1, a2, a3, a4⟩ := h2
        subst a1
        have c : b ≠ p := fun c => by subst c; exact no i ⟨⟨d, .inr q⟩, h1⟩
        exact ⟨b, rfl, by rw [upd_ne c]; exact a2, a3.mono ex, a4⟩
theorem get_set {α : Type} {l : List α} {i j : Nat} {x y : α} (h : (l.set i x)[j]? = some y) : (i = j ∧ y = x ∧ i < l.length) ∨ (i ≠ j ∧ l[j]? = some y) := by
  by_cases c : i = j
  · subst c
    by_cases z : i < l.length
    · rw [List.getElem?_set_self z] at h; exact .inl ⟨rfl, (Option.some.inj h).symm, z⟩
    · rw [List.getElem?_eq_none (by rw [List.length_set]; omega)] at h; cases h
  · rw [List.getElem?_set_ne c] at h; exact .inr ⟨c, h⟩
/-- a slot is stored: data that stay -/
theorem At.setImm (h : At K B G δ σ H) (r : R K G v d) (i : Nat) : At K B G (δ.set i (.imm d)) (σ.set i (some v)) H := by
  refine ⟨h.vw, h.g0, h.keep, h.dom, h.leak, h.iok, h.bo, h.bod, by rw [List.length_set, List.length_set]; exact h.len, fun j s e => ?_, fun j k p e1 e2 => ?_, h.tb⟩
  · rcases get_set e with ⟨rfl, rfl, z⟩ | ⟨c, e⟩
    · exact ⟨some v, List.getElem?_set_self (by rw [← h.len]; exact z), v, rfl, r⟩
    · obtain ⟨ov, h1, h2⟩ := h.sl j s e
      exact ⟨ov, by rw [List.getElem?_set_ne c]; exact h1, h2⟩
  · have back : ∀ j, OwnAt (δ.set i (.imm d)) (σ.set i (some v)) j p → OwnAt δ σ j p := fun j e => by
      obtain ⟨⟨d', e | e⟩, e2⟩ := e
      · rcases get_set e with ⟨_, q, _⟩ | ⟨c, e⟩
        · cases q
        · rw [List.getElem?_set_ne c] at e2; exact ⟨⟨d', .inl e⟩, e2⟩
      · rcases get_set e with ⟨_, q, _⟩ | ⟨c, e⟩
        · cases q
        · rw [List.getElem?_set_ne c] at e2; exact ⟨⟨d', .inr e⟩, e2⟩
    exact h.apart j k p (back j e1) (back k e2)
/-- .. an object of its own -/
theorem At.setOwn (h : At K B G δ σ H) (g : G p = none) (w : Ow K G H p d) (h0 : B.H0 p = none) (no : ∀ j, ¬ OwnAt δ σ j p) (i : Nat) : At K B G (δ.set i (.own d)) (σ.set i (some (.ref p))) H := by
  refine ⟨h.vw, h.g0, h.keep, h.dom, h.leak, h.iok, h.bo, h.bod, by rw [List.length_set, List.length_set]; exact h.len, fun j s e => ?_, fun j k q e1 e2 => ?_, h.tb⟩
  · rcases get_set e with ⟨rfl, rfl, z⟩ | ⟨c, e⟩
    · exact ⟨some (.ref p), List.getElem?_set_self (by rw [← h.len]; exact z), p, rfl, g, w, h0⟩
    · obtain ⟨ov, h1, h2⟩ := h.sl j s e
      exact ⟨ov, by rw [List.getElem?_set_ne c]; exact h1, h2⟩
  · have back : ∀ j, OwnAt (δ.set i (.own d)) (σ.set i (some (.ref p))) j q → (i = j ∧ q = p) ∨ (i ≠ j ∧ OwnAt δ σ j q) := fun j e => by
      obtain ⟨⟨d', e⟩, e2⟩ := e
      by_cases c : i = j
      · subst c
        rcases get_set e2 with ⟨_, q2, _⟩ | ⟨c, _⟩
        · cases q2; exact .inl ⟨rfl, rfl⟩
        · exact absurd rfl c
      · rw [List.getElem?_set_ne c] at e2
        refine .inr ⟨c, ⟨d', ?_⟩, e2⟩
        rcases e with e | e
        · rw [List.getElem?_set_ne c] at e; exact .inl e
        · rw [List.getElem?_set_ne c] at e; exact .inr e
    rcases back j e1 with ⟨a1, a2⟩ | ⟨a1, a2⟩ <;> rcases back k e2 with ⟨b1, b2⟩ | ⟨b1, b2⟩
    · omega
    · subst a2; exact absurd b2 (no k)
    · subst b2; exact absurd a2 (no j)
    · exact h.apart j k q a2 b2
/-- forgetting -/
theorem At.forget (h : At K B G δ σ H) {δ' : Env} {σ' : St} (hl : δ'.length = σ'.length) (w : ∀ (i : Nat) (s : Sl), δ'[i]? = some s → s = Sl.no ∨ (δ[i]? = some s ∧ σ'[i]? = σ[i]?)) : At K B G δ' σ' H := by
  refine ⟨h.vw, h.g0, h.keep, h.dom, h.leak, h.iok, h.bo, h.bod, hl, fun j s e => ?_, fun j k q e1 e2 => ?_, h.tb⟩
  · rcases w j s e with rfl | ⟨e1, e2⟩
    · have : j < σ'.length := by rw [← hl]; exact (List.getElem?_eq_some_iff.mp e).1
      exact ⟨σ'[j], List.getElem?_eq_getElem this, trivial⟩
    · obtain ⟨ov, h1, h2⟩ := h.sl j s e1
      exact ⟨ov, e2.trans h1, h2⟩
  · have back : ∀ j, OwnAt δ' σ' j q → OwnAt δ σ j q := fun j e => by
      obtain ⟨⟨d', e | e⟩, e2⟩ := e
      · rcases w j _ e with z | ⟨z1, z2⟩
        · cases z
        · exact ⟨⟨d', .inl z1⟩, z2 ▸ e2⟩
      · rcases w j _ e with z | ⟨z1, z2⟩
        · cases z
        · exact ⟨⟨d', .inr z1⟩, z2 ▸ e2⟩
    exact h.apart j k q (back j e1) (back k e2)
/-- a slot's own object is told to be fixed from now on -/
theorem At.freeze (h : At K B G δ σ H) (e : δ[i]? = some (.own d)) : ∃ G' p, σ[i]? = some (some (.ref p)) ∧ R K G' (.ref p) d ∧ Ext G G' ∧ At K B G' (δ.set i (.imm d)) σ H := by
  obtain ⟨p, h1, h2, h3, h4⟩ := h.own e
  obtain ⟨o, b1, bm, b2⟩ := h3.obj
  have ex : Ext G (upd G p o) := Ext.new h2
  have hf : At K B G (δ.set i .no) σ H := h.forget (by rw [List.length_set]; exact h.len) fun j s q => by
    rcases get_set q with ⟨rfl, rfl, _⟩ | ⟨c, q⟩
    · exact .inl rfl
    · exact .inr ⟨q, rfl⟩
  have hg := hf.fix b1 h2 h4 (fun j q => by
    have c : i ≠ j := fun c => by
      subst c
      obtain ⟨⟨d', z | z⟩, _⟩ := q
      · rcases get_set z with ⟨_, y, _⟩ | ⟨y, _⟩
        · cases y
        · exact y rfl
      · rcases get_set z with ⟨_, y, _⟩ | ⟨y, _⟩
        · cases y
        · exact y rfl
    have q' : OwnAt δ σ j p := by
      obtain ⟨⟨d', z⟩, y⟩ := q
      rw [List.getElem?_set_ne c] at z
      exact ⟨⟨d', z⟩, y⟩
    exact c (h.apart i j p ⟨⟨d, .inl e⟩, h1⟩ q')) (mut_notbl bm)
  have hr : R K (upd G p o) (.ref p) d := b2 _ upd_same ex
  refine ⟨upd G p o, p, h1, hr, ex, ?_⟩
  have hi := hg.setImm hr i
  rw [List.set_set] at hi
  have : σ.set i (some (.ref p)) = σ := by
    apply List.ext_getElem?
    intro j
    by_cases c : i = j
    · subst c
      rw [List.getElem?_set_self (h.lt e)]; exact h1.symm
    · rw [List.getElem?_set_ne c]
  rw [this] at hi
  exact hi
/-- an own (or lent) object is changed -/
theorem At.change (h : At K B G δ σ H) {d' : D} {s s' : Sl} (e : δ[i]? = some s) (hs : (s = .own d ∧ s' = .own d') ∨ (s = .io d ∧ s' = .io d')) (hp : σ[i]? = some (some (.ref p))) (m : Mut (some o)) (w : Ow K G (upd H p o) p d') :
    At K B G (δ.set i s') σ (upd H p o) := by
  have oa : OwnAt δ σ i p := by
    rcases hs with ⟨rfl, _⟩ | ⟨rfl, _⟩
    · exact ⟨⟨d, .inl e⟩, hp⟩
    · exact ⟨⟨d, .inr e⟩, hp⟩
  obtain ⟨gp, dd, w0⟩ := h.ownAt oa
  obtain ⟨o0, hp0, m0, _⟩ := w0.obj
  have back : ∀ j q, OwnAt (δ.set i s') σ j q → OwnAt δ σ j q := fun j q z => by
    by_cases c : i = j
    · subst c
      obtain ⟨_, z2⟩ := z
      rw [hp] at z2; cases z2; exact oa
    · obtain ⟨⟨d', z⟩, y⟩ := z
      rw [List.getElem?_set_ne c] at z
      exact ⟨⟨d', z⟩, y⟩
  have bop : ∀ j, B.Bo j p = none := fun j => by
    rcases hs with ⟨rfl, _⟩ | ⟨rfl, _⟩
    · obtain ⟨q, h1, _, _, h4⟩ := h.own e
      rw [hp] at h1; cases h1
      cases z : B.Bo j p with
      | none => rfl
      | some u => exact absurd h4 (h.bod j p (by rw [z]; simp))
    · obtain ⟨q, h1, _, _, h4⟩ := h.io e
      rw [hp] at h1; cases h1
      exact (h.iok i p h4).2.2.1 j
  refine ⟨fun a u q => ?_, h.g0, fun a u q z => ?_, fun a q => ?_, h.leak, fun j a q => ?_, fun jj a u q => ?_, h.bod, by rw [List.length_set]; exact h.len, fun j t q => ?_, fun j k q e1 e2 => h.apart j k q (back j q e1) (back k q e2), ⟨fun P hP => (by obtain ⟨oo, x1, x2⟩ := w0.nt; exact tabS_upd (h.tb.1 P hP) x1 x2), h.tb.2⟩⟩
  · rw [upd_ne (fun c => by rw [c, gp] at q; cases q)]; exact h.vw a u q
  · have c : a ≠ p := fun c => by
      subst c
      rcases hs with ⟨rfl, _⟩ | ⟨rfl, _⟩
      · obtain ⟨b, h1, _, _, h4⟩ := h.own e
        rw [hp] at h1; cases h1
        rw [h4] at q; cases q
      · obtain ⟨b, h1, _, _, h4⟩ := h.io e
        rw [hp] at h1; cases h1
        exact z i h4
    rw [upd_ne c]; exact h.keep a u q z
  · by_cases c : a = p
    · rw [c, upd_same]; simp
    · rw [upd_ne c]; exact h.dom a q
  · obtain ⟨a1, a2, a3, u, a4, a5⟩ := h.iok j a q
    refine ⟨a1, a2, a3, ?_⟩
    by_cases c : a = p
    · exact ⟨o, by rw [c, upd_same], m⟩
    · exact ⟨u, by rw [upd_ne c]; exact a4, a5⟩
  · rw [upd_ne (fun c => by rw [c, bop] at q; cases q)]; exact h.bo jj a u q
  · rcases get_set q with ⟨rfl, rfl, _⟩ | ⟨c, q⟩
    · refine ⟨some (.ref p), hp, ?_⟩
      rcases hs with ⟨rfl, rfl⟩ | ⟨rfl, rfl⟩
      · obtain ⟨b, h1, _, _, h4⟩ := h.own e
        rw [hp] at h1; cases h1
        exact ⟨p, rfl, gp, w, h4⟩
      · obtain ⟨b, h1, _, _, h4⟩ := h.io e
        rw [hp] at h1; cases h1
        exact ⟨p, rfl, gp, w, h4⟩
    · obtain ⟨ov, h1, h2⟩ := h.sl j t q
      refine ⟨ov, h1, ?_⟩
      cases t with
      | no => trivial
      | imm d => exact h2
      | bor d => exact h2
      | own d =>
        obtain ⟨b, a1, a2, a3, a4⟩ := h2
        subst a1
        have cb : b ≠ p := fun cb => by subst cb; exact c (h.apart i j b oa ⟨⟨d, .inl q⟩, h1⟩)
        exact ⟨b, rfl, a2, a3.at' (upd_ne cb), a4⟩
      | io d =>
        obtain ⟨b, a1, a2, a3, a4⟩ := h2
        subst a1
        have cb : b ≠ p := fun cb => by subst cb; exact c (h.apart i j b oa ⟨⟨d, .inr q⟩, h1⟩)
        exact ⟨b, rfl, a2, a3.at' (upd_ne cb), a4⟩
end
end M
set_option Elab.async false
set_option linter.all false
set_option maxRecDepth 100000
namespace M
open PySem L2 PySem.Spec PyProof.Rows
structure Exn where
  cls : Str
  val : D
abbrev Mo (α : Type) := Env → Option (Except Exn α × Env)
def Mo.ret {α : Type} (a : α) : Mo α := fun δ => some (.ok a, δ)
def Mo.bind {α β : Type} (m : Mo α) (k : α → Mo β) : Mo β := fun δ => match m δ with
  | none => none
  | some (.error x, δ') => some (.error x, δ')
  | some (.ok a, δ') => k a δ'
def Mo.lift {α : Type} (o : Option α) : Mo α := fun δ => match o with
  | none => none
  | some a => some (.ok a, δ)
theorem bind_ok {α β : Type} {m : Mo α} {k : α → Mo β} {δ δ1 : Env} {a : α} (h : m δ = some (.ok a, δ1)) : Mo.bind m k δ = k a δ1 := by unfold Mo.bind; rw [h]
theorem lift_some {α : Type} {o : Option α} {δ : Env} {r : Except Exn α × Env} (h : Mo.lift o δ = some r) : ∃ a, o = some a ∧ r = (.ok a, δ) := by
  unfold Mo.lift at h
  cases o with
  | none => cases h
  | some a => exact ⟨a, rfl, (Option.some.inj h).symm⟩
/-- what is wanted where an exception leaves -/
abbrev WK := Exn → Env → St → Hp → Hp → Prop
def W0 : WK := fun _ _ _ _ _ => False
def Post {α : Type} (K : PySem.W.Frag) (W : WK) (B : Bs) (G : Hp) (σ : St) (r : Except Exn α) (δ' : Env) (ok : α → Hp → Hp → Prop) : Prop := match r with
  | .ok a => ∀ G' H', At K B G' δ' σ H' → Ext G G' → ok a G' H'
  | .error x => ∀ G' σ' H', At K B G' δ' σ' H' → Ext G G' → W x δ' σ' G' H'
theorem Post.mono {α : Type} {K : PySem.W.Frag} {W : WK} {B : Bs} {G G1 : Hp} {σ : St} {r : Except Exn α} {δ' : Env} {ok : α → Hp → Hp → Prop} (h : Post K W B G σ r δ' ok) (e : Ext G G1) : Post K W B G1 σ r δ' ok := by
  cases r with
  | ok a => exact fun G' H' a1 e1 => h G' H' a1 (e.trans e1)
  | error x => exact fun G' σ' H' a1 e1 => h G' σ' H' a1 (e.trans e1)
/-- a result of its own: a new object that nobody else has -/
def Fr1 (K : PySem.W.Frag) (B : Bs) (G : Hp) (δ : Env) (σ : St) (H : Hp) (p : Addr) (d : D) : Prop := G p = none ∧ B.H0 p = none ∧ (∀ j, ¬ OwnAt δ σ j p) ∧ Ow K G H p d
def tE (K : PySem.W.Frag) (W : WK) (E : Mo D) : TE := fun σ H Q => ∃ B G δ r δ', At K B G δ σ H ∧ E δ = some (r, δ') ∧ Post K W B G σ r δ' (fun d G' H' => ∀ v, R K G' v d → Q v H')
def tO (K : PySem.W.Frag) (W : WK) (E : Mo D) : TE := fun σ H Q => ∃ B G δ r δ', At K B G δ σ H ∧ E δ = some (r, δ') ∧ Post K W B G σ r δ' (fun d G' H' => ∀ p, Fr1 K B G' δ' σ H' p d → Q (.ref p) H')
def tT (K : PySem.W.Frag) (W : WK) (T : Mo Bool) : TT := fun σ H Q => ∃ B G δ r δ', At K B G δ σ H ∧ T δ = some (r, δ') ∧ Post K W B G σ r δ' (fun b G' H' => Q b H')
/-- an argument: data; a slot's object to be changed; a slot's object to be read -/
inductive Ag where
  | im (d : D) | vr (i : Nat) | vb (i : Nat)
def AgOk (K : PySem.W.Frag) (G : Hp) (σ : St) (v : V) : Ag → Prop
  | .im d => R K G v d
  | .vr i => σ[i]? = some (some v)
  | .vb i => σ[i]? = some (some v)
abbrev AgsOk (K : PySem.W.Frag) (G : Hp) (σ : St) : List V → List Ag → Prop := Paired (AgOk K G σ)
def tA (K : PySem.W.Frag) (W : WK) (A : Mo (List Ag)) : TA := fun σ H Q => ∃ B G δ r δ', At K B G δ σ H ∧ A δ = some (r, δ') ∧ Post K W B G σ r δ' (fun as G' H' => ∀ vs, AgsOk K G' σ vs as → Q vs H')
section
variable (X : Cx) (W : WK)
def DE (e : Expr) (E : Mo D) : Prop := PE X e (tE X.K W E)
def DO (e : Expr) (E : Mo D) : Prop := PE X e (tO X.K W E)
def DT (e : Expr) (T : Mo Bool) : Prop := PT X e (tT X.K W T)
def DW (e : Expr) (T : Mo Bool) : Prop := PW X e (tT X.K W T)
def DA (es : List Expr) (A : Mo (List Ag)) : Prop := PA X es (tA X.K W A)
end
section
variable {K : PySem.W.Frag} {W : WK} {B : Bs} {G G' H H' : Hp} {δ δ' : Env} {σ : St} {α β : Type} {r : Except Exn β} {ok : β → Hp → Hp → Prop}
theorem tE_bind {E : Mo D} {k : D → Mo β} {Q : VK} (a : At K B G δ σ H) (h : Mo.bind E k δ = some (r, δ')) (post : Post K W B G σ r δ' ok)
    (q : ∀ v H1 G1 δ1 d, At K B G1 δ1 σ H1 → Ext G G1 → R K G1 v d → k d δ1 = some (r, δ') → Post K W B G1 σ r δ' ok → Q v H1) : tE K W E σ H Q := by
  unfold Mo.bind at h
  cases e : E δ with
  | none => rw [e] at h; cases h
  | some z =>
    obtain ⟨x, δ1⟩ := z
    rw [e] at h
    cases x with
    | error x => cases h; exact ⟨B, G, δ, .error x, _, a, e, post⟩
    | ok d => exact ⟨B, G, δ, .ok d, δ1, a, e, fun G1 H1 a1 e1 v rv => q v H1 G1 δ1 d a1 e1 rv h (post.mono e1)⟩
theorem tT_bind {E : Mo Bool} {k : Bool → Mo β} {Q : Bool → Hp → Prop} (a : At K B G δ σ H) (h : Mo.bind E k δ = some (r, δ')) (post : Post K W B G σ r δ' ok)
    (q : ∀ H1 G1 δ1 d, At K B G1 δ1 σ H1 → Ext G G1 → k d δ1 = some (r, δ') → Post K W B G1 σ r δ' ok → Q d H1) : tT K W E σ H Q := by
  unfold Mo.bind at h
  cases e : E δ with
  | none => rw [e] at h; cases h
  | some z =>
    obtain ⟨x, δ1⟩ := z
    rw [e] at h
    cases x with
    | error x => cases h; exact ⟨B, G, δ, .error x, _, a, e, post⟩
    | ok d => exact ⟨B, G, δ, .ok d, δ1, a, e, fun G1 H1 a1 e1 => q H1 G1 δ1 d a1 e1 h (post.mono e1)⟩
theorem tA_bind {E : Mo (List Ag)} {k : List Ag → Mo β} {Q : List V → Hp → Prop} (a : At K B G δ σ H) (h : Mo.bind E k δ = some (r, δ')) (post : Post K W B G σ r δ' ok)
    (q : ∀ vs H1 G1 δ1 d, At K B G1 δ1 σ H1 → Ext G G1 → AgsOk K G1 σ vs d → k d δ1 = some (r, δ') → Post K W B G1 σ r δ' ok → Q vs H1) : tA K W E σ H Q := by
  unfold Mo.bind at h
  cases e : E δ with
  | none => rw [e] at h; cases h
  | some z =>
    obtain ⟨x, δ1⟩ := z
    rw [e] at h
    cases x with
    | error x => cases h; exact ⟨B, G, δ, .error x, _, a, e, post⟩
    | ok d => exact ⟨B, G, δ, .ok d, δ1, a, e, fun G1 H1 a1 e1 v rv => q v H1 G1 δ1 d a1 e1 rv h (post.mono e1)⟩
end
section
variable {X : Cx} {W : WK} {e a b c : Expr} {pos : Pos} {E Ea Eb Ec : Mo D} {T Ta Tb : Mo Bool}
theorem PE.weak {t t' : TE} (h : PE X e t) (w : ∀ σ H Q, t' σ H Q → t σ H Q) : PE X e t' := ⟨fun pins s σ H Q I q => h.run pins s σ H Q I (w σ H Q q)⟩
theorem PT.weak {t t' : TT} (h : PT X e t) (w : ∀ σ H Q, t' σ H Q → t σ H Q) : PT X e t' := ⟨fun pins s σ H Q I q => h.run pins s σ H Q I (w σ H Q q)⟩
theorem PW.weak {t t' : TT} (h : PW X e t) (w : ∀ σ H Q, t' σ H Q → t σ H Q) : PW X e t' := ⟨fun wh pins s σ H Q I q => h.run wh pins s σ H Q I (w σ H Q q)⟩
theorem PA.weak {es : List Expr} {t t' : TA} (h : PA X es t) (w : ∀ σ H Q, t' σ H Q → t σ H Q) : PA X es t' := ⟨fun po pins s σ H Q I q => h.run po pins s σ H Q I (w σ H Q q)⟩
theorem PS.weak {st : Stmt} {t t' : TS} (h : PS X st t) (w : ∀ D σ H, t' D σ H → t D σ H) : PS X st t' := ⟨fun pins s σ H D I q => h.run pins s σ H D I (w D σ H q)⟩
theorem PSs.weak {st : List Stmt} {t t' : TS} (h : PSs X st t) (w : ∀ D σ H, t' D σ H → t D σ H) : PSs X st t' := ⟨fun pins s σ H D I q => h.run pins s σ H D I (w D σ H q)⟩
theorem PE.or {t u : TE} (h : PE X e t) (h' : PE X e u) : PE X e (fun σ H Q => t σ H Q ∨ u σ H Q) := ⟨fun pins s σ H Q I q => q.elim (h.run pins s σ H Q I) (h'.run pins s σ H Q I)⟩
theorem PS.or {st : Stmt} {t u : TS} (h : PS X st t) (h' : PS X st u) : PS X st (fun D σ H => t D σ H ∨ u D σ H) := ⟨fun pins s σ H D I q => q.elim (h.run pins s σ H D I) (h'.run pins s σ H D I)⟩
theorem PI.or {tg it : Expr} {t u : TI} (h : PI X tg it t) (h' : PI X tg it u) : PI X tg it (fun σ H R => t σ H R ∨ u σ H R) := ⟨fun pins s σ H R I q => q.elim (h.run pins s σ H R I) (h'.run pins s σ H R I)⟩
theorem PG.or {tg : Expr} {t u : TG} (h : PG X tg t) (h' : PG X tg u) : PG X tg (fun v σ H Q => t v σ H Q ∨ u v σ H Q) := ⟨fun pins s σ H v uu Q I rv q => q.elim (h.run pins s σ H v uu Q I rv) (h'.run pins s σ H v uu Q I rv)⟩
/-- a new object as data -/
theorem DO.de (h : DO X W e E) : DE X W e E := PE.weak h fun σ H Q ⟨B, G, δ, r, δ', a, e1, post⟩ => by
  refine ⟨B, G, δ, r, δ', a, e1, ?_⟩
  cases r with
  | error x => exact post
  | ok d =>
    refine fun G' H' a' ex p hp => ?_
    obtain ⟨h1, h2, h3, h4⟩ := hp
    obtain ⟨o, q1, qm, q2⟩ := h4.obj
    exact post (upd G' p o) H' (a'.fix q1 h1 h2 h3 (mut_notbl qm)) (ex.trans (Ext.new h1)) (.ref p) (q2 _ upd_same (Ext.new h1))
def eC (d : D) : Mo D := Mo.ret d
theorem de_c {v : V} {d : D} (h : PE X e (tC v)) (hr : ∀ G, R X.K G v d) : DE X W e (eC d) := PE.weak h fun σ H Q ⟨B, G, δ, r, δ', a, e1, post⟩ => by
  cases e1
  exact post G H a (Ext.refl G) v (hr G)
theorem de_int {i j} : DE X W (.Constant (.int i) j pos) (eC (.int i)) := de_c pe_int fun _ => .int i
theorem de_bl {i j} : DE X W (.Constant (.bool i) j pos) (eC (.bl i)) := de_c pe_bl fun _ => .bl i
theorem de_non {j} : DE X W (.Constant .none j pos) (eC .non) := de_c pe_non fun _ => .non
theorem de_str {x j} : DE X W (.Constant (.str x) j pos) (eC (.str x)) := de_c pe_str fun _ => .str x
/-- a name: what a slot holds; an object of its own is fixed by that -/
def flatD : D → Bool
  | .non => true | .bl _ => true | .int _ => true | .str _ => true
  | _ => false
theorem R.flat {K : PySem.W.Frag} {G G' : Hp} {v : V} {d : D} (h : R K G v d) (f : flatD d = true) : R K G' v d := by
  cases h with
  | non => exact .non
  | bl b => exact .bl b
  | int i => exact .int i
  | str s => exact .str s
  | _ => cases f
def eV (i : Nat) : Mo D := fun δ => match δ[i]? with
  | some (.imm d) => some (.ok d, δ)
  | some (.own d) => some (.ok d, δ.set i (.imm d))
  | some (.bor d) => if flatD d then some (.ok d, δ) else none
  | _ => none
theorem de_v {i : Nat} (h : PE X e (tVar i)) : DE X W e (eV i) := PE.weak h fun σ H Q ⟨B, G, δ, r, δ', a, e1, post⟩ => by
  unfold eV at e1
  split at e1
  · rename_i d h
    cases e1
    obtain ⟨v, h1, h2⟩ := a.imm h
    exact ⟨v, h1, post G H a (Ext.refl G) v h2⟩
  · rename_i d h
    cases e1
    obtain ⟨G', p, h1, h2, h3, h4⟩ := a.freeze h
    exact ⟨.ref p, h1, post G' H h4 h3 _ h2⟩
  · rename_i d h
    split at e1
    · rename_i f
      cases e1
      obtain ⟨v, h1, h2⟩ := a.bor h
      exact ⟨v, h1, post G H a (Ext.refl G) v (h2.flat f)⟩
    · cases e1
  · cases e1
/-- a rule by values that gives f -/
def Snd2 (K : PySem.W.Frag) (f : D → D → Option D) (r : R2) : Prop := ∀ (B : Bs) (G H : Hp) (δ : Env) (σ : St) (x y : V) (a b d : D) (Q : VK), At K B G δ σ H → R K G x a → R K G y b → f a b = some d →
  (∀ v G' H', At K B G' δ σ H' → Ext G G' → R K G' v d → Q v H') → r x y H Q
def eBin (f : D → D → Option D) (A B : Mo D) : Mo D := A.bind fun x => B.bind fun y => Mo.lift (f x y)
theorem de_tOp {f : D → D → Option D} {r : R2} (hf : Snd2 X.K f r) (h : PE X e (tOp r (tE X.K W Ea) (tE X.K W Eb))) : DE X W e (eBin f Ea Eb) := PE.weak h fun σ H Q ⟨B, G, δ, r', δ', a, e1, post⟩ => by
  refine tE_bind a e1 post fun v H1 G1 δ1 d a1 x1 r1 e2 post => ?_
  refine tE_bind a1 e2 post fun w H2 G2 δ2 d2 a2 x2 r2 e3 post => ?_
  obtain ⟨z, hz, hr⟩ := lift_some e3
  cases hr
  exact hf B G2 H2 δ' σ v w d d2 z Q a2 (r1.mono x2) r2 hz fun v G' H' a' x' r' => post G' H' a' x' v r'
theorem de_bin {op : Operator} {f : D → D → Option D} {r : R2} (ho : OpR X (binaryOp op) r) (hf : Snd2 X.K f r) (ha : DE X W a Ea) (hb : DE X W b Eb) : DE X W (.BinOp a op b pos) (eBin f Ea Eb) := de_tOp hf (pe_op ho ha hb)
theorem de_cmp {op : CmpOp} {f : D → D → Option D} {r : R2} (ho : OpR X (compareOp op) r) (hf : Snd2 X.K f r) (ha : DE X W a Ea) (hb : DE X W b Eb) (hm : behindInMarks op b = false) : DE X W (.Compare a [op] [b] pos) (eBin f Ea Eb) := de_tOp hf (pe_cmpR ho ha hb hm)
/-- the same, its value a new object of its own -/
def Snd2O (K : PySem.W.Frag) (f : D → D → Option D) (r : R2) : Prop := ∀ (B : Bs) (G H : Hp) (δ : Env) (σ : St) (x y : V) (a b d : D) (Q : VK), At K B G δ σ H → R K G x a → R K G y b → f a b = some d →
  (∀ p H', At K B G δ σ H' → Fr1 K B G δ σ H' p d → Q (.ref p) H') → r x y H Q
theorem do_tOp {f : D → D → Option D} {r : R2} (hf : Snd2O X.K f r) (h : PE X e (tOp r (tE X.K W Ea) (tE X.K W Eb))) : DO X W e (eBin f Ea Eb) := PE.weak h fun σ H Q ⟨B, G, δ, r', δ', a, e1, post⟩ => by
  refine tE_bind a e1 post fun v H1 G1 δ1 d a1 x1 r1 e2 post => ?_
  refine tE_bind a1 e2 post fun w H2 G2 δ2 d2 a2 x2 r2 e3 post => ?_
  obtain ⟨z, hz, hr⟩ := lift_some e3
  cases hr
  exact hf B G2 H2 δ' σ v w d d2 z Q a2 (r1.mono x2) r2 hz fun p H3 a3 w3 => post G2 H3 a3 (Ext.refl _) p w3
/-- an object just laid -/
theorem At.own1 {K : PySem.W.Frag} {B : Bs} {G H : Hp} {δ : Env} {σ : St} {p : Addr} {o : HO} {d : D} (a : At K B G δ σ H) (n : H p = none) (w : Ow K G (upd H p o) p d) : At K B G δ σ (upd H p o) ∧ Fr1 K B G δ σ (upd H p o) p d :=
  ⟨a.alloc n, a.vw.none n, a.fresh0 n, a.noOwn n, w⟩
def dTru : D → Option Bool
  | .non => some false
  | .bl b => some b
  | .int i => some (i != 0)
  | .str y => if y.length ≤ sizeLine then some ((y.length : Int) != 0) else none
  | .tup l => some (!l.isEmpty)
  | .lst l => some (!l.isEmpty)
  | .scr l => some (!l.isEmpty)
  | .dK l => some (!l.isEmpty)
  | .dT l => some (!l.isEmpty)
  | .alb _ _ => none
  | .bld _ _ _ _ => none
def eTru (E : Mo D) : Mo Bool := E.bind fun d => Mo.lift (dTru d)
theorem truthy_dictH {prog : Program} {w : World} {κ : Type} [DecidableEq κ] {knd : HeapKind prog w κ} {A : Around} {s : Shared} {E : Value → Shared → Prop} {d : Addr} {xs : List (κ × Addr × Value)} {Q : Bool → Shared → Prop} (hd : (d == sysModules) = false) (hm : s.heap.DictOfH knd d xs) (hfit : (xs.length : Int) < 2 ^ 63)
    (h : Q (!xs.isEmpty) { s with toks := s.toks + 1 + 1 }) : wpAny (model prog w) A (truthy (.ref d)) Q E s := by
  have hne : ((xs.length : Int) != 0) = !xs.isEmpty := by cases xs <;> simp <;> omega
  have key : wpAny (model prog w) A (runValue (.builtin "len" ⟨[.ref d], []⟩)) (fun r s' => r = .int xs.length (s.toks + 1) ∧ Q (!xs.isEmpty) s') E s := by
    refine wpAny_runValue (codeAny_builtin entry_len ?_)
    rw [Around.under_plainId plain_len _]
    exact wpAny_mono (wpAny_len_body_dictH (Q := fun r s' => r = .int xs.length (s.toks + 1) ∧ Q (!xs.isEmpty) s') hd hm hfit ⟨rfl, h⟩)
      (fun fin s' h' => by obtain ⟨r, rfl, hq⟩ := h'; exact hq) fun _ _ e => e
  unfold truthy
  first
    | refine wpAny_bind (wpAny_callSpecial?_none (name := Str.ofString "__bool__") hm.typeIs noBool_dict ?_)
    | refine wpAny_bind (wpAny_pure (wpAny_bind (wpAny_callSpecial?_none (name := Str.ofString "__bool__") hm.typeIs noBool_dict ?_)))
  first
    | refine wpAny_bind (wpAny_specialOf (name := Str.ofString "__len__") hm.typeIs F.slot_dict_len.lookup ?_)
    | refine wpAny_bind (wpAny_pure (wpAny_bind (wpAny_specialOf (name := Str.ofString "__len__") hm.typeIs F.slot_dict_len.lookup ?_)))
  first
    | exact wpAny_bind (wpAny_mono key (fun r s' h' => by obtain ⟨rfl, hq⟩ := h'; exact wpAny_pure (hne ▸ hq)) fun _ _ e => e)
    | exact wpAny_bind (wpAny_pure (wpAny_bind (wpAny_mono key (fun r s' h' => by obtain ⟨rfl, hq⟩ := h'; exact wpAny_pure (hne ▸ hq)) fun _ _ e => e)))
theorem isEmpty_len {α β : Type} {l : List α} {m : List β} (h : l.length = m.length) : l.isEmpty = m.isEmpty := by
  cases l <;> cases m <;> first | rfl | (simp at h)
theorem tru_all : TruR X (fun x H Q => ∃ B G δ σ d k, At X.K B G δ σ H ∧ R X.K G x d ∧ dTru d = some k ∧ Q k H) := by
  intro pins s σ H x v Q I rx h
  obtain ⟨B, G, δ, σ', d, k, a, r, hk, q⟩ := h
  cases r with
  | non => cases hk; exact tru_ok pins s σ H _ v Q I rx ⟨_, rfl, q⟩
  | bl b => cases hk; exact tru_ok pins s σ H _ v Q I rx ⟨_, rfl, q⟩
  | int i => cases hk; exact tru_ok pins s σ H _ v Q I rx ⟨_, rfl, q⟩
  | str y =>
    have hk : (if y.length ≤ sizeLine then some ((y.length : Int) != 0) else none) = some k := hk
    split at hk
    · rename_i hl
      cases hk; exact tru_ok pins s σ H _ v Q I rx ⟨_, ⟨hl, rfl⟩, q⟩
    · cases hk
  | tup h1 h2 h3 =>
    cases hk
    exact tru_ok pins s σ H _ v Q I rx ⟨_, Or.inr (Or.inl ⟨_, SqT.of (a.vw.tup h1), by rw [isEmpty_len h3.length]⟩), q⟩
  | lst h1 h2 h3 =>
    cases hk
    exact tru_ok pins s σ H _ v Q I rx ⟨_, Or.inl ⟨_, SqL.of (a.vw.lst h1), by rw [isEmpty_len h3.length]⟩, q⟩
  | scr h1 h2 h3 =>
    cases hk
    exact tru_ok pins s σ H _ v Q I rx ⟨_, Or.inl ⟨_, a.vw.sql h1, by rw [isEmpty_len h3.length]⟩, q⟩
  | alb => cases hk
  | bld => cases hk
  | dK h1 h2 h3 h4 =>
    cases hk
    cases rx
    have hl := congrArg List.length h3
    rw [List.length_map, List.length_map] at hl
    exact d_truth I (a.vw.rd h1) fun s' I' => ⟨H, I', by rw [isEmpty_len hl]; exact q⟩
  | dT h1 h2 h3 h4 =>
    cases hk
    cases rx
    have hl := congrArg List.length h3
    rw [List.length_map, List.length_map] at hl
    obtain ⟨z, hd, ys, rel, dd⟩ := dt_rd I.hok (a.vw.rd h1)
    have hl2 := Paired.length rel
    refine truthy_dictH hd dd (by rw [← hl2]; rw [sizeLine_eq] at z; omega) ⟨H, I.tok _, ?_⟩
    rw [isEmpty_len (hl2.symm.trans hl)]; exact q
theorem dt_tru (ha : DE X W a Ea) (he : ∀ whole, isTrue a X.env whole = (do let v ← whole; standAt a.pos; holding [v] (truthy v)) := by intro _; rfl) : DT X W a (eTru Ea) := by
  refine PT.weak (t := fun σ H Q => tE X.K W Ea σ H fun x H' => ∃ B G δ σ' d k, At X.K B G δ σ' H' ∧ R X.K G x d ∧ dTru d = some k ∧ Q k H') ⟨fun pins s σ H Q I h => ?_⟩ fun σ H Q ⟨B, G, δ, r', δ', at', e1, post⟩ => ?_
  · exact isTrue_plain (thn (ha.run pins s σ H _ I h) fun v s1 ⟨x, H1, I1, r1, q1⟩ => tru_all pins s1 σ H1 x v Q I1 r1 q1) (he _)
  · refine tE_bind at' e1 post fun v H1 G1 δ1 d a1 x1 r1 e2 post => ?_
    obtain ⟨z, hz, hr⟩ := lift_some e2
    cases hr
    exact ⟨B, G1, δ', σ, d, z, a1, r1, hz, post G1 H1 a1 (Ext.refl _)⟩
def tAndM (A B : Mo Bool) : Mo Bool := A.bind fun a => if a = true then B else Mo.ret false
def tOrM (A B : Mo Bool) : Mo Bool := A.bind fun a => if a = true then Mo.ret true else B
def tNotM (A : Mo Bool) : Mo Bool := A.bind fun a => Mo.ret (!a)
theorem dw_and1 (ha : DT X W a Ta) : DW X W (.BoolOp .And [a] pos) Ta := pw_and1 ha
theorem dw_or1 (ha : DT X W a Ta) : DW X W (.BoolOp .Or [a] pos) Ta := pw_or1 ha
theorem tT_of {K : PySem.W.Frag} {B : Bs} {G : Hp} {δ δ' : Env} {σ : St} {H : Hp} {r : Except Exn Bool} {Q : Bool → Hp → Prop} (a : At K B G δ σ H) (e : T δ = some (r, δ')) (post : Post K W B G σ r δ' (fun b G' H' => Q b H')) : tT K W T σ H Q := ⟨B, G, δ, r, δ', a, e, post⟩
theorem tE_of {K : PySem.W.Frag} {B : Bs} {G : Hp} {δ δ' : Env} {σ : St} {H : Hp} {r : Except Exn D} {Q : VK} (a : At K B G δ σ H) (e : E δ = some (r, δ')) (post : Post K W B G σ r δ' (fun d G' H' => ∀ v, R K G' v d → Q v H')) : tE K W E σ H Q := ⟨B, G, δ, r, δ', a, e, post⟩
theorem dw_and {rest : List Expr} (ha : DT X W a Ta) (hb : DW X W (.BoolOp .And (b :: rest) pos) Tb) : DW X W (.BoolOp .And (a :: b :: rest) pos) (tAndM Ta Tb) := PW.weak (pw_and ha hb) fun σ H Q ⟨B, G, δ, r', δ', at', e1, post⟩ => by
  refine tT_bind at' e1 post fun H1 G1 δ1 d a1 x1 e2 post => ?_
  cases d with
  | true => rw [if_pos rfl] at e2 ⊢; exact tT_of a1 e2 post
  | false => rw [if_neg Bool.false_ne_true] at e2 ⊢; cases e2; exact post G1 H1 a1 (Ext.refl _)
theorem dw_or {rest : List Expr} (ha : DT X W a Ta) (hb : DW X W (.BoolOp .Or (b :: rest) pos) Tb) : DW X W (.BoolOp .Or (a :: b :: rest) pos) (tOrM Ta Tb) := PW.weak (pw_or ha hb) fun σ H Q ⟨B, G, δ, r', δ', at', e1, post⟩ => by
  refine tT_bind at' e1 post fun H1 G1 δ1 d a1 x1 e2 post => ?_
  cases d with
  | true => rw [if_pos rfl] at e2 ⊢; cases e2; exact post G1 H1 a1 (Ext.refl _)
  | false => rw [if_neg Bool.false_ne_true] at e2 ⊢; exact tT_of a1 e2 post
theorem dw_t (h : DW X W a Ta) : DT X W a Ta := PW.pt h
theorem dt_not (ha : DT X W a Ta) : DT X W (.UnaryOp .Not a pos) (tNotM Ta) := PT.weak (pt_not ha) fun σ H Q ⟨B, G, δ, r', δ', at', e1, post⟩ => by
  refine tT_bind at' e1 post fun H1 G1 δ1 d a1 x1 e2 post => ?_
  cases e2; exact post G1 H1 a1 (Ext.refl _)
/-- a bool as a test, without asking for its truth -/
def dBl : D → Option Bool
  | .bl b => some b
  | _ => none
def eB (E : Mo D) : Mo Bool := E.bind fun d => Mo.lift (dBl d)
theorem dBl_some {d : D} {b : Bool} (h : dBl d = some b) : d = .bl b := by
  cases d <;> first | (cases h; rfl) | cases h
/-- and, or, not of bools as values -/
def eAnd (A B : Mo D) : Mo D := A.bind fun x => (Mo.lift (dBl x)).bind fun b => if b = true then B else Mo.ret (.bl false)
def eOr (A B : Mo D) : Mo D := A.bind fun x => (Mo.lift (dBl x)).bind fun b => if b = true then Mo.ret (.bl true) else B
def eNot (A : Mo D) : Mo D := A.bind fun x => (Mo.lift (dBl x)).bind fun b => Mo.ret (.bl (!b))
theorem liftB {β : Type} {x : D} {k : Bool → Mo β} {δ : Env} {r : Except Exn β × Env} (h : ((Mo.lift (dBl x)).bind k) δ = some r) : ∃ b, x = .bl b ∧ k b δ = some r := by
  unfold Mo.bind Mo.lift at h
  cases e : dBl x with
  | none => rw [e] at h; cases h
  | some b => rw [e] at h; exact ⟨b, dBl_some e, h⟩
theorem de_one {op} (h : DE X W a Ea) : DE X W (.BoolOp op [a] pos) Ea := pe_one h
theorem de_and {rest : List Expr} (ha : DE X W a Ea) (hb : DE X W (.BoolOp .And (b :: rest) pos) Eb) : DE X W (.BoolOp .And (a :: b :: rest) pos) (eAnd Ea Eb) := PE.weak (pe_and ha hb) fun σ H Q ⟨B, G, δ, r', δ', at', e1, post⟩ => by
  refine tE_bind at' e1 post fun v H1 G1 δ1 d a1 x1 r1 e2 post => ?_
  obtain ⟨z, rfl, e3⟩ := liftB e2
  cases r1
  refine ⟨z, rfl, ?_⟩
  cases z with
  | true => rw [if_pos rfl] at e3 ⊢; exact tE_of a1 e3 post
  | false => rw [if_neg Bool.false_ne_true] at e3 ⊢; cases e3; exact post G1 H1 a1 (Ext.refl _) _ (.bl false)
theorem de_or {rest : List Expr} (ha : DE X W a Ea) (hb : DE X W (.BoolOp .Or (b :: rest) pos) Eb) : DE X W (.BoolOp .Or (a :: b :: rest) pos) (eOr Ea Eb) := PE.weak (pe_or ha hb) fun σ H Q ⟨B, G, δ, r', δ', at', e1, post⟩ => by
  refine tE_bind at' e1 post fun v H1 G1 δ1 d a1 x1 r1 e2 post => ?_
  obtain ⟨z, rfl, e3⟩ := liftB e2
  cases r1
  refine ⟨z, rfl, ?_⟩
  cases z with
  | true => rw [if_pos rfl] at e3 ⊢; cases e3; exact post G1 H1 a1 (Ext.refl _) _ (.bl true)
  | false => rw [if_neg Bool.false_ne_true] at e3 ⊢; exact tE_of a1 e3 post
theorem de_not (ha : DE X W a Ea) : DE X W (.UnaryOp .Not a pos) (eNot Ea) := PE.weak (pe_not ha) fun σ H Q ⟨B, G, δ, r', δ', at', e1, post⟩ => by
  refine tE_bind at' e1 post fun v H1 G1 δ1 d a1 x1 r1 e2 post => ?_
  obtain ⟨z, rfl, e3⟩ := liftB e2
  cases r1
  cases e3
  exact ⟨z, rfl, post G1 H1 a1 (Ext.refl _) _ (.bl _)⟩
/-- not e, by the truth of e (a list, a dict ..) -/
def eIf (T : Mo Bool) (A B : Mo D) : Mo D := T.bind fun b => if b = true then A else B
theorem de_if (hc : DT X W c T) (ha : DE X W a Ea) (hb : DE X W b Eb) : DE X W (.IfExp c a b pos) (eIf T Ea Eb) := PE.weak (pe_ifExp hc ha hb) fun σ H Q ⟨B, G, δ, r', δ', at', e1, post⟩ => by
  refine tT_bind at' e1 post fun H1 G1 δ1 d a1 x1 e2 post => ?_
  cases d with
  | true => rw [if_pos rfl] at e2 ⊢; exact tE_of a1 e2 post
  | false => rw [if_neg Bool.false_ne_true] at e2 ⊢; exact tE_of a1 e2 post
end
section
variable {X : Cx} {W : WK} {e : Expr} {es : List Expr} {pos : Pos} {E : Mo D} {A : Mo (List Ag)}
def aNil : Mo (List Ag) := Mo.ret []
def aCons (E : Mo D) (A : Mo (List Ag)) : Mo (List Ag) := E.bind fun d => A.bind fun as => Mo.ret (.im d :: as)
def aVr (i : Nat) (A : Mo (List Ag)) : Mo (List Ag) := fun δ => match δ[i]? with
  | some (.own _) => (A.bind fun as => Mo.ret (.vr i :: as)) δ
  | some (.io _) => (A.bind fun as => Mo.ret (.vr i :: as)) δ
  | _ => none
def aVb (i : Nat) (A : Mo (List Ag)) : Mo (List Ag) := fun δ => match δ[i]? with
  | some (.own _) => (A.bind fun as => Mo.ret (.vb i :: as)) δ
  | some (.io _) => (A.bind fun as => Mo.ret (.vb i :: as)) δ
  | some (.imm _) => (A.bind fun as => Mo.ret (.vb i :: as)) δ
  | some (.bor _) => (A.bind fun as => Mo.ret (.vb i :: as)) δ
  | _ => none
theorem AgOk.mono {K : PySem.W.Frag} {G G' : Hp} {σ : St} (e : Ext G G') : ∀ {v : V} {a : Ag}, AgOk K G σ v a → AgOk K G' σ v a
  | _, .im _, h => R.mono e h
  | _, .vr _, h => h
  | _, .vb _, h => h
theorem AgsOk.mono {K : PySem.W.Frag} {G G' : Hp} {σ : St} (e : Ext G G') {vs : List V} {as : List Ag} (h : AgsOk K G σ vs as) : AgsOk K G' σ vs as := Paired.mapP h fun _ _ => AgOk.mono e
theorem da_nil : DA X W [] aNil := PA.weak pa_nil fun σ H Q ⟨B, G, δ, r, δ', a, e1, post⟩ => by
  cases e1
  exact post G H a (Ext.refl _) _ .nil
theorem da_cons (ha : DE X W e E) (hr : DA X W es A) (hs : starEach (e :: es) X.env = (false, eval e X.env) :: starEach es X.env := by rfl) : DA X W (e :: es) (aCons E A) := PA.weak (pa_cons ha hr hs) fun σ H Q ⟨B, G, δ, r, δ', a, e1, post⟩ => by
  refine tE_bind a e1 post fun v H1 G1 δ1 d a1 x1 r1 e2 post => ?_
  refine tA_bind a1 e2 post fun vs H2 G2 δ2 ds a2 x2 r2 e3 post => ?_
  cases e3
  exact post G2 H2 a2 (Ext.refl _) _ (.cons (R.mono x2 r1) r2)
/-- the argument at slot i: the slot must hold something -/
theorem da_vr {i : Nat} (h : PE X e (tVar i)) (hr : DA X W es A) (hs : starEach (e :: es) X.env = (false, eval e X.env) :: starEach es X.env := by rfl) : DA X W (e :: es) (aVr i A) := PA.weak (pa_cons h hr hs) fun σ H Q ⟨B, G, δ, r, δ', a, e1, post⟩ => by
  unfold aVr at e1
  split at e1
  · rename_i d h
    obtain ⟨p, h1, _⟩ := a.own h
    refine ⟨_, h1, ?_⟩
    refine tA_bind a e1 post fun vs H2 G2 δ2 ds a2 x2 r2 e3 post => ?_
    cases e3
    exact post G2 H2 a2 (Ext.refl _) _ (.cons h1 r2)
  · rename_i d h
    obtain ⟨p, h1, _⟩ := a.io h
    refine ⟨_, h1, ?_⟩
    refine tA_bind a e1 post fun vs H2 G2 δ2 ds a2 x2 r2 e3 post => ?_
    cases e3
    exact post G2 H2 a2 (Ext.refl _) _ (.cons h1 r2)
  · cases e1
theorem da_vb {i : Nat} (h : PE X e (tVar i)) (hr : DA X W es A) (hs : starEach (e :: es) X.env = (false, eval e X.env) :: starEach es X.env := by rfl) : DA X W (e :: es) (aVb i A) := PA.weak (pa_cons h hr hs) fun σ H Q ⟨B, G, δ, r, δ', a, e1, post⟩ => by
  have fin : ∀ v, σ[i]? = some (some v) → (A.bind fun as => Mo.ret (.vb i :: as)) δ = some (r, δ') → tVar i σ H fun x H1 => tA X.K W A σ H1 fun xs H2 => Q (x :: xs) H2 := fun v h1 e1 => by
    refine ⟨_, h1, ?_⟩
    refine tA_bind a e1 post fun vs H2 G2 δ2 ds a2 x2 r2 e3 post => ?_
    cases e3
    exact post G2 H2 a2 (Ext.refl _) _ (.cons h1 r2)
  unfold aVb at e1
  split at e1
  · rename_i d h
    obtain ⟨p, h1, _⟩ := a.own h
    exact fin _ h1 e1
  · rename_i d h
    obtain ⟨p, h1, _⟩ := a.io h
    exact fin _ h1 e1
  · rename_i d h
    obtain ⟨p, h1, _⟩ := a.imm h
    exact fin _ h1 e1
  · rename_i d h
    obtain ⟨p, h1, _⟩ := a.bor h
    exact fin _ h1 e1
  · cases e1
/-- arguments that are data -/
def imms : List Ag → Option (List D)
  | [] => some []
  | .im d :: as => (imms as).map (d :: ·)
  | _ :: _ => none
theorem imms_ok {K : PySem.W.Frag} {G : Hp} {σ : St} : ∀ {as : List Ag} {vs : List V} {ds : List D}, AgsOk K G σ vs as → imms as = some ds → RL K G vs ds
  | _, _, _, .nil, e => by cases e; exact .nil
  | .im d :: as, _, _, .cons h t, e => by
    unfold imms at e
    cases q : imms as with
    | none => rw [q] at e; cases e
    | some ds => rw [q] at e; cases e; exact .cons h (imms_ok t q)
  | .vr i :: as, _, _, .cons h t, e => by cases e
  | .vb i :: as, _, _, .cons h t, e => by cases e
def eTup (A : Mo (List Ag)) : Mo D := A.bind fun as => Mo.lift ((imms as).bind fun ds => if ds.length ≤ 1000 then some (.tup ds) else none)
def eLst (A : Mo (List Ag)) : Mo D := A.bind fun as => Mo.lift ((imms as).bind fun ds => if ds.length ≤ 1000 then some (.lst ds) else none)
theorem small_line {n : Nat} (h : n ≤ 1000) : n ≤ sizeLine := Nat.le_of_lt (small1000 h)
theorem de_tup {x1} (h : DA X W es A) : DE X W (.Tuple es x1 pos) (eTup A) := PE.weak (pe_tup h) fun σ H Q ⟨B, G, δ, r, δ', a, e1, post⟩ => by
  refine tA_bind a e1 post fun vs H1 G1 δ1 as a1 x1 r1 e2 post => ?_
  obtain ⟨z, hz, hr⟩ := lift_some e2
  cases hr
  cases q : imms as with
  | none => rw [q] at hz; cases hz
  | some ds =>
    rw [q] at hz
    have r2 := imms_ok r1 q
    rw [Option.bind_some] at hz
    split at hz
    · rename_i hl
      cases hz
      have hv : vs.length ≤ sizeLine := by rw [r2.length]; exact small_line hl
      exact ⟨hv, fun p hp => post (upd G1 p (.tup vs)) _ (a1.laid hp fun _ z => by cases z) (Ext.new (a1.vw.none hp)) _ (.tup upd_same hv (r2.mono (Ext.new (a1.vw.none hp))))⟩
    · cases hz
theorem do_lst (h : DA X W es A) : DO X W (.List es pos) (eLst A) := PE.weak (pe_lst h) fun σ H Q ⟨B, G, δ, r, δ', a, e1, post⟩ => by
  refine tA_bind a e1 post fun vs H1 G1 δ1 as a1 x1 r1 e2 post => ?_
  obtain ⟨z, hz, hr⟩ := lift_some e2
  cases hr
  cases q : imms as with
  | none => rw [q] at hz; cases hz
  | some ds =>
    rw [q] at hz
    have r2 := imms_ok r1 q
    rw [Option.bind_some] at hz
    split at hz
    · rename_i hl
      cases hz
      have hv : vs.length ≤ sizeLine := by rw [r2.length]; exact small_line hl
      refine ⟨hv, fun p hp => ?_⟩
      obtain ⟨b1, b2⟩ := a1.own1 (p := p) (o := .lst vs) hp (Ow.lst upd_same hv r2)
      exact post G1 _ b1 (Ext.refl _) p b2
    · cases hz
end
end M
set_option Elab.async false
set_option linter.all false
set_option maxRecDepth 100000
namespace M
open PySem L2 PySem.Spec PyProof.Rows
inductive Out where
  | nx | bk | ct | rt (d : D) | rtO (d : D)
def PostS (K : PySem.W.Frag) (W : WK) (B : Bs) (G : Hp) (Dn : Ends) (r : Except Exn Out) (δ' : Env) : Prop := match r with
  | .error x => ∀ G' σ' H', At K B G' δ' σ' H' → Ext G G' → W x δ' σ' G' H'
  | .ok .nx => ∀ G' σ' H', At K B G' δ' σ' H' → Ext G G' → Dn.nx σ' H'
  | .ok .bk => ∀ G' σ' H', At K B G' δ' σ' H' → Ext G G' → Dn.bk σ' H'
  | .ok .ct => ∀ G' σ' H', At K B G' δ' σ' H' → Ext G G' → Dn.ct σ' H'
  | .ok (.rt d) => ∀ G' σ' H', At K B G' δ' σ' H' → Ext G G' → ∀ v, R K G' v d → Dn.rt v H'
  | .ok (.rtO d) => ∀ G' σ' H', At K B G' δ' σ' H' → Ext G G' → ∀ p, Fr1 K B G' δ' σ' H' p d → Dn.rt (.ref p) H'
theorem PostS.mono {K : PySem.W.Frag} {W : WK} {B : Bs} {G G1 : Hp} {Dn : Ends} {r : Except Exn Out} {δ' : Env} (h : PostS K W B G Dn r δ') (e : Ext G G1) : PostS K W B G1 Dn r δ' := by
  cases r with
  | error x => exact fun G' σ' H' a1 e1 => h G' σ' H' a1 (e.trans e1)
  | ok o => cases o <;> exact fun G' σ' H' a1 e1 => h G' σ' H' a1 (e.trans e1)
def tS (K : PySem.W.Frag) (W : WK) (S : Mo Out) : TS := fun Dn σ H => ∃ B G δ r δ', At K B G δ σ H ∧ S δ = some (r, δ') ∧ PostS K W B G Dn r δ'
/-- what a target does with data -/
def OnlyAt (sl : List Nat) (σ σ' : St) : Prop := σ'.length = σ.length ∧ ∀ j, j ∉ sl → σ'[j]? = σ[j]?
def tG (K : PySem.W.Frag) (sl : List Nat) (T : D → Mo Unit) : TG := fun v σ H Q => ∃ B G δ d δ', At K B G δ σ H ∧ R K G v d ∧ T d δ = some (.ok (), δ') ∧ ∀ σ', At K B G δ' σ' H → OnlyAt sl σ σ' → Q σ' H
def tGs (K : PySem.W.Frag) (sl : List Nat) (Ts : List D → Mo Unit) : TGs := fun vs σ H Q => ∃ B G δ ds δ', At K B G δ σ H ∧ RL K G vs ds ∧ Ts ds δ = some (.ok (), δ') ∧ ∀ σ', At K B G δ' σ' H → OnlyAt sl σ σ' → Q σ' H
section
variable (X : Cx) (W : WK)
def DS (st : Stmt) (S : Mo Out) : Prop := PS X st (tS X.K W S)
def DSs (st : List Stmt) (S : Mo Out) : Prop := PSs X st (tS X.K W S)
def DG (tg : Expr) (sl : List Nat) (T : D → Mo Unit) : Prop := PG X tg (tG X.K sl T)
def DGs (tgs : List Expr) (sl : List Nat) (T : List D → Mo Unit) : Prop := PGs X tgs (tGs X.K sl T)
end
section
variable {X : Cx} {W : WK} {st : Stmt} {rest : List Stmt} {e c tg : Expr} {pos : Pos} {E : Mo D} {T : Mo Bool} {S S' : Mo Out}
theorem tS_of {K : PySem.W.Frag} {B : Bs} {G : Hp} {δ δ' : Env} {σ : St} {H : Hp} {r : Except Exn Out} {Dn : Ends} (a : At K B G δ σ H) (e : S δ = some (r, δ')) (post : PostS K W B G Dn r δ') : tS K W S Dn σ H := ⟨B, G, δ, r, δ', a, e, post⟩
def sNx : Mo Out := Mo.ret .nx
def sSeq (a b : Mo Out) : Mo Out := fun δ => match a δ with
  | some (.ok .nx, δ') => b δ'
  | r => r
theorem dss_nil : DSs X W [] sNx := PSs.weak pss_nil fun Dn σ H ⟨B, G, δ, r, δ', a, e1, post⟩ => by
  cases e1; exact post G σ H a (Ext.refl _)
theorem dss_one (h : DS X W st S) : DSs X W [st] S := pss_one h
theorem dss_cons (h : DS X W st S) (h' : DSs X W rest S') : DSs X W (st :: rest) (sSeq S S') := PSs.weak (pss_cons h h') fun Dn σ H ⟨B, G, δ, r, δ', a, e1, post⟩ => by
  unfold sSeq at e1
  cases q : S δ with
  | none => rw [q] at e1; cases e1
  | some z =>
    obtain ⟨x, δ1⟩ := z
    rw [q] at e1
    cases x with
    | error x => cases e1; exact ⟨B, G, δ, .error x, _, a, q, post⟩
    | ok o =>
      cases o with
      | nx => exact ⟨B, G, δ, .ok .nx, δ1, a, q, fun G1 σ1 H1 a1 x1 => tS_of a1 e1 (post.mono x1)⟩
      | bk => cases e1; exact ⟨B, G, δ, .ok .bk, _, a, q, post⟩
      | ct => cases e1; exact ⟨B, G, δ, .ok .ct, _, a, q, post⟩
      | rt d => cases e1; exact ⟨B, G, δ, .ok (.rt d), _, a, q, post⟩
      | rtO d => cases e1; exact ⟨B, G, δ, .ok (.rtO d), _, a, q, post⟩
/-- from an expression's ends to a statement's -/
theorem tE_bindS {K : PySem.W.Frag} {B : Bs} {G H : Hp} {δ δ' : Env} {σ : St} {r : Except Exn Out} {Dn : Ends} {k : D → Mo Out} {Q : VK} (a : At K B G δ σ H) (h : Mo.bind E k δ = some (r, δ')) (post : PostS K W B G Dn r δ')
    (q : ∀ v H1 G1 δ1 d, At K B G1 δ1 σ H1 → Ext G G1 → R K G1 v d → k d δ1 = some (r, δ') → PostS K W B G1 Dn r δ' → Q v H1) : tE K W E σ H Q := by
  unfold Mo.bind at h
  cases e : E δ with
  | none => rw [e] at h; cases h
  | some z =>
    obtain ⟨x, δ1⟩ := z
    rw [e] at h
    cases x with
    | error x => cases h; exact ⟨B, G, δ, .error x, _, a, e, post⟩
    | ok d => exact ⟨B, G, δ, .ok d, δ1, a, e, fun G1 H1 a1 e1 v rv => q v H1 G1 δ1 d a1 e1 rv h (post.mono e1)⟩
theorem tO_bindS {K : PySem.W.Frag} {B : Bs} {G H : Hp} {δ δ' : Env} {σ : St} {r : Except Exn Out} {Dn : Ends} {k : D → Mo Out} {Q : VK} (a : At K B G δ σ H) (h : Mo.bind E k δ = some (r, δ')) (post : PostS K W B G Dn r δ')
    (q : ∀ p H1 G1 δ1 d, At K B G1 δ1 σ H1 → Ext G G1 → Fr1 K B G1 δ1 σ H1 p d → k d δ1 = some (r, δ') → PostS K W B G1 Dn r δ' → Q (.ref p) H1) : tO K W E σ H Q := by
  unfold Mo.bind at h
  cases e : E δ with
  | none => rw [e] at h; cases h
  | some z =>
    obtain ⟨x, δ1⟩ := z
    rw [e] at h
    cases x with
    | error x => cases h; exact ⟨B, G, δ, .error x, _, a, e, post⟩
    | ok d => exact ⟨B, G, δ, .ok d, δ1, a, e, fun G1 H1 a1 e1 v rv => q v H1 G1 δ1 d a1 e1 rv h (post.mono e1)⟩
theorem tT_bindS {K : PySem.W.Frag} {B : Bs} {G H : Hp} {δ δ' : Env} {σ : St} {r : Except Exn Out} {Dn : Ends} {k : Bool → Mo Out} {Q : Bool → Hp → Prop} (a : At K B G δ σ H) (h : Mo.bind T k δ = some (r, δ')) (post : PostS K W B G Dn r δ')
    (q : ∀ H1 G1 δ1 d, At K B G1 δ1 σ H1 → Ext G G1 → k d δ1 = some (r, δ') → PostS K W B G1 Dn r δ' → Q d H1) : tT K W T σ H Q := by
  unfold Mo.bind at h
  cases e : T δ with
  | none => rw [e] at h; cases h
  | some z =>
    obtain ⟨x, δ1⟩ := z
    rw [e] at h
    cases x with
    | error x => cases h; exact ⟨B, G, δ, .error x, _, a, e, post⟩
    | ok d => exact ⟨B, G, δ, .ok d, δ1, a, e, fun G1 H1 a1 e1 => q H1 G1 δ1 d a1 e1 h (post.mono e1)⟩
def sPass : Mo Out := Mo.ret .nx
def sBreak : Mo Out := Mo.ret .bk
def sCont : Mo Out := Mo.ret .ct
theorem ds_break : DS X W (.Break pos) sBreak := PS.weak ps_break fun Dn σ H ⟨B, G, δ, r, δ', a, e1, post⟩ => by
  cases e1; exact post G σ H a (Ext.refl _)
def sDrop (E : Mo D) : Mo Out := E.bind fun _ => Mo.ret .nx
def sRet (E : Mo D) : Mo Out := E.bind fun d => Mo.ret (.rt d)
def sRetO (E : Mo D) : Mo Out := E.bind fun d => Mo.ret (.rtO d)
theorem ds_ret (he : DE X W e E) : DS X W (.Return (some e) pos) (sRet E) := PS.weak (ps_ret he) fun Dn σ H ⟨B, G, δ, r, δ', a, e1, post⟩ => by
  refine tE_bindS a e1 post fun v H1 G1 δ1 d a1 x1 r1 e2 post => ?_
  cases e2; exact post G1 σ H1 a1 (Ext.refl _) v r1
theorem ds_retO (he : DO X W e E) : DS X W (.Return (some e) pos) (sRetO E) := PS.weak (ps_ret he) fun Dn σ H ⟨B, G, δ, r, δ', a, e1, post⟩ => by
  refine tO_bindS a e1 post fun v H1 G1 δ1 d a1 x1 r1 e2 post => ?_
  cases e2; exact post G1 σ H1 a1 (Ext.refl _) v r1
/-- return of a slot's own object: the slot gives it away -/
def eGive (i : Nat) : Mo D := fun δ => match δ[i]? with
  | some (.own d) => some (.ok d, δ.set i .no)
  | _ => none
def sIf (T : Mo Bool) (a b : Mo Out) : Mo Out := T.bind fun k => if k = true then a else b
theorem ds_if {a b : List Stmt} (hc : DT X W c T) (ha : DSs X W a S) (hb : DSs X W b S') : DS X W (.If c a b pos) (sIf T S S') := PS.weak (ps_if hc ha hb) fun Dn σ H ⟨B, G, δ, r, δ', a, e1, post⟩ => by
  refine tT_bindS a e1 post fun H1 G1 δ1 d a1 x1 e2 post => ?_
  cases d with
  | true => rw [if_pos rfl] at e2 ⊢; exact tS_of a1 e2 post
  | false => rw [if_neg Bool.false_ne_true] at e2 ⊢; exact tS_of a1 e2 post
def gN (i : Nat) (d : D) : Mo Unit := fun δ => if i < δ.length then some (.ok (), δ.set i (.imm d)) else none
theorem dg_name {i : Nat} {x : Str} (hN : X.N.Nodup) (hi : X.N[i]? = some x) (hx : Loc X.env.scope x) (hf : X.fn x = true ∨ X.env.scope.names.lookup x = some .local := by first | exact .inl rfl | exact .inr rfl | assumption) : DG X (.Name x pos) [i] (gN i) :=
  let h := pg_name (X := X) (pos := pos) hN hi hx hf
  ⟨fun pins s σ H v u Q I rv q => h.run pins s σ H v u Q I rv (by
    obtain ⟨B, G, δ, d, δ', a, r, e1, k⟩ := q
    unfold gN at e1
    split at e1
    · cases e1
      exact k _ (a.setImm r i) ⟨List.length_set, fun j hj => List.getElem?_set_ne (fun c => hj (by rw [c]; exact List.mem_singleton_self _))⟩
    · cases e1)⟩
def gNil : List D → Mo Unit
  | [] => Mo.ret ()
  | _ => fun _ => none
def gCons (T : D → Mo Unit) (Ts : List D → Mo Unit) : List D → Mo Unit
  | d :: ds => (T d).bind fun _ => Ts ds
  | [] => fun _ => none
theorem dgs_nil : DGs X [] [] gNil :=
  ⟨fun pins s σ H vs us Q I rv q => pgs_nil.run pins s σ H vs us Q I rv (by
    obtain ⟨B, G, δ, ds, δ', a, r, e1, k⟩ := q
    cases r with
    | nil => cases e1; exact ⟨rfl, k _ a ⟨rfl, fun _ _ => rfl⟩⟩
    | cons _ _ => cases e1)⟩
theorem dgs_cons {es : List Expr} {sl sl' : List Nat} {T : D → Mo Unit} {Ts : List D → Mo Unit} (h1 : DG X e sl T) (h2 : DGs X es sl' Ts) (hs : (assignEach (e :: es) X.env).map (·.2) = assign e X.env :: (assignEach es X.env).map (·.2) := by rfl) : DGs X (e :: es) (sl ++ sl') (gCons T Ts) :=
  ⟨fun pins s σ H vs us Q I rv q => (pgs_cons h1 h2 hs).run pins s σ H vs us Q I rv (by
    obtain ⟨B, G, δ, ds, δ', a, r, e1, k⟩ := q
    cases r with
    | nil => cases e1
    | cons r0 r1 =>
      rename_i v vs d ds
      have e1 : Mo.bind (T d) (fun _ => Ts ds) δ = some (.ok (), δ') := e1
      unfold Mo.bind at e1
      cases q : T d δ with
      | none => rw [q] at e1; cases e1
      | some z =>
        obtain ⟨x, δ1⟩ := z
        rw [q] at e1
        cases x with
        | error x => cases e1
        | ok x => exact ⟨v, vs, rfl, B, G, δ, d, δ1, a, r0, q, fun σ1 a1 o1 => ⟨B, G, δ1, ds, δ', a1, r1, e1, fun σ2 a2 o2 => k σ2 a2 ⟨o2.1.trans o1.1, fun j hj => (o2.2 j fun c => hj (List.mem_append_right _ c)).trans (o1.2 j fun c => hj (List.mem_append_left _ c))⟩⟩⟩)⟩
/-- (a, b, ..) = a tuple or a list of that length -/
def gT (n : Nat) (Ts : List D → Mo Unit) : D → Mo Unit
  | .tup ds => if ds.length = n then Ts ds else fun _ => none
  | .lst ds => if ds.length = n then Ts ds else fun _ => none
  | _ => fun _ => none
theorem dg_tup {es : List Expr} {k : Nat} {sl : List Nat} {Ts : List D → Mo Unit} {n : Nat} (hc : X.calm = true) (h : DGs X es sl Ts) (hn : (assignEach es X.env).length = n := by rfl) (hst : (assignEach es X.env).findIdx? (·.1) = none := by rfl) : DG X (.Tuple es k pos) sl (gT n Ts) :=
  let h1 := PG.or (pg_tup (pos := pos) (k := k) hc h hn hst) (pg_unl (pos := pos) (k := k) hc h hn hst)
  ⟨fun pins s σ H v u Q I rv q => h1.run pins s σ H v u Q I rv (by
    obtain ⟨B, G, δ, d, δ', a, r, e1, k⟩ := q
    cases r with
    | tup g l rl =>
      rename_i p xs ds
      have e1 : (if ds.length = n then Ts ds else fun _ => none) δ = some (.ok (), δ') := e1
      by_cases q : ds.length = n
      · rw [if_pos q] at e1
        exact .inl ⟨p, xs, rfl, SqT.of (a.vw.tup g), rl.length.trans q, B, G, δ, ds, δ', a, rl, e1, k⟩
      · rw [if_neg q] at e1; cases e1
    | lst g l rl =>
      rename_i p xs ds
      have e1 : (if ds.length = n then Ts ds else fun _ => none) δ = some (.ok (), δ') := e1
      by_cases q : ds.length = n
      · rw [if_pos q] at e1
        exact .inr ⟨p, xs, rfl, SqL.of (a.vw.lst g), rl.length.trans q, B, G, δ, ds, δ', a, rl, e1, k⟩
      · rw [if_neg q] at e1; cases e1
    | _ => cases e1)⟩
/-- target = value -/
def sAsg (T : D → Mo Unit) (E : Mo D) : Mo Out := E.bind fun d => (T d).bind fun _ => Mo.ret .nx
theorem unit_bind {T : Mo Unit} {δ δ' : Env} {r : Except Exn Out} (h : Mo.bind T (fun _ => Mo.ret Out.nx) δ = some (r, δ')) : (T δ = some (.ok (), δ') ∧ r = .ok .nx) ∨ ∃ x, T δ = some (.error x, δ') ∧ r = .error x := by
  unfold Mo.bind at h
  cases q : T δ with
  | none => rw [q] at h; cases h
  | some z =>
    obtain ⟨x, δ1⟩ := z
    rw [q] at h
    cases x with
    | error x => cases h; exact .inr ⟨x, rfl, rfl⟩
    | ok x => cases h; exact .inl ⟨rfl, rfl⟩
/-- a target that never raises -/
def Calm (T : D → Mo Unit) : Prop := ∀ d δ x δ', T d δ ≠ some (.error x, δ')
theorem calm_N {i : Nat} : Calm (gN i) := fun d δ x δ' h => by
  unfold gN at h; split at h <;> cases h
theorem tAsg_ok {K : PySem.W.Frag} {sl : List Nat} {T : D → Mo Unit} (hT : Calm T) {Dn : Ends} {σ : St} {H : Hp} (q : tS K W (sAsg T E) Dn σ H) : tAsg (tE K W E) (tG K sl T) Dn σ H := by
  obtain ⟨B, G, δ, r, δ', a, e1, post⟩ := q
  refine tE_bindS a e1 post fun v H1 G1 δ1 d a1 x1 r1 e2 post => ?_
  rcases unit_bind e2 with ⟨q, rfl⟩ | ⟨x, q, rfl⟩
  · exact ⟨B, G1, δ1, d, δ', a1, r1, q, fun σ' a' _ => post G1 σ' H1 a' (Ext.refl _)⟩
  · exact absurd q (hT _ _ _ _)
theorem ds_asg {sl : List Nat} {T : D → Mo Unit} (hT : Calm T) (he : DE X W e E) (hg : DG X tg sl T) (hs : swapsWithSole [tg] e pos.line X.env = pure false := by rfl) (hw : swappedStores [tg] e X.env = pure none := by rfl)
    (h1 : (assignEach [tg] X.env).map (·.2) = [assign tg X.env] := by rfl) : DS X W (.Assign [tg] e pos) (sAsg T E) := PS.weak (ps_asg he hg hs hw h1) fun Dn σ H q => tAsg_ok hT q
theorem ds_set {i : Nat} {x : Str} {pos' : Pos} (hN : X.N.Nodup) (hi : X.N[i]? = some x) (hx : Loc X.env.scope x) (he : DE X W e E) (hs : swapsWith e (some (.Name x pos')) pos.line X.env = pure false := by rfl) (hf : X.fn x = true ∨ X.env.scope.names.lookup x = some .local := by first | exact .inl rfl | exact .inr rfl | assumption) :
    DS X W (.Assign [.Name x pos'] e pos) (sAsg (gN i) E) := PS.weak (ps_set hN hi hx he hs hf) fun Dn σ H ⟨B, G, δ, r, δ', a, e1, post⟩ => by
  refine tE_bindS a e1 post fun v H1 G1 δ1 d a1 x1 r1 e2 post => ?_
  rcases unit_bind e2 with ⟨q, rfl⟩ | ⟨x, q, rfl⟩
  · unfold gN at q
    split at q
    · cases q
      exact post G1 _ H1 (a1.setImm r1 i) (Ext.refl _)
    · cases q
  · exact absurd q (calm_N _ _ _ _)
/-- name = a new object, kept as the frame's own -/
def gO (i : Nat) (d : D) : Mo Unit := fun δ => if i < δ.length then some (.ok (), δ.set i (.own d)) else none
def sAsgO (i : Nat) (E : Mo D) : Mo Out := E.bind fun d => (gO i d).bind fun _ => Mo.ret .nx
theorem ds_setO {i : Nat} {x : Str} {pos' : Pos} (hN : X.N.Nodup) (hi : X.N[i]? = some x) (hx : Loc X.env.scope x) (he : DO X W e E) (hs : swapsWith e (some (.Name x pos')) pos.line X.env = pure false := by rfl) (hf : X.fn x = true ∨ X.env.scope.names.lookup x = some .local := by first | exact .inl rfl | exact .inr rfl | assumption) :
    DS X W (.Assign [.Name x pos'] e pos) (sAsgO i E) := PS.weak (ps_set hN hi hx he hs hf) fun Dn σ H ⟨B, G, δ, r, δ', a, e1, post⟩ => by
  refine tO_bindS a e1 post fun v H1 G1 δ1 d a1 x1 r1 e2 post => ?_
  obtain ⟨w1, w2, w3, w4⟩ := r1
  rcases unit_bind e2 with ⟨q, rfl⟩ | ⟨x, q, rfl⟩
  · unfold gO at q
    split at q
    · cases q
      exact post G1 _ H1 (a1.setOwn w1 w4 w2 w3 i) (Ext.refl _)
    · cases q
  · unfold gO at q; split at q <;> cases q
end
/-- the iterator J yields the data ds, one by one, whatever else is laid meanwhile -/
def BLe (B B' : Bs) : Prop := Ext B.H0 B'.H0 ∧ B'.IO = B.IO
theorem BLe.refl (B : Bs) : BLe B B := ⟨Ext.refl _, rfl⟩
def Yl (K : PySem.W.Frag) (B : Bs) (J : It) (G : Hp) (ds : List D) : Prop := ∀ (B' : Bs) (G2 H : Hp) (δ : Env) (σ : St), BLe B B' → At K B' G2 δ σ H → Ext G G2 → ∀ i : Nat,
  (∀ d, ds[i]? = some d → J.go i H ∧ ∀ x H', J.yld i H x H' → H' = H ∧ ∃ G3, At K B' G3 δ σ H ∧ Ext G2 G3 ∧ R K G3 x d) ∧ (ds.length ≤ i → J.stop i H)
def tI (K : PySem.W.Frag) (W : WK) (I : Mo (List D)) : TI := fun σ H R' => ∃ B G δ r δ', At K B G δ σ H ∧ I δ = some (r, δ') ∧ Post K W B G σ r δ' (fun ds G' H' => ∀ J, Yl K B J G' ds → R' J H')
section
variable (X : Cx) (W : WK)
def DI (tg e : Expr) (I : Mo (List D)) : Prop := PI X tg e (tI X.K W I)
end
section
variable {X : Cx} {W : WK} {e c tg : Expr} {pos : Pos} {E : Mo D} {T : Mo Bool} {S S' : Mo Out}
theorem yl_list {K : PySem.W.Frag} {B : Bs} {G : Hp} {a : Addr} {xs : List V} {ds : List D} (h : SqL K G a xs) (r : RL K G xs ds) : Yl K B (Itl K a) G ds := fun B' G2 H δ σ _ at' ex i => by
  have hq : SqL K H a xs := at'.vw.sql (ex.sql h)
  refine ⟨fun d hd => ?_, fun hl => ⟨xs, hq, by rw [r.length]; exact hl⟩⟩
  obtain ⟨x, h1, h2⟩ := r.get hd
  refine ⟨⟨xs, x, hq, h1⟩, fun y H' ⟨e1, e2⟩ => ⟨e1, G2, at', Ext.refl _, ?_⟩⟩
  have := e2 xs hq
  rw [h1] at this; cases this
  exact h2.mono ex
theorem yl_tup {K : PySem.W.Frag} {B : Bs} {G : Hp} {a : Addr} {xs : List V} {ds : List D} (h : G a = some (.tup xs)) (r : RL K G xs ds) : Yl K B (Itt K a) G ds := fun B' G2 H δ σ _ at' ex i => by
  have hq : SqT K H a xs := SqT.of (at'.vw.tup (ex _ _ h))
  refine ⟨fun d hd => ?_, fun hl => ⟨xs, hq, by rw [r.length]; exact hl⟩⟩
  obtain ⟨x, h1, h2⟩ := r.get hd
  refine ⟨⟨xs, x, hq, h1⟩, fun y H' ⟨e1, e2⟩ => ⟨e1, G2, at', Ext.refl _, ?_⟩⟩
  have := e2 xs hq
  rw [h1] at this; cases this
  exact h2.mono ex
def rgD (lo : Int) (n : Nat) : List D := (List.range n).map fun i => D.int (lo + (i : Nat))
theorem yl_rng {K : PySem.W.Frag} {B : Bs} {G : Hp} {lo : Int} {n : Nat} : Yl K B (Itr lo n) G (rgD lo n) := fun B' G2 H δ σ _ at' ex i => by
  refine ⟨fun d hd => ?_, fun hl => by unfold rgD at hl; rw [List.length_map, List.length_range] at hl; exact hl⟩
  unfold rgD at hd
  rw [List.getElem?_map] at hd
  by_cases c : i < n
  · rw [List.getElem?_range c] at hd
    cases hd
    exact ⟨c, fun y H' ⟨e1, e2⟩ => ⟨e1, G2, at', Ext.refl _, by rw [e2]; exact .int _⟩⟩
  · rw [List.getElem?_eq_none (by rw [List.length_range]; omega)] at hd; cases hd
def stD (x : Str) : List D := x.cps.toList.map fun c => D.str ⟨#[c]⟩
theorem yl_str {K : PySem.W.Frag} {B : Bs} {G : Hp} {x : Str} : Yl K B (Its x) G (stD x) := fun B' G2 H δ σ _ at' ex i => by
  refine ⟨fun d hd => ?_, fun hl => by unfold stD at hl; rw [List.length_map, Array.length_toList] at hl; exact hl⟩
  unfold stD at hd
  rw [List.getElem?_map] at hd
  cases q : x.cps.toList[i]? with
  | none => rw [q] at hd; cases hd
  | some c =>
    rw [q] at hd; cases hd
    have hc := (List.getElem?_eq_some_iff.mp q).1
    rw [Array.length_toList] at hc
    refine ⟨hc, fun y H' ⟨e1, c', e2, e3⟩ => ⟨e1, G2, at', Ext.refl _, ?_⟩⟩
    rw [Array.getElem?_toList] at q
    rw [q] at e2; cases e2
    rw [e3]; exact .str _
/-- over a list, a tuple, a text -/
def itD : D → Option (List D)
  | .lst l => some l
  | .scr l => some l
  | .tup l => some l
  | .str x => some (stD x)
  | _ => none
def iOf (E : Mo D) : Mo (List D) := E.bind fun d => Mo.lift (itD d)
theorem di_of (h : DE X W e E) : DI X W tg e (iOf E) :=
  let h1 := PI.or (PI.or (pi_list (tg := tg) h) (pi_tup (tg := tg) h)) (pi_str (tg := tg) h)
  ⟨fun pins s σ H R' I ⟨B, G, δ, r, δ', a, e1, post⟩ => h1.run pins s σ H R' I (by
    -- which of the three: by what the expression gives
    unfold iOf Mo.bind at e1
    cases q : E δ with
    | none => rw [q] at e1; cases e1
    | some z =>
      obtain ⟨x, δ1⟩ := z
      rw [q] at e1
      cases x with
      | error x => cases e1; exact .inl (.inl ⟨B, G, δ, .error x, _, a, q, post⟩)
      | ok d =>
        obtain ⟨ds, hz, hr⟩ := lift_some e1
        cases hr
        cases d with
        | lst l =>
          cases hz
          refine .inl (.inl ⟨B, G, δ, .ok (.lst _), _, a, q, fun G1 H1 a1 x1 v rv => ?_⟩)
          cases rv with
          | lst g hl rl => exact ⟨_, rfl, ⟨_, SqL.of (a1.vw.lst g)⟩, post G1 H1 a1 x1 _ (yl_list (SqL.of g) rl)⟩
        | scr l =>
          cases hz
          refine .inl (.inl ⟨B, G, δ, .ok (.scr _), _, a, q, fun G1 H1 a1 x1 v rv => ?_⟩)
          cases rv with
          | scr g hl rl => exact ⟨_, rfl, ⟨_, a1.vw.sql g⟩, post G1 H1 a1 x1 _ (yl_list g rl)⟩
        | tup l =>
          cases hz
          refine .inl (.inr ⟨B, G, δ, .ok (.tup _), _, a, q, fun G1 H1 a1 x1 v rv => ?_⟩)
          cases rv with
          | tup g hl rl => exact ⟨_, rfl, ⟨_, SqT.of (a1.vw.tup g)⟩, post G1 H1 a1 x1 _ (yl_tup g rl)⟩
        | str x =>
          cases hz
          refine .inr ⟨B, G, δ, .ok (.str x), _, a, q, fun G1 H1 a1 x1 v rv => ?_⟩
          cases rv with
          | str => exact ⟨_, rfl, post G1 H1 a1 x1 _ yl_str⟩
        | _ => cases hz)⟩
/-- over range(n), range(a, b) -/
def rg1 : List D → Option (List D)
  | [.int j] => if j ≤ 16777216 ∧ -16777216 ≤ j then some (rgD 0 j.toNat) else none
  | _ => none
def iRg (f : List D → Option (List D)) (A : Mo (List Ag)) : Mo (List D) := A.bind fun as => Mo.lift ((imms as).bind f)
theorem di_rg1 {a : Expr} {A : Mo (List Ag)} {p pos : Pos} (hg : Gl X "range") (hm : X.mg "range" = none) (ha : DA X W [a] A) (hs : starEach [a] X.env = [(false, eval a X.env)] := by rfl) : DI X W tg (.Call (.Name "range" p) [a] [] pos) (iRg rg1 A) :=
  let h1 := pi_range1 (tg := tg) (pos := pos) (p := p) hg hm ha hs
  ⟨fun pins s σ H R' I ⟨B, G, δ, r, δ', a, e1, post⟩ => h1.run pins s σ H R' I (by
    refine tA_bind a e1 post fun vs H1 G1 δ1 as a1 x1 r1 e2 post => ?_
    obtain ⟨z, hz, hr⟩ := lift_some e2
    cases hr
    cases q : imms as with
    | none => rw [q] at hz; cases hz
    | some ds =>
      rw [q] at hz
      have r2 := imms_ok r1 q
      unfold rg1 at hz
      rw [Option.bind_some] at hz
      split at hz
      · split at hz
        · rename_i j hj
          cases hz
          cases r2 with
          | cons ra rb =>
            cases ra; cases rb
            exact ⟨j, rfl, by omega, by omega, post G1 H1 a1 (Ext.refl _) _ yl_rng⟩
        · cases hz
      · cases hz)⟩
def forM (T : D → Mo Unit) (S : Mo Out) : List D → Mo Out
  | [] => Mo.ret .nx
  | d :: ds => (T d).bind fun _ => fun δ => match S δ with
    | some (.ok .nx, δ') => forM T S ds δ'
    | some (.ok .ct, δ') => forM T S ds δ'
    | some (.ok .bk, δ') => some (.ok .nx, δ')
    | r => r
def sFor (I : Mo (List D)) (T : D → Mo Unit) (S : Mo Out) : Mo Out := I.bind fun ds => forM T S ds
theorem tI_bindS {K : PySem.W.Frag} {B : Bs} {G H : Hp} {δ δ' : Env} {σ : St} {r : Except Exn Out} {Dn : Ends} {I : Mo (List D)} {k : List D → Mo Out} {Q : It → Hp → Prop} (a : At K B G δ σ H) (h : Mo.bind I k δ = some (r, δ')) (post : PostS K W B G Dn r δ')
    (q : ∀ J H1 G1 δ1 d, At K B G1 δ1 σ H1 → Ext G G1 → Yl K B J G1 d → k d δ1 = some (r, δ') → PostS K W B G1 Dn r δ' → Q J H1) : tI K W I σ H Q := by
  unfold Mo.bind at h
  cases e : I δ with
  | none => rw [e] at h; cases h
  | some z =>
    obtain ⟨x, δ1⟩ := z
    rw [e] at h
    cases x with
    | error x => cases h; exact ⟨B, G, δ, .error x, _, a, e, post⟩
    | ok d => exact ⟨B, G, δ, .ok d, δ1, a, e, fun G1 H1 a1 e1 J rv => q J H1 G1 δ1 d a1 e1 rv h (post.mono e1)⟩
/-- the iterator is J -/
def wiJ (J : It) : TI := fun _ H R => R J H
theorem tFor_at {K : PySem.W.Frag} {B : Bs} {G1 : Hp} {δ1 δ' : Env} {J : It} {ds : List D} {r : Except Exn Out} {sl : List Nat} {T : D → Mo Unit} (hT : Calm T) {Dn : Ends} {σ : St} {H1 : Hp} (a1 : At K B G1 δ1 σ H1) (yl : Yl K B J G1 ds) (e2 : forM T S ds δ1 = some (r, δ')) (post : PostS K W B G1 Dn r δ') : tFor (wiJ J) (tG K sl T) (tS K W S) Dn σ H1 := by
  refine ⟨fun i m σ2 H2 => m + i = ds.length ∧ ∃ G2 δ2, At K B G2 δ2 σ2 H2 ∧ Ext G1 G2 ∧ forM T S (ds.drop i) δ2 = some (r, δ'), ⟨ds.length, by omega, G1, δ1, a1, Ext.refl _, e2⟩, ?_⟩
  rintro i m σ2 H2 ⟨hm, G2, δ2, a2, x2, e3⟩
  obtain ⟨y1, y2⟩ := yl B G2 H2 δ2 σ2 (BLe.refl B) a2 x2 i
  by_cases hi : ds.length ≤ i
  · refine .inl ⟨y2 hi, ?_⟩
    rw [List.drop_eq_nil_of_le hi] at e3
    cases e3
    exact post G2 σ2 H2 a2 x2
  · have hlt : i < ds.length := by omega
    obtain ⟨g1, g2⟩ := y1 ds[i] (List.getElem?_eq_getElem hlt)
    rw [List.drop_eq_getElem_cons hlt] at e3
    refine .inr ⟨g1, fun σ' H' => ∃ m', m' < m ∧ (m' + (i + 1) = ds.length ∧ ∃ G2 δ2, At K B G2 δ2 σ' H' ∧ Ext G1 G2 ∧ forM T S (ds.drop (i + 1)) δ2 = some (r, δ')), fun σ' H' z => z, fun x H' hy => ?_⟩
    obtain ⟨rfl, G3, a3, x3, r3⟩ := g2 x H' hy
    unfold forM Mo.bind at e3
    cases q : T ds[i] δ2 with
    | none => rw [q] at e3; cases e3
    | some z =>
      obtain ⟨u, δ3⟩ := z
      rw [q] at e3
      cases u with
      | error u => exact absurd q (hT _ _ _ _)
      | ok u =>
        refine ⟨B, G3, δ2, ds[i], δ3, a3, r3, q, fun σ4 a4 _ => ?_⟩
        cases q2 : S δ3 with
        | none => simp only [q2] at e3; cases e3
        | some z =>
          obtain ⟨u, δ4⟩ := z
          simp only [q2] at e3
          have x13 := x2.trans x3
          cases u with
          | error u => cases e3; exact ⟨B, G3, δ3, .error u, _, a4, q2, post.mono x13⟩
          | ok o =>
            cases o with
            | nx => exact ⟨B, G3, δ3, .ok .nx, δ4, a4, q2, fun G5 σ5 H5 a5 x5 => ⟨m - 1, by omega, by omega, G5, δ4, a5, x13.trans x5, e3⟩⟩
            | ct => exact ⟨B, G3, δ3, .ok .ct, δ4, a4, q2, fun G5 σ5 H5 a5 x5 => ⟨m - 1, by omega, by omega, G5, δ4, a5, x13.trans x5, e3⟩⟩
            | bk => cases e3; exact ⟨B, G3, δ3, .ok .bk, _, a4, q2, fun G5 σ5 H5 a5 x5 => post G5 σ5 H5 a5 (x13.trans x5)⟩
            | rt d => cases e3; exact ⟨B, G3, δ3, .ok (.rt d), _, a4, q2, post.mono x13⟩
            | rtO d => cases e3; exact ⟨B, G3, δ3, .ok (.rtO d), _, a4, q2, post.mono x13⟩
theorem tFor_ok {K : PySem.W.Frag} {I : Mo (List D)} {sl : List Nat} {T : D → Mo Unit} (hT : Calm T) {Dn : Ends} {σ : St} {H : Hp} (q : tS K W (sFor I T S) Dn σ H) : tFor (tI K W I) (tG K sl T) (tS K W S) Dn σ H := by
  obtain ⟨B, G, δ, r, δ', a, e1, post⟩ := q
  exact tI_bindS a e1 post fun J H1 G1 δ1 ds a1 x1 yl e2 post => tFor_at hT a1 yl e2 post
theorem ds_for {iter : Expr} {body : List Stmt} {I : Mo (List D)} {sl : List Nat} {T : D → Mo Unit} (hp : PassesOwn (model X.prog X.w) X.A X.env X.xe) (hc : X.calm = true) (hT : Calm T) (hi : DI X W tg iter I) (hg : DG X tg sl T) (hb : DSs X W body S)
    (hs : ∀ x, foldedSetIterable iter X.env x = pure x := by intro _; rfl) : DS X W (.For tg iter body [] pos) (sFor I T S) := PS.weak (ps_for hp hc hi hg hb hs) fun Dn σ H q => tFor_ok hT q
theorem calm_nil : ∀ ds δ x δ', gNil ds δ ≠ some (.error x, δ') := fun ds δ x δ' h => by cases ds <;> cases h
theorem calm_cons {T : D → Mo Unit} {Ts : List D → Mo Unit} (h1 : Calm T) (h2 : ∀ ds δ x δ', Ts ds δ ≠ some (.error x, δ')) : ∀ ds δ x δ', gCons T Ts ds δ ≠ some (.error x, δ') := fun ds δ x δ' h => by
  cases ds with
  | nil => cases h
  | cons d ds =>
    have h : Mo.bind (T d) (fun _ => Ts ds) δ = some (.error x, δ') := h
    unfold Mo.bind at h
    cases q : T d δ with
    | none => rw [q] at h; cases h
    | some z =>
      obtain ⟨u, δ1⟩ := z
      rw [q] at h
      cases u with
      | error u => exact h1 _ _ _ _ q
      | ok u => exact h2 _ _ _ _ h
theorem calm_T {n : Nat} {Ts : List D → Mo Unit} (h2 : ∀ ds δ x δ', Ts ds δ ≠ some (.error x, δ')) : Calm (gT n Ts) := fun d δ x δ' h => by
  cases d with
  | tup ds =>
    have h : (if ds.length = n then Ts ds else fun _ => none) δ = some (.error x, δ') := h
    split at h
    · exact h2 _ _ _ _ h
    · cases h
  | lst ds =>
    have h : (if ds.length = n then Ts ds else fun _ => none) δ = some (.error x, δ') := h
    split at h
    · exact h2 _ _ _ _ h
    · cases h
  | _ => cases h
def whileF (c : Mo Bool) (b : Mo Out) : Nat → Mo Out
  | 0 => fun _ => none
  | n + 1 => c.bind fun k => if k = true then (fun δ => match b δ with
    | some (.ok .nx, δ') => whileF c b n δ'
    | some (.ok .ct, δ') => whileF c b n δ'
    | some (.ok .bk, δ') => some (.ok .nx, δ')
    | r => r) else Mo.ret .nx
/-- the loop by as many turns as it takes -/
noncomputable def sWhile (c : Mo Bool) (b : Mo Out) : Mo Out := fun δ => by
  classical exact if h : ∃ n, (whileF c b n δ).isSome = true then whileF c b h.choose δ else none
theorem tWhile_ok {K : PySem.W.Frag} {Dn : Ends} {σ : St} {H : Hp} (q : tS K W (sWhile T S) Dn σ H) : tWhile (tT K W T) (tS K W S) Dn σ H := by
  obtain ⟨B, G, δ, r, δ', a, e1, post⟩ := q
  have e1 : ∃ n, whileF T S n δ = some (r, δ') := by
    unfold sWhile at e1
    split at e1
    · rename_i h; exact ⟨_, e1⟩
    · cases e1
  obtain ⟨n, e1⟩ := e1
  refine ⟨fun m σ2 H2 => ∃ G2 δ2, At K B G2 δ2 σ2 H2 ∧ Ext G G2 ∧ whileF T S m δ2 = some (r, δ'), ⟨n, G, δ, a, Ext.refl _, e1⟩, ?_⟩
  rintro m σ2 H2 ⟨G2, δ2, a2, x2, e2⟩
  cases m with
  | zero => cases e2
  | succ m =>
    unfold whileF at e2
    refine tT_bindS (Dn := Dn) a2 e2 (post.mono x2) fun H3 G3 δ3 k a3 x3 e3 post => ?_
    cases k with
    | false => rw [if_neg Bool.false_ne_true] at e3 ⊢; cases e3; exact post G3 σ2 H3 a3 (Ext.refl _)
    | true =>
      rw [if_pos rfl] at e3 ⊢
      refine ⟨fun σ' H' => ∃ m', m' < m + 1 ∧ ∃ G2 δ2, At K B G2 δ2 σ' H' ∧ Ext G G2 ∧ whileF T S m' δ2 = some (r, δ'), fun σ' H' z => z, ?_⟩
      have x13 := x2.trans x3
      cases q2 : S δ3 with
      | none => simp only [q2] at e3; cases e3
      | some z =>
        obtain ⟨u, δ4⟩ := z
        simp only [q2] at e3
        cases u with
        | error u => cases e3; exact ⟨B, G3, δ3, .error u, _, a3, q2, post⟩
        | ok o =>
          cases o with
          | nx => exact ⟨B, G3, δ3, .ok .nx, δ4, a3, q2, fun G5 σ5 H5 a5 x5 => ⟨m, by omega, G5, δ4, a5, x13.trans x5, e3⟩⟩
          | ct => exact ⟨B, G3, δ3, .ok .ct, δ4, a3, q2, fun G5 σ5 H5 a5 x5 => ⟨m, by omega, G5, δ4, a5, x13.trans x5, e3⟩⟩
          | bk => cases e3; exact ⟨B, G3, δ3, .ok .bk, _, a3, q2, post⟩
          | rt d => cases e3; exact ⟨B, G3, δ3, .ok (.rt d), _, a3, q2, post⟩
          | rtO d => cases e3; exact ⟨B, G3, δ3, .ok (.rtO d), _, a3, q2, post⟩
theorem ds_while {body : List Stmt} (hp : PassesOwn (model X.prog X.w) X.A X.env X.xe) (hc : DT X W c T) (hb : DSs X W body S) : DS X W (.While c body [] pos) (sWhile T S) := PS.weak (ps_while hp hc hb) fun Dn σ H q => tWhile_ok q
theorem whileF_mono {c : Mo Bool} {b : Mo Out} : ∀ {n m : Nat} {δ : Env} {r : Except Exn Out × Env}, whileF c b n δ = some r → n ≤ m → whileF c b m δ = some r
  | 0, _, _, _, h, _ => by cases h
  | n + 1, m, δ, r, h, l => by
    obtain ⟨k, rfl⟩ : ∃ k, m = k + 1 := ⟨m - 1, by omega⟩
    unfold whileF Mo.bind at h ⊢
    cases q : c δ with
    | none => rw [q] at h; cases h
    | some z =>
      obtain ⟨x, δ1⟩ := z
      rw [q] at h
      cases x with
      | error x => exact h
      | ok t =>
        cases t with
        | false => exact h
        | true =>
          simp only [if_true] at h ⊢
          cases q2 : b δ1 with
          | none => simp only [q2] at h; cases h
          | some z =>
            obtain ⟨u, δ4⟩ := z
            simp only [q2] at h
            cases u with
            | error u => exact h
            | ok o => cases o <;> first | exact whileF_mono h (by omega) | exact h
theorem sWhile_of {c : Mo Bool} {b : Mo Out} {n : Nat} {δ : Env} {r : Except Exn Out × Env} (h : whileF c b n δ = some r) : sWhile c b δ = some r := by
  have ex : ∃ n, (whileF c b n δ).isSome = true := ⟨n, by rw [h]; rfl⟩
  unfold sWhile
  rw [dif_pos ex]
  have h2 := ex.choose_spec
  cases q : whileF c b ex.choose δ with
  | none => rw [q] at h2; cases h2
  | some z =>
    have h3 := whileF_mono h (Nat.le_max_left n ex.choose)
    have h4 := whileF_mono q (Nat.le_max_right n ex.choose)
    rw [h3] at h4; exact h4.symm
end
end M
set_option Elab.async false
set_option linter.all false
set_option maxRecDepth 100000
namespace M
open PySem L2 PySem.Spec PyProof.Rows
def argSl (δ : Env) : Ag → Option Sl
  | .im d => some (.imm d)
  | .vr i => match δ[i]? with
    | some (.own d) => some (.io d)
    | some (.io d) => some (.io d)
    | _ => none
  | .vb i => match δ[i]? with
    | some (.own d) => some (.bor d)
    | some (.io d) => some (.bor d)
    | some (.imm d) => some (.bor d)
    | some (.bor d) => some (.bor d)
    | _ => none
def argSls (δ : Env) : List Ag → Option Env
  | [] => some []
  | a :: as => match argSl δ a with
    | none => none
    | some s => match argSls δ as with
      | none => none
      | some ss => some (s :: ss)
def vrs : List Ag → List Nat
  | [] => []
  | .vr i :: as => i :: vrs as
  | _ :: as => vrs as
def vbs : List Ag → List Nat
  | [] => []
  | .vb i :: as => i :: vbs as
  | _ :: as => vbs as
def backs : List Ag → Env → Env → Option Env
  | [], _, δ => some δ
  | .vr i :: as, .io d :: δc, δ => match δ[i]? with
    | some (.own _) => backs as δc (δ.set i (.own d))
    | some (.io _) => backs as δc (δ.set i (.io d))
    | _ => none
  | .vr _ :: _, _, _ => none
  | .im _ :: as, _ :: δc, δ => backs as δc δ
  | .vb _ :: as, _ :: δc, δ => backs as δc δ
  | _ :: _, [], _ => none
def callM (m : Mo D) (as : List Ag) : Mo D := fun δ => match argSls δ as with
  | none => none
  | some δc => if (vrs as).Nodup ∧ (∀ i ∈ vbs as, i ∉ vrs as) then match m δc with
      | none => none
      | some (r, δc') => match backs as δc' δ with
        | none => none
        | some δ' => some (r, δ')
    else none
theorem argSl_vr {δ : Env} {i : Nat} {s : Sl} (h : argSl δ (.vr i) = some s) : ∃ d, s = .io d ∧ (δ[i]? = some (.own d) ∨ δ[i]? = some (.io d)) := by
  have h : (match δ[i]? with
    | some (.own d) => some (Sl.io d)
    | some (.io d) => some (Sl.io d)
    | _ => none) = some s := h
  split at h
  · rename_i d q; cases h; exact ⟨d, rfl, .inl q⟩
  · rename_i d q; cases h; exact ⟨d, rfl, .inr q⟩
  · cases h
theorem argSl_vb {δ : Env} {i : Nat} {s : Sl} (h : argSl δ (.vb i) = some s) : ∃ d, s = .bor d ∧ (δ[i]? = some (.own d) ∨ δ[i]? = some (.io d) ∨ δ[i]? = some (.imm d) ∨ δ[i]? = some (.bor d)) := by
  have h : (match δ[i]? with
    | some (.own d) => some (Sl.bor d)
    | some (.io d) => some (Sl.bor d)
    | some (.imm d) => some (Sl.bor d)
    | some (.bor d) => some (Sl.bor d)
    | _ => none) = some s := h
  split at h
  · rename_i d q; cases h; exact ⟨d, rfl, .inl q⟩
  · rename_i d q; cases h; exact ⟨d, rfl, .inr (.inl q)⟩
  · rename_i d q; cases h; exact ⟨d, rfl, .inr (.inr (.inl q))⟩
  · rename_i d q; cases h; exact ⟨d, rfl, .inr (.inr (.inr q))⟩
  · cases h
theorem argSls_len {δ : Env} : ∀ {as : List Ag} {δc : Env}, argSls δ as = some δc → δc.length = as.length
  | [], _, h => by cases h; rfl
  | a :: as, δc, h => by
    unfold argSls at h
    cases q : argSl δ a with
    | none => rw [q] at h; cases h
    | some s =>
      rw [q] at h
      cases q2 : argSls δ as with
      | none => simp only [q2] at h; cases h
      | some ss => simp only [q2] at h; cases h; rw [List.length_cons, List.length_cons, argSls_len q2]
theorem argSls_get {δ : Env} : ∀ {as : List Ag} {δc : Env}, argSls δ as = some δc → ∀ {k : Nat} {s : Sl}, δc[k]? = some s → ∃ a, as[k]? = some a ∧ argSl δ a = some s
  | [], _, h, k, s, e => by cases h; simp at e
  | a :: as, δc, h, k, s, e => by
    unfold argSls at h
    cases q : argSl δ a with
    | none => rw [q] at h; cases h
    | some s0 =>
      rw [q] at h
      cases q2 : argSls δ as with
      | none => simp only [q2] at h; cases h
      | some ss =>
        simp only [q2] at h; cases h
        cases k with
        | zero => simp at e; subst e; exact ⟨a, rfl, q⟩
        | succ k =>
          obtain ⟨b, h1, h2⟩ := argSls_get q2 (k := k) (s := s) (by simpa using e)
          exact ⟨b, by simpa using h1, h2⟩
theorem argSls_get' {δ : Env} : ∀ {as : List Ag} {δc : Env}, argSls δ as = some δc → ∀ {k : Nat} {a : Ag}, as[k]? = some a → ∃ s, δc[k]? = some s ∧ argSl δ a = some s := fun {as δc} h k a e => by
  have hl := argSls_len h
  have hk := (List.getElem?_eq_some_iff.mp e).1
  have hk2 : k < δc.length := by omega
  obtain ⟨b, h1, h2⟩ := argSls_get h (List.getElem?_eq_getElem hk2)
  rw [e] at h1; cases h1
  exact ⟨_, List.getElem?_eq_getElem hk2, h2⟩
theorem vrs_mem : ∀ {as : List Ag} {i : Nat}, i ∈ vrs as ↔ ∃ k : Nat, as[k]? = some (.vr i)
  | [], i => by simp [vrs]
  | .vr j :: as, i => by
    unfold vrs
    rw [List.mem_cons, vrs_mem]
    refine ⟨fun h => ?_, fun ⟨k, h⟩ => ?_⟩
    · rcases h with rfl | ⟨k, h⟩
      · exact ⟨0, rfl⟩
      · exact ⟨k + 1, by simpa using h⟩
    · cases k with
      | zero => simp at h; exact .inl h.symm
      | succ k => exact .inr ⟨k, by simpa using h⟩
  | .im d :: as, i => by
    unfold vrs
    rw [vrs_mem]
    refine ⟨fun ⟨k, h⟩ => ⟨k + 1, by simpa using h⟩, fun ⟨k, h⟩ => ?_⟩
    cases k with
    | zero => simp at h
    | succ k => exact ⟨k, by simpa using h⟩
  | .vb j :: as, i => by
    unfold vrs
    rw [vrs_mem]
    refine ⟨fun ⟨k, h⟩ => ⟨k + 1, by simpa using h⟩, fun ⟨k, h⟩ => ?_⟩
    cases k with
    | zero => simp at h
    | succ k => exact ⟨k, by simpa using h⟩
theorem vbs_mem : ∀ {as : List Ag} {i k : Nat}, as[k]? = some (.vb i) → i ∈ vbs as
  | [], i, k, h => by simp at h
  | .vb j :: as, i, k, h => by
    unfold vbs
    cases k with
    | zero => simp at h; rw [h]; exact List.mem_cons_self
    | succ k => exact List.mem_cons_of_mem _ (vbs_mem (k := k) (by simpa using h))
  | .im d :: as, i, k, h => by
    unfold vbs
    cases k with
    | zero => simp at h
    | succ k => exact vbs_mem (k := k) (by simpa using h)
  | .vr j :: as, i, k, h => by
    unfold vbs
    cases k with
    | zero => simp at h
    | succ k => exact vbs_mem (k := k) (by simpa using h)
theorem vrs_inj : ∀ {as : List Ag} {i k l : Nat}, (vrs as).Nodup → as[k]? = some (.vr i) → as[l]? = some (.vr i) → k = l
  | [], i, k, l, _, h, _ => by simp at h
  | a :: as, i, k, l, nd, h1, h2 => by
    have nd' : (vrs as).Nodup := by
      cases a <;> unfold vrs at nd <;> first | exact nd | exact (List.nodup_cons.mp nd).2
    cases k with
    | zero =>
      cases l with
      | zero => rfl
      | succ l =>
        simp at h1; subst h1
        unfold vrs at nd
        exact absurd (vrs_mem.mpr ⟨l, by simpa using h2⟩) (List.nodup_cons.mp nd).1
    | succ k =>
      cases l with
      | zero =>
        simp at h2; subst h2
        unfold vrs at nd
        exact absurd (vrs_mem.mpr ⟨k, by simpa using h1⟩) (List.nodup_cons.mp nd).1
      | succ l =>
        have := vrs_inj (as := as) (i := i) (k := k) (l := l) nd' (by simpa using h1) (by simpa using h2)
        rw [this]
theorem backs_len : ∀ {as : List Ag} {δc δ δ' : Env}, backs as δc δ = some δ' → δ'.length = δ.length
  | [], _, _, _, h => by cases h; rfl
  | .vr i :: as, [], _, _, h => by cases h
  | .vr i :: as, .no :: _, _, _, h => by cases h
  | .vr i :: as, .imm _ :: _, _, _, h => by cases h
  | .vr i :: as, .own _ :: _, _, _, h => by cases h
  | .vr i :: as, .bor _ :: _, _, _, h => by cases h
  | .vr i :: as, .io d :: δc, δ, δ', h => by
    unfold backs at h
    split at h
    · rw [backs_len h, List.length_set]
    · rw [backs_len h, List.length_set]
    · cases h
  | .im _ :: as, [], _, _, h => by cases h
  | .im _ :: as, _ :: δc, δ, δ', h => by unfold backs at h; exact backs_len h
  | .vb _ :: as, [], _, _, h => by cases h
  | .vb _ :: as, _ :: δc, δ, δ', h => by unfold backs at h; exact backs_len h
/-- what a slot is behind the call -/
def BackAt (as : List Ag) (δc δ : Env) (j : Nat) (s : Sl) : Prop := (j ∉ vrs as ∧ δ[j]? = some s) ∨
  ∃ (k : Nat) (d : D), as[k]? = some (.vr j) ∧ δc[k]? = some (.io d) ∧ ((∃ d0, δ[j]? = some (.own d0) ∧ s = .own d) ∨ ∃ d0, δ[j]? = some (.io d0) ∧ s = .io d)
theorem BackAt.step {a : Ag} {as : List Ag} {s0 : Sl} {δc δ : Env} {j : Nat} {s : Sl} (ha : ∀ i, a ≠ .vr i) (h : BackAt as δc δ j s) : BackAt (a :: as) (s0 :: δc) δ j s := by
  rcases h with ⟨h1, h2⟩ | ⟨k, d, h1, h2, h3⟩
  · refine .inl ⟨fun q => ?_, h2⟩
    obtain ⟨k, q⟩ := vrs_mem.mp q
    cases k with
    | zero => simp at q; exact ha _ q
    | succ k => exact h1 (vrs_mem.mpr ⟨k, by simpa using q⟩)
  · exact .inr ⟨k + 1, d, by simpa using h1, by simpa using h2, h3⟩
theorem backs_get : ∀ {as : List Ag} {δc δ δ' : Env}, (vrs as).Nodup → backs as δc δ = some δ' → ∀ {j : Nat} {s : Sl}, δ'[j]? = some s → BackAt as δc δ j s
  | [], _, _, _, _, h, j, s, e => by cases h; exact .inl ⟨by simp [vrs], e⟩
  | .vr i :: as, [], _, _, _, h, _, _, _ => by cases h
  | .vr i :: as, .no :: _, _, _, _, h, _, _, _ => by cases h
  | .vr i :: as, .imm _ :: _, _, _, _, h, _, _, _ => by cases h
  | .vr i :: as, .own _ :: _, _, _, _, h, _, _, _ => by cases h
  | .vr i :: as, .bor _ :: _, _, _, _, h, _, _, _ => by cases h
  | .vr i :: as, .io d :: δc, δ, δ', nd, h, j, s, e => by
    unfold vrs at nd
    obtain ⟨n1, n2⟩ := List.nodup_cons.mp nd
    have go : ∀ s0, (s0 = .own d ∧ (∃ d0, δ[i]? = some (.own d0)) ∨ s0 = .io d ∧ ∃ d0, δ[i]? = some (.io d0)) → backs as δc (δ.set i s0) = some δ' → BackAt (.vr i :: as) (.io d :: δc) δ j s := fun s0 hs0 h => by
      have ih := backs_get n2 h e
      by_cases c : i = j
      · subst c
        rcases ih with ⟨h1, h2⟩ | ⟨k, d', h1, _⟩
        · rcases get_set h2 with ⟨_, rfl, _⟩ | ⟨z, _⟩
          · refine .inr ⟨0, d, rfl, rfl, ?_⟩
            rcases hs0 with ⟨rfl, d0, q⟩ | ⟨rfl, d0, q⟩
            · exact .inl ⟨d0, q, rfl⟩
            · exact .inr ⟨d0, q, rfl⟩
          · exact absurd rfl z
        · exact absurd (vrs_mem.mpr ⟨k, h1⟩) n1
      · rcases ih with ⟨h1, h2⟩ | ⟨k, d', h1, h2, h3⟩
        · rw [List.getElem?_set_ne c] at h2
          refine .inl ⟨fun q => ?_, h2⟩
          unfold vrs at q
          rcases List.mem_cons.mp q with q | q
          · exact c q.symm
          · exact h1 q
        · rw [List.getElem?_set_ne c] at h3
          exact .inr ⟨k + 1, d', by simpa using h1, by simpa using h2, h3⟩
    unfold backs at h
    split at h
    · rename_i d0 q; exact go _ (.inl ⟨rfl, d0, q⟩) h
    · rename_i d0 q; exact go _ (.inr ⟨rfl, d0, q⟩) h
    · cases h
  | .im _ :: as, [], _, _, _, h, _, _, _ => by cases h
  | .im _ :: as, _ :: δc, δ, δ', nd, h, j, s, e => by
    unfold backs at h
    have nd : (vrs as).Nodup := nd
    exact (backs_get (as := as) nd h e).step (fun i q => by cases q)
  | .vb _ :: as, [], _, _, _, h, _, _, _ => by cases h
  | .vb _ :: as, _ :: δc, δ, δ', nd, h, j, s, e => by
    unfold backs at h
    have nd : (vrs as).Nodup := nd
    exact (backs_get (as := as) nd h e).step (fun i q => by cases q)
/-- the lent objects by the argument's place -/
def ioList (as : List Ag) (vs : List V) : List (Nat × Addr) := (List.range as.length).filterMap fun (k : Nat) => match as[k]?, vs[k]? with
  | some (.vr _), some (.ref p) => some (k, p)
  | _, _ => none
theorem ioList_mem {as : List Ag} {vs : List V} {k : Nat} {p : Addr} : (k, p) ∈ ioList as vs ↔ ∃ i, as[k]? = some (.vr i) ∧ vs[k]? = some (.ref p) := by
  unfold ioList
  rw [List.mem_filterMap]
  constructor
  · rintro ⟨m, _, h⟩
    split at h
    · rename_i i q h1 h2
      cases h
      exact ⟨i, h1, h2⟩
    · cases h
  · rintro ⟨i, h1, h2⟩
    refine ⟨k, List.mem_range.mpr (List.getElem?_eq_some_iff.mp h1).1, ?_⟩
    rw [h1, h2]
section
variable {K : PySem.W.Frag} {B : Bs} {G G' H H' : Hp} {δ δ' δc δc' : Env} {σ : St} {as : List Ag} {vs : List V}
theorem ags_get {k : Nat} {a : Ag} (h : AgsOk K G σ vs as) (e : as[k]? = some a) : ∃ v, vs[k]? = some v ∧ AgOk K G σ v a := by
  induction h generalizing k with
  | nil => simp at e
  | cons h t ih =>
    cases k with
    | zero => simp at e; subst e; exact ⟨_, rfl, h⟩
    | succ k => obtain ⟨v, h1, h2⟩ := ih (k := k) (by simpa using e); exact ⟨v, by simpa using h1, h2⟩
theorem ags_len (h : AgsOk K G σ vs as) : vs.length = as.length := Paired.length h
/-- a lent slot -/
theorem vr_own (a : At K B G δ σ H) (hδ : argSls δ as = some δc) {k i : Nat} (e : as[k]? = some (.vr i)) : ∃ p, OwnAt δ σ i p ∧ (∀ j, B.Bo j p = none) ∧ (B.H0 p = none ∨ (i, p) ∈ B.IO) ∧ ∃ d, δc[k]? = some (.io d) ∧ Ow K G H p d ∧ G p = none := by
  obtain ⟨s, h1, h2⟩ := argSls_get' hδ e
  obtain ⟨d, rfl, q | q⟩ := argSl_vr h2
  · obtain ⟨p, q1, q2, q3, q4⟩ := a.own q
    refine ⟨p, ⟨⟨d, .inl q⟩, q1⟩, fun j => ?_, .inl q4, d, h1, q3, q2⟩
    cases z : B.Bo j p with
    | none => rfl
    | some u => exact absurd q4 (a.bod j p (by rw [z]; simp))
  · obtain ⟨p, q1, q2, q3, q4⟩ := a.io q
    exact ⟨p, ⟨⟨d, .inr q⟩, q1⟩, (a.iok i p q4).2.2.1, .inr q4, d, h1, q3, q2⟩
theorem io_slot (a : At K B G δ σ H) (g : AgsOk K G σ vs as) (hδ : argSls δ as = some δc) {k : Nat} {p : Addr} (e : (k, p) ∈ ioList as vs) : ∃ i, as[k]? = some (.vr i) ∧ OwnAt δ σ i p ∧ (∀ j, B.Bo j p = none) ∧ (B.H0 p = none ∨ (i, p) ∈ B.IO) := by
  obtain ⟨i, h1, h2⟩ := ioList_mem.mp e
  obtain ⟨q, h3, h4, h5, d, _⟩ := vr_own a hδ h1
  obtain ⟨v, h6, h7⟩ := ags_get g h1
  have h7 : σ[i]? = some (some v) := h7
  rw [h2] at h6; cases h6
  have := h3.2
  rw [h7] at this; cases this
  exact ⟨i, h1, h3, h4, h5⟩
/-- what a borrowed argument is read by -/
theorem bo_one (a : At K B G δ σ H) (g : AgsOk K G σ vs as) (hδ : argSls δ as = some δc) (nb : ∀ i ∈ vbs as, i ∉ vrs as) (k : Nat) :
    ∃ Bk : Hp, (Vw Bk H ∧ ∀ b ps, Bk b ≠ some (.tbl ps)) ∧ (∀ j p, (j, p) ∈ ioList as vs → Bk p = none) ∧ ∀ d, δc[k]? = some (.bor d) → ∃ v, vs[k]? = some v ∧ R K Bk v d := by
  have ioG : ∀ j p, (j, p) ∈ ioList as vs → G p = none := fun j p e => by
    obtain ⟨i, _, h3, _⟩ := io_slot a g hδ e
    exact (a.ownAt h3).1
  by_cases c : ∃ d, δc[k]? = some (.bor d)
  · obtain ⟨d, hd⟩ := c
    obtain ⟨x, h1, h2⟩ := argSls_get hδ hd
    have key : (∃ v Bk, vs[k]? = some v ∧ (Vw Bk H ∧ ∀ b ps, Bk b ≠ some (.tbl ps)) ∧ (∀ j p, (j, p) ∈ ioList as vs → Bk p = none) ∧ R K Bk v d) → ∃ Bk : Hp, (Vw Bk H ∧ ∀ b ps, Bk b ≠ some (.tbl ps)) ∧ (∀ j p, (j, p) ∈ ioList as vs → Bk p = none) ∧ ∀ d, δc[k]? = some (.bor d) → ∃ v, vs[k]? = some v ∧ R K Bk v d := fun ⟨v, Bk, z1, z2, z3, z4⟩ => ⟨Bk, z2, z3, fun d' e => by rw [hd] at e; cases e; exact ⟨v, z1, z4⟩⟩
    refine key ?_
    cases x with
    | im d' => cases h2
    | vr i => obtain ⟨_, q, _⟩ := argSl_vr h2; cases q
    | vb i =>
      obtain ⟨v, h3, h4⟩ := ags_get g h1
      have h4 : σ[i]? = some (some v) := h4
      have own : ∀ p, v = .ref p → OwnAt δ σ i p → Ow K G H p d → G p = none → ∃ v Bk, vs[k]? = some v ∧ (Vw Bk H ∧ ∀ b ps, Bk b ≠ some (.tbl ps)) ∧ (∀ j p, (j, p) ∈ ioList as vs → Bk p = none) ∧ R K Bk v d := fun p hv ho w gp => by
        obtain ⟨o, b1, bm, b2⟩ := w.obj
        refine ⟨v, upd G p o, h3, ⟨fun b u e => ?_, notbl_upd a.tb.2.2.1 (mut_notbl bm)⟩, fun j q e => ?_, by rw [hv]; exact b2 _ upd_same (Ext.new gp)⟩
        · by_cases z : b = p
          · subst z; rw [upd_same] at e; cases e; exact .inl b1
          · rw [upd_ne z] at e; exact a.vw b u e
        · have z : q ≠ p := fun z => by
            subst z
            obtain ⟨l, y1, y2, _⟩ := io_slot a g hδ e
            have := a.apart i l q ho y2
            subst this
            exact nb i (vbs_mem h1) (vrs_mem.mpr ⟨j, y1⟩)
          rw [upd_ne z]; exact ioG j q e
      obtain ⟨d', q', q⟩ := argSl_vb h2
      cases q'
      rcases q with q | q | q | q
      · obtain ⟨p, q1, q2, q3, _⟩ := a.own q
        have q5 : v = .ref p := by rw [h4] at q1; cases q1; rfl
        exact own p q5 ⟨⟨_, .inl q⟩, q1⟩ q3 q2
      · obtain ⟨p, q1, q2, q3, _⟩ := a.io q
        have q5 : v = .ref p := by rw [h4] at q1; cases q1; rfl
        exact own p q5 ⟨⟨_, .inr q⟩, q1⟩ q3 q2
      · obtain ⟨u, q1, q2⟩ := a.imm q
        rw [h4] at q1; cases q1
        exact ⟨_, G, h3, ⟨a.vw, a.tb.2.2.1⟩, ioG, q2⟩
      · obtain ⟨u, q1, q2⟩ := a.bor q
        rw [h4] at q1; cases q1
        exact ⟨_, B.Bo i, h3, ⟨a.bo i, a.tb.2.2.2.1 i⟩, fun j p e => by
          obtain ⟨l, _, _, y, _⟩ := io_slot a g hδ e
          exact y i, q2⟩
  · exact ⟨fun _ => none, ⟨fun _ _ e => (by cases e), fun _ _ e => (by cases e)⟩, fun _ _ _ => rfl, fun d e => absurd ⟨d, e⟩ c⟩
/-- all but tables -/
def hid (H : Hp) : Hp := fun b => match H b with
  | some (.tbl _) => none
  | o => o
theorem hid_of {b : Addr} {o : HO} (h : hid H b = some o) : H b = some o ∧ ∀ ps, o ≠ .tbl ps := by
  unfold hid at h
  split at h
  · cases h
  · rename_i n
    exact ⟨h, fun ps c => n ps (by rw [h, c])⟩
theorem hid_nt {b : Addr} {o : HO} (h : H b = some o) (n : ∀ ps, o ≠ .tbl ps) : hid H b = some o := by
  unfold hid
  rw [h]
  cases o with
  | tbl ps => exact absurd rfl (n ps)
  | _ => rfl
theorem hid_ne {b : Addr} (h : hid H b ≠ none) : H b ≠ none := fun c => h (by unfold hid; rw [c])
/-- what was there from the start is there, and is no table -/
theorem At.was (a : At K B G δ σ H) {p : Addr} (h : B.H0 p ≠ none) : ∃ o, H p = some o ∧ ∀ ps, o ≠ .tbl ps := by
  cases z : B.H0 p with
  | none => exact absurd z h
  | some o =>
    by_cases io : ∀ i, (i, p) ∉ B.IO
    · exact ⟨o, a.keep p o z io, fun ps c => a.tb.2.1 p ps (by rw [z, c])⟩
    · have ⟨i, io⟩ : ∃ i, (i, p) ∈ B.IO := Classical.byContradiction fun q => io fun i hi => q ⟨i, hi⟩
      obtain ⟨_, _, _, u, z1, z2⟩ := a.iok i p io
      exact ⟨u, z1, mut_notbl z2⟩
theorem At.fresh1 (a : At K B G δ σ H) {p : Addr} (h : ∀ o, H p = some o → ∃ ps, o = .tbl ps) : B.H0 p = none := by
  cases z : B.H0 p with
  | none => rfl
  | some u =>
    obtain ⟨o, q1, q2⟩ := a.was (p := p) (by rw [z]; simp)
    obtain ⟨ps, e⟩ := h o q1
    exact absurd e (q2 ps)
theorem At.noOwn1 (a : At K B G δ σ H) {p : Addr} (h : ∀ o, H p = some o → ∃ ps, o = .tbl ps) : ∀ j, ¬ OwnAt δ σ j p := fun j e => by
  obtain ⟨_, d, w⟩ := a.ownAt e
  obtain ⟨u, b, n⟩ := w.nt
  obtain ⟨ps, e⟩ := h u b
  exact n.tbl ps e
theorem call_enter (a : At K B G δ σ H) (g : AgsOk K G σ vs as) (hδ : argSls δ as = some δc) (nd : (vrs as).Nodup) (nb : ∀ i ∈ vbs as, i ∉ vrs as) :
    ∃ Bc : Bs, Bc.H0 = hid H ∧ Bc.G0 = G ∧ Bc.IO = ioList as vs ∧ At K Bc G δc (vs.map some) H := by
  obtain ⟨Bo, hBo⟩ := Classical.axiomOfChoice (bo_one a g hδ nb)
  refine ⟨⟨hid H, G, Bo, ioList as vs⟩, rfl, rfl, rfl, ⟨a.vw, Ext.refl G, fun _ _ e _ => (hid_of e).1, fun _ e => hid_ne e, fun _ _ _ _ e => e, fun k p e => ?_, fun j => (hBo j).1.1, fun j b e => ?_, ?_, fun k s e => ?_, fun k l p e1 e2 => ?_, ⟨a.tb.1, fun b ps e => (hid_of e).2 ps rfl, a.tb.2.2.1, (fun j => (hBo j).1.2), fun k p xs e z => (by
    obtain ⟨i, h1, h2, h3, h4⟩ := io_slot a g hδ e
    obtain ⟨_, d, w⟩ := a.ownAt h2
    obtain ⟨o, b1, m⟩ := w.nt
    have z2 := (hid_of z).1
    rw [b1] at z2; cases z2; exact m.tup _ rfl)⟩⟩⟩
  · obtain ⟨i, h1, h2, h3, h4⟩ := io_slot a g hδ e
    obtain ⟨g1, d, w⟩ := a.ownAt h2
    obtain ⟨o, b1, m, _⟩ := w.obj
    exact ⟨g1, by show hid H p ≠ none; rw [hid_nt b1 (mut_notbl m)]; simp, fun j => (hBo j).2.1 k p e, o, b1, m⟩
  · cases z : Bo j b with
    | none => exact absurd z e
    | some u =>
      have nu : ∀ ps, u ≠ .tbl ps := fun ps c => (hBo j).1.2 b ps (by rw [z, c])
      show hid H b ≠ none
      rcases (hBo j).1.1 b u z with q | ⟨_, x, q⟩
      · rw [hid_nt q nu]; simp
      · rw [hid_nt q (fun ps c => by cases c)]; simp
  · rw [List.length_map, argSls_len hδ, ags_len g]
  · obtain ⟨x, h1, h2⟩ := argSls_get hδ e
    obtain ⟨v, h3, h4⟩ := ags_get g h1
    refine ⟨some v, by rw [List.getElem?_map, h3]; rfl, ?_⟩
    cases x with
    | im d => cases h2; exact ⟨v, rfl, h4⟩
    | vr i =>
      obtain ⟨p, q1, q2, q3, d, q4, q5, q6⟩ := vr_own a hδ h1
      rw [e] at q4; cases q4
      have h4 : σ[i]? = some (some v) := h4
      have := q1.2
      rw [h4] at this; cases this
      exact ⟨p, rfl, q6, q5, ioList_mem.mpr ⟨i, h1, h3⟩⟩
    | vb i =>
      obtain ⟨d, rfl, _⟩ := argSl_vb h2
      obtain ⟨u, z1, z2⟩ := (hBo k).2.2 d e
      rw [h3] at z1; cases z1
      exact ⟨v, rfl, z2⟩
  · have lent : ∀ k, OwnAt δc (vs.map some) k p → ∃ i, as[k]? = some (.vr i) ∧ OwnAt δ σ i p := fun k z => by
      obtain ⟨⟨d, z1⟩, z2⟩ := z
      have hs : ∃ s, δc[k]? = some s ∧ (s = .own d ∨ s = .io d) := by
        rcases z1 with z1 | z1
        · exact ⟨_, z1, .inl rfl⟩
        · exact ⟨_, z1, .inr rfl⟩
      obtain ⟨s, y1, y2⟩ := hs
      obtain ⟨x, h1, h2⟩ := argSls_get hδ y1
      cases x with
      | im d => cases h2; rcases y2 with y2 | y2 <;> cases y2
      | vb i => obtain ⟨_, rfl, _⟩ := argSl_vb h2; rcases y2 with y2 | y2 <;> cases y2
      | vr i =>
        obtain ⟨q, q1, _⟩ := vr_own a hδ h1
        obtain ⟨v, h3, h4⟩ := ags_get g h1
        have h4 : σ[i]? = some (some v) := h4
        rw [List.getElem?_map, h3] at z2
        have z2 : v = .ref p := Option.some.inj (Option.some.inj z2)
        subst z2
        exact ⟨i, h1, ⟨q1.1, h4⟩⟩
    obtain ⟨i, x1, x2⟩ := lent k e1
    obtain ⟨j, y1, y2⟩ := lent l e2
    have := a.apart i j p x2 y2
    subst this
    exact vrs_inj nd x1 y1
theorem call_leave {Bc : Bs} (a : At K B G δ σ H) (g : AgsOk K G σ vs as) (hδ : argSls δ as = some δc) (nd : (vrs as).Nodup) (e1 : Bc.H0 = hid H) (e2 : Bc.G0 = G) (e3 : Bc.IO = ioList as vs)
    (ac : At K Bc G' δc' (vs.map some) H') (hb : backs as δc' δ = some δ') : At K B G' δ' σ H' := by
  have ex : Ext G G' := by rw [← e2]; exact ac.g0
  have noIO : ∀ p, (∀ j, ¬ OwnAt δ σ j p) → ∀ k, (k, p) ∉ Bc.IO := fun p h k z => by
    rw [e3] at z
    obtain ⟨i, _, h2, _⟩ := io_slot a g hδ z
    exact h i h2
  have kp : ∀ p o, (∀ ps, o ≠ .tbl ps) → H p = some o → (∀ k, (k, p) ∉ Bc.IO) → H' p = some o := fun p o t z n => ac.keep p o (by rw [e1]; exact hid_nt z t) n
  have gNone : ∀ p o, (∀ ps, o ≠ .tbl ps) → H p = some o → (∀ xs, o ≠ .tup xs) → G p = none → G' p = none := fun p o h z t n => ac.leak p o (by rw [e1]; exact hid_nt z h) t (by rw [e2]; exact n)
  have zT : ∀ p o, B.H0 p = some o → ∀ ps, o ≠ .tbl ps := fun p o h ps c => a.tb.2.1 p ps (by rw [h, c])
  have noOf : ∀ p, (B.H0 p ≠ none ∧ ∀ i, (i, p) ∉ B.IO) → ∀ k, (k, p) ∉ Bc.IO := fun p h k z => by
    rw [e3] at z
    obtain ⟨i, _, _, _, h4⟩ := io_slot a g hδ z
    rcases h4 with h4 | h4
    · exact h.1 h4
    · exact h.2 i h4
  refine ⟨ac.vw, a.g0.trans ex, fun p o z n => ?_, fun p z => ?_, fun p o z t n => ?_, fun i p z => ?_, fun j p o z => ?_, a.bod, ?_, fun j s z => ?_, fun i j p z1 z2 => ?_, ⟨ac.tb.1, a.tb.2.1, ac.tb.2.2.1, a.tb.2.2.2⟩⟩
  · exact kp p o (zT p o z) (a.keep p o z n) (noOf p ⟨by rw [z]; simp, n⟩)
  · obtain ⟨o, q1, q2⟩ := a.was z
    exact ac.dom p (by rw [e1, hid_nt q1 q2]; simp)
  · have gp := a.leak p o z t n
    by_cases io : ∀ i, (i, p) ∉ B.IO
    · exact gNone p o (zT p o z) (a.keep p o z io) t gp
    · have ⟨i, io⟩ : ∃ i, (i, p) ∈ B.IO := Classical.byContradiction fun q => io fun i hi => q ⟨i, hi⟩
      obtain ⟨_, _, _, u, z1, z2⟩ := a.iok i p io
      exact gNone p u (mut_notbl z2) z1 (mut_notup z2) gp
  · obtain ⟨a1, a2, a3, u, a4, a5⟩ := a.iok i p z
    refine ⟨a1, a2, a3, ?_⟩
    by_cases io : ∀ k, (k, p) ∉ Bc.IO
    · exact ⟨u, kp p u (mut_notbl a5) a4 io, a5⟩
    · have ⟨k, io⟩ : ∃ i, (i, p) ∈ Bc.IO := Classical.byContradiction fun q => io fun i hi => q ⟨i, hi⟩
      obtain ⟨_, _, _, v, z1, z2⟩ := ac.iok k p io
      exact ⟨v, z1, z2⟩
  · have nio : ∀ k, (k, p) ∉ Bc.IO := fun k y => by
      rw [e3] at y
      obtain ⟨_, _, _, h3, _⟩ := io_slot a g hδ y
      rw [h3 j] at z; cases z
    rcases a.bo j p o z with q | ⟨q1, x, q⟩
    · exact .inl (kp p o (fun ps c => a.tb.2.2.2.1 j p ps (by rw [z, c])) q nio)
    · exact .inr ⟨q1, x, kp p _ (fun ps c => by cases c) q nio⟩
  · rw [backs_len hb]; exact a.len
  · rcases backs_get nd hb z with ⟨h1, h2⟩ | ⟨k, d, h1, h2, h3⟩
    · obtain ⟨ov, q1, q2⟩ := a.sl j s h2
      refine ⟨ov, q1, ?_⟩
      have own : ∀ p, OwnAt δ σ j p → ∀ k, (k, p) ∉ Bc.IO := fun p h k y => by
        rw [e3] at y
        obtain ⟨i, y1, y2, _⟩ := io_slot a g hδ y
        have := a.apart j i p h y2
        subst this
        exact h1 (vrs_mem.mpr ⟨k, y1⟩)
      cases s with
      | no => trivial
      | imm d => obtain ⟨v, r1, r2⟩ := q2; exact ⟨v, r1, r2.mono ex⟩
      | bor d => exact q2
      | own d =>
        obtain ⟨p, r1, r2, r3, r4⟩ := q2
        subst r1
        obtain ⟨o, b1, m, _⟩ := r3.obj
        have hk := kp p o (mut_notbl m) b1 (own p ⟨⟨d, .inl h2⟩, q1⟩)
        exact ⟨p, rfl, gNone p o (mut_notbl m) b1 (mut_notup m) r2, (r3.mono ex).at' (hk.trans b1.symm), r4⟩
      | io d =>
        obtain ⟨p, r1, r2, r3, r4⟩ := q2
        subst r1
        obtain ⟨o, b1, m, _⟩ := r3.obj
        have hk := kp p o (mut_notbl m) b1 (own p ⟨⟨d, .inr h2⟩, q1⟩)
        exact ⟨p, rfl, gNone p o (mut_notbl m) b1 (mut_notup m) r2, (r3.mono ex).at' (hk.trans b1.symm), r4⟩
    · obtain ⟨p, q1, q2, q3, q4⟩ := ac.io h2
      obtain ⟨v, h5, h6⟩ := ags_get g h1
      have h6 : σ[j]? = some (some v) := h6
      rw [List.getElem?_map, h5] at q1
      have q1 : v = .ref p := Option.some.inj (Option.some.inj q1)
      subst q1
      refine ⟨some (.ref p), h6, ?_⟩
      rcases h3 with ⟨d0, y1, rfl⟩ | ⟨d0, y1, rfl⟩
      · obtain ⟨p', r1, _, _, r4⟩ := a.own y1
        rw [h6] at r1; cases r1
        exact ⟨p, rfl, q2, q3, r4⟩
      · obtain ⟨p', r1, _, _, r4⟩ := a.io y1
        rw [h6] at r1; cases r1
        exact ⟨p, rfl, q2, q3, r4⟩
  · have back : ∀ j, OwnAt δ' σ j p → OwnAt δ σ j p := fun j y => by
      obtain ⟨⟨d, y1⟩, y2⟩ := y
      have hs : ∃ s, δ'[j]? = some s ∧ (s = .own d ∨ s = .io d) := by
        rcases y1 with y1 | y1
        · exact ⟨_, y1, .inl rfl⟩
        · exact ⟨_, y1, .inr rfl⟩
      obtain ⟨s, x1, x2⟩ := hs
      rcases backs_get nd hb x1 with ⟨_, h2⟩ | ⟨k, d', _, _, h3⟩
      · rcases x2 with rfl | rfl
        · exact ⟨⟨d, .inl h2⟩, y2⟩
        · exact ⟨⟨d, .inr h2⟩, y2⟩
      · rcases h3 with ⟨d0, y1, _⟩ | ⟨d0, y1, _⟩
        · exact ⟨⟨d0, .inl y1⟩, y2⟩
        · exact ⟨⟨d0, .inr y1⟩, y2⟩
    exact a.apart i j p (back i z1) (back j z2)
end
/-- the table of the own exceptions: class, field -/
abbrev XT := Str → Option (Addr × Str)
def PostF (K : PySem.W.Frag) (W : WK) (B : Bs) (G : Hp) (σ : St) (ro : Bool) (r : Except Exn D) (δ' : Env) (Q : VK) : Prop := match r with
  | .ok d => ∀ G' H', At K B G' δ' σ H' → Ext G G' → if ro = true then ∀ p, Fr1 K B G' δ' σ H' p d → Q (.ref p) H' else ∀ v, R K G' v d → Q v H'
  | .error x => ∀ G' H', At K B G' δ' σ H' → Ext G G' → W x δ' σ G' H'
/-- a def's promise: it does what the mirror m does -/
def spM (Wf : XK → WK) (K : PySem.W.Frag) (n : Nat) (ro : Bool) (m : Mo D) : Sp := fun vs H Q E => vs.length = n ∧ ∃ B G δ r δ', (∀ k p, (k, p) ∈ B.IO → vs[k]? = some (.ref p)) ∧ At K B G δ (vs.map some) H ∧ m δ = some (r, δ') ∧ PostF K (Wf E) B G (vs.map some) ro r δ' Q
/-- the lent slots among the parameters -/
def keepIo : Sl → Sl
  | .io d => .io d
  | _ => .no
def ios : Nat → Env → Env
  | 0, _ => []
  | n + 1, s :: δ => keepIo s :: ios n δ
  | n + 1, [] => .no :: ios n []
theorem ios_len : ∀ (n : Nat) (δ : Env), (ios n δ).length = n
  | 0, _ => rfl
  | n + 1, s :: δ => by unfold ios; rw [List.length_cons, ios_len]
  | n + 1, [] => by unfold ios; rw [List.length_cons, ios_len]
theorem ios_get : ∀ {n : Nat} {δ : Env} {j : Nat} {s : Sl}, (ios n δ)[j]? = some s → s = .no ∨ ∃ d, s = .io d ∧ δ[j]? = some (.io d)
  | 0, _, _, _, e => by simp [ios] at e
  | n + 1, s0 :: δ, 0, s, e => by
    unfold ios at e
    simp at e; subst e
    cases s0 with
    | io d => exact .inr ⟨d, rfl, rfl⟩
    | _ => exact .inl rfl
  | n + 1, s0 :: δ, j + 1, s, e => by
    unfold ios at e
    have := ios_get (n := n) (δ := δ) (j := j) (s := s) (by simpa using e)
    simpa using this
  | n + 1, [], 0, s, e => by unfold ios at e; simp at e; exact .inl e.symm
  | n + 1, [], j + 1, s, e => by
    unfold ios at e
    have := ios_get (n := n) (δ := []) (j := j) (s := s) (by simpa using e)
    rcases this with h | ⟨d, _, h⟩
    · exact .inl h
    · simp at h
/-- a def's mirror by its body's: N names, n parameters -/
def fnM (N n : Nat) (body : Mo Out) : Mo D := fun δ => match body (δ ++ List.replicate (N - n) .no) with
  | some (.ok (.rt d), δ') => some (.ok d, ios n δ')
  | some (.ok (.rtO d), δ') => some (.ok d, ios n δ')
  | some (.ok .nx, δ') => some (.ok .non, ios n δ')
  | some (.error x, δ') => some (.error x, ios n δ')
  | _ => none
def fnO (N n : Nat) (body : Mo Out) : Mo D := fun δ => match body (δ ++ List.replicate (N - n) .no) with
  | some (.ok (.rtO d), δ') => some (.ok d, ios n δ')
  | some (.error x, δ') => some (.error x, ios n δ')
  | _ => none
section
variable {K : PySem.W.Frag} {B : Bs} {G G' H H' : Hp} {δ δ' : Env} {σ σ' : St} {vs : List V} {n N : Nat}
theorem At.start (a : At K B G δ (vs.map some) H) (m : Nat) : At K B G (δ ++ List.replicate m .no) (vs.map some ++ List.replicate m none) H := by
  have hl : δ.length = vs.length := by rw [a.len, List.length_map]
  have back : ∀ {j : Nat} {s : Sl}, (δ ++ List.replicate m .no)[j]? = some s → s = .no ∨ (δ[j]? = some s ∧ (vs.map some ++ List.replicate m none)[j]? = (vs.map some)[j]?) := fun {j s} e => by
    by_cases c : j < δ.length
    · rw [List.getElem?_append_left c] at e
      exact .inr ⟨e, List.getElem?_append_left (by rw [List.length_map]; omega)⟩
    · rw [List.getElem?_append_right (by omega)] at e
      have := List.mem_of_getElem? e
      exact .inl (List.eq_of_mem_replicate this)
  exact a.forget (by rw [List.length_append, List.length_append, List.length_replicate, List.length_replicate, List.length_map, hl]) fun j s e => back e
/-- the frame is left: its lent slots, at the values that were handed in -/
theorem ios_slot (hio : ∀ k p, (k, p) ∈ B.IO → vs[k]? = some (.ref p)) (a : At K B G' δ' σ' H') : ∀ (j : Nat) (s : Sl), (ios n δ')[j]? = some s → s = .no ∨ ∃ d, s = .io d ∧ δ'[j]? = some (.io d) ∧ ∃ p, (vs.map some)[j]? = some (some (.ref p)) ∧ σ'[j]? = some (some (.ref p)) := fun j s e => by
  rcases ios_get e with rfl | ⟨d, rfl, q⟩
  · exact .inl rfl
  · obtain ⟨p, q1, _, _, q4⟩ := a.io q
    exact .inr ⟨d, rfl, q, p, by rw [List.getElem?_map, hio j p q4]; rfl, q1⟩
theorem ios_back (hio : ∀ k p, (k, p) ∈ B.IO → vs[k]? = some (.ref p)) (a : At K B G' δ' σ' H') {j : Nat} {p : Addr} (z : OwnAt (ios n δ') (vs.map some) j p) : OwnAt δ' σ' j p := by
  obtain ⟨⟨d, z1⟩, z2⟩ := z
  have hs : ∃ s, (ios n δ')[j]? = some s ∧ (s = .own d ∨ s = .io d) := by
    rcases z1 with z1 | z1
    · exact ⟨_, z1, .inl rfl⟩
    · exact ⟨_, z1, .inr rfl⟩
  obtain ⟨s, y1, y2⟩ := hs
  rcases ios_slot hio a j s y1 with rfl | ⟨d', rfl, q, p', q1, q2⟩
  · rcases y2 with y2 | y2 <;> cases y2
  · rw [q1] at z2; cases z2
    exact ⟨⟨d', .inr q⟩, q2⟩
theorem At.leave (hn : vs.length = n) (hio : ∀ k p, (k, p) ∈ B.IO → vs[k]? = some (.ref p)) (a : At K B G' δ' σ' H') : At K B G' (ios n δ') (vs.map some) H' := by
  refine ⟨a.vw, a.g0, a.keep, a.dom, a.leak, a.iok, a.bo, a.bod, ?_, fun j s e => ?_, fun i j p e1 e2 => a.apart i j p (ios_back hio a e1) (ios_back hio a e2), a.tb⟩
  · rw [ios_len, List.length_map, hn]
  · rcases ios_slot hio a j s e with rfl | ⟨d, rfl, q, p, q1, q2⟩
    · have := (List.getElem?_eq_some_iff.mp e).1
      rw [ios_len] at this
      have hj : j < (vs.map some).length := by rw [List.length_map]; omega
      exact ⟨_, List.getElem?_eq_getElem hj, trivial⟩
    · obtain ⟨p', r1, r2, r3, r4⟩ := a.io q
      rw [q2] at r1; cases r1
      exact ⟨_, q1, p, rfl, r2, r3, r4⟩
end
section
variable {X : Cx} {W : WK} {e : Expr} {es : List Expr} {A : Mo (List Ag)} {CX : CXT} {k n : Nat} {f : Addr} {fd : FuncData} {ps : List Str} {ds : List Value} {x : Str} {p pos : Pos} {m : Mo D}
def eCall (m : Mo D) (A : Mo (List Ag)) : Mo D := A.bind fun as => callM m as
/-- default values: data -/
theorem call_ok {K : PySem.W.Frag} {Wf : XK → WK} {E : XK} {B : Bs} {G : Hp} {δ δ' : Env} {σ : St} {H : Hp} {as : List Ag} {vs : List V} {r : Except Exn D} {ro : Bool} {Q : VK} (hW : Wf E = W) (hW2 : ∀ x δ σ δ2 σ2 G H, W x δ σ G H → W x δ2 σ2 G H) (a : At K B G δ σ H) (g : AgsOk K G σ vs as) (h : callM m as δ = some (r, δ'))
    (post : match r with
      | .ok d => ∀ G' H', At K B G' δ' σ H' → Ext G G' → if ro = true then ∀ p, Fr1 K B G' δ' σ H' p d → Q (.ref p) H' else ∀ v, R K G' v d → Q v H'
      | .error x => ∀ G' H', At K B G' δ' σ H' → Ext G G' → W x δ' σ G' H')
    (hn : as.length = n) : spM Wf K n ro m vs H Q E := by
  unfold callM at h
  cases q : argSls δ as with
  | none => rw [q] at h; cases h
  | some δc =>
    rw [q] at h
    simp only [] at h
    split at h
    · rename_i c
      obtain ⟨nd, nb⟩ := c
      cases q2 : m δc with
      | none => rw [q2] at h; cases h
      | some z =>
        obtain ⟨r', δc'⟩ := z
        rw [q2] at h
        simp only [] at h
        cases q3 : backs as δc' δ with
        | none => rw [q3] at h; cases h
        | some δ2 =>
          rw [q3] at h
          cases h
          obtain ⟨Bc, e1, e2, e3, ac⟩ := call_enter a g q nd nb
          refine ⟨by rw [ags_len g]; exact hn, Bc, G, δc, r, δc', fun k p z => by rw [e3] at z; obtain ⟨_, _, y⟩ := ioList_mem.mp z; exact y, ac, q2, ?_⟩
          have lv : ∀ {G' H'}, At K Bc G' δc' (vs.map some) H' → At K B G' δ' σ H' := fun a' => call_leave a g q nd e1 e2 e3 a' q3
          cases r with
          | error y =>
            intro G' H' a' x'
            rw [hW]
            exact hW2 _ _ _ _ _ _ _ (post G' H' (lv a') x')
          | ok d =>
            intro G' H' a' x'
            have pp := post G' H' (lv a') x'
            cases ro with
            | false => rw [if_neg Bool.false_ne_true] at pp ⊢; exact pp
            | true =>
              rw [if_pos rfl] at pp ⊢
              rintro p ⟨w1, w2, w3, w4⟩
              have hp0 : ∀ o, H p = some o → ∃ ps, o = .tbl ps := fun u z => by
                have w2 : Bc.H0 p = none := w2
                rw [e1] at w2
                cases u with
                | tbl ps => exact ⟨ps, rfl⟩
                | _ => rw [hid_nt z (fun ps c => by cases c)] at w2; cases w2
              refine pp p ⟨w1, a.fresh1 hp0, fun j z => ?_, w4⟩
              -- a slot's own object was there ahead of the call
              have : OwnAt δ σ j p := by
                obtain ⟨⟨d', z1⟩, z2⟩ := z
                have hs : ∃ s, δ'[j]? = some s ∧ (s = .own d' ∨ s = .io d') := by
                  rcases z1 with z1 | z1
                  · exact ⟨_, z1, .inl rfl⟩
                  · exact ⟨_, z1, .inr rfl⟩
                obtain ⟨s, y1, y2⟩ := hs
                rcases backs_get nd q3 y1 with ⟨_, h2⟩ | ⟨k, d'', _, _, h3⟩
                · rcases y2 with rfl | rfl
                  · exact ⟨⟨_, .inl h2⟩, z2⟩
                  · exact ⟨⟨_, .inr h2⟩, z2⟩
                · rcases h3 with ⟨d0, y1, _⟩ | ⟨d0, y1, _⟩
                  · exact ⟨⟨d0, .inl y1⟩, z2⟩
                  · exact ⟨⟨d0, .inr y1⟩, z2⟩
              exact a.noOwn1 hp0 j this
    · cases h
/-- the arguments' number -/
def ALen (A : Mo (List Ag)) (n : Nat) : Prop := ∀ δ as δ', A δ = some (.ok as, δ') → as.length = n
theorem alen_nil : ALen aNil 0 := fun δ as δ' h => by cases h; rfl
theorem bind_okD {α β : Type} {m : Mo α} {k : α → Mo β} {δ δ' : Env} {b : β} (h : Mo.bind m k δ = some (.ok b, δ')) : ∃ a δ1, m δ = some (.ok a, δ1) ∧ k a δ1 = some (.ok b, δ') := by
  unfold Mo.bind at h
  cases q : m δ with
  | none => rw [q] at h; cases h
  | some z =>
    obtain ⟨u, δ1⟩ := z
    rw [q] at h
    cases u with
    | error u => cases h
    | ok u => exact ⟨u, δ1, rfl, h⟩
theorem alen_cons {E : Mo D} (h : ALen A n) : ALen (aCons E A) (n + 1) := fun δ as δ' q => by
  obtain ⟨d, δ1, _, q⟩ := bind_okD q
  obtain ⟨ds, δ2, q1, q⟩ := bind_okD q
  cases q
  rw [List.length_cons, h _ _ _ q1]
theorem alen_vr {i : Nat} (h : ALen A n) : ALen (aVr i A) (n + 1) := fun δ as δ' q => by
  unfold aVr at q
  split at q
  · obtain ⟨ds, δ2, q1, q⟩ := bind_okD q
    cases q
    rw [List.length_cons, h _ _ _ q1]
  · obtain ⟨ds, δ2, q1, q⟩ := bind_okD q
    cases q
    rw [List.length_cons, h _ _ _ q1]
  · cases q
theorem alen_vb {i : Nat} (h : ALen A n) : ALen (aVb i A) (n + 1) := fun δ as δ' q => by
  unfold aVb at q
  split at q
  all_goals first
    | cases q; done
    | (obtain ⟨ds, δ2, q1, q⟩ := bind_okD q
       cases q
       rw [List.length_cons, h _ _ _ q1])
theorem tA_bind' {K : PySem.W.Frag} {B : Bs} {G H : Hp} {δ δ' : Env} {σ : St} {β : Type} {r : Except Exn β} {ok : β → Hp → Hp → Prop} {kk : List Ag → Mo β} {Q : List V → Hp → Prop} (a : At K B G δ σ H) (h : Mo.bind A kk δ = some (r, δ')) (post : Post K W B G σ r δ' ok)
    (q : ∀ vs H1 G1 δ1 d, A δ = some (.ok d, δ1) → At K B G1 δ1 σ H1 → Ext G G1 → AgsOk K G1 σ vs d → kk d δ1 = some (r, δ') → Post K W B G1 σ r δ' ok → Q vs H1) : tA K W A σ H Q := by
  unfold Mo.bind at h
  cases e : A δ with
  | none => rw [e] at h; cases h
  | some z =>
    obtain ⟨x, δ1⟩ := z
    rw [e] at h
    cases x with
    | error x => cases h; exact ⟨B, G, δ, .error x, _, a, e, post⟩
    | ok d => exact ⟨B, G, δ, .ok d, δ1, a, e, fun G1 H1 a1 e1 v rv => q v H1 G1 δ1 d e a1 e1 rv h (post.mono e1)⟩
theorem tCall_ok {K : PySem.W.Frag} {Wf : XK → WK} {E : XK} (hW : Wf E = W) (hW2 : ∀ x δ σ δ2 σ2 G H, W x δ σ G H → W x δ2 σ2 G H) (hl : ALen A n) {σ : St} {H : Hp} {Q : VK} (q : tE K W (eCall m A) σ H Q) : tCall (spM Wf K n false m) [] E (tA K W A) σ H Q := by
  obtain ⟨B, G, δ, r, δ', a, e1, post⟩ := q
  refine tA_bind' a e1 post fun vs H1 G1 δ1 as ea a1 x1 r1 e2 post => ?_
  show spM Wf K n false m (vs ++ []) H1 Q E
  rw [List.append_nil]
  refine call_ok hW hW2 a1 r1 e2 ?_ (hl _ _ _ ea)
  cases r with
  | ok d => exact fun G' H' a' x' => by rw [if_neg Bool.false_ne_true]; exact fun v rv => post G' H' a' x' v rv
  | error x => exact fun G' H' a' x' => post G' σ H' a' x'
theorem tCallO_ok {K : PySem.W.Frag} {Wf : XK → WK} {E : XK} (hW : Wf E = W) (hW2 : ∀ x δ σ δ2 σ2 G H, W x δ σ G H → W x δ2 σ2 G H) (hl : ALen A n) {σ : St} {H : Hp} {Q : VK} (q : tO K W (eCall m A) σ H Q) : tCall (spM Wf K n true m) [] E (tA K W A) σ H Q := by
  obtain ⟨B, G, δ, r, δ', a, e1, post⟩ := q
  refine tA_bind' a e1 post fun vs H1 G1 δ1 as ea a1 x1 r1 e2 post => ?_
  show spM Wf K n true m (vs ++ []) H1 Q E
  rw [List.append_nil]
  refine call_ok hW hW2 a1 r1 e2 ?_ (hl _ _ _ ea)
  cases r with
  | ok d => exact fun G' H' a' x' => by rw [if_pos rfl]; exact fun v rv => post G' H' a' x' v rv
  | error x => exact fun G' H' a' x' => post G' σ H' a' x'
/-- no exception: the promise's fourth letter does not matter -/
def Wn : XK → WK := fun _ => W0
theorem de_call (F : FnOk X.prog X.w X.K X.mg X.base CX0 k f fd ps (spM Wn X.K n false m)) (hr : Room k X.A) (hg : Gl X x) (hm : X.mg x = some (.ref f)) (hk : PySem.W.keepIn X.K (.ref f) = true) (hb : Binds X.K fd ps []) (hl : ALen A n)
    (ha : DA X W0 (e :: es) A) (hdb : (x == ("__debug__" : Str)) = false := by decide) (he : starEach (e :: es) X.env = (false, eval e X.env) :: starEach es X.env := by rfl) (hpl : (backTo pos (starEach es X.env)).any (·.1) = false := by rfl) :
    DE X W0 (.Call (.Name x p) (e :: es) [] pos) (eCall m A) := PE.weak (pe_call (E := E0) F hr hg hm hk hb .nil pass0 ha hdb he hpl) fun σ H Q q => tCall_ok rfl (fun _ _ _ _ _ _ _ h => h) hl q
theorem do_call (F : FnOk X.prog X.w X.K X.mg X.base CX0 k f fd ps (spM Wn X.K n true m)) (hr : Room k X.A) (hg : Gl X x) (hm : X.mg x = some (.ref f)) (hk : PySem.W.keepIn X.K (.ref f) = true) (hb : Binds X.K fd ps []) (hl : ALen A n)
    (ha : DA X W0 (e :: es) A) (hdb : (x == ("__debug__" : Str)) = false := by decide) (he : starEach (e :: es) X.env = (false, eval e X.env) :: starEach es X.env := by rfl) (hpl : (backTo pos (starEach es X.env)).any (·.1) = false := by rfl) :
    DO X W0 (.Call (.Name x p) (e :: es) [] pos) (eCall m A) := PE.weak (pe_call (E := E0) F hr hg hm hk hb .nil pass0 ha hdb he hpl) fun σ H Q q => tCallO_ok rfl (fun _ _ _ _ _ _ _ h => h) hl q
end
theorem fn_len {Wf : XK → WK} {K : PySem.W.Frag} {n : Nat} {ro : Bool} {m : Mo D} {ps : List Str} (hn : ps.length = n) : ∀ vs H Q E, spM Wf K n ro m vs H Q E → vs.length = ps.length := fun _ _ _ _ h => h.1.trans hn.symm
theorem body_ok {Wf : XK → WK} {K : PySem.W.Frag} {n : Nat} {N : List Str} {body : Mo Out} {vs : List V} {H : Hp} {Q : VK} {E : XK} (hW2 : ∀ x δ σ δ2 σ2 G H, Wf E x δ σ G H → Wf E x δ2 σ2 G H) (h : spM Wf K n false (fnM N.length n body) vs H Q E) :
    tS K (Wf E) body { nx := fun _ H' => Q .non H', rt := Q } (L2.start N vs) H := by
  obtain ⟨hl, B, G, δ, r, δ', hio, a, hm, post⟩ := h
  unfold fnM at hm
  have a1 := a.start (N.length - n)
  have hs : L2.start N vs = vs.map some ++ List.replicate (N.length - n) none := by unfold L2.start; rw [hl]
  rw [hs]
  cases q : body (δ ++ List.replicate (N.length - n) .no) with
  | none => simp only [q] at hm; cases hm
  | some z =>
    obtain ⟨u, δ0⟩ := z
    simp only [q] at hm
    refine ⟨B, G, _, u, δ0, a1, q, ?_⟩
    cases u with
    | error x =>
      cases hm
      exact fun G' σ' H' a' x' => hW2 _ _ _ _ _ _ _ (post G' H' (a'.leave hl hio) x')
    | ok o =>
      cases o with
      | nx =>
        cases hm
        exact fun G' σ' H' a' x' => by
          have p := post G' H' (a'.leave hl hio) x'
          rw [if_neg Bool.false_ne_true] at p
          exact p _ .non
      | bk => cases hm
      | ct => cases hm
      | rt d =>
        cases hm
        exact fun G' σ' H' a' x' v rv => by
          have p := post G' H' (a'.leave hl hio) x'
          rw [if_neg Bool.false_ne_true] at p
          exact p v rv
      | rtO d =>
        cases hm
        refine fun G' σ' H' a' x' p hp => ?_
        obtain ⟨h1, h2, h3, h4⟩ := hp
        obtain ⟨ob, q1, qm, q2⟩ := h4.obj
        have pp := post (upd G' p ob) H' ((a'.fix q1 h1 h2 h3 (mut_notbl qm)).leave hl hio) (x'.trans (Ext.new h1))
        rw [if_neg Bool.false_ne_true] at pp
        exact pp _ (q2 _ upd_same (Ext.new h1))
theorem body_okO {Wf : XK → WK} {K : PySem.W.Frag} {n : Nat} {N : List Str} {body : Mo Out} {vs : List V} {H : Hp} {Q : VK} {E : XK} (hW2 : ∀ x δ σ δ2 σ2 G H, Wf E x δ σ G H → Wf E x δ2 σ2 G H) (h : spM Wf K n true (fnO N.length n body) vs H Q E) :
    tS K (Wf E) body { nx := fun _ H' => Q .non H', rt := Q } (L2.start N vs) H := by
  obtain ⟨hl, B, G, δ, r, δ', hio, a, hm, post⟩ := h
  unfold fnO at hm
  have a1 := a.start (N.length - n)
  have hs : L2.start N vs = vs.map some ++ List.replicate (N.length - n) none := by unfold L2.start; rw [hl]
  rw [hs]
  cases q : body (δ ++ List.replicate (N.length - n) .no) with
  | none => simp only [q] at hm; cases hm
  | some z =>
    obtain ⟨u, δ0⟩ := z
    simp only [q] at hm
    refine ⟨B, G, _, u, δ0, a1, q, ?_⟩
    cases u with
    | error x =>
      cases hm
      exact fun G' σ' H' a' x' => hW2 _ _ _ _ _ _ _ (post G' H' (a'.leave hl hio) x')
    | ok o =>
      cases o with
      | nx => cases hm
      | bk => cases hm
      | ct => cases hm
      | rt d => cases hm
      | rtO d =>
        cases hm
        refine fun G' σ' H' a' x' p hp => ?_
        have pp := post G' H' (a'.leave hl hio) x'
        rw [if_pos rfl] at pp
        exact pp p ⟨hp.1, hp.2.1, fun j z => hp.2.2.1 j (ios_back hio a' z), hp.2.2.2⟩
section
variable {P : Program} {w : World} {K : PySem.W.Frag} {mg : Str → Option Value} {base : Heap} {x qual : Str} {st : Stmt} {f : Addr} {fd : FuncData} {N ps : List Str} {k n : Nat} {body : Mo Out}
theorem fn_ok (F : Fun K x qual st f fd) (S : FnScope N ps (defScope st)) (hn : ps.length = n)
    (hb : ∀ (cdv : Value) (A : Around) (outer : List PySem.Env) (s : Shared) (H : Hp) (E : XK), Room k (A.deeper (envOfC qual (defScope st) s.heap.objs.size f cdv)) → DSs (cxOf CX0 P w K mg base N qual (defScope st) f cdv A outer s H E).nox W0 (defBody st) body) :
    FnOk P w K mg base CX0 (k + 1) f fd ps (spM Wn K n false (fnM N.length n body)) :=
  F.ok S (fn_len hn) fun cdv A outer s H vs Q E hr h => ⟨tS K W0 body, hb cdv A outer s H E hr, body_ok (E := E) (fun _ _ _ _ _ _ _ h => h) h⟩
theorem fn_okO (F : Fun K x qual st f fd) (S : FnScope N ps (defScope st)) (hn : ps.length = n)
    (hb : ∀ (cdv : Value) (A : Around) (outer : List PySem.Env) (s : Shared) (H : Hp) (E : XK), Room k (A.deeper (envOfC qual (defScope st) s.heap.objs.size f cdv)) → DSs (cxOf CX0 P w K mg base N qual (defScope st) f cdv A outer s H E).nox W0 (defBody st) body) :
    FnOk P w K mg base CX0 (k + 1) f fd ps (spM Wn K n true (fnO N.length n body)) :=
  F.ok S (fn_len hn) fun cdv A outer s H vs Q E hr h => ⟨tS K W0 body, hb cdv A outer s H E hr, body_okO (E := E) (fun _ _ _ _ _ _ _ h => h) h⟩
/-- the law: from the script to True -/
theorem sql_hid {H : Hp} {a : Addr} {xs : List V} (h : SqL K H a xs) : SqL K (hid H) a xs := by
  rcases h with (h | ⟨o, h⟩) | h
  · exact .inl (.inl (hid_nt h fun _ e => by cases e))
  · exact .inl (.inr ⟨o, hid_nt h fun _ e => by cases e⟩)
  · exact .inr h
theorem law_sp {m : Mo D} {H : Hp} {a : Addr} {ns : List Int} (tbs : ∀ P, tabOf K = some P → LamX.TabS H P tabQ) (hS : SqL K H a (ns.map V.int)) (hl : ns.length ≤ 63) (h : m [.imm (.scr (ns.map D.int))] = some (.ok (.bl true), [.no])) : spM Wn K 1 false m [.ref a] H (fun v _ => v = .bl true) fun _ _ _ => False := by
  have hS2 := sql_hid hS
  refine ⟨rfl, ⟨hid H, hid H, fun _ _ => none, []⟩, hid H, [.imm (.scr (ns.map D.int))], .ok (.bl true), [.no], (fun k p z => by cases z), ⟨fun b o e => .inl (hid_of e).1, Ext.refl _, fun _ _ e _ => (hid_of e).1, fun _ e => hid_ne e, fun _ _ _ _ e => e, fun _ _ e => (by cases e), fun _ _ _ e => (by cases e), fun _ _ e => absurd rfl e, rfl, fun i s e => ?_, fun i j p e1 _ => ?_, ⟨tbs, fun b ps e => (hid_of e).2 ps rfl, fun b ps e => (hid_of e).2 ps rfl, (fun _ _ _ e => (by cases e)), fun _ _ _ e => (by cases e)⟩⟩, h, fun G' H' a' x' => ?_⟩
  · cases i with
    | zero =>
      simp at e; subst e
      refine ⟨some (.ref a), rfl, .ref a, rfl, .scr hS2 ?_ ?_⟩
      · rw [List.length_map]; exact Nat.le_trans hl (by decide)
      · clear hS2 hS h hl
        induction ns with
        | nil => exact .nil
        | cons n ns ih => exact .cons (.int n) ih
    | succ i => simp at e
  · obtain ⟨⟨d, e | e⟩, _⟩ := e1
    · cases i with
      | zero => simp at e
      | succ i => simp at e
    · cases i with
      | zero => simp at e
      | succ i => simp at e
  · rw [if_neg Bool.false_ne_true]
    intro v rv
    cases rv
    rfl
end
end M
set_option Elab.async false
set_option linter.all false
set_option maxRecDepth 100000
namespace M
open PySem L2 PySem.Spec PyProof.Rows
section
variable {κ α : Type} [DecidableEq κ]
def lookA (l : List (κ × α)) (k : κ) : Option α := (l.find? fun kv => decide (kv.1 = k)).map (·.2)
def putA (l : List (κ × α)) (k : κ) (v : α) : List (κ × α) := if (l.any fun kv => decide (kv.1 = k)) = true then l.map (fun kv => if kv.1 = k then (kv.1, v) else kv) else l ++ [(k, v)]
variable {K : PySem.W.Frag} {G G' : Hp}
abbrev KVP (K : PySem.W.Frag) (G : Hp) : List (κ × V) → List (κ × D) → Prop := Paired fun p q => p.1 = q.1 ∧ R K G p.2 q.2
theorem kvp_of : ∀ {kvs : List (κ × V)} {ds : List (κ × D)}, kvs.map (·.1) = ds.map (·.1) → RL K G (kvs.map (·.2)) (ds.map (·.2)) → KVP K G kvs ds
  | [], [], _, _ => .nil
  | [], _ :: _, h, _ => by cases h
  | _ :: _, [], h, _ => by cases h
  | p :: kvs, q :: ds, h, r => by
    cases r with
    | cons r0 r1 =>
      have h1 : p.1 = q.1 := (List.cons.inj h).1
      exact .cons ⟨h1, r0⟩ (kvp_of (List.cons.inj h).2 r1)
theorem kvp_keys {kvs : List (κ × V)} {ds : List (κ × D)} (h : KVP K G kvs ds) : kvs.map (·.1) = ds.map (·.1) := by
  induction h with
  | nil => rfl
  | cons h _ ih => rw [List.map_cons, List.map_cons, h.1, ih]
theorem kvp_vals {kvs : List (κ × V)} {ds : List (κ × D)} (h : KVP K G kvs ds) : RL K G (kvs.map (·.2)) (ds.map (·.2)) := by
  induction h with
  | nil => exact .nil
  | cons h _ ih => exact .cons h.2 ih
theorem kvp_any {kvs : List (κ × V)} {ds : List (κ × D)} (h : KVP K G kvs ds) (k : κ) : (kvs.any fun kv => decide (kv.1 = k)) = (ds.any fun kv => decide (kv.1 = k)) := by
  induction h with
  | nil => rfl
  | cons h _ ih => rw [List.any_cons, List.any_cons, h.1, ih]
theorem kvp_look {kvs : List (κ × V)} {ds : List (κ × D)} (h : KVP K G kvs ds) (k : κ) : (∃ v d, valV kvs k = some v ∧ lookA ds k = some d ∧ R K G v d) ∨ (valV kvs k = none ∧ lookA ds k = none) := by
  induction h with
  | nil => exact .inr ⟨rfl, rfl⟩
  | cons h t ih =>
    rename_i p q kvs ds
    unfold valV lookA at ih ⊢
    rw [List.find?_cons, List.find?_cons, h.1]
    by_cases c : q.1 = k
    · rw [decide_eq_true c]
      exact .inl ⟨_, _, rfl, rfl, h.2⟩
    · rw [decide_eq_false c]
      exact ih
theorem kvp_map {f : κ × V → κ × V} {g : κ × D → κ × D} {kvs : List (κ × V)} {ds : List (κ × D)} (h : KVP K G kvs ds) (hf : ∀ p q, p.1 = q.1 → R K G p.2 q.2 → (f p).1 = (g q).1 ∧ R K G (f p).2 (g q).2) : KVP K G (kvs.map f) (ds.map g) := by
  induction h with
  | nil => exact .nil
  | cons h _ ih => exact .cons (hf _ _ h.1 h.2) ih
theorem kvp_append {kvs kvs' : List (κ × V)} {ds ds' : List (κ × D)} (h : KVP K G kvs ds) (h' : KVP K G kvs' ds') : KVP K G (kvs ++ kvs') (ds ++ ds') := by
  induction h with
  | nil => exact h'
  | cons h _ ih => exact .cons h ih
theorem kvp_put {kvs : List (κ × V)} {ds : List (κ × D)} (h : KVP K G kvs ds) (k : κ) {v : V} {d : D} (r : R K G v d) : KVP K G (putK kvs k v) (putA ds k d) := by
  unfold putK putA
  rw [kvp_any h k]
  split
  · refine kvp_map h fun p q e r' => ?_
    rw [e]
    split
    · exact ⟨rfl, r⟩
    · exact ⟨e, r'⟩
  · exact kvp_append h (.cons ⟨rfl, r⟩ .nil)
end
def keyK : D → Option Key
  | .int i => some (.inl i)
  | .str s => some (.inr s)
  | _ => none
def keysK : List D → Option (List Key)
  | [] => some []
  | d :: ds => match keyK d with
    | none => none
    | some k => match keysK ds with
      | none => none
      | some ks => some (k :: ks)
section
variable {K : PySem.W.Frag} {G G' H : Hp}
theorem keyK_ok {v : V} {d : D} {k : Key} (r : R K G v d) (h : keyK d = some k) : v = kV k := by
  cases r <;> cases h <;> rfl
theorem keysK_ok : ∀ {vs : List V} {ds : List D} {k : List Key}, RL K G vs ds → keysK ds = some k → vs = k.map kV
  | _, _, _, .nil, h => by cases h; rfl
  | _, d :: ds, _, .cons r t, h => by
    unfold keysK at h
    cases q : keyK d with
    | none => rw [q] at h; cases h
    | some k =>
      rw [q] at h
      simp only [] at h
      cases q2 : keysK ds with
      | none => rw [q2] at h; cases h
      | some ks => rw [q2] at h; cases h; rw [keyK_ok r q, keysK_ok t q2, List.map_cons]
/-- a key as data -/
def kD : Key → D
  | .inl i => .int i
  | .inr s => .str s
theorem kD_ok (k : Key) : R K G (kV k) (kD k) := by cases k <;> constructor
theorem kDs_ok : ∀ ks : List Key, RL K G (ks.map kV) (ks.map kD)
  | [] => .nil
  | k :: ks => .cons (kD_ok k) (kDs_ok ks)
end
/-- what a dict holds at a key; the key no key: none -/
def dGet : D → D → Option (Option D)
  | .dK l, k => (keyK k).map fun k => lookA l k
  | .dT l, .tup ks => (keysK ks).map fun k => lookA l k
  | _, _ => none
def dPut : D → D → D → Option D
  | .dK l, k, v => (keyK k).bind fun k => if l.length < sizeLine then some (.dK (putA l k v)) else none
  | .dT l, .tup ks, v => (keysK ks).bind fun k => if l.length < sizeLine then some (.dT (putA l k v)) else none
  | _, _, _ => none
section
variable {K : PySem.W.Frag} {B : Bs} {G H : Hp} {δ : Env} {σ : St}
/-- the own object p is stored into -/
theorem dPut_ok {p : Addr} {y v : V} {d k e d' : D} (vw : Vw G H) (w : Ow K G H p d) (ry : R K G y k) (rv : R K G v e) (h : dPut d k e = some d') : ∃ o, DPut H p y v (upd H p o) ∧ Mut (some o) ∧ Ow K G (upd H p o) p d' := by
  cases w with
  | lst => cases h
  | dK hp l hk r =>
    rename_i kvs ds
    have h : ((keyK k).bind fun k => if ds.length < sizeLine then some (D.dK (putA ds k e)) else none) = some d' := h
    cases q : keyK k with
    | none => rw [q] at h; cases h
    | some kk =>
      rw [q, Option.bind_some] at h
      split at h
      · rename_i hl
        cases h
        have kp := kvp_put (kvp_of hk r) kk rv
        have hlen := congrArg List.length hk
        rw [List.length_map, List.length_map] at hlen
        have := length_putK kvs kk v
        exact ⟨.dK (putK kvs kk v), .inl ⟨kvs, kk, hp, keyK_ok ry q, by omega, rfl⟩, trivial, .dK upd_same (by omega) (kvp_keys kp) (kvp_vals kp)⟩
      · cases h
  | dT hp l hk r =>
    rename_i kvs ds
    cases ry with
    | tup g2 l2 r2 =>
      rename_i b xs ks
      have h : ((keysK ks).bind fun k => if ds.length < sizeLine then some (D.dT (putA ds k e)) else none) = some d' := h
      cases q : keysK ks with
      | none => rw [q] at h; cases h
      | some kk =>
        rw [q, Option.bind_some] at h
        split at h
        · rename_i hl
          cases h
          have hx := keysK_ok r2 q
          subst hx
          have kp := kvp_put (kvp_of hk r) kk rv
          have hlen := congrArg List.length hk
          rw [List.length_map, List.length_map] at hlen
          have := length_putK kvs kk v
          exact ⟨.dT (putK kvs kk v), .inr ⟨kvs, kk, b, hp, rfl, vw.tup g2, by omega, rfl⟩, trivial, .dT upd_same (by omega) (kvp_keys kp) (kvp_vals kp)⟩
        · cases h
    | _ => cases h
end
def Bs.add (B : Bs) (D : Addr) (o : HO) : Bs := { B with H0 := upd B.H0 D o }
def Out1 (B : Bs) (D : Addr) : Prop := B.H0 D = none ∧ B.G0 D = none ∧ (∀ j, B.Bo j D = none) ∧ ∀ i, (i, D) ∉ B.IO
section
variable {K : PySem.W.Frag} {B : Bs} {G G' H H' : Hp} {δ δ' : Env} {σ σ' : St} {D1 : Addr} {o o' : HO}
theorem At.out1 (a : At K B G δ σ H) (h0 : B.H0 D1 = none) (g : G D1 = none) : Out1 B D1 := by
  refine ⟨h0, ?_, fun j => ?_, fun i e => (a.iok i D1 e).2.1 h0⟩
  · cases z : B.G0 D1 with
    | none => rfl
    | some u => rw [a.g0 D1 u z] at g; cases g
  · cases z : B.Bo j D1 with
    | none => rfl
    | some u => exact absurd h0 (a.bod j D1 (by rw [z]; simp))
theorem At.add (a : At K B G δ σ H) (nt : NT o) (h : H D1 = some o) (g : G D1 = none) (no : ∀ j, ¬ OwnAt δ σ j D1) : At K (B.add D1 o) G δ σ H := by
  refine ⟨a.vw, a.g0, fun b u e z => ?_, fun b e => ?_, fun b u e t z => ?_, fun i b e => ?_, a.bo, fun j b e => ?_, a.len, fun i s e => ?_, a.apart, ⟨a.tb.1, notbl_upd a.tb.2.1 nt.tbl, a.tb.2.2.1, a.tb.2.2.2.1, fun i b xs e z => (by
    have z : upd B.H0 D1 o b = some (.tup xs) := z
    by_cases c : b = D1
    · rw [c, upd_same] at z; cases z; exact nt.tup _ rfl
    · rw [upd_ne c] at z; exact a.tb.2.2.2.2 i b xs e z)⟩⟩
  · by_cases c : b = D1
    · subst c; have e : upd B.H0 b o b = some u := e; rw [upd_same] at e; cases e; exact h
    · have e : upd B.H0 D1 o b = some u := e; rw [upd_ne c] at e; exact a.keep b u e z
  · by_cases c : b = D1
    · rw [c, h]; simp
    · have e : upd B.H0 D1 o b ≠ none := e; rw [upd_ne c] at e; exact a.dom b e
  · by_cases c : b = D1
    · rw [c]; exact g
    · have e : upd B.H0 D1 o b = some u := e; rw [upd_ne c] at e; exact a.leak b u e t z
  · obtain ⟨a1, a2, a3, a4⟩ := a.iok i b e
    refine ⟨a1, ?_, a3, a4⟩
    show upd B.H0 D1 o b ≠ none
    by_cases c : b = D1
    · rw [c, upd_same]; simp
    · rw [upd_ne c]; exact a2
  · show upd B.H0 D1 o b ≠ none
    by_cases c : b = D1
    · rw [c, upd_same]; simp
    · rw [upd_ne c]; exact a.bod j b e
  · obtain ⟨ov, h1, h2⟩ := a.sl i s e
    refine ⟨ov, h1, ?_⟩
    cases s with
    | own d =>
      obtain ⟨p, q1, q2, q3, q4⟩ := h2
      subst q1
      have c : p ≠ D1 := fun c => by subst c; exact no i ⟨⟨d, .inl e⟩, h1⟩
      exact ⟨p, rfl, q2, q3, by show upd B.H0 D1 o p = none; rw [upd_ne c]; exact q4⟩
    | _ => exact h2
theorem At.drop (a : At K (B.add D1 o) G δ σ H) (b : Out1 B D1) (t : NT o) : H D1 = some o ∧ G D1 = none ∧ (∀ j, ¬ OwnAt δ σ j D1) ∧ ∀ o', At K B G δ σ (upd H D1 o') := by
  obtain ⟨b1, b2, b3, b4⟩ := b
  have hD : H D1 = some o := a.keep D1 o upd_same b4
  have gD : G D1 = none := a.leak D1 o upd_same t.tup b2
  have no : ∀ j, ¬ OwnAt δ σ j D1 := fun j z => by
    obtain ⟨⟨d, e | e⟩, z2⟩ := z
    · obtain ⟨p, q1, _, _, q4⟩ := a.own e
      rw [q1] at z2; cases z2
      have q4 : upd B.H0 D1 o D1 = none := q4
      rw [upd_same] at q4; cases q4
    · obtain ⟨p, q1, _, _, q4⟩ := a.io e
      rw [q1] at z2; cases z2
      exact b4 j q4
  refine ⟨hD, gD, no, fun o' => ⟨fun c u e => ?_, a.g0, fun c u e z => ?_, fun c e => ?_, fun c u e t z => ?_, fun i c e => ?_, fun j c u e => ?_, fun j c e => ?_, a.len, fun i s e => ?_, a.apart, ⟨fun P hP => tabS_upd (a.tb.1 P hP) hD t, fun b ps e => (by
    by_cases n : b = D1
    · rw [n, b1] at e; cases e
    · exact a.tb.2.1 b ps (by show upd B.H0 D1 o b = _; rw [upd_ne n]; exact e)), a.tb.2.2.1, a.tb.2.2.2.1, fun i b xs e z => (by
    by_cases n : b = D1
    · rw [n, b1] at z; cases z
    · exact a.tb.2.2.2.2 i b xs e (by show upd B.H0 D1 o b = _; rw [upd_ne n]; exact z))⟩⟩⟩
  · rw [upd_ne (fun q => by rw [q, gD] at e; cases e)]; exact a.vw c u e
  · have n : c ≠ D1 := fun q => by rw [q, b1] at e; cases e
    rw [upd_ne n]; exact a.keep c u (by show upd B.H0 D1 o c = some u; rw [upd_ne n]; exact e) z
  · by_cases n : c = D1
    · rw [n, upd_same]; simp
    · rw [upd_ne n]; exact a.dom c (by show upd B.H0 D1 o c ≠ none; rw [upd_ne n]; exact e)
  · have n : c ≠ D1 := fun q => by rw [q, b1] at e; cases e
    exact a.leak c u (by show upd B.H0 D1 o c = some u; rw [upd_ne n]; exact e) t z
  · obtain ⟨a1, a2, a3, u, a4, a5⟩ := a.iok i c e
    have n : c ≠ D1 := fun q => by rw [q] at e; exact b4 i e
    have a2 : upd B.H0 D1 o c ≠ none := a2
    rw [upd_ne n] at a2
    exact ⟨a1, a2, a3, u, by rw [upd_ne n]; exact a4, a5⟩
  · have n : c ≠ D1 := fun q => by rw [q, b3 j] at e; cases e
    rw [upd_ne n]; exact a.bo j c u e
  · have n : c ≠ D1 := fun q => by rw [q] at e; exact e (b3 j)
    have := a.bod j c e
    have this : upd B.H0 D1 o c ≠ none := this
    rw [upd_ne n] at this; exact this
  · obtain ⟨ov, h1, h2⟩ := a.sl i s e
    refine ⟨ov, h1, ?_⟩
    cases s with
    | no => trivial
    | imm d => exact h2
    | bor d => exact h2
    | own d =>
      obtain ⟨p, q1, q2, q3, q4⟩ := h2
      subst q1
      have c : p ≠ D1 := fun c => by subst c; exact no i ⟨⟨d, .inl e⟩, h1⟩
      have q4 : upd B.H0 D1 o p = none := q4
      rw [upd_ne c] at q4
      exact ⟨p, rfl, q2, q3.at' (upd_ne c), q4⟩
    | io d =>
      obtain ⟨p, q1, q2, q3, q4⟩ := h2
      subst q1
      have c : p ≠ D1 := fun c => by subst c; exact no i ⟨⟨d, .inr e⟩, h1⟩
      exact ⟨p, rfl, q2, q3.at' (upd_ne c), q4⟩
theorem BLe.add (h : B.H0 D1 = none) : BLe B (B.add D1 o) := ⟨Ext.new h, rfl⟩
/-- own slots of a comprehension are forgotten -/
def wipeE (δ : Env) : List Nat → Env
  | [] => δ
  | v :: vs => (wipeE δ vs).set v .no
theorem wipeE_len (δ : Env) : ∀ vs, (wipeE δ vs).length = δ.length
  | [] => rfl
  | v :: vs => by unfold wipeE; rw [List.length_set, wipeE_len]
theorem wipeE_get : ∀ {vs : List Nat} {j : Nat} {s : Sl}, (wipeE δ vs)[j]? = some s → s = .no ∨ (j ∉ vs ∧ δ[j]? = some s)
  | [], j, s, e => .inr ⟨by simp, e⟩
  | v :: vs, j, s, e => by
    unfold wipeE at e
    rcases get_set e with ⟨_, rfl, _⟩ | ⟨c, e⟩
    · exact .inl rfl
    · rcases wipeE_get e with h | ⟨h1, h2⟩
      · exact .inl h
      · exact .inr ⟨fun q => (List.mem_cons.mp q).elim (fun q => c q.symm) h1, h2⟩
theorem wipe_at : ∀ {vs : List Nat} (j : Nat), (wipe σ vs)[j]? = if j ∈ vs ∧ j < σ.length then some none else σ[j]?
  | [], j => by rw [if_neg (fun h => by cases h.1)]; rfl
  | v :: vs, j => by
    unfold wipe
    by_cases c : v = j
    · subst c
      by_cases z : v < σ.length
      · rw [List.getElem?_set_self (by rw [wipe_length]; exact z), if_pos ⟨List.mem_cons_self, z⟩]
      · rw [List.getElem?_eq_none (by rw [List.length_set, wipe_length]; omega), if_neg (fun h => z h.2), List.getElem?_eq_none (by omega)]
    · rw [List.getElem?_set_ne c, wipe_at j]
      have : (j ∈ v :: vs ∧ j < σ.length) ↔ (j ∈ vs ∧ j < σ.length) := by
        rw [List.mem_cons]
        exact ⟨fun ⟨h, z⟩ => ⟨h.elim (fun q => absurd q.symm c) id, z⟩, fun ⟨h, z⟩ => ⟨.inr h, z⟩⟩
      by_cases z : j ∈ vs ∧ j < σ.length
      · rw [if_pos z, if_pos (this.mpr z)]
      · rw [if_neg z, if_neg (fun q => z (this.mp q))]
theorem wipe_out {vs : List Nat} {j : Nat} (h : j ∉ vs) : (wipe σ vs)[j]? = σ[j]? := by rw [wipe_at, if_neg (fun q => h q.1)]
theorem wipe_eq {vs : List Nat} (hl : σ'.length = σ.length) (h : ∀ j, j ∉ vs → σ'[j]? = (wipe σ vs)[j]?) : wipe σ' vs = wipe σ vs := by
  apply List.ext_getElem?
  intro j
  by_cases c : j ∈ vs
  · rw [wipe_at, wipe_at, hl]
    by_cases z : j < σ.length
    · rw [if_pos ⟨c, z⟩, if_pos ⟨c, z⟩]
    · rw [if_neg (fun q => z q.2), if_neg (fun q => z q.2), List.getElem?_eq_none (by omega), List.getElem?_eq_none (by omega)]
  · rw [wipe_out c, h j c]
theorem At.wipe (a : At K B G δ σ H) (vs : List Nat) : At K B G (wipeE δ vs) (L2.wipe σ vs) H := a.forget (by rw [wipeE_len, wipe_length]; exact a.len) fun j s e => by
  rcases wipeE_get e with h | ⟨h1, h2⟩
  · exact .inl h
  · exact .inr ⟨h2, wipe_out h1⟩
/-- behind a turn: the slots of the comprehension's own names forgotten again -/
theorem At.wipe' {vs : List Nat} (a : At K B G δ σ' H) (hw : L2.wipe σ' vs = L2.wipe σ vs) : At K B G (wipeE δ vs) (L2.wipe σ vs) H := by rw [← hw]; exact a.wipe vs
theorem At.unwipe {vs : List Nat} (a : At K B G δ (L2.wipe σ vs) H) (hn : ∀ j ∈ vs, ∀ s, δ[j]? = some s → s = .no) : At K B G δ σ H := a.forget (by rw [a.len, wipe_length]) fun j s e => by
  by_cases c : j ∈ vs
  · exact .inl (hn j c s e)
  · exact .inr ⟨e, (wipe_out c).symm⟩
theorem wipeE_no {vs : List Nat} : ∀ j ∈ vs, ∀ s, (wipeE δ vs)[j]? = some s → s = .no := fun j hj s e => by
  rcases wipeE_get e with h | ⟨h, _⟩
  · exact h
  · exact absurd hj h
end
def lcM (T : D → Mo Unit) (C : Mo Bool) (E : Mo D) (vs : List Nat) : List D → List D → Mo D
  | [], acc => fun δ => some (.ok (.lst acc), δ)
  | d :: ds, acc => fun δ => match T d δ with
    | some (.ok (), δ1) => match C δ1 with
      | some (.ok true, δ2) => match E δ2 with
        | some (.ok x, δ3) => lcM T C E vs ds (acc ++ [x]) (wipeE δ3 vs)
        | _ => none
      | some (.ok false, δ2) => lcM T C E vs ds acc (wipeE δ2 vs)
      | _ => none
    | _ => none
def eLc (I : Mo (List D)) (T : D → Mo Unit) (C : Mo Bool) (E : Mo D) (vs : List Nat) : Mo D := I.bind fun ds => fun δ => if ds.length ≤ sizeLine then lcM T C E vs ds [] (wipeE δ vs) else none
section
variable {K : PySem.W.Frag} {W : WK} {B : Bs} {G H : Hp} {δ δ' : Env} {σ : St} {β : Type} {r : Except Exn β} {ok : β → Hp → Hp → Prop}
theorem tI_bind {E : Mo (List D)} {k : List D → Mo β} {Q : It → Hp → Prop} (a : At K B G δ σ H) (h : Mo.bind E k δ = some (r, δ')) (post : Post K W B G σ r δ' ok)
    (q : ∀ J H1 G1 δ1 d, At K B G1 δ1 σ H1 → Ext G G1 → Yl K B J G1 d → k d δ1 = some (r, δ') → Post K W B G1 σ r δ' ok → Q J H1) : tI K W E σ H Q := by
  unfold Mo.bind at h
  cases e : E δ with
  | none => rw [e] at h; cases h
  | some z =>
    obtain ⟨x, δ1⟩ := z
    rw [e] at h
    cases x with
    | error x => cases h; exact ⟨B, G, δ, .error x, _, a, e, post⟩
    | ok d => exact ⟨B, G, δ, .ok d, δ1, a, e, fun G1 H1 a1 e1 v rv => q v H1 G1 δ1 d a1 e1 rv h (post.mono e1)⟩
end
section
variable {K : PySem.W.Frag} {W : WK} {I : Mo (List D)} {sl vs : List Nat} {T : D → Mo Unit} {C : Mo Bool} {E Ek : Mo D} {σ : St} {H : Hp} {Q : VK}
theorem tLc_at {B : Bs} {G1 H1 : Hp} {δ1 δ' : Env} {J : It} {ds : List D} {r : Except Exn D} (hsl : ∀ j ∈ sl, j ∈ vs) (a1 : At K B G1 δ1 σ H1) (yl : Yl K B J G1 ds) (e2 : (if ds.length ≤ sizeLine then lcM T C E vs ds [] (wipeE δ1 vs) else none) = some (r, δ')) (post : Post K W B G1 σ r δ' (fun d G' H' => ∀ p, Fr1 K B G' δ' σ H' p d → Q (.ref p) H')) : tLc (wiJ J) (tG K sl T) (tT K W0 C) (tE K W0 E) vs σ H1 Q := by
  intro D1 hD
  split at e2
  · rename_i hlen
    have b0 := a1.fresh0 hD
    have ot := a1.out1 b0 (a1.vw.none hD)
    refine ⟨fun i m H2 => m + i = ds.length ∧ ∃ G2 δ2 acc xs, At K B G2 δ2 (wipe σ vs) H2 ∧ Ext G1 G2 ∧ H2 D1 = some (.lst xs) ∧ RL K G2 xs acc ∧ xs.length ≤ i ∧ G2 D1 = none ∧ (∀ j, ¬ OwnAt δ2 (wipe σ vs) j D1) ∧ (∀ j ∈ vs, ∀ s, δ2[j]? = some s → s = .no) ∧ lcM T C E vs (ds.drop i) acc δ2 = some (r, δ'),
      ⟨ds.length, by omega, G1, wipeE δ1 vs, [], [], (a1.alloc hD).wipe vs, Ext.refl _, upd_same, .nil, Nat.zero_le _, a1.vw.none hD, (a1.wipe vs).noOwn hD, wipeE_no, e2⟩, ?_⟩
    rintro i m H2 ⟨hm, G2, δ2, acc, xs, a2, x2, hx, rx, hxl, g2, no2, hno, e3⟩
    by_cases hi : ds.length ≤ i
    · refine .inl ⟨(yl B G2 H2 δ2 _ (BLe.refl B) a2 x2 i).2 hi, ?_⟩
      rw [List.drop_eq_nil_of_le hi] at e3
      cases e3
      have a3 := a2.unwipe hno
      refine post G2 H2 a3 x2 D1 ⟨g2, b0, fun j z => ?_, .lst hx (by omega) rx⟩
      obtain ⟨⟨d, z1⟩, z2⟩ := z
      by_cases c : j ∈ vs
      · rcases z1 with z1 | z1
        · cases hno j c _ z1
        · cases hno j c _ z1
      · exact no2 j ⟨⟨d, z1⟩, by rw [wipe_out c]; exact z2⟩
    · have hlt : i < ds.length := by omega
      have a2' := a2.add nt_lst hx g2 no2
      obtain ⟨y1, _⟩ := yl (B.add D1 (.lst xs)) G2 H2 δ2 _ (BLe.add b0) a2' x2 i
      obtain ⟨gg1, gg2⟩ := y1 ds[i] (List.getElem?_eq_getElem hlt)
      rw [List.drop_eq_getElem_cons hlt] at e3
      refine .inr ⟨gg1, fun H' => ∃ m', m' < m ∧ (m' + (i + 1) = ds.length ∧ ∃ G2 δ2 acc xs, At K B G2 δ2 (wipe σ vs) H' ∧ Ext G1 G2 ∧ H' D1 = some (.lst xs) ∧ RL K G2 xs acc ∧ xs.length ≤ i + 1 ∧ G2 D1 = none ∧ (∀ j, ¬ OwnAt δ2 (wipe σ vs) j D1) ∧ (∀ j ∈ vs, ∀ s, δ2[j]? = some s → s = .no) ∧ lcM T C E vs (ds.drop (i + 1)) acc δ2 = some (r, δ')), fun H' z => z, fun x H' hy => ?_⟩
      obtain ⟨rfl, G3, a3, x3, r3⟩ := gg2 x H' hy
      unfold lcM at e3
      cases q : T ds[i] δ2 with
      | none => simp only [q] at e3; cases e3
      | some z =>
        obtain ⟨u, δ3⟩ := z
        cases u with
        | error u => simp only [q] at e3; cases e3
        | ok u =>
          simp only [q] at e3
          refine ⟨B.add D1 (.lst xs), G3, δ2, ds[i], δ3, a3, r3, q, fun σ4 a4 oa => ?_⟩
          have hw : wipe σ4 vs = wipe σ vs := wipe_eq (oa.1.trans (wipe_length _ _)) fun j hj => oa.2 j fun c => hj (hsl j c)
          refine ⟨hw, ?_⟩
          -- the turn's end
          have fin : ∀ {G5 H5 δ5 ys acc'}, At K (B.add D1 (.lst xs)) G5 δ5 σ4 H5 → Ext G3 G5 → RL K G5 ys acc' → ys.length ≤ i + 1 → lcM T C E vs (ds.drop (i + 1)) acc' (wipeE δ5 vs) = some (r, δ') → ∃ m', m' < m ∧ (m' + (i + 1) = ds.length ∧ ∃ G2 δ2 acc xs, At K B G2 δ2 (wipe σ vs) (upd H5 D1 (.lst ys)) ∧ Ext G1 G2 ∧ (upd H5 D1 (.lst ys)) D1 = some (.lst xs) ∧ RL K G2 xs acc ∧ xs.length ≤ i + 1 ∧ G2 D1 = none ∧ (∀ j, ¬ OwnAt δ2 (wipe σ vs) j D1) ∧ (∀ j ∈ vs, ∀ s, δ2[j]? = some s → s = .no) ∧ lcM T C E vs (ds.drop (i + 1)) acc δ2 = some (r, δ')) := fun {G5 H5 δ5 ys acc'} a5 x5 r5 l5 e5 => by
            obtain ⟨h1, h2, h3, h4⟩ := (a5.wipe' hw).drop ot nt_lst
            exact ⟨m - 1, by omega, by omega, G5, wipeE δ5 vs, acc', ys, h4 _, (x2.trans x3).trans x5, upd_same, r5, l5, h2, h3, wipeE_no, e5⟩
          cases qc : C δ3 with
          | none => simp only [qc] at e3; cases e3
          | some z =>
            obtain ⟨u, δ4⟩ := z
            cases u with
            | error u => simp only [qc] at e3; cases e3
            | ok b =>
              refine ⟨_, G3, δ3, .ok b, δ4, a4, qc, fun G4 H4 a5 x5 => ?_⟩
              cases b with
              | false =>
                simp only [qc] at e3
                rw [if_neg Bool.false_ne_true]
                have f := fin a5 x5 (rx.mono ((x3).trans x5)) (by omega) e3
                have hk := (a5.drop ot nt_lst).1
                have : upd H4 D1 (.lst xs) = H4 := by
                  funext b; by_cases c : b = D1
                  · subst c; rw [upd_same, hk]
                  · rw [upd_ne c]
                rw [this] at f; exact f
              | true =>
                simp only [qc] at e3
                rw [if_pos rfl]
                cases qe : E δ4 with
                | none => simp only [qe] at e3; cases e3
                | some z =>
                  obtain ⟨u, δ5⟩ := z
                  cases u with
                  | error u => simp only [qe] at e3; cases e3
                  | ok xd =>
                    simp only [qe] at e3
                    refine ⟨_, G4, δ4, .ok xd, δ5, a5, qe, fun G6 H6 a6 x6 v rv => ?_⟩
                    refine ⟨xs, (a6.drop ot nt_lst).1, by omega, ?_⟩
                    exact fin a6 (x5.trans x6) (.append (rx.mono ((x3.trans x5).trans x6)) (.cons rv .nil)) (by rw [List.length_append]; show xs.length + 1 ≤ i + 1; omega) e3
  · cases e2
theorem tLc_ok (hsl : ∀ j ∈ sl, j ∈ vs) (q : tO K W (eLc I T C E vs) σ H Q) : tLc (tI K W I) (tG K sl T) (tT K W0 C) (tE K W0 E) vs σ H Q := by
  obtain ⟨B, G, δ, r, δ', a, e1, post⟩ := q
  exact tI_bind a e1 post fun J H1 G1 δ1 ds a1 x1 yl e2 post => tLc_at hsl a1 yl e2 post
end
section
variable {X : Cx} {W : WK} {elt tg iter : Expr} {ifs : List Expr} {scope : Scope} {own : List (Str × Nat)} {pos : Pos} {I : Mo (List D)} {sl : List Nat} {T : D → Mo Unit} {C : Mo Bool} {E : Mo D}
def DTs (X : Cx) (W : WK) (ifs : List Expr) (C : Mo Bool) : Prop := PTs X ifs (tT X.K W C)
def tYesM : Mo Bool := Mo.ret true
theorem dts_nil {X : Cx} {W : WK} : DTs X W [] tYesM := ⟨fun pins s σ H Q I ⟨B, G, δ, r, δ', a, e1, post⟩ => pts_nil.run pins s σ H Q I (by cases e1; exact post G H a (Ext.refl _))⟩
theorem do_lc (hc : X.calm = true) (hN : X.N.Nodup) (hi : DI X W tg iter I) (ok : BlkOk X.N X.env.scope scope own) (hsl : ∀ j ∈ sl, j ∈ own.map (·.2))
    (hg : ∀ (s : Shared) (H : Hp) (Ca : Addr) (cl : List (Str × Addr)) (fp : List Addr), DG (X.blk s H scope (compEnvC scope cl Ca X.env) fp) tg sl T) (ht : ∀ (s : Shared) (H : Hp) (Ca : Addr) (cl : List (Str × Addr)) (fp : List Addr), DTs (X.blk s H scope (compEnvC scope cl Ca X.env) fp) W0 ifs C)
    (he : ∀ (s : Shared) (H : Hp) (Ca : Addr) (cl : List (Str × Addr)) (fp : List Addr), DE (X.blk s H scope (compEnvC scope cl Ca X.env) fp) W0 elt E) (hs : ∀ x, foldedSetIterable iter X.env x = pure x := by intro _; rfl) :
    DO X W (.ListComp elt [⟨tg, iter, ifs, 0⟩] scope pos) (eLc I T C E (own.map (·.2))) := PE.weak (pe_lc (g := tG X.K sl T) (tt := tT X.K W0 C) (te := tE X.K W0 E) hc hN hi ok hg ht he hs) fun σ H Q q => tLc_ok hsl q
theorem tAsgO_ok {K : PySem.W.Frag} {t : TE} {i : Nat} {Dn : Ends} {σ : St} {H : Hp} (ht : ∀ Q, tO K W E σ H Q → t σ H Q) (q : tS K W (sAsgO i E) Dn σ H) : tAsg t (gName i) Dn σ H := by
  obtain ⟨B, G, δ, r, δ', a, e1, post⟩ := q
  refine ht _ (tO_bindS a e1 post fun v H1 G1 δ1 d a1 x1 r1 e2 post => ?_)
  obtain ⟨w1, w2, w3, w4⟩ := r1
  rcases unit_bind e2 with ⟨q, rfl⟩ | ⟨x, q, rfl⟩
  · unfold gO at q
    split at q
    · cases q
      exact post G1 _ H1 (a1.setOwn w1 w4 w2 w3 i) (Ext.refl _)
    · cases q
  · unfold gO at q; split at q <;> cases q
theorem ds_setLcO {i : Nat} {y : Str} {py spos : Pos} (hc : X.calm = true) (hN : X.N.Nodup) (hy : X.N[i]? = some y) (hyl : X.env.scope.names.lookup y = some .local)
    (hsw : swapsWith (.ListComp elt [⟨tg, iter, ifs, 0⟩] scope pos) (some (.Name y py)) spos.line X.env = pure true) (hi : DI X W tg iter I) (ok : BlkOk X.N X.env.scope scope own) (hsl : ∀ j ∈ sl, j ∈ own.map (·.2))
    (hg : ∀ (s : Shared) (H : Hp) (Ca : Addr) (cl : List (Str × Addr)) (fp : List Addr), DG (X.blk s H scope (compEnvC scope cl Ca X.env) fp) tg sl T) (ht : ∀ (s : Shared) (H : Hp) (Ca : Addr) (cl : List (Str × Addr)) (fp : List Addr), DTs (X.blk s H scope (compEnvC scope cl Ca X.env) fp) W0 ifs C)
    (he : ∀ (s : Shared) (H : Hp) (Ca : Addr) (cl : List (Str × Addr)) (fp : List Addr), DE (X.blk s H scope (compEnvC scope cl Ca X.env) fp) W0 elt E) (hs : ∀ x, foldedSetIterable iter X.env x = pure x := by intro _; rfl) :
    DS X W (.Assign [.Name y py] (.ListComp elt [⟨tg, iter, ifs, 0⟩] scope pos) spos) (sAsgO i (eLc I T C E (own.map (·.2)))) := PS.weak (ps_setLc (g := tG X.K sl T) (tt := tT X.K W0 C) (te := tE X.K W0 E) hc hN hy hyl hsw hi ok hg ht he hs) fun Dn σ H q => tAsgO_ok (fun Q z => tLc_ok hsl z) q
end
end M
set_option Elab.async false
set_option linter.all false
set_option maxRecDepth 100000
namespace M
open PySem L2 PySem.Spec PyProof.Rows
section
variable {X : Cx} {W : WK} {e a b c : Expr} {pos : Pos} {E Ea Eb Ec : Mo D}
def dAdd : D → D → Option D
  | .int i, .int j => some (.int (i + j))
  | .str x, .str y => if x.length + y.length ≤ sizeLine then some (.str (x ++ y)) else none
  | .lst x, .lst y => if x.length + y.length ≤ sizeLine then some (.lst (x ++ y)) else none
  | .tup x, .tup y => if x.length + y.length ≤ sizeLine then some (.tup (x ++ y)) else none
  | _, _ => none
def dAddL : D → D → Option D
  | .lst x, .lst y => if x.length + y.length ≤ sizeLine then some (.lst (x ++ y)) else none
  | _, _ => none
theorem sndO_cat : Snd2O X.K dAddL rCat := fun B G H δ σ x y a b d Q at' rx ry h k => by
  cases rx with
  | lst g l r =>
    cases ry with
    | lst g2 l2 r2 =>
      rename_i p xs ds q ys es
      have h : (if ds.length + es.length ≤ sizeLine then some (D.lst (ds ++ es)) else none) = some d := h
      split at h
      · rename_i hl
        cases h
        rw [← r.length, ← r2.length] at hl
        refine ⟨p, q, xs, ys, rfl, rfl, at'.vw.lst g, at'.vw.lst g2, hl, fun z hz => ?_⟩
        obtain ⟨b1, b2⟩ := at'.own1 (p := z) (o := .lst (xs ++ ys)) hz (.lst upd_same (by rw [List.length_append]; exact hl) (r.append r2))
        exact k z _ b1 b2
      · cases h
    | _ => cases h
  | _ => cases h
theorem do_cat (ha : DE X W a Ea) (hb : DE X W b Eb) : DO X W (.BinOp a .Add b pos) (eBin dAddL Ea Eb) := do_tOp sndO_cat (pe_op op_cat ha hb)
abbrev rAddA (K : PySem.W.Frag) : R2 := fun x y H Q => (rI0 (fun i j => .int (i + j)) x y H Q ∨ (∃ i j, x = .str i ∧ y = .str j ∧ i.length + j.length ≤ sizeLine ∧ Q (.str (i ++ j)) H)) ∨ (rCat x y H Q ∨ rCatA K x y H Q)
theorem op_addA : OpR X (binaryOp .Add) (rAddA X.K) := OpR.or (OpR.or op_add op_add_str) (OpR.or op_cat op_catA)
theorem snd_add : Snd2 X.K dAdd (rAddA X.K) := fun B G H δ σ x y a b d Q at' rx ry h k => by
  cases rx with
  | int i =>
    cases ry with
    | int j => cases h; exact .inl (.inl ⟨i, j, rfl, rfl, k _ G H at' (Ext.refl _) (.int _)⟩)
    | _ => cases h
  | str i =>
    cases ry with
    | str j =>
      have h : (if i.length + j.length ≤ sizeLine then some (D.str (i ++ j)) else none) = some d := h
      split at h
      · rename_i hl; cases h; exact .inl (.inr ⟨i, j, rfl, rfl, hl, k _ G H at' (Ext.refl _) (.str _)⟩)
      · cases h
    | _ => cases h
  | lst g l r =>
    cases ry with
    | lst g2 l2 r2 =>
      rename_i p xs ds q ys es
      have h : (if ds.length + es.length ≤ sizeLine then some (D.lst (ds ++ es)) else none) = some d := h
      split at h
      · rename_i hl
        cases h
        rw [← r.length, ← r2.length] at hl
        refine .inr (.inl ⟨p, q, xs, ys, rfl, rfl, at'.vw.lst g, at'.vw.lst g2, hl, fun z hz => ?_⟩)
        have ex := Ext.new (o := .lst (xs ++ ys)) (at'.vw.none hz)
        exact k _ _ _ (at'.laid hz fun _ z => by cases z) ex (.lst upd_same (by rw [List.length_append]; exact hl) ((r.append r2).mono ex))
      · cases h
    | _ => cases h
  | tup g l r =>
    cases ry with
    | tup g2 l2 r2 =>
      rename_i p xs ds q ys es
      have h : (if ds.length + es.length ≤ sizeLine then some (D.tup (ds ++ es)) else none) = some d := h
      split at h
      · rename_i hl
        cases h
        rw [← r.length, ← r2.length] at hl
        refine .inr (.inr ⟨p, q, xs, ys, rfl, rfl, SqT.of (at'.vw.tup g), SqT.of (at'.vw.tup g2), hl, fun hx => ?_, fun hx hy => ?_, fun hx hy z hz => ?_⟩)
        · subst hx
          cases r
          exact k _ G H at' (Ext.refl _) (.tup g2 l2 r2)
        · subst hy
          cases r2
          exact k _ G H at' (Ext.refl _) (by rw [List.append_nil]; exact .tup g l r)
        · have ex := Ext.new (o := .tup (xs ++ ys)) (at'.vw.none hz)
          exact k _ _ _ (at'.laid hz fun _ z => by cases z) ex (.tup upd_same (by rw [List.length_append]; exact hl) ((r.append r2).mono ex))
      · cases h
    | _ => cases h
  | _ => cases h
theorem de_add (ha : DE X W a Ea) (hb : DE X W b Eb) : DE X W (.BinOp a .Add b pos) (eBin dAdd Ea Eb) := de_bin op_addA snd_add ha hb
/-- two ints under a condition -/
def dInt (C : Int → Int → Bool) (f : Int → Int → Int) : D → D → Option D
  | .int i, .int j => if C i j = true then some (.int (f i j)) else none
  | _, _ => none
theorem snd_int {C : Int → Int → Bool} {P : Int → Int → Prop} {f g : Int → Int → Int} (hC : ∀ i j, C i j = true → P i j ∧ g i j = f i j) : Snd2 X.K (dInt C f) (rI P fun i j => .int (g i j)) := fun B G H δ σ x y a b d Q at' rx ry h k => by
  cases rx with
  | int i =>
    cases ry with
    | int j =>
      have h : (if C i j = true then some (D.int (f i j)) else none) = some d := h
      split at h
      · rename_i hl; cases h
        obtain ⟨h1, h2⟩ := hC i j hl
        exact ⟨i, j, rfl, rfl, h1, by show Q (V.int (g i j)) H; rw [h2]; exact k _ G H at' (Ext.refl _) (.int _)⟩
      · cases h
    | _ => cases h
  | _ => cases h
def dSub : D → D → Option D
  | .int i, .int j => some (.int (i - j))
  | _, _ => none
theorem snd_sub : Snd2 X.K dSub (rI0 fun i j => .int (i - j)) := fun B G H δ σ x y a b d Q at' rx ry h k => by
  cases rx with
  | int i =>
    cases ry with
    | int j => cases h; exact ⟨i, j, rfl, rfl, k _ G H at' (Ext.refl _) (.int _)⟩
    | _ => cases h
  | _ => cases h
theorem de_sub (ha : DE X W a Ea) (hb : DE X W b Eb) : DE X W (.BinOp a .Sub b pos) (eBin dSub Ea Eb) := de_bin op_sub snd_sub ha hb
def cMul (i j : Int) : Bool := (decide (-18446744073709551616 < i) && decide (i < 18446744073709551616)) || (decide (-18446744073709551616 < j) && decide (j < 18446744073709551616))
def dMulI : D → D → Option D := dInt cMul (· * ·)
theorem cMul_ok (i j : Int) (h : cMul i j = true) : CMul i j := by
  unfold cMul at h
  unfold CMul
  simp only [Bool.or_eq_true, Bool.and_eq_true, decide_eq_true_eq] at h
  omega
def cMod (_ j : Int) : Bool := decide (0 < j)
def dMod : D → D → Option D := dInt cMod (· % ·)
theorem de_mod (ha : DE X W a Ea) (hb : DE X W b Eb) : DE X W (.BinOp a .Mod b pos) (eBin dMod Ea Eb) := de_bin op_mod (snd_int (C := cMod) fun i j h => ⟨of_decide_eq_true h, rfl⟩) ha hb
def cDiv (_ j : Int) : Bool := decide (0 < j) && decide (j < 1073741824)
def dDiv : D → D → Option D := dInt cDiv (· / ·)
theorem de_div (ha : DE X W a Ea) (hb : DE X W b Eb) : DE X W (.BinOp a .FloorDiv b pos) (eBin dDiv Ea Eb) := de_bin op_fdiv (snd_int (C := cDiv) fun i j h => ⟨by unfold cDiv at h; simp only [Bool.and_eq_true, decide_eq_true_eq] at h; exact h, rfl⟩) ha hb
/-- a product: ints; a list or a tuple, some times -/
def dMul : D → D → Option D
  | .int i, .int j => dMulI (.int i) (.int j)
  | .lst x, .int k => if 0 ≤ k ∧ k ≤ 16777216 ∧ x.length * k.toNat ≤ sizeLine then some (.lst (List.replicate k.toNat x).flatten) else none
  | .tup x, .int k => if x ≠ [] ∧ 2 ≤ k ∧ k ≤ 1000 ∧ x.length ≤ 1000 then some (.tup (List.replicate k.toNat x).flatten) else none
  | _, _ => none
theorem flat_len {α : Type} (k : Nat) (x : List α) : (List.replicate k x).flatten.length = x.length * k := by
  rw [List.length_flatten, List.map_replicate, List.sum_replicate_nat, Nat.mul_comm]
theorem snd_mul : Snd2 X.K dMul (fun x y H Q => rI CMul (fun i j => .int (i * j)) x y H Q ∨ (rRep x y H Q ∨ rRepT X.K x y H Q)) := fun B G H δ σ x y a b d Q at' rx ry h k => by
  cases ry with
  | int j =>
    cases rx with
    | int i => exact .inl (snd_int (X := X) (C := cMul) (P := CMul) (f := (· * ·)) (g := (· * ·)) (fun i j h => ⟨cMul_ok i j h, rfl⟩) B G H δ σ _ _ _ _ d Q at' (.int i) (.int j) h k)
    | lst g l r =>
      rename_i p xs ds
      have h : (if 0 ≤ j ∧ j ≤ 16777216 ∧ ds.length * j.toNat ≤ sizeLine then some (D.lst (List.replicate j.toNat ds).flatten) else none) = some d := h
      split at h
      · rename_i hl
        cases h
        obtain ⟨h1, h2, h3⟩ := hl
        rw [← r.length] at h3
        refine .inr (.inl ⟨p, j, xs, rfl, rfl, at'.vw.lst g, by omega, by omega, h3, fun z hz => ?_⟩)
        have ex := Ext.new (o := .lst (List.replicate j.toNat xs).flatten) (at'.vw.none hz)
        exact k _ _ _ (at'.laid hz fun _ z => by cases z) ex (.lst upd_same (by rw [flat_len]; exact h3) ((r.rep _).mono ex))
      · cases h
    | tup g l r =>
      rename_i p xs ds
      have h : (if ds ≠ [] ∧ 2 ≤ j ∧ j ≤ 1000 ∧ ds.length ≤ 1000 then some (D.tup (List.replicate j.toNat ds).flatten) else none) = some d := h
      split at h
      · rename_i hl
        cases h
        obtain ⟨h0, h1, h2, h3⟩ := hl
        rw [← r.length] at h3
        have hne : xs ≠ [] := fun z => by subst z; cases r; exact h0 rfl
        have hz : xs.length * j.toNat ≤ 1000 * 1000 := Nat.mul_le_mul h3 (by omega)
        refine .inr (.inr ⟨p, j, xs, rfl, rfl, SqT.of (at'.vw.tup g), hne, h1, h2, h3, fun z hz' => ?_⟩)
        have ex := Ext.new (o := .tup (List.replicate j.toNat xs).flatten) (at'.vw.none hz')
        exact k _ _ _ (at'.laid hz' fun _ z => by cases z) ex (.tup upd_same (by rw [flat_len, sizeLine_eq]; omega) ((r.rep _).mono ex))
      · cases h
    | _ => cases h
  | _ => cases rx <;> cases h
theorem de_mul (ha : DE X W a Ea) (hb : DE X W b Eb) : DE X W (.BinOp a .Mult b pos) (eBin dMul Ea Eb) := de_bin (OpR.or op_mul (OpR.or op_rep op_repT)) snd_mul ha hb
def dMulL : D → D → Option D
  | .lst x, .int k => if 0 ≤ k ∧ k ≤ 16777216 ∧ x.length * k.toNat ≤ sizeLine then some (.lst (List.replicate k.toNat x).flatten) else none
  | _, _ => none
theorem sndO_rep : Snd2O X.K dMulL rRep := fun B G H δ σ x y a b d Q at' rx ry h k => by
  cases ry with
  | int j =>
    cases rx with
    | lst g l r =>
      rename_i p xs ds
      have h : (if 0 ≤ j ∧ j ≤ 16777216 ∧ ds.length * j.toNat ≤ sizeLine then some (D.lst (List.replicate j.toNat ds).flatten) else none) = some d := h
      split at h
      · rename_i hl
        cases h
        obtain ⟨h1, h2, h3⟩ := hl
        rw [← r.length] at h3
        refine ⟨p, j, xs, rfl, rfl, at'.vw.lst g, by omega, by omega, h3, fun z hz => ?_⟩
        obtain ⟨b1, b2⟩ := at'.own1 (p := z) (o := .lst (List.replicate j.toNat xs).flatten) hz (.lst upd_same (by rw [flat_len]; exact h3) (r.rep _))
        exact k z _ b1 b2
      · cases h
    | _ => cases h
  | _ => cases rx <;> cases h
theorem do_rep (ha : DE X W a Ea) (hb : DE X W b Eb) : DO X W (.BinOp a .Mult b pos) (eBin dMulL Ea Eb) := do_tOp sndO_rep (pe_op op_rep ha hb)
/-- one-place operations -/
def eUn (f : D → Option D) (A : Mo D) : Mo D := A.bind fun x => Mo.lift (f x)
def dNeg : D → Option D
  | .int i => some (.int (-i))
  | _ => none
theorem de_neg (ha : DE X W a Ea) : DE X W (.UnaryOp .USub a pos) (eUn dNeg Ea) := PE.weak (pe_un un_neg ha) fun σ H Q ⟨B, G, δ, r, δ', at', e1, post⟩ => by
  refine tE_bind at' e1 post fun v H1 G1 δ1 d a1 x1 r1 e2 post => ?_
  obtain ⟨z, hz, hr⟩ := lift_some e2
  cases hr
  cases r1 with
  | int i => cases hz; exact ⟨i, rfl, post G1 H1 a1 (Ext.refl _) _ (.int _)⟩
  | _ => cases hz
def dCmp (pI : Int → Int → Bool) (pS : List Nat → List Nat → Bool) : D → D → Option D
  | .int i, .int j => some (.bl (pI i j))
  | .str i, .str j => some (.bl (pS i.cps.toList j.cps.toList))
  | _, _ => none
theorem snd_cmp {pI : Int → Int → Bool} {pS : List Nat → List Nat → Bool} {r : R2} (h1 : ∀ i j H Q, Q (.bl (pI i j)) H → r (.int i) (.int j) H Q) (h2 : ∀ i j H Q, Q (.bl (pS i.cps.toList j.cps.toList)) H → r (.str i) (.str j) H Q) : Snd2 X.K (dCmp pI pS) r := fun B G H δ σ x y a b d Q at' rx ry h k => by
  cases rx with
  | int i =>
    cases ry with
    | int j => cases h; exact h1 _ _ _ _ (k _ G H at' (Ext.refl _) (.bl _))
    | _ => cases h
  | str i =>
    cases ry with
    | str j => cases h; exact h2 _ _ _ _ (k _ G H at' (Ext.refl _) (.bl _))
    | _ => cases h
  | _ => cases h
abbrev rCmp (pI : Int → Int → Bool) (pS : List Nat → List Nat → Bool) : R2 := fun x y H Q => rI0 (fun i j => .bl (pI i j)) x y H Q ∨ ∃ i j, x = .str i ∧ y = .str j ∧ Q (.bl (pS i.cps.toList j.cps.toList)) H
theorem snd_cmp' {pI : Int → Int → Bool} {pS : List Nat → List Nat → Bool} : Snd2 X.K (dCmp pI pS) (rCmp pI pS) := snd_cmp (fun i j H Q q => .inl ⟨i, j, rfl, rfl, q⟩) (fun i j H Q q => .inr ⟨i, j, rfl, rfl, q⟩)
def dLt := dCmp (fun i j => decide (i < j)) (fun i j => decide (i < j))
def dLe := dCmp (fun i j => decide (i ≤ j)) (fun i j => !decide (j < i))
def dGt := dCmp (fun i j => decide (j < i)) (fun i j => decide (j < i))
def dGe := dCmp (fun i j => decide (j ≤ i)) (fun i j => !decide (i < j))
theorem opc_lt : OpR X (compareOp .Lt) (rCmp (fun i j => decide (i < j)) (fun i j => decide (i < j))) := OpR.or op_lt op_lt_str
theorem opc_le : OpR X (compareOp .LtE) (rCmp (fun i j => decide (i ≤ j)) (fun i j => !decide (j < i))) := OpR.or op_le op_le_str
theorem opc_gt : OpR X (compareOp .Gt) (rCmp (fun i j => decide (j < i)) (fun i j => decide (j < i))) := OpR.or op_gt op_gt_str
theorem opc_ge : OpR X (compareOp .GtE) (rCmp (fun i j => decide (j ≤ i)) (fun i j => !decide (i < j))) := OpR.or op_ge op_ge_str
theorem de_le (ha : DE X W a Ea) (hb : DE X W b Eb) : DE X W (.Compare a [.LtE] [b] pos) (eBin dLe Ea Eb) := de_cmp opc_le snd_cmp' ha hb (nomark _)
/-- a op b op' c -/
def eChain (f g : D → D → Option D) (A B C : Mo D) : Mo D := A.bind fun x => B.bind fun y => (Mo.lift ((f x y).bind dBl)).bind fun k => if k = true then C.bind fun z => Mo.lift (g y z) else Mo.ret (.bl false)
theorem de_chain {op op' : CmpOp} {f g : D → D → Option D} {r r' : R2} (ho : OpR X (compareOp op) r) (ho' : OpR X (compareOp op') r') (hf : Snd2 X.K f r) (hg : Snd2 X.K g r') (ha : DE X W a Ea) (hb : DE X W b Eb) (hc : DE X W c Ec)
    (hm : lastMarks [op, op'] [b, c] = false := by with_unfolding_all rfl) : DE X W (.Compare a [op, op'] [b, c] pos) (eChain f g Ea Eb Ec) := PE.weak (pe_chain ho ho' ha hb hc hm) fun σ H Q ⟨B, G, δ, r1, δ', at', e1, post⟩ => by
  refine tE_bind at' e1 post fun v H1 G1 δ1 d a1 x1 r1 e2 post => ?_
  refine tE_bind a1 e2 post fun w H2 G2 δ2 d2 a2 x2 r2 e3 post => ?_
  unfold Mo.bind Mo.lift at e3
  cases q : (f d d2).bind dBl with
  | none => rw [q] at e3; cases e3
  | some k =>
    rw [q] at e3
    simp only [] at e3
    cases q2 : f d d2 with
    | none => rw [q2] at q; cases q
    | some z =>
      rw [q2, Option.bind_some] at q
      obtain rfl := dBl_some q
      refine hf B G2 H2 δ2 σ v w d d2 _ _ a2 (r1.mono x2) r2 q2 fun v3 G3 H3 a3 x3 r3 => ?_
      cases r3
      refine ⟨k, rfl, ?_⟩
      cases k with
      | false => rw [if_neg Bool.false_ne_true] at e3 ⊢; cases e3; exact (post.mono x3) G3 H3 a3 (Ext.refl _) _ (.bl _)
      | true =>
        rw [if_pos rfl] at e3 ⊢
        refine tE_bind (k := fun z => Mo.lift (g d2 z)) a3 e3 (post.mono x3) fun u H4 G4 δ4 d4 a4 x4 r4 e4 post => ?_
        obtain ⟨z, hz, hr⟩ := lift_some e4
        cases hr
        exact hg B G4 H4 δ' σ w u d2 d4 z Q a4 (r2.mono (x3.trans x4)) r4 hz fun v G' H' a' x' r' => post G' H' a' x' v r'
end
inductive Sh (K : PySem.W.Frag) (G H : Hp) : V → D → Prop
  | lst {a : Addr} {xs : List V} {ds : List D} : H a = some (.lst xs) → xs.length ≤ sizeLine → RL K G xs ds → Sh K G H (.ref a) (.lst ds)
  | scr {a : Addr} {xs : List V} {ds : List D} : SqL K H a xs → xs.length ≤ sizeLine → RL K G xs ds → Sh K G H (.ref a) (.scr ds)
  | tup {a : Addr} {xs : List V} {ds : List D} : H a = some (.tup xs) → xs.length ≤ sizeLine → RL K G xs ds → Sh K G H (.ref a) (.tup ds)
  | dK {a : Addr} {kvs : List (Key × V)} {ds : List (Key × D)} : Rd H a (.dK kvs) → kvs.length ≤ sizeLine → KVP K G kvs ds → Sh K G H (.ref a) (.dK ds)
  | dT {a : Addr} {kvs : List (List Key × V)} {ds : List (List Key × D)} : Rd H a (.dT kvs) → kvs.length ≤ sizeLine → KVP K G kvs ds → Sh K G H (.ref a) (.dT ds)
  | flat {v : V} {d : D} : R K G v d → flatD d = true → Sh K G H v d
  | bld {v : V} {vs ls rows : List D} {nm : D} : R K G v (.bld vs ls nm rows) → Vw G H → Sh K G H v (.bld vs ls nm rows)
  | alb {p av al C dx : Addr} {xs ys : List V} {vs ls : List D} : PySem.W.nsIn K mainGlobals "Album" = some (some (.ref C)) → H p = some (.ins C dx [("_views", .ref av), ("_links", .ref al)]) → H av = some (.lst xs) → H al = some (.lst ys) → xs.length ≤ sizeLine → ys.length ≤ sizeLine → RL K G xs vs → RL K G ys ls → Sh K G H (.ref p) (.alb vs ls)
theorem Vw.ins {G H : Hp} (h : Vw G H) {a C dx : Addr} {fs : List (Str × V)} (e : G a = some (.ins C dx fs)) : H a = some (.ins C dx fs) := by
  rcases h a _ e with h | ⟨h, _⟩
  · exact h
  · cases h
section
variable {K : PySem.W.Frag} {B : Bs} {G G' H : Hp} {δ : Env} {σ : St} {i : Nat}
theorem R.sh (vw : Vw G H) {v : V} {d : D} (r : R K G v d) : Sh K G H v d := by
  cases r with
  | tup g l r => exact .tup (vw.tup g) l r
  | lst g l r => exact .lst (vw.lst g) l r
  | scr g l r => exact .scr (vw.sql g) l r
  | dK g l k r => exact .dK (vw.rd g) l (kvp_of k r)
  | dT g l k r => exact .dT (vw.rd g) l (kvp_of k r)
  | non => exact .flat .non rfl
  | bl b => exact .flat (.bl b) rfl
  | int i => exact .flat (.int i) rfl
  | str s => exact .flat (.str s) rfl
  | alb c h1 h2 h3 l1 l2 r1 r2 => exact .alb c (vw.ins h1) (vw.lst h2) (vw.lst h3) l1 l2 r1 r2
  | bld c1 c2 h1 h2 h3 h4 h5 l r1 r2 r3 r4 => exact .bld (.bld c1 c2 h1 h2 h3 h4 h5 l r1 r2 r3 r4) vw
theorem Ow.sh {p : Addr} {d : D} (w : Ow K G H p d) : Sh K G H (.ref p) d := by
  cases w with
  | lst g l r => exact .lst g l r
  | dK g l k r => exact .dK (.inl g) l (kvp_of k r)
  | dT g l k r => exact .dT (.inl g) l (kvp_of k r)
/-- a slot's content, seen -/
def slD : Sl → Option D
  | .imm d => some d
  | .own d => some d
  | .io d => some d
  | .bor d => some d
  | .no => none
def isBor : Sl → Bool
  | .bor _ => true
  | _ => false
theorem At.see (a : At K B G δ σ H) {s : Sl} {d : D} (e : δ[i]? = some s) (hd : slD s = some d) : ∃ v Gc, σ[i]? = some (some v) ∧ Sh K Gc H v d ∧ Vw Gc H ∧ (isBor s = false → Gc = G) := by
  cases s with
  | no => cases hd
  | imm d' => cases hd; obtain ⟨v, h1, h2⟩ := a.imm e; exact ⟨v, G, h1, h2.sh a.vw, a.vw, fun _ => rfl⟩
  | own d' => cases hd; obtain ⟨p, h1, _, h2, _⟩ := a.own e; exact ⟨_, G, h1, h2.sh, a.vw, fun _ => rfl⟩
  | io d' => cases hd; obtain ⟨p, h1, _, h2, _⟩ := a.io e; exact ⟨_, G, h1, h2.sh, a.vw, fun _ => rfl⟩
  | bor d' => cases hd; obtain ⟨v, h1, h2⟩ := a.bor e; exact ⟨v, _, h1, h2.sh (a.bo i), a.bo i, fun h => by cases h⟩
end
def dIx : D → D → Option D
  | .lst l, .int i => atI l i
  | .scr l, .int i => atI l i
  | .tup l, .int i => atI l i
  | .str s, .int i => if s.length ≤ sizeLine then (atI s.cps.toList i).map fun c => .str ⟨#[c]⟩ else none
  | .dK l, k => (dGet (.dK l) k).bind id
  | .dT l, k => (dGet (.dT l) k).bind id
  | _, _ => none
def isDct : D → Bool
  | .dK _ => true
  | .dT _ => true
  | _ => false
section
variable {K : PySem.W.Frag} {B : Bs} {G G' H : Hp} {δ : Env} {σ : St} {i : Nat}
theorem atI_rl {xs : List V} {ds : List D} {i : Int} {d : D} (r : RL K G xs ds) (h : atI ds i = some d) : ∃ v, atI xs i = some v ∧ R K G v d := by
  unfold atI at h ⊢
  rw [r.length]
  cases q : ixN ds.length i with
  | none => rw [q] at h; cases h
  | some j => rw [q] at h; exact r.get h
/-- look-up in a dict that is seen -/
theorem sh_get {x y : V} {d k : D} {o : Option D} {G2 : Hp} (vw : Vw G2 H) (rx : Sh K G H x d) (ry : R K G2 y k) (h : dGet d k = some o) : ∃ a o', x = .ref a ∧ IsD H a ∧ DGet H a y o' ∧ ((∃ v d, o' = some v ∧ o = some d ∧ R K G v d) ∨ (o' = none ∧ o = none)) := by
  cases rx with
  | dK g l kp =>
    rename_i a kvs ds
    have h : (keyK k).map (fun k => lookA ds k) = some o := h
    cases q : keyK k with
    | none => rw [q] at h; cases h
    | some kk =>
      rw [q] at h; cases h
      refine ⟨a, valV kvs kk, rfl, .inl ⟨kvs, g⟩, .inl ⟨kvs, kk, g, keyK_ok ry q, rfl⟩, ?_⟩
      rcases kvp_look kp kk with ⟨v, d, h1, h2, h3⟩ | ⟨h1, h2⟩
      · exact .inl ⟨v, d, h1, h2, h3⟩
      · exact .inr ⟨h1, h2⟩
  | dT g l kp =>
    rename_i a kvs ds
    cases ry with
    | tup g2 l2 r2 =>
      rename_i b xs ks
      have h : (keysK ks).map (fun k => lookA ds k) = some o := h
      cases q : keysK ks with
      | none => rw [q] at h; cases h
      | some kk =>
        rw [q] at h; cases h
        have hx := keysK_ok r2 q
        subst hx
        refine ⟨a, valV kvs kk, rfl, .inr ⟨kvs, g⟩, .inr ⟨kvs, kk, b, g, rfl, vw.tup g2, rfl⟩, ?_⟩
        rcases kvp_look kp kk with ⟨v, d, h1, h2, h3⟩ | ⟨h1, h2⟩
        · exact .inl ⟨v, d, h1, h2, h3⟩
        · exact .inr ⟨h1, h2⟩
    | _ => cases h
  | flat r f => cases r <;> first | cases h | cases f
  | _ => cases h
theorem join_some {o : Option (Option D)} {d : D} (h : o.bind id = some d) : o = some (some d) := by
  cases o with
  | none => cases h
  | some o => cases o <;> cases h; rfl
/-- the rule for a subscript -/
theorem sh_ix {x y : V} {d k z : D} {G2 : Hp} {Q : VK} (vw : Vw G2 H) (rx : Sh K G H x d) (ry : R K G2 y k) (h : dIx d k = some z) (q : ∀ v, R K G v z → Q v H) :
    (isDct d = false → rIx K x y H Q) ∧ (isDct d = true → ∃ a v, x = .ref a ∧ DGet H a y (some v) ∧ Q v H) := by
  have dct : isDct d = true → ∃ a v, x = .ref a ∧ DGet H a y (some v) ∧ Q v H := fun hd => by
    have h' : (dGet d k).bind id = some z := by cases d <;> first | exact h | cases hd
    obtain ⟨a, o', e1, _, e2, e3⟩ := sh_get vw rx ry (join_some h')
    rcases e3 with ⟨v, d, rfl, e, r⟩ | ⟨_, e⟩
    · cases e; exact ⟨a, v, e1, e2, q v r⟩
    · cases e
  refine ⟨fun hd => ?_, dct⟩
  cases rx with
  | lst g l r =>
    cases ry with
    | int i => obtain ⟨v, h1, h2⟩ := atI_rl r h; exact .inl ⟨_, _, i, v, rfl, rfl, SqL.of g, h1, q v h2⟩
    | _ => cases h
  | scr g l r =>
    cases ry with
    | int i => obtain ⟨v, h1, h2⟩ := atI_rl r h; exact .inl ⟨_, _, i, v, rfl, rfl, g, h1, q v h2⟩
    | _ => cases h
  | tup g l r =>
    cases ry with
    | int i => obtain ⟨v, h1, h2⟩ := atI_rl r h; exact .inr (.inl ⟨_, _, i, v, rfl, rfl, SqT.of g, h1, q v h2⟩)
    | _ => cases h
  | dK => cases hd
  | dT => cases hd
  | alb => cases h
  | bld => cases h
  | flat r f =>
    cases r with
    | str s =>
      cases ry with
      | int i =>
        have h : (if s.length ≤ sizeLine then (atI s.cps.toList i).map fun c => D.str ⟨#[c]⟩ else none) = some z := h
        split at h
        · rename_i hl
          cases q2 : atI s.cps.toList i with
          | none => rw [q2] at h; cases h
          | some c => rw [q2] at h; cases h; exact .inr (.inr ⟨s, i, c, rfl, rfl, hl, q2, q _ (.str _)⟩)
        · cases h
      | _ => cases h
    | _ => first | (cases f; done) | (cases h; done)
end
def eIx (A B : Mo D) : Mo D := A.bind fun x => B.bind fun y => Mo.lift (dIx x y)
def slotDct (δ : Env) (i : Nat) : Option Bool := match δ[i]? with
  | some s => (slD s).map isDct
  | none => none
/-- x[e], x a slot: what stands there behind e -/
def ixSl (i : Nat) (k : Bool) (y : D) : Mo D := fun δ => match δ[i]? with
    | some (.imm d) => if isDct d = k then Mo.lift (dIx d y) δ else none
    | some (.own d) => if isDct d = k then Mo.lift (dIx d y) δ else none
    | some (.io d) => if isDct d = k then Mo.lift (dIx d y) δ else none
    | some (.bor d) => if isDct d = k then (match dIx d y with
      | some z => if flatD z = true then some (.ok z, δ) else none
      | none => none) else none
    | _ => none
def eIxV (i : Nat) (B : Mo D) : Mo D := fun δ => match slotDct δ i with
  | some k => (B.bind fun y => ixSl i k y) δ
  | none => none
section
variable {X : Cx} {W : WK} {e a b : Expr} {pos : Pos} {E Ea Eb : Mo D}
theorem slotDct_ok {K : PySem.W.Frag} {B : Bs} {G H : Hp} {δ : Env} {σ : St} {i : Nat} {k : Bool} (at' : At K B G δ σ H) (h : slotDct δ i = some k) : ∃ v, σ[i]? = some (some v) := by
  unfold slotDct at h
  cases q : δ[i]? with
  | none => rw [q] at h; cases h
  | some s =>
    rw [q] at h
    cases q2 : slD s with
    | none => simp only [q2] at h; cases h
    | some d => obtain ⟨v, _, h1, _⟩ := at'.see q q2; exact ⟨v, h1⟩
theorem bind_error {α β : Type} {m : Mo α} {k : α → Mo β} {δ δ1 : Env} {x : Exn} (h : m δ = some (.error x, δ1)) : Mo.bind m k δ = some (.error x, δ1) := by unfold Mo.bind; rw [h]
theorem de_ix (hu : X.A.units + 1 < cLine) (ha : DE X W a Ea) (hb : DE X W b Eb) (h1 : PlainIx b := by intro _ _; rfl) (h2 : NoSl b := by intro _ _; rfl) : DE X W (.Subscript a b pos) (eIx Ea Eb) :=
  PE.weak (PE.or (pe_ix ix_seq ha hb h1) (pe_dget hu ha hb h2)) fun σ H Q ⟨B, G, δ, r, δ', at', e1, post⟩ => by
  unfold eIx at e1
  cases q : Ea δ with
  | none => unfold Mo.bind at e1; rw [q] at e1; cases e1
  | some z =>
    obtain ⟨x, δ1⟩ := z
    cases x with
    | error x => rw [bind_error q] at e1; cases e1; exact .inl ⟨B, G, δ, .error x, _, at', q, post⟩
    | ok d =>
      rw [bind_ok q] at e1
      cases hd : isDct d with
      | false =>
        refine .inl ⟨B, G, δ, .ok d, δ1, at', q, fun G1 H1 a1 x1 v rv => ?_⟩
        refine tE_bind a1 e1 (post.mono x1) fun w H2 G2 δ2 d2 a2 x2 r2 e3 post => ?_
        obtain ⟨z, hz, hr⟩ := lift_some e3
        cases hr
        exact (sh_ix a2.vw ((rv.mono x2).sh a2.vw) r2 hz fun v rv => post G2 H2 a2 (Ext.refl _) v rv).1 hd
      | true =>
        refine .inr ⟨B, G, δ, .ok d, δ1, at', q, fun G1 H1 a1 x1 v rv => ?_⟩
        refine tE_bind a1 e1 (post.mono x1) fun w H2 G2 δ2 d2 a2 x2 r2 e3 post => ?_
        obtain ⟨z, hz, hr⟩ := lift_some e3
        cases hr
        exact (sh_ix a2.vw ((rv.mono x2).sh a2.vw) r2 hz fun v rv => post G2 H2 a2 (Ext.refl _) v rv).2 hd
/-- behind the index, the slot's content -/
theorem ixV_ok {K : PySem.W.Frag} {B : Bs} {G H : Hp} {δ δ' : Env} {σ : St} {i : Nat} {y : V} {k : D} {kb : Bool} {r : Except Exn D} {Q : VK} (at' : At K B G δ σ H) (ry : R K G y k)
    (h : ixSl i kb k δ = some (r, δ')) (post : Post K W B G σ r δ' (fun d G' H' => ∀ v, R K G' v d → Q v H')) :
    ∃ v, σ[i]? = some (some v) ∧ (kb = false → rIx K v y H Q) ∧ (kb = true → ∃ a u, v = .ref a ∧ DGet H a y (some u) ∧ Q u H) := by
  have go : ∀ (s : Sl) (d : D), δ[i]? = some s → slD s = some d → isBor s = false → (if isDct d = kb then Mo.lift (dIx d k) δ else none) = some (r, δ') → ∃ v, σ[i]? = some (some v) ∧ (kb = false → rIx K v y H Q) ∧ (kb = true → ∃ a u, v = .ref a ∧ DGet H a y (some u) ∧ Q u H) := fun s d e1 e2 e3 e4 => by
    obtain ⟨v, Gc, h1, h2, h3, h4⟩ := at'.see e1 e2
    obtain rfl := h4 e3
    split at e4
    · rename_i c
      subst c
      obtain ⟨z, hz, hr⟩ := lift_some e4
      cases hr
      exact ⟨v, h1, sh_ix (Q := Q) at'.vw h2 ry hz fun v rv => post _ H at' (Ext.refl _) v rv⟩
    · cases e4
  unfold ixSl at h
  split at h
  · rename_i d q; exact go _ d q rfl rfl h
  · rename_i d q; exact go _ d q rfl rfl h
  · rename_i d q; exact go _ d q rfl rfl h
  · rename_i d q
    obtain ⟨v, Gc, h1, h2, h3, _⟩ := at'.see q rfl
    split at h
    · rename_i c
      subst c
      cases q2 : dIx d k with
      | none => rw [q2] at h; cases h
      | some z =>
        rw [q2] at h
        simp only [] at h
        split at h
        · rename_i f
          cases h
          exact ⟨v, h1, sh_ix (Q := Q) at'.vw h2 ry q2 fun v rv => post G H at' (Ext.refl _) v (rv.flat f)⟩
        · cases h
    · cases h
  · cases h
theorem de_ixV {i : Nat} (hu : X.A.units + 1 < cLine) (ha : PE X a (tVar i)) (hb : DE X W b Eb) (h1 : PlainIx b := by intro _ _; rfl) (h2 : NoSl b := by intro _ _; rfl) : DE X W (.Subscript a b pos) (eIxV i Eb) :=
  PE.weak (PE.or (pe_ix ix_seq ha hb h1) (pe_dget hu ha hb h2)) fun σ H Q ⟨B, G, δ, r, δ', at', e1, post⟩ => by
  unfold eIxV at e1
  split at e1
  · rename_i kb hs
    obtain ⟨v, hv⟩ := slotDct_ok at' hs
    cases kb with
    | false =>
      refine .inl ⟨v, hv, ?_⟩
      refine tE_bind at' e1 post fun w H2 G2 δ2 d2 a2 x2 r2 e3 post => ?_
      obtain ⟨v', k1, k2, _⟩ := ixV_ok a2 r2 e3 post
      rw [hv] at k1; cases k1
      exact k2 rfl
    | true =>
      refine .inr ⟨v, hv, ?_⟩
      refine tE_bind at' e1 post fun w H2 G2 δ2 d2 a2 x2 r2 e3 post => ?_
      obtain ⟨v', k1, _, k2⟩ := ixV_ok a2 r2 e3 post
      rw [hv] at k1; cases k1
      exact k2 rfl
  · cases e1
def dLen : D → Option D
  | .lst l => some (.int l.length)
  | .scr l => some (.int l.length)
  | .tup l => some (.int l.length)
  | .dK l => some (.int l.length)
  | .dT l => some (.int l.length)
  | .str s => if s.length ≤ sizeLine then some (.int s.length) else none
  | _ => none
theorem sh_len {K : PySem.W.Frag} {G H : Hp} {x : V} {d z : D} (rx : Sh K G H x d) (h : dLen d = some z) : ∃ n : Nat, z = .int n ∧ (LenV K x H n ∨ (∃ a kvs, x = .ref a ∧ Rd H a (.dK kvs) ∧ n = kvs.length) ∨ ∃ a kvs, x = .ref a ∧ Rd H a (.dT kvs) ∧ n = kvs.length) := by
  cases rx with
  | lst g l r => cases h; exact ⟨_, rfl, .inl (.inl ⟨_, SqL.of g, r.length.symm⟩)⟩
  | scr g l r => cases h; exact ⟨_, rfl, .inl (.inl ⟨_, g, r.length.symm⟩)⟩
  | tup g l r => cases h; exact ⟨_, rfl, .inl (.inr ⟨_, SqT.of g, r.length.symm⟩)⟩
  | dK g l r => cases h; exact ⟨_, rfl, .inr (.inl ⟨_, _, rfl, g, (Paired.length r).symm⟩)⟩
  | dT g l r => cases h; exact ⟨_, rfl, .inr (.inr ⟨_, _, rfl, g, (Paired.length r).symm⟩)⟩
  | alb => cases h
  | bld => cases h
  | flat r f =>
    cases r with
    | str s =>
      have h : (if s.length ≤ sizeLine then some (D.int s.length) else none) = some z := h
      split at h
      · rename_i hl; cases h; exact ⟨_, rfl, .inl ⟨hl, rfl⟩⟩
      · cases h
    | _ => first | (cases f; done) | (cases h; done)
def rLenA (K : PySem.W.Frag) : List V → Hp → VK → Prop := fun xs H Q => ∃ x n, xs = [x] ∧ (LenV K x H n ∨ (∃ a kvs, x = .ref a ∧ Rd H a (.dK kvs) ∧ n = kvs.length) ∨ ∃ a kvs, x = .ref a ∧ Rd H a (.dT kvs) ∧ n = kvs.length) ∧ Q (.int (n : Nat)) H
theorem call_lenA : CallR X (.builtin "len") (rLenA X.K) := by
  intro pins s σ H xs us Q I rv h
  obtain ⟨x, n, rfl, h, q⟩ := h
  rcases h with h | ⟨a, kvs, rfl, h, rfl⟩ | ⟨a, kvs, rfl, h, rfl⟩
  · exact call_len pins s σ H _ us Q I rv ⟨x, n, rfl, h, q⟩
  · obtain ⟨u, rfl, rx⟩ := vals1 rv
    obtain rfl : u = .ref a := rx
    exact d_len I h fun t s' I' => ⟨.int kvs.length, H, I', ⟨t, rfl⟩, q⟩
  · obtain ⟨u, rfl, rx⟩ := vals1 rv
    obtain rfl : u = .ref a := rx
    obtain ⟨z, hd, ys, rel, dd⟩ := dt_rd I.hok h
    have hl : kvs.length = ys.length := Paired.length rel
    refine call_len_dictH hd dd (by rw [← hl]; rw [sizeLine_eq] at z; omega) ?_
    rw [← hl]
    exact ⟨.int ((kvs.length : Nat) : Int), H, I.tok _, ⟨_, rfl⟩, q⟩
end
section
variable {X : Cx} {W : WK} {e a b : Expr} {pos p : Pos} {x : Str} {es : List Expr} {E Ea Eb : Mo D} {A : Mo (List Ag)}
/-- a built-in function of data -/
def eF (f : List D → Option D) (A : Mo (List Ag)) : Mo D := A.bind fun as => Mo.lift ((imms as).bind f)
def SndF (K : PySem.W.Frag) (f : List D → Option D) (r : List V → Hp → VK → Prop) : Prop := ∀ (B : Bs) (G H : Hp) (δ : Env) (σ : St) (xs : List V) (as : List D) (d : D) (Q : VK), At K B G δ σ H → RL K G xs as → f as = some d →
  (∀ v G' H', At K B G' δ σ H' → Ext G G' → R K G' v d → Q v H') → r xs H Q
def SndFO (K : PySem.W.Frag) (f : List D → Option D) (r : List V → Hp → VK → Prop) : Prop := ∀ (B : Bs) (G H : Hp) (δ : Env) (σ : St) (xs : List V) (as : List D) (d : D) (Q : VK), At K B G δ σ H → RL K G xs as → f as = some d →
  (∀ p G' H', At K B G' δ σ H' → Ext G G' → Fr1 K B G' δ σ H' p d → Q (.ref p) H') → r xs H Q
theorem eF_some {f : List D → Option D} {as : List Ag} {δ δ' : Env} {r : Except Exn D} (h : Mo.lift ((imms as).bind f) δ = some (r, δ')) : ∃ ds d, imms as = some ds ∧ f ds = some d ∧ r = .ok d ∧ δ' = δ := by
  obtain ⟨z, hz, hr⟩ := lift_some h
  cases hr
  cases q : imms as with
  | none => rw [q] at hz; cases hz
  | some ds => rw [q] at hz; exact ⟨ds, z, rfl, hz, rfl, rfl⟩
theorem de_tCB {f : List D → Option D} {r : List V → Hp → VK → Prop} (hf : SndF X.K f r) (h : PE X e (tCB r (tA X.K W A))) : DE X W e (eF f A) := PE.weak h fun σ H Q ⟨B, G, δ, r', δ', at', e1, post⟩ => by
  refine tA_bind at' e1 post fun vs H1 G1 δ1 as a1 x1 r1 e2 post => ?_
  obtain ⟨ds, d, h1, h2, rfl, rfl⟩ := eF_some e2
  exact hf B G1 H1 δ' σ vs ds d Q a1 (imms_ok r1 h1) h2 fun v G' H' a' x' rv => post G' H' a' x' v rv
theorem do_tCB {f : List D → Option D} {r : List V → Hp → VK → Prop} (hf : SndFO X.K f r) (h : PE X e (tCB r (tA X.K W A))) : DO X W e (eF f A) := PE.weak h fun σ H Q ⟨B, G, δ, r', δ', at', e1, post⟩ => by
  refine tA_bind at' e1 post fun vs H1 G1 δ1 as a1 x1 r1 e2 post => ?_
  obtain ⟨ds, d, h1, h2, rfl, rfl⟩ := eF_some e2
  exact hf B G1 H1 δ' σ vs ds d Q a1 (imms_ok r1 h1) h2 fun v G' H' a' x' rv => post G' H' a' x' v rv
def fLen : List D → Option D
  | [d] => dLen d
  | _ => none
theorem snd_len : SndF X.K fLen (rLenA X.K) := fun B G H δ σ xs as d Q at' rx h k => by
  cases rx with
  | nil => cases h
  | cons r0 r1 =>
    cases r1 with
    | cons _ _ => cases h
    | nil =>
      obtain ⟨n, rfl, h2⟩ := sh_len (r0.sh at'.vw) h
      exact ⟨_, n, rfl, h2, k _ G H at' (Ext.refl _) (.int _)⟩
theorem de_len (hg : Gl X x) (hm : X.mg x = none) (hv : bootBuiltins x = some (.builtin "len")) (ha : DA X W (e :: es) A) (hn : x ≠ "__name__" := by decide) (hdb : (x == ("__debug__" : Str)) = false := by decide)
    (he : starEach (e :: es) X.env = (false, eval e X.env) :: starEach es X.env := by rfl) (hpl : (backTo pos (starEach es X.env)).any (·.1) = false := by rfl) : DE X W (.Call (.Name x p) (e :: es) [] pos) (eF fLen A) :=
  de_tCB snd_len (pe_callB call_lenA hg hm hv ha hn hdb he hpl)
/-- len(x), x a slot that keeps its object -/
def eLenV (i : Nat) : Mo D := fun δ => match δ[i]? with
  | some s => (slD s).bind dLen |>.map fun d => (.ok d, δ)
  | none => none
end
end M
set_option Elab.async false
set_option linter.all false
set_option maxRecDepth 100000
namespace M
open PySem L2 PySem.Spec PyProof.Rows
mutual
def toPy : D → PyData
  | .non => .none
  | .bl b => .bool b
  | .int i => .int i
  | .str s => .str s
  | .tup l => .tuple (toPys l)
  | .lst l => .list (toPys l)
  | .scr l => .list (toPys l)
  | .dK _ => .dict []
  | .dT _ => .dict []
  | .alb _ _ => .dict []
  | .bld _ _ _ _ => .dict []
def toPys : List D → List PyData
  | [] => []
  | d :: ds => toPy d :: toPys ds
end
section
variable {K : PySem.W.Frag} {G H : Hp}
mutual
theorem R.dp (vw : Vw G H) : ∀ {v : V} {d : D}, R K G v d → (toPy d).canLay0 = true → Dp K H v (toPy d)
  | _, _, .non, _ => .non
  | _, _, .bl b, _ => .bl b
  | _, _, .int i, _ => .int i
  | _, _, .str s, _ => .str s
  | _, _, .tup g l r, h => .tup (SqT.of (vw.tup g)) (RL.dp vw r (by simpa [toPy, PyData.canLay0] using h))
  | _, _, .lst g l r, h => .lst (SqL.of (vw.lst g)) (RL.dp vw r (by simpa [toPy, PyData.canLay0] using h))
  | _, _, .scr g l r, h => .lst (vw.sql g) (RL.dp vw r (by simpa [toPy, PyData.canLay0] using h))
  | _, _, .dK _ _ _ _, h => by simp [toPy, PyData.canLay0] at h
  | _, _, .dT _ _ _ _, h => by simp [toPy, PyData.canLay0] at h
  | _, _, .alb _ _ _ _ _ _ _ _, h => by simp [toPy, PyData.canLay0] at h
  | _, _, .bld _ _ _ _ _ _ _ _ _ _ _ _, h => by simp [toPy, PyData.canLay0] at h
theorem RL.dp (vw : Vw G H) : ∀ {vs : List V} {ds : List D}, RL K G vs ds → PyData.canLayAll0 (toPys ds) = true → DpAll K H vs (toPys ds)
  | _, _, .nil, _ => .nil
  | _, _, .cons r t, h => by
    simp only [toPys, PyData.canLayAll0, Bool.and_eq_true] at h
    exact .cons (R.dp vw r h.1) (RL.dp vw t h.2)
end
end
def shp (d : D) : Bool := SeqAt.shaped (toPy d)
theorem shp_dp {K : PySem.W.Frag} {G H : Hp} (vw : Vw G H) {v : V} {d : D} (r : R K G v d) (h : shp d = true) : Dp K H v (toPy d) := r.dp vw (SeqAt.canLay_of_shaped h)
/-- == where neither is a dict -/
def dEq (a b : D) : Option D := if shp a = true ∧ shp b = true then some (.bl (PyData.eqv (toPy a) (toPy b))) else none
def dNe (a b : D) : Option D := if shp a = true ∧ shp b = true then some (.bl (!PyData.eqv (toPy a) (toPy b))) else none
section
variable {X : Cx} {W : WK} {e a b c : Expr} {pos : Pos} {E Ea Eb Ec : Mo D}
theorem snd_eq : Snd2 X.K dEq (rEqD X.K) := fun B G H δ σ x y a b d Q at' rx ry h k => by
  unfold dEq at h
  split at h
  · rename_i q; cases h
    exact ⟨_, _, shp_dp at'.vw rx q.1, shp_dp at'.vw ry q.2, q.1, q.2, k _ G H at' (Ext.refl _) (.bl _)⟩
  · cases h
theorem snd_ne : Snd2 X.K dNe (rNeD X.K) := fun B G H δ σ x y a b d Q at' rx ry h k => by
  unfold dNe at h
  split at h
  · rename_i q; cases h
    exact ⟨_, _, shp_dp at'.vw rx q.1, shp_dp at'.vw ry q.2, q.1, q.2, k _ G H at' (Ext.refl _) (.bl _)⟩
  · cases h
theorem de_eq (hu : X.A.units + 64 < cLine) (ha : DE X W a Ea) (hb : DE X W b Eb) : DE X W (.Compare a [.Eq] [b] pos) (eBin dEq Ea Eb) := de_cmp (op_eqD hu) snd_eq ha hb (nomark _)
theorem de_ne (hu : X.A.units + 64 < cLine) (ha : DE X W a Ea) (hb : DE X W b Eb) : DE X W (.Compare a [.NotEq] [b] pos) (eBin dNe Ea Eb) := de_cmp (op_neD hu) snd_ne ha hb (nomark _)
def hasPy (x : D) (l : List D) : Bool := (toPys l).any fun z => PyData.eqv z (toPy x)
/-- == of flat data -/
def eqF : D → D → Bool
  | .non, .non => true
  | .bl a, .bl b => a == b
  | .bl a, .int b => (if a then 1 else 0) == b
  | .int a, .bl b => a == (if b then 1 else 0)
  | .int a, .int b => a == b
  | .str a, .str b => a == b
  | _, _ => false
def hasF (x : D) (l : List D) : Bool := l.any fun y => eqF y x
def dIn (neg : Bool) : D → D → Option D
  | x, .lst l => if shp x = true ∧ shp (.lst l) = true then some (.bl (if neg then !hasPy x l else hasPy x l)) else none
  | x, .scr l => if shp x = true ∧ shp (.scr l) = true then some (.bl (if neg then !hasPy x l else hasPy x l)) else none
  | x, .tup l => if flatD x = true ∧ l.all flatD = true then some (.bl (if neg then !hasF x l else hasF x l)) else none
  | .non, .dK _ => some (.bl neg)
  | x, .dK l => (dGet (.dK l) x).map fun o => .bl (if neg then !o.isSome else o.isSome)
  | x, .dT l => (dGet (.dT l) x).map fun o => .bl (if neg then !o.isSome else o.isSome)
  | _, _ => none
def rDIn (neg : Bool) : R2 := fun y x H Q => ∃ a o, x = .ref a ∧ DGet H a y o ∧ Q (.bl (if neg then !o.isSome else o.isSome)) H
def rNIn (neg : Bool) : R2 := fun y x H Q => ∃ a kvs, x = .ref a ∧ y = .non ∧ Rd H a (.dK kvs) ∧ Q (.bl neg) H
theorem opd_in (hu : X.A.units + 1 < cLine) : OpR X (compareOp .In) (rDIn false) := fun pins s σ H y x u v Q I ry rx h => by
  obtain ⟨a, o, rfl, g, q⟩ := h
  cases rx
  exact d_in hu I g ry fun s' I' => ⟨.bl o.isSome, H, I', rfl, q⟩
theorem opd_notin (hu : X.A.units + 1 < cLine) : OpR X (compareOp .NotIn) (rDIn true) := fun pins s σ H y x u v Q I ry rx h => by
  obtain ⟨a, o, rfl, g, q⟩ := h
  cases rx
  exact d_notIn hu I g ry fun s' I' => ⟨.bl (!o.isSome), H, I', rfl, q⟩
theorem opn_in : OpR X (compareOp .In) (rNIn false) := fun pins s σ H y x u v Q I ry rx h => by
  obtain ⟨a, kvs, rfl, rfl, g, q⟩ := h
  cases rx; cases ry
  exact d_inNone I g fun s' I' => ⟨.bl false, H, I', rfl, q⟩
theorem opn_notin : OpR X (compareOp .NotIn) (rNIn true) := fun pins s σ H y x u v Q I ry rx h => by
  obtain ⟨a, kvs, rfl, rfl, g, q⟩ := h
  cases rx; cases ry
  exact d_notInNone I g fun s' I' => ⟨.bl true, H, I', rfl, q⟩
theorem flat_V {K : PySem.W.Frag} {G : Hp} {v : V} {d : D} (r : R K G v d) (f : flatD d = true) : flatV v = true := by
  cases r <;> first | rfl | (cases f; done)
theorem flat_Vs {K : PySem.W.Frag} {G : Hp} : ∀ {vs : List V} {ds : List D}, RL K G vs ds → ds.all flatD = true → vs.all flatV = true
  | _, _, .nil, _ => rfl
  | _, _, .cons r t, h => by
    rw [List.all_cons, Bool.and_eq_true] at h
    rw [List.all_cons, flat_V r h.1, flat_Vs t h.2]; rfl
theorem eqF_V {K : PySem.W.Frag} {G : Hp} {v w : V} {d e : D} (r : R K G v d) (s : R K G w e) (f : flatD d = true) (g : flatD e = true) : eqV v w = eqF d e := by
  cases r <;> first | (cases f; done) | (cases s <;> first | rfl | (cases g; done))
theorem hasF_V {K : PySem.W.Frag} {G : Hp} {w : V} {e : D} (s : R K G w e) (g : flatD e = true) : ∀ {vs : List V} {ds : List D}, RL K G vs ds → ds.all flatD = true → inV w vs = hasF e ds
  | _, _, .nil, _ => rfl
  | _, _, .cons r t, h => by
    rw [List.all_cons, Bool.and_eq_true] at h
    unfold inV hasF
    rw [List.any_cons, List.any_cons, eqF_V r s h.1 g]
    have := hasF_V s g t h.2
    unfold inV hasF at this
    rw [this]
abbrev rInA (K : PySem.W.Frag) (neg : Bool) : R2 := fun x y H Q => ((if neg then rNotInD K else rInD K) x y H Q ∨ rIn K neg x y H Q) ∨ (rDIn neg x y H Q ∨ rNIn neg x y H Q)
theorem opA_in (hu : X.A.units + 65 < cLine) : OpR X (compareOp .In) (rInA X.K false) := OpR.or (OpR.or (op_inD hu) op_in_seq) (OpR.or (opd_in (by omega)) opn_in)
theorem opA_notin (hu : X.A.units + 65 < cLine) : OpR X (compareOp .NotIn) (rInA X.K true) := OpR.or (OpR.or (op_notInD hu) op_notIn_seq) (OpR.or (opd_notin (by omega)) opn_notin)
/-- the container seen -/
theorem sh_in {K : PySem.W.Frag} {G Gc H : Hp} {neg : Bool} {x y : V} {d c z : D} {Q : VK} (vw : Vw G H) (vc : Vw Gc H) (rx : R K G x d) (ry : Sh K Gc H y c) (h : dIn neg d c = some z) (q : ∀ b, z = .bl b → Q (.bl b) H) : rInA K neg x y H Q := by
  have dct : ∀ o, dGet c d = some o → z = .bl (if neg then !o.isSome else o.isSome) → rInA K neg x y H Q := fun o h1 h2 => by
    obtain ⟨a, o', e1, _, e2, e3⟩ := sh_get vw ry rx h1
    have ho : o'.isSome = o.isSome := by
      rcases e3 with ⟨v, d, rfl, rfl, _⟩ | ⟨rfl, rfl⟩ <;> rfl
    exact .inr (.inl ⟨a, o', e1, e2, by rw [ho]; exact q _ h2⟩)
  cases ry with
  | alb => cases d <;> cases h
  | bld => cases d <;> cases h
  | lst g l r =>
    rename_i a xs ds
    have h : (if shp d = true ∧ shp (.lst ds) = true then some (D.bl (if neg then !hasPy d ds else hasPy d ds)) else none) = some z := h
    split at h
    · rename_i c; cases h
      have d2 : Dp K H (.ref a) (.list (toPys ds)) := .lst (SqL.of g) (r.dp vc (by have := SeqAt.canLay_of_shaped c.2; simpa [toPy, PyData.canLay0] using this))
      refine .inl (.inl ?_)
      cases neg
      · exact ⟨_, _, shp_dp vw rx c.1, d2, c.1, c.2, q _ rfl⟩
      · exact ⟨_, _, shp_dp vw rx c.1, d2, c.1, c.2, q _ rfl⟩
    · cases h
  | scr g l r =>
    rename_i a xs ds
    have h : (if shp d = true ∧ shp (.scr ds) = true then some (D.bl (if neg then !hasPy d ds else hasPy d ds)) else none) = some z := h
    split at h
    · rename_i c; cases h
      have d2 : Dp K H (.ref a) (.list (toPys ds)) := .lst g (r.dp vc (by have := SeqAt.canLay_of_shaped c.2; simpa [toPy, PyData.canLay0] using this))
      refine .inl (.inl ?_)
      cases neg
      · exact ⟨_, _, shp_dp vw rx c.1, d2, c.1, c.2, q _ rfl⟩
      · exact ⟨_, _, shp_dp vw rx c.1, d2, c.1, c.2, q _ rfl⟩
    · cases h
  | tup g l r =>
    rename_i a xs ds
    have h : (if flatD d = true ∧ ds.all flatD = true then some (D.bl (if neg then !hasF d ds else hasF d ds)) else none) = some z := h
    split at h
    · rename_i c; cases h
      refine .inl (.inr ⟨a, xs, rfl, .inr (SqT.of g), flat_V rx c.1, flat_Vs r c.2, ?_⟩)
      rw [hasF_V (rx.flat c.1) c.1 r c.2]
      exact q _ rfl
    · cases h
  | dK g l r =>
    rename_i a kvs ds
    by_cases hn : d = .non
    · subst hn; cases h
      cases rx
      exact .inr (.inr ⟨a, kvs, rfl, rfl, g, q _ rfl⟩)
    · have h' : ((dGet (.dK ds) d).map fun o => D.bl (if neg then !o.isSome else o.isSome)) = some z := by
        cases d <;> first | exact absurd rfl hn | exact h
      cases q2 : dGet (.dK ds) d with
      | none => rw [q2] at h'; cases h'
      | some o => rw [q2] at h'; cases h'; exact dct o q2 rfl
  | dT g l r =>
    rename_i a kvs ds
    have h' : ((dGet (.dT ds) d).map fun o => D.bl (if neg then !o.isSome else o.isSome)) = some z := by
      cases d <;> exact h
    cases q2 : dGet (.dT ds) d with
    | none => rw [q2] at h'; cases h'
    | some o => rw [q2] at h'; cases h'; exact dct o q2 rfl
  | flat r f =>
    cases r with
    | _ => first | (cases f; done) | (cases d <;> cases h)
theorem snd_in {neg : Bool} : Snd2 X.K (dIn neg) (rInA X.K neg) := fun B G H δ σ x y a b d Q at' rx ry h k =>
  sh_in at'.vw at'.vw rx (ry.sh at'.vw) h fun b hb => by subst hb; exact k _ G H at' (Ext.refl _) (.bl _)
/-- e in x, x a slot that keeps its object -/
def eInV (neg : Bool) (A : Mo D) (i : Nat) : Mo D := A.bind fun x => fun δ => match δ[i]? with
  | some s => ((slD s).bind fun c => dIn neg x c).map fun d => (.ok d, δ)
  | none => none
def dIs (neg : Bool) : D → D → Option D
  | .non, .non => some (.bl (!neg))
  | _, .non => some (.bl neg)
  | _, _ => none
def rIsN (neg : Bool) : R2 := fun x y H Q => y = .non ∧ Q (.bl (if neg then !decide (x = .non) else decide (x = .non))) H
theorem snd_is {neg : Bool} : Snd2 X.K (dIs neg) (rIsN neg) := fun B G H δ σ x y a b d Q at' rx ry h k => by
  cases ry with
  | non =>
    refine ⟨rfl, ?_⟩
    cases rx with
    | non => cases h; have := k (.bl (!neg)) G H at' (Ext.refl _) (.bl _); cases neg <;> exact this
    | _ => cases h; have := k (.bl neg) G H at' (Ext.refl _) (.bl _); cases neg <;> exact this
  | _ => cases rx <;> cases h
theorem de_isN (ha : DE X W a Ea) (hb : DE X W b Eb) : DE X W (.Compare a [.Is] [b] pos) (eBin (dIs false) Ea Eb) := de_cmp (r := rIsN false) op_isN snd_is ha hb (nomark _)
end
def chM (i : Nat) (f : D → Option D) : Mo Unit := fun δ => match δ[i]? with
  | some (.own d) => (f d).map fun d' => (.ok (), δ.set i (.own d'))
  | some (.io d) => (f d).map fun d' => (.ok (), δ.set i (.io d'))
  | _ => none
theorem chM_ok {K : PySem.W.Frag} {B : Bs} {G H : Hp} {δ δ' : Env} {σ : St} {i : Nat} {f : D → Option D} {u : Except Exn Unit} (a : At K B G δ σ H) (h : chM i f δ = some (u, δ')) :
    u = .ok () ∧ ∃ p d d', σ[i]? = some (some (.ref p)) ∧ Ow K G H p d ∧ f d = some d' ∧ ∀ o, Mut (some o) → Ow K G (upd H p o) p d' → At K B G δ' σ (upd H p o) := by
  unfold chM at h
  split at h
  · rename_i d q
    cases q2 : f d with
    | none => rw [q2] at h; cases h
    | some d' =>
      rw [q2] at h; cases h
      obtain ⟨p, h1, h2, h3, h4⟩ := a.own q
      exact ⟨rfl, p, d, d', h1, h3, q2, fun o m w => a.change q (.inl ⟨rfl, rfl⟩) h1 m w⟩
  · rename_i d q
    cases q2 : f d with
    | none => rw [q2] at h; cases h
    | some d' =>
      rw [q2] at h; cases h
      obtain ⟨p, h1, h2, h3, h4⟩ := a.io q
      exact ⟨rfl, p, d, d', h1, h3, q2, fun o m w => a.change q (.inr ⟨rfl, rfl⟩) h1 m w⟩
  · cases h
def isSet (δ : Env) (i : Nat) : Bool := match δ[i]? with
  | some (.own _) => true
  | some (.io _) => true
  | _ => false
theorem isSet_ok {K : PySem.W.Frag} {B : Bs} {G H : Hp} {δ : Env} {σ : St} {i : Nat} (a : At K B G δ σ H) (h : isSet δ i = true) : ∃ p d, σ[i]? = some (some (.ref p)) ∧ Ow K G H p d := by
  unfold isSet at h
  split at h
  · rename_i d q; obtain ⟨p, h1, _, h3, _⟩ := a.own q; exact ⟨p, d, h1, h3⟩
  · rename_i d q; obtain ⟨p, h1, _, h3, _⟩ := a.io q; exact ⟨p, d, h1, h3⟩
  · cases h
def dAppend (x : D) : D → Option D
  | .lst l => if l.length < sizeLine then some (.lst (l ++ [x])) else none
  | _ => none
/-- x.append(e) -/
def isLst (δ : Env) (i : Nat) : Bool := match δ[i]? with
  | some (.own (.lst _)) => true
  | some (.io (.lst _)) => true
  | _ => false
theorem isLst_ok {K : PySem.W.Frag} {B : Bs} {G H : Hp} {δ : Env} {σ : St} {i : Nat} (a : At K B G δ σ H) (h : isLst δ i = true) : ∃ p xs, σ[i]? = some (some (.ref p)) ∧ H p = some (.lst xs) := by
  unfold isLst at h
  split at h
  · rename_i d q; obtain ⟨p, h1, _, h3, _⟩ := a.own q; cases h3 with | lst g l r => exact ⟨p, _, h1, g⟩
  · rename_i d q; obtain ⟨p, h1, _, h3, _⟩ := a.io q; cases h3 with | lst g l r => exact ⟨p, _, h1, g⟩
  · cases h
def sApp (i : Nat) (E : Mo D) : Mo Out := fun δ => if isLst δ i = true then (E.bind fun x => (chM i (dAppend x)).bind fun _ => Mo.ret .nx) δ else none
section
variable {X : Cx} {W : WK} {o e a b c : Expr} {pos apos cpos : Pos} {E Ea Eb Ec : Mo D}
theorem ds_app {i : Nat} (ho : PE X o (tVar i)) (he : DE X W e E) (hs : starEach [e] X.env = (false, eval e X.env) :: starEach [] X.env := by rfl)
    (hbase : attributeBase o "append" X.env (eval o X.env) = eval o X.env := by rfl)
    (hfew : ((backTo cpos (starEach [e] X.env)).all (fun x => !x.1) && (backToKw cpos (keywordEach [] X.env)).all (fun x => x.1.isSome)
      && decide (([e] : List Expr).length + ([] : List Keyword).length + (if ([] : List Keyword).isEmpty then 0 else 1) < 30)) = true := by rfl)
    (hline : (apos.endLine == cpos.line) = true := by rfl) (hplain : (backTo cpos (starEach [] X.env)).any (·.1) = false := by rfl)
    (hsw : swapsWith (.Call (.Attribute o "append" apos) [e] [] cpos) none pos.line X.env = pure false := by rfl) :
    DS X W (.Expr (.Call (.Attribute o "append" apos) [e] [] cpos) pos) (sApp i E) :=
  PS.weak (ps_expr (pe_bm PySem.F.plainAttrs_list PySem.F.slot_list_append PySem.F.type_list_append mt_append ho (pa_cons he pa_nil hs) hbase hfew hline hs hplain) hsw) fun Dn σ H ⟨B, G, δ, r, δ', at', e1, post⟩ => by
  unfold sApp at e1
  split at e1
  · rename_i hi
    obtain ⟨p, xs, hp, hx⟩ := isLst_ok at' hi
    refine ⟨_, hp, .inl ⟨rfl, xs, SqL.of hx⟩, ?_⟩
    refine tE_bindS at' e1 post fun v H1 G1 δ1 d a1 x1 r1 e2 post => ?_
    rcases unit_bind e2 with ⟨q, rfl⟩ | ⟨x, q, rfl⟩
    · obtain ⟨_, p', dd, d', h1, h2, h3, h4⟩ := chM_ok a1 q
      rw [hp] at h1; cases h1
      cases h2 with
      | lst g l rl =>
        rename_i ys ds
        have h3 : (if ds.length < sizeLine then some (D.lst (ds ++ [d])) else none) = some d' := h3
        split at h3
        · rename_i hl
          cases h3
          rw [← rl.length] at hl
          refine ⟨p, ys, v, rfl, rfl, g, hl, ?_⟩
          exact post G1 σ _ (h4 (.lst (ys ++ [v])) trivial (.lst upd_same (by rw [List.length_append]; exact hl) (rl.append (.cons r1 .nil)))) (Ext.refl _)
        · cases h3
      | dK => cases h3
      | dT => cases h3
    · have := (chM_ok a1 q).1; cases this
  · cases e1
/-- o[e] = v -/
def dSet (k v : D) : D → Option D
  | .lst l => match k with
    | .int i => (ixN l.length i).map fun j => .lst (l.set j v)
    | _ => none
  | .dK l => dPut (.dK l) k v
  | .dT l => dPut (.dT l) k v
  | _ => none
def sSet (i : Nat) (Ek Ev : Mo D) : Mo Out := Ev.bind fun v => fun δ => if isSet δ i = true then (Ek.bind fun k => (chM i (dSet k v)).bind fun _ => Mo.ret .nx) δ else none
abbrev rSetA : TSet := fun o i v H Q => rSetL o i v H Q ∨ ∃ a H', o = .ref a ∧ DPut H a i v H' ∧ Q H'
theorem set_all (hu : X.A.units + 1 < cLine) : PSet X rSetA := fun pins s σ H o i v ov iv u Q I ro ri rv h => by
  rcases h with h | ⟨a, H', rfl, g, q⟩
  · exact set_list pins s σ H o i v ov iv u Q I ro ri rv h
  · cases ro
    exact d_setItem hu I g ri rv fun s' I' => ⟨H', I', q⟩
theorem ds_sub {i : Nat} {pos' : Pos} (hu : X.A.units + 1 < cLine) (ho : PE X o (tVar i)) (hk : DE X W a Ea) (hv : DE X W b Eb) (hs : swapsWithSole [.Subscript o a pos'] b pos.line X.env = pure false := by rfl) (hw : swappedStores [.Subscript o a pos'] b X.env = pure none := by rfl)
    (h1 : (assignEach [.Subscript o a pos'] X.env).map (·.2) = [assign (.Subscript o a pos') X.env] := by rfl)
    (ha : ∀ v, assign (.Subscript o a pos') X.env v = (do
      let ov ← holding [v] (eval o X.env)
      let iv ← holding [v, ov] (eval a X.env)
      standAt pos'
      holding [v, ov, iv] (setItem ov iv v)
      release [v, ov, iv] []) := by intro _; rfl) :
    DS X W (.Assign [.Subscript o a pos'] b pos) (sSet i Ea Eb) := PS.weak (ps_asg hv (pg_sub ho hk (set_all hu) ha) hs hw h1) fun Dn σ H ⟨B, G, δ, r, δ', at', e1, post⟩ => by
  refine tE_bindS at' e1 post fun v H1 G1 δ1 vd a1 x1 r1 e2 post => ?_
  split at e2
  · rename_i hi
    obtain ⟨p, d0, hp, _⟩ := isSet_ok a1 hi
    refine ⟨_, hp, ?_⟩
    refine tE_bindS a1 e2 post fun y H2 G2 δ2 kd a2 x2 r2 e3 post => ?_
    rcases unit_bind e3 with ⟨q, rfl⟩ | ⟨x, q, rfl⟩
    · obtain ⟨_, p', dd, d', h1, h2, h3, h4⟩ := chM_ok a2 q
      rw [hp] at h1; cases h1
      have rv := r1.mono x2
      have dct : dPut dd kd vd = some d' → rSetA (.ref p) y v H2 fun H3 => Dn.nx σ H3 := fun hh => by
        obtain ⟨o1, g1, g2, g3⟩ := dPut_ok a2.vw h2 r2 rv hh
        exact .inr ⟨p, _, rfl, g1, post G2 σ _ (h4 o1 g2 g3) (Ext.refl _)⟩
      cases h2 with
      | lst g l rl =>
        rename_i ys ds
        cases r2 with
        | int j =>
          have h3 : (ixN ds.length j).map (fun m => D.lst (ds.set m vd)) = some d' := h3
          cases q2 : ixN ds.length j with
          | none => rw [q2] at h3; cases h3
          | some m =>
            rw [q2] at h3; cases h3
            refine .inl ⟨p, ys, j, m, rfl, rfl, g, by rw [rl.length]; exact q2, ?_⟩
            exact post G2 σ _ (h4 (.lst (ys.set m v)) trivial (.lst upd_same (by rw [List.length_set]; exact l) (rl.set m rv))) (Ext.refl _)
        | _ => cases h3
      | dK => exact dct h3
      | dT => exact dct h3
    · have := (chM_ok a2 q).1; cases this
  · cases e2
end
section
variable {X : Cx} {W : WK} {e a b c : Expr} {pos p : Pos} {x : Str} {es : List Expr} {E Ea Eb Ec : Mo D} {A : Mo (List Ag)}
def fAbs : List D → Option D
  | [.int i] => some (.int (if i < 0 then -i else i))
  | _ => none
theorem rl1 {K : PySem.W.Frag} {G : Hp} {xs : List V} {d : D} (h : RL K G xs [d]) : ∃ v, xs = [v] ∧ R K G v d := by
  cases h with
  | cons r t => cases t; exact ⟨_, rfl, r⟩
theorem r_int {K : PySem.W.Frag} {G : Hp} {v : V} {i : Int} (h : R K G v (.int i)) : v = .int i := by cases h; rfl
theorem r_bl {K : PySem.W.Frag} {G : Hp} {v : V} {i : Bool} (h : R K G v (.bl i)) : v = .bl i := by cases h; rfl
theorem snd_abs : SndF X.K fAbs (fun xs H Q => ∃ i, xs = [.int i] ∧ Q (.int (if i < 0 then -i else i)) H) := fun B G H δ σ xs as d Q at' rx h k => by
  unfold fAbs at h
  split at h
  · cases h
    obtain ⟨v, rfl, r⟩ := rl1 rx
    rw [r_int r]
    exact ⟨_, rfl, k _ G H at' (Ext.refl _) (.int _)⟩
  · cases h
theorem de_abs (hg : Gl X x) (hm : X.mg x = none) (hv : bootBuiltins x = some (.builtin "abs")) (ha : DA X W (e :: es) A) (hn : x ≠ "__name__" := by decide) (hdb : (x == ("__debug__" : Str)) = false := by decide)
    (he : starEach (e :: es) X.env = (false, eval e X.env) :: starEach es X.env := by rfl) (hpl : (backTo pos (starEach es X.env)).any (·.1) = false := by rfl) : DE X W (.Call (.Name x p) (e :: es) [] pos) (eF fAbs A) :=
  de_tCB snd_abs (pe_callB call_abs hg hm hv ha hn hdb he hpl)
def fInt : List D → Option D
  | [.int i] => some (.int i)
  | [.bl k] => some (.int (if k then 1 else 0))
  | _ => none
theorem snd_fint : SndF X.K fInt (fun xs H Q => (∃ i, xs = [.int i] ∧ Q (.int i) H) ∨ ∃ k, xs = [.bl k] ∧ Q (.int (if k then 1 else 0)) H) := fun B G H δ σ xs as d Q at' rx h k => by
  unfold fInt at h
  split at h
  · cases h
    obtain ⟨v, rfl, r⟩ := rl1 rx
    rw [r_int r]
    exact .inl ⟨_, rfl, k _ G H at' (Ext.refl _) (.int _)⟩
  · cases h
    obtain ⟨v, rfl, r⟩ := rl1 rx
    rw [r_bl r]
    exact .inr ⟨_, rfl, k _ G H at' (Ext.refl _) (.int _)⟩
  · cases h
theorem de_int1 (hg : Gl X x) (hm : X.mg x = none) (hv : bootBuiltins x = some (.type "int")) (ha : DA X W (e :: es) A) (hn : x ≠ "__name__" := by decide) (hdb : (x == ("__debug__" : Str)) = false := by decide)
    (he : starEach (e :: es) X.env = (false, eval e X.env) :: starEach es X.env := by rfl) (hpl : (backTo pos (starEach es X.env)).any (·.1) = false := by rfl) : DE X W (.Call (.Name x p) (e :: es) [] pos) (eF fInt A) :=
  de_tCB snd_fint (pe_callTy call_int1 hg hm hv ha hn hdb he hpl)
end
end M
set_option Elab.async false
set_option linter.all false
set_option maxRecDepth 100000
namespace M
open PySem L2 PySem.Spec PyProof.Rows
def ikHash (ks : List Key) : Int := reduceHash (Builtin.Tuple.tupleHashOf (ks.map fun k => match k with
  | .inl i => hashInt i
  | .inr _ => 0))
def intKey (ks : List Key) : Bool := ks.all fun k => match k with
  | .inl _ => true
  | .inr _ => false
/-- the keys' hashes differ: what a copy of such a dict asks -/
def apart (ks : List (List Key)) : Prop := (∀ k ∈ ks, intKey k = true) ∧ (ks.map ikHash).Nodup
section
variable {X : Cx} {W : WK} {e a b c : Expr} {pos p : Pos} {x : Str} {es : List Expr} {E Ea Eb Ec : Mo D} {A : Mo (List Ag)}
def fList : List D → Option D
  | [.lst l] => some (.lst l)
  | [.scr l] => some (.lst l)
  | [.tup l] => some (.lst l)
  | _ => none
def rListA (K : PySem.W.Frag) : List V → Hp → VK → Prop := fun xs H Q => (∃ p ys, xs = [.ref p] ∧ (SqL K H p ys ∨ SqT K H p ys) ∧ ∀ l, H l = none → Q (.ref l) (upd H l (.lst ys))) ∨
  ∃ d kvs, xs = [V.ref d] ∧ Rd H d (.dT kvs) ∧ ∀ p bs, H p = none → IsKeys H kvs bs → Q (.ref p) (upd H p (.lst (bs.map V.ref)))
theorem call_listA (hc : X.calm = true) : CallR X (.type "list") (rListA X.K) := fun pins s σ H xs us Q I rv h => by
  rcases h with h | h
  · exact call_list_of pins s σ H xs us Q I rv h
  · exact call_list_dT hc pins s σ H xs us Q I rv h
theorem keys_rl {K : PySem.W.Frag} {B : Bs} {H : Hp} {δ : Env} {σ : St} : ∀ {kvs : List (List Key × V)} {bs : List Addr}, IsKeys H kvs bs → kvs.length ≤ sizeLine → (∀ p ∈ kvs, p.1.length ≤ sizeLine) → ∀ {G : Hp}, At K B G δ σ H → ∃ G', At K B G' δ σ H ∧ Ext G G' ∧ RL K G' (bs.map V.ref) (kvs.map fun p => .tup (p.1.map kD))
  | _, _, .nil, _, _, G, a => ⟨G, a, Ext.refl _, .nil⟩
  | p :: kvs, b :: bs, .cons h t, hl, hk, G, a => by
    obtain ⟨G1, a1, x1, g1⟩ := a.tuple h
    obtain ⟨G2, a2, x2, r2⟩ := keys_rl t (by rw [List.length_cons] at hl; omega) (fun q hq => hk q (List.mem_cons_of_mem _ hq)) a1
    refine ⟨G2, a2, x1.trans x2, ?_⟩
    rw [List.map_cons, List.map_cons]
    exact .cons (.tup (x2 _ _ g1) (by rw [List.length_map]; exact hk p List.mem_cons_self) (kDs_ok _)) r2
/-- keys are short -/
def shortK (ks : List (List Key)) : Bool := ks.all fun k => decide (k.length ≤ 1000)
def fList' : List D → Option D
  | [.dT l] => if shortK (l.map (·.1)) = true then some (.lst (l.map fun p => .tup (p.1.map kD))) else none
  | as => fList as
theorem snd_list : SndFO X.K fList' (rListA X.K) := fun B G H δ σ xs as d Q at' rx h k => by
  have seq : ∀ v l, (∃ a ys, v = V.ref a ∧ (SqL X.K H a ys ∨ SqT X.K H a ys) ∧ ys.length ≤ sizeLine ∧ RL X.K G ys l) → d = .lst l → xs = [v] → rListA X.K xs H Q := fun v l hh hd hx => by
    obtain ⟨a, ys, rfl, h1, h2, h3⟩ := hh
    subst hd hx
    refine .inl ⟨a, ys, rfl, h1, fun q hq => ?_⟩
    obtain ⟨b1, b2⟩ := at'.own1 (p := q) (o := .lst _) hq (.lst upd_same h2 h3)
    exact k q _ _ b1 (Ext.refl _) b2
  unfold fList' at h
  split at h
  · rename_i l
    split at h
    · rename_i hs
      cases h
      obtain ⟨v, rfl, r⟩ := rl1 rx
      cases r with
      | dT g hl hk r =>
        rename_i a kvs
        refine .inr ⟨a, kvs, rfl, at'.vw.rd g, fun q bs hq hb => ?_⟩
        have hlen := congrArg List.length hk
        rw [List.length_map, List.length_map] at hlen
        obtain ⟨G2, a2, x2, r2⟩ := keys_rl hb hl (fun p hp => by
          have : p.1 ∈ l.map (·.1) := by rw [← hk]; exact List.mem_map.mpr ⟨p, hp, rfl⟩
          exact small_line (of_decide_eq_true (List.all_eq_true.mp hs p.1 this))) at'
        have e : (kvs.map fun p => D.tup (p.1.map kD)) = l.map fun p => D.tup (p.1.map kD) := by
          have : ∀ m : List (List Key × V), (m.map fun p => D.tup (p.1.map kD)) = (m.map (·.1)).map fun k => D.tup (k.map kD) := fun m => by rw [List.map_map]; rfl
          rw [this, hk, List.map_map]; rfl
        rw [e] at r2
        obtain ⟨b1, b2⟩ := a2.own1 (p := q) (o := .lst (bs.map V.ref)) hq (.lst upd_same (by rw [r2.length, List.length_map]; omega) r2)
        exact k q _ _ b1 x2 b2
    · cases h
  · unfold fList at h
    split at h
    · cases h
      obtain ⟨v, rfl, r⟩ := rl1 rx
      cases r with
      | lst g l r => exact seq _ _ ⟨_, _, rfl, .inl (SqL.of (at'.vw.lst g)), l, r⟩ rfl rfl
    · cases h
      obtain ⟨v, rfl, r⟩ := rl1 rx
      cases r with
      | scr g l r => exact seq _ _ ⟨_, _, rfl, .inl (at'.vw.sql g), l, r⟩ rfl rfl
    · cases h
      obtain ⟨v, rfl, r⟩ := rl1 rx
      cases r with
      | tup g l r => exact seq _ _ ⟨_, _, rfl, .inr (SqT.of (at'.vw.tup g)), l, r⟩ rfl rfl
    · cases h
theorem do_list (hc : X.calm = true) (hg : Gl X x) (hm : X.mg x = none) (hv : bootBuiltins x = some (.type "list")) (ha : DA X W (e :: es) A) (hn : x ≠ "__name__" := by decide) (hdb : (x == ("__debug__" : Str)) = false := by decide)
    (he : starEach (e :: es) X.env = (false, eval e X.env) :: starEach es X.env := by rfl) (hpl : (backTo pos (starEach es X.env)).any (·.1) = false := by rfl) : DO X W (.Call (.Name x p) (e :: es) [] pos) (eF fList' A) :=
  do_tCB snd_list (pe_callTy (call_listA hc) hg hm hv ha hn hdb he hpl)
def fTuple : List D → Option D
  | [.lst l] => some (.tup l)
  | [.tup l] => some (.tup l)
  | _ => none
theorem snd_tuple : SndF X.K fTuple (fun xs H Q => ∃ p ys, xs = [.ref p] ∧ ((SqL X.K H p ys ∧ ∀ l, H l = none → Q (.ref l) (upd H l (.tup ys))) ∨ (SqT X.K H p ys ∧ Q (.ref p) H))) := fun B G H δ σ xs as d Q at' rx h k => by
  unfold fTuple at h
  split at h
  · cases h
    obtain ⟨v, rfl, r⟩ := rl1 rx
    cases r with
    | lst g l r =>
      rename_i a xs
      refine ⟨_, _, rfl, .inl ⟨SqL.of (at'.vw.lst g), fun q hq => ?_⟩⟩
      have ex := Ext.new (o := .tup xs) (at'.vw.none hq)
      exact k _ _ _ (at'.laid hq fun _ z => by cases z) ex (.tup upd_same l (r.mono ex))
  · cases h
    obtain ⟨v, rfl, r⟩ := rl1 rx
    cases r with
    | tup g l r => exact ⟨_, _, rfl, .inr ⟨SqT.of (at'.vw.tup g), k _ G H at' (Ext.refl _) (.tup g l r)⟩⟩
  · cases h
theorem de_tuple (hg : Gl X x) (hm : X.mg x = none) (hv : bootBuiltins x = some (.type "tuple")) (ha : DA X W (e :: es) A) (hn : x ≠ "__name__" := by decide) (hdb : (x == ("__debug__" : Str)) = false := by decide)
    (he : starEach (e :: es) X.env = (false, eval e X.env) :: starEach es X.env := by rfl) (hpl : (backTo pos (starEach es X.env)).any (·.1) = false := by rfl) : DE X W (.Call (.Name x p) (e :: es) [] pos) (eF fTuple A) :=
  de_tCB snd_tuple (pe_callTy call_tuple_of hg hm hv ha hn hdb he hpl)
theorem rl_ints {K : PySem.W.Frag} {G : Hp} : ∀ ns : List Int, RL K G (ns.map V.int) (ns.map D.int)
  | [] => .nil
  | n :: ns => .cons (.int n) (rl_ints ns)
end
end M
set_option Elab.async false
set_option linter.all false
set_option maxRecDepth 100000
theorem L2.Room.u1 {k : Nat} {A : PySem.Around} (r : L2.Room k A) : A.units + 1 < PySem.cLine := by have := r.un; omega
theorem L2.Room.u65 {k : Nat} {A : PySem.Around} (r : L2.Room k A) : A.units + 65 < PySem.cLine := by have := r.un; omega
namespace M
open PySem L2 PySem.Spec PyProof.Rows
theorem bt_len : bootBuiltins "len" = some (.builtin "len") := by decide +kernel
theorem bt_abs : bootBuiltins "abs" = some (.builtin "abs") := by decide +kernel
theorem bt_all : bootBuiltins "all" = some (.builtin "all") := by decide +kernel
theorem bt_isinstance : bootBuiltins "isinstance" = some (.builtin "isinstance") := by decide +kernel
theorem bt_int : bootBuiltins "int" = some (.type "int") := by decide +kernel
theorem bt_list : bootBuiltins "list" = some (.type "list") := by decide +kernel
theorem bt_tuple : bootBuiltins "tuple" = some (.type "tuple") := by decide +kernel
theorem bt_str : bootBuiltins "str" = some (.type "str") := by decide +kernel
/-- a def that may be called by its name -/
structure CalM (P : Program) (w : World) (K : PySem.W.Frag) (mg : Str → Option Value) (base : Heap) (k : Nat) (x : Str) (n : Nat) (ro : Bool) (m : Mo D) : Prop where
  ex : ∃ (f : Addr) (fd : FuncData) (ps : List Str), FnOk P w K mg base CX0 k f fd ps (spM Wn K n ro m) ∧ mg x = some (.ref f) ∧ PySem.W.keepIn K (.ref f) = true ∧ Binds K fd ps []
section
variable {X : Cx} {W : WK} {e : Expr} {es : List Expr} {A : Mo (List Ag)} {k n : Nat} {x : Str} {p pos : Pos} {m : Mo D} {st : Stmt}
theorem de_callC (C : CalM X.prog X.w X.K X.mg X.base k x n false m) (hr : Room k X.A) (hg : Gl X x) (hl : ALen A n) (ha : DA X W0 (e :: es) A) (hdb : (x == ("__debug__" : Str)) = false := by decide)
    (he : starEach (e :: es) X.env = (false, eval e X.env) :: starEach es X.env := by rfl) (hpl : (backTo pos (starEach es X.env)).any (·.1) = false := by rfl) : DE X W0 (.Call (.Name x p) (e :: es) [] pos) (eCall m A) := by
  obtain ⟨f, fd, ps, F, hm, hk, hb⟩ := C.ex
  exact de_call F hr hg hm hk hb hl ha hdb he hpl
theorem do_callC (C : CalM X.prog X.w X.K X.mg X.base k x n true m) (hr : Room k X.A) (hg : Gl X x) (hl : ALen A n) (ha : DA X W0 (e :: es) A) (hdb : (x == ("__debug__" : Str)) = false := by decide)
    (he : starEach (e :: es) X.env = (false, eval e X.env) :: starEach es X.env := by rfl) (hpl : (backTo pos (starEach es X.env)).any (·.1) = false := by rfl) : DO X W0 (.Call (.Name x p) (e :: es) [] pos) (eCall m A) := by
  obtain ⟨f, fd, ps, F, hm, hk, hb⟩ := C.ex
  exact do_call F hr hg hm hk hb hl ha hdb he hpl
/-- a statement that is never come to -/
def sNever : Mo Out := fun _ => none
theorem ds_never : DS X W st sNever := ⟨fun pins s σ H Dn I ⟨B, G, δ, r, δ', a, e1, post⟩ => by cases e1⟩
end
section
variable {X : Cx} {W : WK} {a b c : Expr} {pos : Pos} {Ea Eb Ec : Mo D}
theorem tOp_ok {K : PySem.W.Frag} {f : D → D → Option D} {r : R2} (hf : Snd2 K f r) {σ : St} {H : Hp} {Q : VK} (q : tE K W (eBin f Ea Eb) σ H Q) : tOp r (tE K W Ea) (tE K W Eb) σ H Q := by
  obtain ⟨B, G, δ, r', δ', a, e1, post⟩ := q
  refine tE_bind a e1 post fun v H1 G1 δ1 d a1 x1 r1 e2 post => ?_
  refine tE_bind a1 e2 post fun w H2 G2 δ2 d2 a2 x2 r2 e3 post => ?_
  obtain ⟨z, hz, hr⟩ := lift_some e3
  cases hr
  exact hf B G2 H2 δ' σ v w d d2 z Q a2 (r1.mono x2) r2 hz fun v G' H' a' x' r' => post G' H' a' x' v r'
theorem tTest_ok {K : PySem.W.Frag} {E : Mo D} {t : TE} (h : ∀ σ H Q, tE K W E σ H Q → t σ H Q) {σ : St} {H : Hp} {Q : Bool → Hp → Prop} (q : tT K W (eB E) σ H Q) : tTest t σ H Q := by
  obtain ⟨B, G, δ, r', δ', a, e1, post⟩ := q
  refine h _ _ _ (tE_bind a e1 post fun v H1 G1 δ1 d a1 x1 r1 e2 post => ?_)
  obtain ⟨z, hz, hr⟩ := lift_some e2
  cases hr
  obtain rfl := dBl_some hz
  cases r1
  exact ⟨z, rfl, post G1 H1 a1 (Ext.refl _)⟩
theorem dt_cmp {op : CmpOp} {f : D → D → Option D} {r : R2} (ho : OpR X (compareOp op) r) (hf : Snd2 X.K f r) (ha : DE X W a Ea) (hb : DE X W b Eb) (hm : behindInMarks op b = false) : DT X W (.Compare a [op] [b] pos) (eB (eBin f Ea Eb)) :=
  PT.weak (pt_cmpR ho ha hb hm) fun σ H Q q => tTest_ok (fun _ _ _ z => tOp_ok hf z) q
theorem dt_lt (ha : DE X W a Ea) (hb : DE X W b Eb) : DT X W (.Compare a [.Lt] [b] pos) (eB (eBin dLt Ea Eb)) := dt_cmp opc_lt snd_cmp' ha hb (nomark _)
theorem dt_gt (ha : DE X W a Ea) (hb : DE X W b Eb) : DT X W (.Compare a [.Gt] [b] pos) (eB (eBin dGt Ea Eb)) := dt_cmp opc_gt snd_cmp' ha hb (nomark _)
theorem dt_ge (ha : DE X W a Ea) (hb : DE X W b Eb) : DT X W (.Compare a [.GtE] [b] pos) (eB (eBin dGe Ea Eb)) := dt_cmp opc_ge snd_cmp' ha hb (nomark _)
theorem dt_eq (hu : X.A.units + 64 < cLine) (ha : DE X W a Ea) (hb : DE X W b Eb) : DT X W (.Compare a [.Eq] [b] pos) (eB (eBin dEq Ea Eb)) := dt_cmp (op_eqD hu) snd_eq ha hb (nomark _)
theorem dt_ne (hu : X.A.units + 64 < cLine) (ha : DE X W a Ea) (hb : DE X W b Eb) : DT X W (.Compare a [.NotEq] [b] pos) (eB (eBin dNe Ea Eb)) := dt_cmp (op_neD hu) snd_ne ha hb (nomark _)
theorem dt_in (hu : X.A.units + 65 < cLine) (ha : DE X W a Ea) (hb : DE X W b Eb) (hm : behindInMarks .In b = false := by rfl) : DT X W (.Compare a [.In] [b] pos) (eB (eBin (dIn false) Ea Eb)) := dt_cmp (opA_in hu) snd_in ha hb hm
theorem dt_notin (hu : X.A.units + 65 < cLine) (ha : DE X W a Ea) (hb : DE X W b Eb) (hm : behindInMarks .NotIn b = false := by rfl) : DT X W (.Compare a [.NotIn] [b] pos) (eB (eBin (dIn true) Ea Eb)) := dt_cmp (opA_notin hu) snd_in ha hb hm
theorem dt_isN (ha : DE X W a Ea) (hb : DE X W b Eb) : DT X W (.Compare a [.Is] [b] pos) (eB (eBin (dIs false) Ea Eb)) := dt_cmp (r := rIsN false) op_isN snd_is ha hb (nomark _)
theorem dt_notN (ha : DE X W a Ea) (hb : DE X W b Eb) : DT X W (.Compare a [.IsNot] [b] pos) (eB (eBin (dIs true) Ea Eb)) := dt_cmp (r := rIsN true) op_notN snd_is ha hb (nomark _)
theorem tInV_ok {K : PySem.W.Frag} {neg : Bool} {i : Nat} {σ : St} {H : Hp} {Q : VK} (q : tE K W (eInV neg Ea i) σ H Q) : tOp (rInA K neg) (tE K W Ea) (tVar i) σ H Q := by
  obtain ⟨B, G, δ, r', δ', at', e1, post⟩ := q
  refine tE_bind at' e1 post fun v H1 G1 δ1 d a1 x1 r1 e2 post => ?_
  cases q : δ1[i]? with
  | none => simp only [q] at e2; cases e2
  | some s =>
    simp only [q] at e2
    cases q2 : slD s with
    | none => rw [q2] at e2; cases e2
    | some c =>
      rw [q2, Option.bind_some] at e2
      cases q3 : dIn neg d c with
      | none => rw [q3] at e2; cases e2
      | some z =>
        rw [q3] at e2; cases e2
        obtain ⟨u, Gc, h1, h2, h3, _⟩ := a1.see q q2
        exact ⟨u, h1, sh_in a1.vw h3 r1 h2 q3 fun b hb => by subst hb; exact post G1 H1 a1 (Ext.refl _) _ (.bl _)⟩
theorem dt_inV {i : Nat} (hu : X.A.units + 65 < cLine) (ha : DE X W a Ea) (hb : PE X b (tVar i)) (hm : behindInMarks .In b = false := by rfl) : DT X W (.Compare a [.In] [b] pos) (eB (eInV false Ea i)) :=
  PT.weak (pt_cmpR (opA_in hu) ha hb hm) fun σ H Q q => tTest_ok (fun _ _ _ z => tInV_ok z) q
theorem tChain_ok {K : PySem.W.Frag} {f g : D → D → Option D} {r r' : R2} (hf : Snd2 K f r) (hg : Snd2 K g r') {σ : St} {H : Hp} {Q : VK} (q : tE K W (eChain f g Ea Eb Ec) σ H Q) : tChain r r' (tE K W Ea) (tE K W Eb) (tE K W Ec) σ H Q := by
  obtain ⟨B, G, δ, r1, δ', at', e1, post⟩ := q
  refine tE_bind at' e1 post fun v H1 G1 δ1 d a1 x1 r1 e2 post => ?_
  refine tE_bind a1 e2 post fun w H2 G2 δ2 d2 a2 x2 r2 e3 post => ?_
  unfold Mo.bind Mo.lift at e3
  cases q : (f d d2).bind dBl with
  | none => rw [q] at e3; cases e3
  | some k =>
    rw [q] at e3
    simp only [] at e3
    cases q2 : f d d2 with
    | none => rw [q2] at q; cases q
    | some z =>
      rw [q2, Option.bind_some] at q
      obtain rfl := dBl_some q
      refine hf B G2 H2 δ2 σ v w d d2 _ _ a2 (r1.mono x2) r2 q2 fun v3 G3 H3 a3 x3 r3 => ?_
      cases r3
      refine ⟨k, rfl, ?_⟩
      cases k with
      | false => rw [if_neg Bool.false_ne_true] at e3 ⊢; cases e3; exact (post.mono x3) G3 H3 a3 (Ext.refl _) _ (.bl _)
      | true =>
        rw [if_pos rfl] at e3 ⊢
        refine tE_bind (k := fun z => Mo.lift (g d2 z)) a3 e3 (post.mono x3) fun u H4 G4 δ4 d4 a4 x4 r4 e4 post => ?_
        obtain ⟨z, hz, hr⟩ := lift_some e4
        cases hr
        exact hg B G4 H4 δ' σ w u d2 d4 z Q a4 (r2.mono (x3.trans x4)) r4 hz fun v G' H' a' x' r' => post G' H' a' x' v r'
theorem dt_chain {op op' : CmpOp} {f g : D → D → Option D} {r r' : R2} (ho : OpR X (compareOp op) r) (ho' : OpR X (compareOp op') r') (hf : Snd2 X.K f r) (hg : Snd2 X.K g r') (ha : DE X W a Ea) (hb : DE X W b Eb) (hc : DE X W c Ec)
    (hm : lastMarks [op, op'] [b, c] = false := by with_unfolding_all rfl) : DT X W (.Compare a [op, op'] [b, c] pos) (eB (eChain f g Ea Eb Ec)) := PT.weak (pt_chain ho ho' ha hb hc hm) fun σ H Q q => tTest_ok (fun _ _ _ z => tChain_ok hf hg z) q
end
end M
set_option Elab.async false
set_option linter.all false
set_option maxRecDepth 100000
namespace M
open PySem L2 PySem.Spec PyProof.Rows
section
variable {K : PySem.W.Frag} {B : Bs} {G H H' : Hp} {δ : Env} {σ : St}
def grow (L : List Addr) (G H' : Hp) : Hp := fun p => if p ∈ L then H' p else G p
theorem grow_in {L : List Addr} {p : Addr} (h : p ∈ L) : grow L G H' p = H' p := if_pos h
theorem grow_out {L : List Addr} {p : Addr} (h : p ∉ L) : grow L G H' p = G p := if_neg h
/-- new objects that nobody knows are told -/
theorem At.more (a : At K B G δ σ H) (L : List Addr) (hn : ∀ p ∈ L, H p = none) (hs : ∀ p, p ∉ L → H' p = H p) (ht : ∀ p ∈ L, ∀ ps, H' p ≠ some (.tbl ps)) : At K B (grow L G H') δ σ H' ∧ Ext G (grow L G H') := by
  have nl : ∀ p o, H p = some o → p ∉ L := fun p o e m => by rw [hn p m] at e; cases e
  have gl : ∀ p o, G p = some o → p ∉ L := fun p o e m => by rw [a.vw.none (hn p m)] at e; cases e
  have ex : Ext G (grow L G H') := fun p o e => by rw [grow_out (gl p o e)]; exact e
  have vw : ∀ F, Vw F H → Vw F H' := fun F v p o e => by
    have := v.there e
    have hp : p ∉ L := fun m => this (hn p m)
    rw [hs p hp]; exact v p o e
  refine ⟨⟨fun p o e => ?_, a.g0.trans ex, fun p o e z => ?_, fun p e => ?_, fun p o e t z => ?_, fun i p e => ?_, fun j => vw _ (a.bo j), a.bod, a.len, fun i s e => ?_, a.apart, ⟨fun P hP => (a.tb.1 P hP).ext fun b o e => by rw [hs b (nl b o e)]; exact e, a.tb.2.1, fun b ps e => (by
    by_cases c : b ∈ L
    · rw [grow_in c] at e; exact ht b c ps e
    · rw [grow_out c] at e; exact a.tb.2.2.1 b ps e), a.tb.2.2.2⟩⟩, ex⟩
  · by_cases c : p ∈ L
    · rw [grow_in c] at e; exact .inl e
    · rw [grow_out c] at e; rw [hs p c]; exact a.vw p o e
  · have := a.keep p o e z
    rw [hs p (nl p o this)]; exact this
  · have := a.dom p e
    rw [hs p fun m => this (hn p m)]; exact this
  · have := a.leak p o e t z
    have h0 : H p ≠ none := a.dom p (by rw [e]; simp)
    rw [grow_out fun m => h0 (hn p m)]; exact this
  · obtain ⟨a1, a2, a3, o, a4, a5⟩ := a.iok i p e
    exact ⟨a1, a2, a3, o, by rw [hs p (nl p o a4)]; exact a4, a5⟩
  · obtain ⟨ov, h1, h2⟩ := a.sl i s e
    refine ⟨ov, h1, ?_⟩
    cases s with
    | no => trivial
    | imm d => obtain ⟨v, q, r⟩ := h2; exact ⟨v, q, r.mono ex⟩
    | bor d => exact h2
    | own d =>
      obtain ⟨p, q1, q2, q3, q4⟩ := h2
      obtain ⟨o, b1, _⟩ := q3.obj
      exact ⟨p, q1, by rw [grow_out (nl p o b1)]; exact q2, (q3.at' (hs p (nl p o b1))).mono ex, q4⟩
    | io d =>
      obtain ⟨p, q1, q2, q3, q4⟩ := h2
      obtain ⟨o, b1, _⟩ := q3.obj
      exact ⟨p, q1, by rw [grow_out (nl p o b1)]; exact q2, (q3.at' (hs p (nl p o b1))).mono ex, q4⟩
end
theorem nodup_inj {α : Type} : ∀ {l : List α} {i j : Nat} {x : α}, l.Nodup → l[i]? = some x → l[j]? = some x → i = j
  | [], i, j, x, _, h, _ => by simp at h
  | y :: l, 0, 0, x, _, _, _ => rfl
  | y :: l, 0, j + 1, x, n, h1, h2 => by
    simp at h1 h2; subst h1
    exact absurd (List.mem_of_getElem? h2) (List.nodup_cons.mp n).1
  | y :: l, i + 1, 0, x, n, h1, h2 => by
    simp at h1 h2; subst h2
    exact absurd (List.mem_of_getElem? h1) (List.nodup_cons.mp n).1
  | y :: l, i + 1, j + 1, x, n, h1, h2 => by
    have := nodup_inj (i := i) (j := j) (x := x) (List.nodup_cons.mp n).2 (by simpa using h1) (by simpa using h2)
    rw [this]
def addAt (ls : List (List Int)) (i : Nat) (x : Int) : List (List Int) := ls.set i (ls.getD i [] ++ [x])
def llD (ls : List (List Int)) : D := .lst (ls.map fun l => .lst (l.map D.int))
/-- the lists under construction -/
structure TL (H0 H : Hp) (D : Addr) (ps : List Addr) (ls : List (List Int)) : Prop where
  len : ps.length = ls.length
  d : H D = some (.lst (ps.map V.ref))
  nd : (D :: ps).Nodup
  el : ∀ (i : Nat) p l, ps[i]? = some p → ls[i]? = some l → H p = some (.lst (l.map V.int))
  fr : ∀ p ∈ D :: ps, H0 p = none
  out : ∀ p, p ∉ D :: ps → H p = H0 p
theorem TL.start {H0 : Hp} {D : Addr} (h : H0 D = none) : TL H0 (upd H0 D (.lst [])) D [] [] := by
  refine ⟨rfl, upd_same, by simp, fun i p l e => by simp at e, fun p hp => ?_, fun p hp => upd_ne fun c => hp (by rw [c]; simp)⟩
  simp at hp; rw [hp]; exact h
theorem TL.there {H0 H : Hp} {D : Addr} {ps : List Addr} {ls : List (List Int)} (t : TL H0 H D ps ls) {p : Addr} (h : p ∈ D :: ps) : H p ≠ none := by
  rcases List.mem_cons.mp h with rfl | h
  · rw [t.d]; simp
  · obtain ⟨i, hi, e⟩ := List.mem_iff_getElem.mp h
    have e2 : ps[i]? = some p := by rw [List.getElem?_eq_getElem hi, e]
    rw [t.el i p _ e2 (List.getElem?_eq_getElem (by rw [← t.len]; exact hi))]; simp
theorem TL.add {H0 H : Hp} {D : Addr} {ps : List Addr} {ls : List (List Int)} (t : TL H0 H D ps ls) {i : Nat} {p : Addr} (x : Int) (hp : ps[i]? = some p) : TL H0 (upd H p (.lst ((ls.getD i []).map V.int ++ [V.int x]))) D ps (addAt ls i x) := by
  obtain ⟨n1, n2⟩ := List.nodup_cons.mp t.nd
  have hm := List.mem_of_getElem? hp
  have pD : p ≠ D := fun c => n1 (c ▸ hm)
  have hi : i < ps.length := (List.getElem?_eq_some_iff.mp hp).1
  have hil : i < ls.length := by rw [← t.len]; exact hi
  refine ⟨by unfold addAt; rw [List.length_set]; exact t.len, by rw [upd_ne pD.symm]; exact t.d, t.nd, fun j q l e1 e2 => ?_, t.fr, fun q hq => ?_⟩
  · unfold addAt at e2
    by_cases c : i = j
    · subst c
      rw [hp] at e1; cases e1
      rw [List.getElem?_set_self hil] at e2; cases e2
      rw [upd_same, List.map_append]; rfl
    · rw [List.getElem?_set_ne c] at e2
      have qp : q ≠ p := fun z => by
        subst z
        exact c (nodup_inj n2 hp e1)
      rw [upd_ne qp]; exact t.el j q l e1 e2
  · rw [upd_ne fun c => hq (by rw [c]; exact List.mem_cons_of_mem _ hm)]; exact t.out q hq
theorem TL.fin {K : PySem.W.Frag} {B : Bs} {G H0 H : Hp} {δ : Env} {σ : St} {D : Addr} {ps : List Addr} {ls : List (List Int)} (t : TL H0 H D ps ls) (a : At K B G δ σ H0) (hl : ls.length ≤ sizeLine) (hls : ∀ l ∈ ls, l.length ≤ sizeLine) : ∃ G', At K B G' δ σ H ∧ Ext G G' ∧ R K G' (.ref D) (llD ls) := by
  obtain ⟨a1, x1⟩ := a.more (D :: ps) t.fr t.out fun p hp ts e => by
    rcases List.mem_cons.mp hp with rfl | hp
    · rw [t.d] at e; cases e
    · obtain ⟨i, hi, ei⟩ := List.mem_iff_getElem.mp hp
      have h1 : ls[i]? = some (ls[i]'(by rw [← t.len]; exact hi)) := List.getElem?_eq_getElem _
      rw [t.el i p _ (by rw [List.getElem?_eq_getElem hi, ei]) h1] at e
      cases e
  refine ⟨_, a1, x1, ?_⟩
  have hD : grow (D :: ps) G H D = some (.lst (ps.map V.ref)) := by rw [grow_in List.mem_cons_self]; exact t.d
  refine .lst hD (by rw [List.length_map, t.len]; exact hl) ?_
  -- the inner lists
  have key : ∀ (qs : List Addr) (ms : List (List Int)), qs.length = ms.length → (∀ (i : Nat) q l, qs[i]? = some q → ms[i]? = some l → q ∈ D :: ps ∧ H q = some (.lst (l.map V.int)) ∧ l.length ≤ sizeLine) → RL K (grow (D :: ps) G H) (qs.map V.ref) (ms.map fun l => .lst (l.map M.D.int)) := by
    intro qs
    induction qs with
    | nil => intro ms h _; cases ms with | nil => exact .nil | cons _ _ => simp at h
    | cons q qs ih =>
      intro ms h k
      cases ms with
      | nil => simp at h
      | cons m ms =>
        obtain ⟨k1, k2, k3⟩ := k 0 q m rfl rfl
        refine .cons (.lst (xs := m.map V.int) (by rw [grow_in k1]; exact k2) (by rw [List.length_map]; exact k3) (rl_ints m)) (ih ms (by simpa using h) fun i q' l e1 e2 => k (i + 1) q' l (by simpa using e1) (by simpa using e2))
  exact key ps ls t.len fun i q l e1 e2 => ⟨List.mem_cons_of_mem _ (List.mem_of_getElem? e1), t.el i q l e1 e2, hls l (List.mem_of_getElem? e2)⟩
theorem atI_nat {α : Type} {l : List α} {n : Nat} {x : α} (h : l[n]? = some x) : atI l ((n : Nat) : Int) = some x := by
  have hn := (List.getElem?_eq_some_iff.mp h).1
  unfold atI ixN
  rw [if_pos (Int.natCast_nonneg n), if_pos (by omega)]
  simpa using h
end M
set_option Elab.async false
set_option linter.all false
set_option maxRecDepth 100000
namespace M
open PySem L2 PySem.Spec PyProof.Rows
def eP0 : Mo (Option Int) := Mo.ret none
def dPart : D → Option (Option Int)
  | .int i => some (some i)
  | _ => none
def eP1 (E : Mo D) : Mo (Option Int) := E.bind fun d => Mo.lift (dPart d)
def tP (K : PySem.W.Frag) (W : WK) (P : Mo (Option Int)) : TO := fun σ H Q => ∃ B G δ r δ', At K B G δ σ H ∧ P δ = some (r, δ') ∧ Post K W B G σ r δ' (fun o G' H' => Q o H')
def DP (X : Cx) (W : WK) (e : Option Expr) (P : Mo (Option Int)) : Prop := PO X e (tP X.K W P)
section
variable {X : Cx} {W : WK} {e : Expr} {E : Mo D} {P : Mo (Option Int)}
theorem PO.weak {e : Option Expr} {t t' : TO} (h : PO X e t) (w : ∀ σ H Q, t' σ H Q → t σ H Q) : PO X e t' := ⟨fun pins s σ H Q I q => h.run pins s σ H Q I (w σ H Q q)⟩
theorem dp_none : DP X W none eP0 := PO.weak po_none fun σ H Q ⟨B, G, δ, r, δ', a, e1, post⟩ => by
  cases e1; exact post G H a (Ext.refl _)
theorem dp_some (h : DE X W e E) : DP X W (some e) (eP1 E) := PO.weak (po_some h) fun σ H Q ⟨B, G, δ, r, δ', a, e1, post⟩ => by
  refine tE_bind a e1 post fun v H1 G1 δ1 d a1 x1 r1 e2 post => ?_
  obtain ⟨z, hz, hr⟩ := lift_some e2
  cases hr
  cases r1 with
  | int i => cases hz; exact ⟨i, rfl, post G1 H1 a1 (Ext.refl _)⟩
  | _ => cases hz
def cutD {α : Type} (xs : List α) (lo hi : Option Int) : List α := (xs.drop (HT.sIx xs.length 0 lo)).take (HT.sIx xs.length xs.length hi - HT.sIx xs.length 0 lo)
def dSlL : D → Option Int → Option Int → Option D
  | .lst l, lo, hi => some (.lst (cutD l lo hi))
  | .scr l, lo, hi => some (.lst (cutD l lo hi))
  | _, _, _ => none
def dSl : D → Option Int → Option Int → Option D
  | .tup l, lo, hi => some (.tup (cutD l lo hi))
  | .str s, lo, hi => if s.length ≤ sizeLine then some (.str (cutS s lo hi)) else none
  | _, _, _ => none
def eSl (f : D → Option Int → Option Int → Option D) (E : Mo D) (L U : Mo (Option Int)) : Mo D := E.bind fun d => L.bind fun l => U.bind fun u => Mo.lift (f d l u)
theorem tP_bind {K : PySem.W.Frag} {B : Bs} {G H : Hp} {δ δ' : Env} {σ : St} {β : Type} {r : Except Exn β} {ok : β → Hp → Hp → Prop} {k : Option Int → Mo β} {Q : Option Int → Hp → Prop} (a : At K B G δ σ H) (h : Mo.bind P k δ = some (r, δ')) (post : Post K W B G σ r δ' ok)
    (q : ∀ H1 G1 δ1 d, At K B G1 δ1 σ H1 → Ext G G1 → k d δ1 = some (r, δ') → Post K W B G1 σ r δ' ok → Q d H1) : tP K W P σ H Q := by
  unfold Mo.bind at h
  cases e : P δ with
  | none => rw [e] at h; cases h
  | some z =>
    obtain ⟨x, δ1⟩ := z
    rw [e] at h
    cases x with
    | error x => cases h; exact ⟨B, G, δ, .error x, _, a, e, post⟩
    | ok d => exact ⟨B, G, δ, .ok d, δ1, a, e, fun G1 H1 a1 e1 => q H1 G1 δ1 d a1 e1 h (post.mono e1)⟩
theorem rl_cut {K : PySem.W.Frag} {G : Hp} {xs : List V} {ds : List D} (r : RL K G xs ds) (lo hi : Option Int) : RL K G (cutV xs lo hi) (cutD ds lo hi) := by
  unfold cutV cutD
  rw [r.length]
  exact (r.drop _).take _
theorem do_sl {a : Expr} {lo hi : Option Expr} {p2 pos : Pos} {L U : Mo (Option Int)} (ha : DE X W a E) (hl : DP X W lo L) (hu : DP X W hi U) : DO X W (.Subscript a (.Slice lo hi none p2) pos) (eSl dSlL E L U) :=
  PE.weak (pe_slice sl_list ha hl hu) fun σ H Q ⟨B, G, δ, r, δ', at', e1, post⟩ => by
  refine tO_of_sl at' e1 post
where
  tO_of_sl {K : PySem.W.Frag} {B : Bs} {G H : Hp} {δ δ' : Env} {σ : St} {r : Except Exn D} {L U : Mo (Option Int)} {Q : VK} (a : At K B G δ σ H) (e1 : eSl dSlL E L U δ = some (r, δ')) (post : Post K W B G σ r δ' (fun d G' H' => ∀ p, Fr1 K B G' δ' σ H' p d → Q (.ref p) H')) : tSl (rSlL K) (tE K W E) (tP K W L) (tP K W U) σ H Q := by
    refine tE_bind a e1 post fun v H1 G1 δ1 d a1 x1 r1 e2 post => ?_
    refine tP_bind a1 e2 post fun H2 G2 δ2 l a2 x2 e3 post => ?_
    refine tP_bind a2 e3 post fun H3 G3 δ3 u a3 x3 e4 post => ?_
    obtain ⟨z, hz, hr⟩ := lift_some e4
    cases hr
    have fin : ∀ p xs ds, v = .ref p → SqL K H3 p xs → RL K G3 xs ds → xs.length ≤ sizeLine → z = .lst (cutD ds l u) → rSlL K v l u H3 Q := fun p xs ds hv hs hr hl hz => by
      subst hv hz
      refine ⟨p, xs, rfl, hs, fun q hq => ?_⟩
      obtain ⟨b1, b2⟩ := a3.own1 (p := q) (o := .lst _) hq (.lst upd_same (Nat.le_trans (cutV_length xs l u) hl) (rl_cut hr l u))
      exact post G3 _ b1 (Ext.refl _) q b2
    have r3 := r1.mono (x2.trans x3)
    cases r3 with
    | lst g hl rl => cases hz; exact fin _ _ _ rfl (SqL.of (a3.vw.lst g)) rl hl rfl
    | scr g hl rl => cases hz; exact fin _ _ _ rfl (a3.vw.sql g) rl hl rfl
    | _ => cases hz
theorem SlR.or2 {r r' : V → Option Int → Option Int → Hp → VK → Prop} (h : SlR X r) (h' : SlR X r') : SlR X (fun x lo hi H Q => r x lo hi H Q ∨ r' x lo hi H Q) := SlR.or h h'
theorem cut_all {α : Type} {xs : List α} {lo hi : Option Int} (h : HT.sIx xs.length 0 lo = 0 ∧ HT.sIx xs.length xs.length hi = xs.length) : cutD xs lo hi = xs := by
  unfold cutD; rw [h.1, h.2, List.drop_zero, Nat.sub_zero, List.take_length]
theorem de_sl {a : Expr} {lo hi : Option Expr} {p2 pos : Pos} {L U : Mo (Option Int)} (ha : DE X W a E) (hl : DP X W lo L) (hu : DP X W hi U) : DE X W (.Subscript a (.Slice lo hi none p2) pos) (eSl dSl E L U) :=
  PE.weak (pe_slice (SlR.or2 sl_tupA sl_str) ha hl hu) fun σ H Q ⟨B, G, δ, r, δ', at', e1, post⟩ => by
  refine tE_bind at' e1 post fun v H1 G1 δ1 d a1 x1 r1 e2 post => ?_
  refine tP_bind a1 e2 post fun H2 G2 δ2 l a2 x2 e3 post => ?_
  refine tP_bind a2 e3 post fun H3 G3 δ3 u a3 x3 e4 post => ?_
  obtain ⟨z, hz, hr⟩ := lift_some e4
  cases hr
  have r3 := r1.mono (x2.trans x3)
  cases r3 with
  | tup g hl rl =>
    rename_i p xs ds
    cases hz
    refine .inl ⟨p, xs, rfl, SqT.of (a3.vw.tup g), fun hh => ?_, fun _ q hq => ?_⟩
    · have hh2 : HT.sIx ds.length 0 l = 0 ∧ HT.sIx ds.length ds.length u = ds.length := by rw [← rl.length]; exact hh
      rw [cut_all hh2] at post
      exact post G3 H3 a3 (Ext.refl _) _ (.tup g hl rl)
    · have ex := Ext.new (o := .tup (cutV xs l u)) (a3.vw.none hq)
      exact post _ _ (a3.laid hq fun _ z => by cases z) ex _ (.tup upd_same (Nat.le_trans (cutV_length xs l u) hl) ((rl_cut rl l u).mono ex))
  | str s =>
    have hz : (if s.length ≤ sizeLine then some (D.str (cutS s l u)) else none) = some z := hz
    split at hz
    · rename_i hs
      cases hz
      exact .inr ⟨s, rfl, hs, post G3 H3 a3 (Ext.refl _) _ (.str _)⟩
    · cases hz
  | _ => cases hz
end
def blsD : List D → Option (List Bool)
  | [] => some []
  | .bl b :: l => (blsD l).map (b :: ·)
  | _ => none
theorem blsD_ok {K : PySem.W.Frag} {G : Hp} : ∀ {xs : List V} {l : List D} {bs : List Bool}, RL K G xs l → blsD l = some bs → xs = bs.map V.bl
  | _, _, _, .nil, h => by cases h; rfl
  | _, d :: l, _, .cons r t, h => by
    cases r with
    | bl i =>
      unfold blsD at h
      cases q : blsD l with
      | none => rw [q] at h; cases h
      | some ns => rw [q] at h; cases h; rw [blsD_ok t q]; rfl
    | _ => cases h
theorem callR_or {X : Cx} {f : Value} {r r' : List V → Hp → VK → Prop} (h : CallR X f r) (h' : CallR X f r') : CallR X f (fun vs H Q => r vs H Q ∨ r' vs H Q) := fun pins s σ H xs us Q I rv q => q.elim (h pins s σ H xs us Q I rv) (h' pins s σ H xs us Q I rv)
section
variable {X : Cx} {W : WK} {e a b c : Expr} {es : List Expr} {x : Str} {p pos : Pos} {E Ea Eb : Mo D} {A : Mo (List Ag)}
def tyN : D → String
  | .non => "NoneType" | .bl _ => "bool" | .int _ => "int" | .str _ => "str" | .tup _ => "tuple" | .lst _ => "list" | .scr _ => "list" | .dK _ => "dict" | .dT _ => "dict" | .alb _ _ => "object" | .bld _ _ _ _ => "object"
theorem ty_of {K : PySem.W.Frag} {G H : Hp} {v : V} {d : D} (vw : Vw G H) (r : R K G v d) (hk : isDct d = false) (hs : ∀ l, d ≠ .scr l) (hA : ∀ a b, d ≠ .alb a b) (hN : ∀ a b c e, d ≠ .bld a b c e) : TyX K H v (.type (tyN d)) := by
  cases r with
  | non => exact .base .non
  | bl b => exact .base (.bl b)
  | int i => exact .base (.int i)
  | str s => exact .base (.str s)
  | tup g => exact .base (.tup (vw.tup g))
  | lst g => exact .base (.lst (vw.lst g))
  | scr => exact absurd rfl (hs _)
  | dK => cases hk
  | dT => cases hk
  | alb => exact absurd rfl (hA _ _)
  | bld => exact absurd rfl (hN _ _ _ _)
end
end M
set_option Elab.async false
set_option linter.all false
set_option maxRecDepth 100000
set_option Elab.async false
set_option linter.all false
set_option maxRecDepth 100000
set_option maxHeartbeats 1000000
namespace M
open PySem L2 PySem.Spec PyProof.Rows
def pD (p : Int × Int) : D := .tup [.int p.1, .int p.2]
end M
set_option Elab.async false
set_option linter.all false
set_option maxRecDepth 100000
set_option maxHeartbeats 1000000
set_option Elab.async false
set_option linter.all false
set_option maxRecDepth 100000
set_option maxHeartbeats 1000000
namespace M
open PySem L2 PySem.Spec PyProof.Rows
/-- the dict at a is locked as od -/
def Bs.lock (B : Bs) (a : Addr) (od : Obj) (u : HO) : Bs := { B with H0 := upd B.H0 a (.frz od u), G0 := upd B.G0 a u }
theorem isD_nt {u : HO} (h : isD u = true) : NT u := by
  cases u with
  | dK l => exact nt_dK
  | dT l => exact nt_dT
  | _ => cases h
theorem nt_frz {od : Obj} {u : HO} : NT (.frz od u) := ⟨fun _ e => (by cases e), fun _ e => (by cases e), fun _ _ e => (by unfold LamX.CodeO at e; cases e)⟩
theorem tabS_same {H H2 : Hp} {P a : Addr} {q : Str} {o : HO} (t : LamX.TabS H P q) (h : H a = some o) (n : NT o) (h1 : ∀ b, b ≠ a → H2 b = H b) : LamX.TabS H2 P q := by
  obtain ⟨ps, e1, e2, e3⟩ := t
  have c1 : P ≠ a := fun c => by subst c; rw [h] at e1; cases e1; exact n.tbl _ rfl
  refine ⟨ps, by rw [h1 P c1]; exact e1, e2, fun pos cv hc => ?_⟩
  obtain ⟨c, x1, x2⟩ := e3 pos cv hc
  have c2 : c ≠ a := fun z => by subst z; rw [h] at x2; cases x2; exact n.code _ _ rfl
  exact ⟨c, x1, by rw [h1 c c2]; exact x2⟩
section
variable {K : PySem.W.Frag} {B : Bs} {G G' H H' Hl H2 : Hp} {δ δ' : Env} {σ σ' : St} {a : Addr} {od : Obj} {u : HO}
theorem At.noIO (a0 : At K B G δ σ H) (g : G a = some u) : ∀ i, (i, a) ∉ B.IO := fun i io => by
  obtain ⟨b1, b2, _⟩ := a0.iok i a io
  cases z : B.H0 a with
  | none => exact b2 z
  | some o =>
    have := a0.leak a o z (fun xs c => a0.tb.2.2.2.2 i a xs io (by rw [z, c])) b1
    rw [g] at this; cases this
theorem At.lock (a0 : At K B G δ σ H) (g : G a = some u) (hd : isD u = true) (h3 : H a = some u ∨ H a = some (.frz od u)) (h1 : ∀ b, b ≠ a → Hl b = H b) (h2 : Hl a = some (.frz od u)) : At K (B.lock a od u) G δ σ Hl := by
  have nio := a0.noIO g
  have hnt : ∃ o, H a = some o ∧ NT o := by
    rcases h3 with h | h
    · exact ⟨_, h, isD_nt hd⟩
    · exact ⟨_, h, nt_frz⟩
  obtain ⟨o, ho, no⟩ := hnt
  have vw : ∀ F : Hp, Vw F H → Vw F Hl := fun F v b x e => by
    by_cases cb : b = a
    · subst cb
      rcases h3 with h | h
      · rcases v b x e with q | ⟨_, y, q⟩
        · rw [h] at q; cases q; exact .inr ⟨hd, od, h2⟩
        · rw [h] at q; cases q; cases hd
      · rw [h2, ← h]; exact v b x e
    · rw [h1 b cb]; exact v b x e
  have neA : ∀ b x, H b = some x → Mut (some x) → (∀ j, ¬ OwnAt δ σ j b) ∨ b ≠ a := fun b x e m => by
    by_cases c : b = a
    · left
      intro j z
      have := (a0.ownAt z).1
      rw [c, g] at this; cases this
    · exact .inr c
  refine ⟨vw G a0.vw, fun b x e => ?_, fun b x e z => ?_, fun b e => ?_, fun b x e t z => ?_, fun i b e => ?_, fun j => vw _ (a0.bo j), fun j b e => ?_, a0.len, fun i s e => ?_, a0.apart, ⟨fun P hP => tabS_same (a0.tb.1 P hP) ho no h1, fun b ps e => ?_, a0.tb.2.2.1, a0.tb.2.2.2.1, fun i b xs e z => ?_⟩⟩
  · have e : upd B.G0 a u b = some x := e
    by_cases c : b = a
    · rw [c, upd_same] at e; cases e; rw [c]; exact g
    · rw [upd_ne c] at e; exact a0.g0 b x e
  · have e : upd B.H0 a (.frz od u) b = some x := e
    by_cases c : b = a
    · rw [c, upd_same] at e; cases e; rw [c]; exact h2
    · rw [upd_ne c] at e; rw [h1 b c]; exact a0.keep b x e z
  · have e : upd B.H0 a (.frz od u) b ≠ none := e
    by_cases c : b = a
    · rw [c, h2]; simp
    · rw [upd_ne c] at e; rw [h1 b c]; exact a0.dom b e
  · have e : upd B.H0 a (.frz od u) b = some x := e
    have z : upd B.G0 a u b = none := z
    by_cases c : b = a
    · rw [c, upd_same] at z; cases z
    · rw [upd_ne c] at e z; exact a0.leak b x e t z
  · obtain ⟨b1, b2, b3, x, b4, b5⟩ := a0.iok i b e
    have c : b ≠ a := fun c => nio i (by rw [← c]; exact e)
    exact ⟨by show upd B.G0 a u b = none; rw [upd_ne c]; exact b1, by show upd B.H0 a (.frz od u) b ≠ none; rw [upd_ne c]; exact b2, b3, x, by rw [h1 b c]; exact b4, b5⟩
  · show upd B.H0 a (.frz od u) b ≠ none
    by_cases c : b = a
    · rw [c, upd_same]; simp
    · rw [upd_ne c]; exact a0.bod j b e
  · obtain ⟨ov, q1, q2⟩ := a0.sl i s e
    refine ⟨ov, q1, ?_⟩
    cases s with
    | no => trivial
    | imm d => exact q2
    | bor d => exact q2
    | own d =>
      obtain ⟨p, r1, r2, r3, r4⟩ := q2
      have c : p ≠ a := fun c => by rw [c, g] at r2; cases r2
      exact ⟨p, r1, r2, r3.at' (h1 p c), by show upd B.H0 a (.frz od u) p = none; rw [upd_ne c]; exact r4⟩
    | io d =>
      obtain ⟨p, r1, r2, r3, r4⟩ := q2
      have c : p ≠ a := fun c => by rw [c, g] at r2; cases r2
      exact ⟨p, r1, r2, r3.at' (h1 p c), r4⟩
  · have e : upd B.H0 a (.frz od u) b = some (.tbl ps) := e
    by_cases c : b = a
    · rw [c, upd_same] at e; cases e
    · rw [upd_ne c] at e; exact a0.tb.2.1 b ps e
  · have z : upd B.H0 a (.frz od u) b = some (.tup xs) := z
    by_cases c : b = a
    · rw [c, upd_same] at z; cases z
    · rw [upd_ne c] at z; exact a0.tb.2.2.2.2 i b xs e z
theorem yl_keys {kvs : List (Key × V)} {ds : List (Key × D)} (h : ∀ (B' : Bs) (G2 H : Hp) (δ : Env) (σ : St), BLe B B' → At K B' G2 δ σ H → H a = some (.frz od (.dK kvs))) (hk : kvs.map (·.1) = ds.map (·.1)) : Yl K B (Itk a od kvs) G (ds.map fun p => kD p.1) := fun B' G2 H2 δ2 σ2 le at' ex i => by
  have hq := h B' G2 H2 δ2 σ2 le at'
  have hl : kvs.length = ds.length := by have := congrArg List.length hk; rw [List.length_map, List.length_map] at this; exact this
  refine ⟨fun d hd => ⟨⟨hq, ?_⟩, ?_⟩, fun hs => ⟨hq, by rw [List.length_map] at hs; omega⟩⟩
  · have := (List.getElem?_eq_some_iff.mp hd).1
    rw [List.length_map] at this; omega
  · rintro x H3 ⟨rfl, k, v, e1, rfl⟩
    refine ⟨rfl, G2, at', Ext.refl _, ?_⟩
    rw [List.getElem?_map] at hd
    cases z : ds[i]? with
    | none => rw [z] at hd; cases hd
    | some p =>
      rw [z] at hd; cases hd
      have e2 : (kvs.map (·.1))[i]? = (ds.map (·.1))[i]? := by rw [hk]
      rw [List.getElem?_map, List.getElem?_map, e1, z] at e2
      have e2 : k = p.1 := Option.some.inj e2
      rw [e2]; exact kD_ok _
theorem yl_keysT {kvs : List (List Key × V)} {ds : List (List Key × D)} (h : ∀ (B' : Bs) (G2 H : Hp) (δ : Env) (σ : St), BLe B B' → At K B' G2 δ σ H → H a = some (.frz od (.dT kvs))) (hk : kvs.map (·.1) = ds.map (·.1)) (sk : shortK (ds.map (·.1)) = true) : Yl K B (Itkt a od kvs) G (ds.map fun p => .tup (p.1.map kD)) := fun B' G2 H2 δ2 σ2 le at' ex i => by
  have hq := h B' G2 H2 δ2 σ2 le at'
  have hl : kvs.length = ds.length := by have := congrArg List.length hk; rw [List.length_map, List.length_map] at this; exact this
  refine ⟨fun d hd => ⟨⟨hq, ?_⟩, ?_⟩, fun hs => ⟨hq, by rw [List.length_map] at hs; omega⟩⟩
  · have := (List.getElem?_eq_some_iff.mp hd).1
    rw [List.length_map] at this; omega
  · rintro x H3 ⟨rfl, k, v, q, e1, rfl, e3⟩
    obtain ⟨G3, a3, x3, g3⟩ := at'.tuple e3
    refine ⟨rfl, G3, a3, x3, ?_⟩
    rw [List.getElem?_map] at hd
    cases z : ds[i]? with
    | none => rw [z] at hd; cases hd
    | some p =>
      rw [z] at hd; cases hd
      have e2 : (kvs.map (·.1))[i]? = (ds.map (·.1))[i]? := by rw [hk]
      rw [List.getElem?_map, List.getElem?_map, e1, z] at e2
      have e2 : k = p.1 := Option.some.inj e2
      subst e2
      refine .tup g3 ?_ (kDs_ok _)
      rw [List.length_map]
      have := List.all_eq_true.mp sk p.1 (List.mem_map.mpr ⟨p, List.mem_of_getElem? z, rfl⟩)
      exact small_line (of_decide_eq_true this)
end
section
variable {K : PySem.W.Frag} {B : Bs} {G H : Hp} {δ : Env} {σ : St}
/-- what a locked dict's walk needs -/
structure LockAt (K : PySem.W.Frag) (B : Bs) (G : Hp) (δ : Env) (σ : St) (H : Hp) (i : Nat) (ks : List D) (a : Addr) (u : HO) : Prop where
  at_ : At K B G δ σ H
  slot : σ[i]? = some (some (.ref a))
  g : G a = some u
  hd : isD u = true
  keys : (∃ (kvs : List (Key × V)) (ds : List (Key × D)), u = .dK kvs ∧ kvs.map (·.1) = ds.map (·.1) ∧ ks = ds.map fun p : Key × D => kD p.1) ∨ ∃ (kvs : List (List Key × V)) (ds : List (List Key × D)), u = .dT kvs ∧ kvs.map (·.1) = ds.map (·.1) ∧ shortK (ds.map (·.1)) = true ∧ ks = ds.map fun p : List Key × D => .tup (p.1.map kD)
/-- the walk over the locked dict: J, its reading -/
theorem LockAt.walk {i : Nat} {ks : List D} {a : Addr} {u : HO} {od : Obj} {Hl : Hp} {R' : It → Hp → Prop} (L : LockAt K B G δ σ H i ks a u) (h2 : Hl a = some (.frz od u)) (q : ∀ J, Yl K (B.lock a od u) J G ks → R' J Hl) : iKeys (tVar i) σ Hl R' := by
  have nio := L.at_.noIO L.g
  have held : ∀ (B' : Bs) (G2 H : Hp) (δ : Env) (σ : St), BLe (B.lock a od u) B' → At K B' G2 δ σ H → H a = some (.frz od u) := fun B' G2 H δ σ le at' =>
    at'.keep a _ (le.1 a _ upd_same) fun j z => nio j (by rw [← show B'.IO = B.IO from le.2]; exact z)
  refine ⟨.ref a, L.slot, a, od, rfl, ?_⟩
  rcases L.keys with ⟨kvs, ds, rfl, k, rfl⟩ | ⟨kvs, ds, rfl, k, sk, rfl⟩
  · exact .inl ⟨kvs, h2, q _ (yl_keys held k)⟩
  · exact .inr ⟨kvs, h2, q _ (yl_keysT held k sk)⟩
end
section
variable {X : Cx} {st : Stmt} {e c tg : Expr} {pos p : Pos} {T : D → Mo Unit} {S : Mo Out} {C : Mo Bool} {E Ek Ev : Mo D} {sl : List Nat} {i : Nat} {y : Str}
variable {W : WK} {elt kx vx : Expr} {ifs : List Expr} {scope : Scope} {own : List (Str × Nat)}
def eD0 (d : D) : Mo D := Mo.ret d
theorem do_new0K : DO X W (.Dict [] [] pos) (eD0 (.dK [])) := PE.weak pe_dnewK fun σ H Q ⟨B, G, δ, r, δ', a, e1, post⟩ p hp => by
  cases e1
  obtain ⟨b1, b2⟩ := a.own1 (p := p) (o := .dK []) hp (.dK (kvs := []) (ds := []) upd_same (Nat.zero_le _) rfl .nil)
  exact post G _ b1 (Ext.refl _) p b2
end
end M
set_option Elab.async false
set_option linter.all false
set_option maxRecDepth 100000
set_option maxHeartbeats 1000000
set_option Elab.async false
set_option linter.all false
set_option maxRecDepth 100000
set_option maxHeartbeats 4000000
namespace M
open PySem L2 PySem.Spec PyProof.Rows
section
variable {X : Cx} {W : WK} {e : Expr} {x y : Str} {p p2 pos pos2 : Pos} {A : Mo (List Ag)}
def rSetL (K : PySem.W.Frag) (w : World) : List V → Hp → VK → Prop := fun xs H Q => ∃ (a : Addr) (ns : List Int), xs = [V.ref a] ∧ SqL K H a (ns.map V.int) ∧ ns.length ≤ 1000 ∧ ∀ (q : Addr) (c : Nat), H q = none → c ≤ ns.length → Q (.ref q) (upd H q (SetO w q (fun j => decide (j ∈ ns)) c))
end
end M
set_option Elab.async false
set_option linter.all false
set_option maxRecDepth 100000
set_option maxHeartbeats 1000000
set_option Elab.async false
set_option linter.all false
set_option maxRecDepth 100000
set_option maxHeartbeats 1000000
namespace M
open PySem L2 PySem.Spec PyProof.Rows PpSet
def fStr : List D → Option D
  | [.int i] => if i.natAbs.log2 < 1920 then some (.str (toString i)) else none
  | _ => none
section
variable {X : Cx} {W : WK} {x : Str} {e : Expr} {es : List Expr} {A : Mo (List Ag)} {p pos : Pos}
theorem snd_str : SndF X.K fStr (fun xs H Q => ∃ i, xs = [V.int i] ∧ i.natAbs.log2 < 1920 ∧ Q (.str (toString i)) H) := fun B G H δ σ xs as d Q at' rx h k => by
  unfold fStr at h
  split at h
  · rename_i i
    split at h
    · rename_i hi
      cases h
      obtain ⟨v, rfl, rv⟩ := rl1 rx
      cases rv
      exact ⟨i, rfl, hi, k _ G H at' (Ext.refl _) (.str _)⟩
    · cases h
  · cases h
theorem de_str1 (hg : Gl X x) (hm : X.mg x = none) (hv : bootBuiltins x = some (.type "str")) (ha : DA X W (e :: es) A) (hn : x ≠ "__name__" := by decide) (hdb : (x == ("__debug__" : Str)) = false := by decide)
    (he : starEach (e :: es) X.env = (false, eval e X.env) :: starEach es X.env := by rfl) (hpl : (backTo pos (starEach es X.env)).any (·.1) = false := by rfl) : DE X W (.Call (.Name x p) (e :: es) [] pos) (eF fStr A) :=
  de_tCB snd_str (pe_callTy call_str_int hg hm hv ha hn hdb he hpl)
end
section
variable {X : Cx} {W : WK} {o e f : Expr} {apos cpos : Pos} {Ea Eb Ec : Mo D}
theorem isd_of {K : PySem.W.Frag} {B : Bs} {G H : Hp} {δ : Env} {σ : St} {v : V} {d : D} (a : At K B G δ σ H) (r : R K G v d) (h : isDct d = true) : ∃ p, v = .ref p ∧ IsD H p := by
  cases r with
  | dK g l k r => exact ⟨_, rfl, .inl ⟨_, a.vw.rd g⟩⟩
  | dT g l k r => exact ⟨_, rfl, .inr ⟨_, a.vw.rd g⟩⟩
  | _ => cases h
end
end M
set_option Elab.async false
set_option linter.all false
set_option maxRecDepth 100000
set_option maxHeartbeats 4000000
set_option Elab.async false
set_option linter.all false
set_option maxRecDepth 100000
set_option maxHeartbeats 4000000
namespace M
open PySem L2 PySem.Spec PyProof.Rows RT
theorem bt_bool : bootBuiltins "bool" = some (.type "bool") := by decide +kernel
section
variable {X : Cx} {W : WK} {e : Expr} {x y : Str} {p py pos : Pos} {E : Mo D}
def rIsiD : List V → Hp → VK → Prop := fun xs H Q => ∃ a T b, xs = [.ref a, .ty T] ∧ IsD H a ∧ kitB "dict" T = some b ∧ Q (.bl b) H
theorem call_isiD : CallR X (.builtin "isinstance") (fun xs H Q => rIsi X.K xs H Q ∨ rIsiD xs H Q) := by
  intro pins s σ H xs us Q I r h
  rcases h with h | ⟨a, T, b, rfl, hd, hk, q⟩
  · exact call_isi pins s σ H xs us Q I r h
  · obtain ⟨u1, u2, rfl, r1, r2⟩ := vals2 r
    cases (show u1 = Value.ref a from r1)
    cases (show u2 = Value.type T from r2)
    obtain ⟨⟨o, ho, hc⟩, _⟩ := isD_at I hd
    exact PySem.W.kia_one PySem.W.kitx_dict I.kIn ⟨o, ho, hc⟩ (kit_ty hk) (fun z => nomatch z) fun tk => ⟨.bl b, H, I.tok tk, rfl, q⟩
def notScr : D → Bool
  | .alb _ _ => false
  | .bld _ _ _ _ => false
  | .scr _ => false
  | _ => true
def eIsi2 (T : String) (E : Mo D) : Mo D := E.bind fun d => Mo.lift (if notScr d = true then (kitB (tyN d) T).map D.bl else none)
theorem de_isi2 {T : String} (hg : Gl X x) (hm : X.mg x = none) (hv : bootBuiltins x = some (.builtin "isinstance")) (hg2 : Gl X y) (hm2 : X.mg y = none) (hv2 : bootBuiltins y = some (.type T)) (ha : DE X W e E)
    (hn : x ≠ "__name__" := by decide) (hdb : (x == ("__debug__" : Str)) = false := by decide) (hn2 : y ≠ "__name__" := by decide) (hdb2 : (y == ("__debug__" : Str)) = false := by decide)
    (he : starEach [e, .Name y py] X.env = (false, eval e X.env) :: starEach [.Name y py] X.env := by rfl) (hpl : (backTo pos (starEach [.Name y py] X.env)).any (·.1) = false := by rfl) :
    DE X W (.Call (.Name x p) [e, .Name y py] [] pos) (eIsi2 T E) := PE.weak (pe_callB call_isiD hg hm hv (pa_cons ha (pa_cons (pe_bltn (v := .ty T) hg2 hm2 hv2 rfl hn2 hdb2) pa_nil) he) hn hdb he hpl) fun σ H Q ⟨B, G, δ, r, δ', at', e1, post⟩ => by
  refine tE_bind at' e1 post fun v H1 G1 δ1 d a1 x1 r1 e2 post => ?_
  obtain ⟨z, hz, hr⟩ := lift_some e2
  cases hr
  split at hz
  · rename_i hs
    cases q : kitB (tyN d) T with
    | none => rw [q] at hz; cases hz
    | some b =>
      rw [q] at hz; cases hz
      by_cases hd : isDct d = true
      · obtain ⟨a, rfl, h⟩ := isd_of a1 r1 hd
        have hq : kitB "dict" T = some b := by
          cases d <;> first | exact q | cases hd
        exact .inr ⟨a, T, b, rfl, h, hq, post G1 H1 a1 (Ext.refl _) _ (.bl b)⟩
      · have hd : isDct d = false := by cases h : isDct d <;> first | rfl | exact absurd h hd
        exact .inl ⟨v, .ty T, .type (tyN d), .type T, b, rfl, .ty T, ty_of a1.vw r1 hd (fun l c => by subst c; cases hs) (fun a b c => by subst c; cases hs) (fun a b c e z => by subst z; cases hs), kit_ty q, post G1 H1 a1 (Ext.refl _) _ (.bl b)⟩
  · cases hz
end
end M
set_option Elab.async false
set_option linter.all false
set_option maxRecDepth 100000
set_option maxHeartbeats 1000000
set_option Elab.async false
set_option linter.all false
set_option maxRecDepth 100000
set_option maxHeartbeats 1000000
set_option Elab.async false
set_option linter.all false
set_option maxRecDepth 100000
set_option maxHeartbeats 4000000
set_option Elab.async false
set_option linter.all false
set_option maxRecDepth 100000
set_option maxHeartbeats 1000000
set_option Elab.async false
set_option linter.all false
set_option maxRecDepth 100000
set_option maxHeartbeats 1000000
set_option Elab.async false
set_option linter.all false
set_option maxRecDepth 100000
set_option maxHeartbeats 1000000
namespace M
open PySem L2 PySem.Spec PyProof.Rows
section
variable {X : Cx} {W : WK} {Wx : WX} {e : Expr} {es : List Expr} {kws : List Keyword} {A B : Mo (List Ag)} {E : Mo D} {k n : Nat} {ks : List Str} {C fI : Addr} {x : Str} {p pos pos2 : Pos} {m : Mo D} {nm : Option Str}
/-- an integer constant of the module -/
theorem de_gC {i : Int} (hg : Gl X x) (hm : ∃ t, X.mg x = some (.int i t)) (hd : (x == ("__debug__" : Str)) = false := by decide) : DE X W (.Name x pos) (eC (.int i)) := by
  obtain ⟨t, hm⟩ := hm
  exact de_c (pe_glob (v := .int i) hg hm ⟨t, rfl⟩ hd) fun _ => .int i
end
end M
set_option Elab.async false
set_option linter.all false
set_option maxRecDepth 100000
set_option maxHeartbeats 1000000
namespace M
open PySem L2 PySem.Spec PyProof.Rows
/-- all of a list of bools -/
def fAll : List D → Option D
  | [.lst l] => match blsD l with
    | some bs => some (.bl (bs.all id))
    | none => none
  | _ => none
theorem snd_all {K : PySem.W.Frag} : SndF K fAll (fun vs H Q => rAll K vs H Q) := fun B G H δ σ xs as d Q at' rx h k => by
  unfold fAll at h
  split at h
  · rename_i l
    obtain ⟨v, rfl, r⟩ := rl1 rx
    cases r with
    | lst g hl r =>
      split at h
      · rename_i bs hb
        cases h
        have := blsD_ok r hb
        subst this
        exact ⟨_, bs, rfl, SqL.of (at'.vw.lst g), k _ G H at' (Ext.refl _) (.bl _)⟩
      · cases h
  · cases h
section
variable {X : Cx} {W : WK} {e a b c : Expr} {es : List Expr} {x : Str} {p pos : Pos} {E Ea Eb : Mo D} {A : Mo (List Ag)}
theorem de_all (hc : X.calm = true) (hg : Gl X x) (hm : X.mg x = none) (hv : bootBuiltins x = some (.builtin "all")) (ha : DA X W (e :: es) A) (hn : x ≠ "__name__" := by decide) (hdb : (x == ("__debug__" : Str)) = false := by decide)
    (he : starEach (e :: es) X.env = (false, eval e X.env) :: starEach es X.env := by rfl) (hpl : (backTo pos (starEach es X.env)).any (·.1) = false := by rfl) : DE X W (.Call (.Name x p) (e :: es) [] pos) (eF fAll A) :=
  de_tCB snd_all (pe_callB (cr_all hc) hg hm hv ha hn hdb he hpl)
end
end M
set_option Elab.async false
set_option linter.all false
set_option maxRecDepth 100000
set_option maxHeartbeats 1000000
namespace M
open PySem L2 PySem.Spec PyProof.Rows
mutual
/-- data without lists and dicts -/
def pureD : D → Bool
  | .non => true
  | .bl _ => true
  | .int _ => true
  | .str _ => true
  | .tup l => pureDs l
  | _ => false
def pureDs : List D → Bool
  | [] => true
  | d :: ds => pureD d && pureDs ds
end
section
variable {K : PySem.W.Frag} {B : Bs} {Gc H : Hp} {δ : Env} {σ : St}
mutual
/-- what is seen in another view, told -/
theorem R.tell (vw : Vw Gc H) : ∀ {v : V} {d : D}, R K Gc v d → pureD d = true → ∀ {G : Hp}, At K B G δ σ H → ∃ G', At K B G' δ σ H ∧ Ext G G' ∧ R K G' v d
  | _, _, .non, _, G, a => ⟨G, a, Ext.refl _, .non⟩
  | _, _, .bl b, _, G, a => ⟨G, a, Ext.refl _, .bl b⟩
  | _, _, .int i, _, G, a => ⟨G, a, Ext.refl _, .int i⟩
  | _, _, .str s, _, G, a => ⟨G, a, Ext.refl _, .str s⟩
  | _, _, .tup g l r, h, G, a => by
    obtain ⟨G1, a1, x1, r1⟩ := RL.tell vw r (by unfold pureD at h; exact h) a
    obtain ⟨G2, a2, x2, g2⟩ := a1.tuple (vw.tup g)
    exact ⟨G2, a2, x1.trans x2, .tup g2 l (r1.mono x2)⟩
  | _, _, .lst _ _ _, h, _, _ => by unfold pureD at h; cases h
  | _, _, .scr _ _ _, h, _, _ => by unfold pureD at h; cases h
  | _, _, .dK _ _ _ _, h, _, _ => by unfold pureD at h; cases h
  | _, _, .dT _ _ _ _, h, _, _ => by unfold pureD at h; cases h
  | _, _, .alb _ _ _ _ _ _ _ _, h, _, _ => by unfold pureD at h; cases h
  | _, _, .bld _ _ _ _ _ _ _ _ _ _ _ _, h, _, _ => by unfold pureD at h; cases h
theorem RL.tell (vw : Vw Gc H) : ∀ {vs : List V} {ds : List D}, RL K Gc vs ds → pureDs ds = true → ∀ {G : Hp}, At K B G δ σ H → ∃ G', At K B G' δ σ H ∧ Ext G G' ∧ RL K G' vs ds
  | _, _, .nil, _, G, a => ⟨G, a, Ext.refl _, .nil⟩
  | _, _, .cons r t, h, G, a => by
    unfold pureDs at h
    rw [Bool.and_eq_true] at h
    obtain ⟨G1, a1, x1, r1⟩ := R.tell vw r h.1 a
    obtain ⟨G2, a2, x2, r2⟩ := RL.tell vw t h.2 a1
    exact ⟨G2, a2, x1.trans x2, .cons (r1.mono x2) r2⟩
end
end
theorem pureDs_get : ∀ {ds : List D} {i : Nat} {d : D}, pureDs ds = true → ds[i]? = some d → pureD d = true
  | [], _, _, _, e => by simp at e
  | x :: ds, 0, d, h, e => by
    unfold pureDs at h; rw [Bool.and_eq_true] at h
    simp at e; subst e; exact h.1
  | x :: ds, i + 1, d, h, e => by
    unfold pureDs at h; rw [Bool.and_eq_true] at h
    exact pureDs_get h.2 (by simpa using e)
/-- the class Album, as the known objects have it -/
structure AlbK (K : PySem.W.Frag) (C : Addr) : Prop where
  ns : PySem.W.nsIn K mainGlobals "Album" = some (some (.ref C))
  cls : Cls K C
  nv : NoAttr K C "_views"
  nl : NoAttr K C "_links"
def fldN (b : Bool) : Str := if b then "_views" else "_links"
section
variable {K : PySem.W.Frag} {B : Bs} {G G' H : Hp} {δ : Env} {σ : St} {i : Nat} {C : Addr}
/-- what is lent to be read stays -/
theorem At.bor_at (a : At K B G δ σ H) {B' : Bs} {G2 H2 : Hp} {δ2 : Env} {σ2 : St} (le : BLe B B') (a' : At K B' G2 δ2 σ2 H2) (j : Nat) : Vw (B.Bo j) H2 := fun p o e => by
  have h0 := a.bod j p (by rw [e]; simp)
  cases q : B.H0 p with
  | none => exact absurd q h0
  | some o0 =>
    have nio : ∀ k, (k, p) ∉ B.IO := fun k z => by
      have := (a.iok k p z).2.2.1 j
      rw [e] at this; cases this
    have e1 := a.keep p o0 q nio
    have e2 := a'.keep p o0 (le.1 p o0 q) (fun k => by rw [le.2]; exact nio k)
    have := a.bo j p o e
    rw [e1] at this
    rw [e2]; exact this
def albSl (δ : Env) (i : Nat) : Option (List D × List D) := match δ[i]? with
  | some (.bor (.alb vs ls)) => some (vs, ls)
  | _ => none
theorem albSl_ok {vs ls : List D} (h : albSl δ i = some (vs, ls)) : δ[i]? = some (.bor (.alb vs ls)) := by
  unfold albSl at h
  split at h
  · rename_i q; cases h; exact q
  · cases h
end
def fldL : Bool → List D → List D → List D
  | true, vs, _ => vs
  | false, _, ls => ls
def iFld (i : Nat) (b : Bool) : Mo (List D) := fun δ => match albSl δ i with
  | some (vs, ls) => if pureDs (fldL b vs ls) = true then some (.ok (fldL b vs ls), δ) else none
  | none => none
section
variable {X : Cx} {W : WK} {o e tg : Expr} {f : Str} {p pos apos : Pos} {C : Addr} {i : Nat} {b : Bool}
theorem fld_at (TA : AlbK X.K C) (hf : f = fldN b) {B : Bs} {G H : Hp} {δ : Env} {σ : St} (a : At X.K B G δ σ H) {vs ls : List D} (h : albSl δ i = some (vs, ls)) :
    ∃ v q xs, σ[i]? = some (some v) ∧ (∃ a C dx fs u, v = .ref a ∧ H a = some (.ins C dx fs) ∧ Cls X.K C ∧ NoAttr X.K C f ∧ fs.lookup f = some u ∧ u = .ref q) ∧ (B.Bo i) q ≠ none ∧ H q = some (.lst xs) ∧ xs.length ≤ sizeLine ∧ RL X.K (B.Bo i) xs (fldL b vs ls) := by
  have hs := albSl_ok h
  obtain ⟨v, h1, r⟩ := a.bor hs
  cases r with
  | alb c h2 h3 h4 l1 l2 r1 r2 =>
    rename_i p av al C' dx xs ys
    have := c.symm.trans TA.ns
    cases this
    cases b with
    | true => subst hf; exact ⟨_, av, xs, h1, ⟨p, C, dx, _, _, rfl, (a.bo i).ins h2, TA.cls, TA.nv, rfl, rfl⟩, by rw [h3]; simp, (a.bo i).lst h3, l1, r1⟩
    | false => subst hf; exact ⟨_, al, ys, h1, ⟨p, C, dx, _, _, rfl, (a.bo i).ins h2, TA.cls, TA.nl, rfl, rfl⟩, by rw [h4]; simp, (a.bo i).lst h4, l2, r2⟩
/-- for .. in x._views -/
theorem di_fld (TA : AlbK X.K C) (hf : f = fldN b) (ho : PE X o (tVar i)) (hb : attributeBase o f X.env (eval o X.env) = eval o X.env := by rfl) : DI X W tg (.Attribute o f pos) (iFld i b) :=
  ⟨fun pins s σ H R' I ⟨B, G, δ, r, δ', a, e1, post⟩ => (pi_list (tg := tg) (pe_fld ho hb)).run pins s σ H R' I (by
    unfold iFld at e1
    split at e1
    · rename_i vs ls q
      split at e1
      · rename_i hp
        cases e1
        obtain ⟨v, qa, xs, h1, ⟨pa, C', dx, fs, u, h2, h3, h4, h5, h6, h7⟩, h8, h9, hl, h10⟩ := fld_at TA hf a q
        subst h7
        refine ⟨v, h1, pa, C', dx, fs, .ref qa, h2, h3, h4, h5, h6, qa, rfl, ⟨xs, SqL.of h9⟩, post G H a (Ext.refl _) _ ?_⟩
        intro B' G2 H2 δ2 σ2 le a' ex j
        have vw := a.bor_at le a' i
        have hq : H2 qa = some (.lst xs) := by
          cases z : B.Bo i qa with
          | none => exact absurd z h8
          | some oo =>
            have z1 := a.bo i qa oo z
            rw [h9] at z1
            rcases z1 with z1 | ⟨_, x, z1⟩
            · cases z1; exact vw.lst z
            · cases z1
        refine ⟨fun d hd => ?_, fun hl => ⟨xs, SqL.of hq, by rw [h10.length]; exact hl⟩⟩
        obtain ⟨x, g1, g2⟩ := h10.get hd
        refine ⟨⟨xs, x, SqL.of hq, g1⟩, fun y H' ⟨e1, e2⟩ => ⟨e1, ?_⟩⟩
        have := e2 xs (SqL.of hq)
        rw [g1] at this; cases this
        exact g2.tell vw (pureDs_get hp hd) a'
      · cases e1
    · cases e1)⟩
/-- list(x._views) -/
def eLstF (i : Nat) (b : Bool) : Mo D := (iFld i b).bind fun l => Mo.ret (.lst l)
theorem do_lstF (hc : X.calm = true) {x : Str} (TA : AlbK X.K C) (hf : f = fldN b) (hg : Gl X x) (hm : X.mg x = none) (hv : bootBuiltins x = some (.type "list")) (ho : PE X o (tVar i)) (hb : attributeBase o f X.env (eval o X.env) = eval o X.env := by rfl)
    (hn : x ≠ "__name__" := by decide) (hdb : (x == ("__debug__" : Str)) = false := by decide)
    (he : starEach [.Attribute o f apos] X.env = (false, eval (.Attribute o f apos) X.env) :: starEach [] X.env := by rfl) (hpl : (backTo pos (starEach [] X.env)).any (·.1) = false := by rfl) :
    DO X W (.Call (.Name x p) [.Attribute o f apos] [] pos) (eLstF i b) :=
  PE.weak (pe_callTy (call_listA hc) hg hm hv (pa_cons (pe_fld ho hb) pa_nil he) hn hdb he hpl) fun σ H Q ⟨B, G, δ, r, δ', a, e1, post⟩ => by
    unfold eLstF Mo.bind iFld at e1
    split at e1
    · cases e1
    · rename_i q0
      split at q0
      · split at q0 <;> cases q0
      · cases q0
    · rename_i l δ1 q0
      split at q0
      · rename_i vs ls q
        split at q0
        · rename_i hp
          cases q0
          cases e1
          obtain ⟨v, qa, xs, h1, ⟨pa, C', dx, fs, u, h2, h3, h4, h5, h6, h7⟩, h8, h9, hl, h10⟩ := fld_at TA hf a q
          subst h7
          obtain ⟨G1, a1, x1, r1⟩ := h10.tell (a.bo i) hp a
          refine ⟨v, h1, pa, C', dx, fs, .ref qa, h2, h3, h4, h5, h6, ?_⟩
          refine .inl ⟨qa, xs, rfl, .inl (SqL.of h9), fun q hq => ?_⟩
          obtain ⟨b1, b2⟩ := a1.own1 (p := q) (o := .lst xs) hq (.lst upd_same hl r1)
          exact post G1 _ b1 x1 q b2
        · cases q0
      · cases q0
end
/-- a method of Album: its function, its mirror (self first, lent to be read) -/
structure CalS (P : Program) (w : World) (K : PySem.W.Frag) (mg : Str → Option Value) (base : Heap) (C : Addr) (k : Nat) (x : Str) (n : Nat) (ro : Bool) (m : Mo D) : Prop where
  ex : ∃ (f : Addr) (fd : FuncData) (ps : List Str), FnOk P w K mg base CX0 k f fd ps (spM Wn K n ro m) ∧ Meth K C x f ∧ Binds K fd ps []
def isAlb (δ : Env) (i : Nat) : Bool := match δ[i]? with
  | some (.bor (.alb _ _)) => true
  | some (.imm (.alb _ _)) => true
  | _ => false
theorem isAlb_ok {K : PySem.W.Frag} {B : Bs} {G H : Hp} {δ : Env} {σ : St} {i : Nat} {C : Addr} (TA : AlbK K C) (a : At K B G δ σ H) (h : isAlb δ i = true) : ∃ p av al dx, σ[i]? = some (some (.ref p)) ∧ H p = some (.ins C dx [("_views", .ref av), ("_links", .ref al)]) := by
  unfold isAlb at h
  split at h
  · rename_i q
    obtain ⟨v, h1, r⟩ := a.bor q
    cases r with
    | alb c h2 h3 h4 l1 l2 r1 r2 =>
      have := c.symm.trans TA.ns
      cases this
      exact ⟨_, _, _, _, h1, (a.bo i).ins h2⟩
  · rename_i q
    obtain ⟨v, h1, r⟩ := a.imm q
    cases r with
    | alb c h2 h3 h4 l1 l2 r1 r2 =>
      have := c.symm.trans TA.ns
      cases this
      exact ⟨_, _, _, _, h1, a.vw.ins h2⟩
  · cases h
/-- x.m(..), x an album -/
def eMeth (m : Mo D) (i : Nat) (A : Mo (List Ag)) : Mo D := fun δ => if isAlb δ i = true then (A.bind fun as => callM m (.vb i :: as)) δ else none
section
variable {X : Cx} {o e : Expr} {es : List Expr} {x : Str} {pos apos : Pos} {C : Addr} {i k n : Nat} {A : Mo (List Ag)} {m : Mo D} {pl : Sem Bool}
theorem meth_ok {ro : Bool} {K : PySem.W.Frag} (TA : AlbK K C) (hl : ALen A n) (h1 : x ≠ "_views") (h2 : x ≠ "_links") {B : Bs} {G H : Hp} {δ δ' : Env} {σ : St} {r : Except Exn D} {Q : VK} (a : At K B G δ σ H) (e1 : eMeth m i A δ = some (r, δ'))
    (post : Post K W0 B G σ r δ' (fun d G' H' => if ro = true then ∀ p, Fr1 K B G' δ' σ H' p d → Q (.ref p) H' else ∀ v, R K G' v d → Q v H')) :
    tMeth C x (spM Wn K (n + 1) ro m) [] E0 (tVar i) (tA K W0 A) σ H Q := by
  unfold eMeth at e1
  split at e1
  · rename_i hi
    obtain ⟨p, av, al, dx, hp, hH⟩ := isAlb_ok TA a hi
    refine ⟨_, hp, p, dx, _, rfl, hH, ?_, ?_⟩
    · simp only [List.lookup]
      rw [show (x == ("_views" : Str)) = false from beq_eq_false_iff_ne.mpr h1, show (x == ("_links" : Str)) = false from beq_eq_false_iff_ne.mpr h2]
    refine tA_bind' a e1 post fun vs H1 G1 δ1 as ea a1 x1 r1 e3 post => ?_
    show spM Wn K (n + 1) ro m (.ref p :: (vs ++ [])) H1 Q E0
    rw [List.append_nil]
    refine call_ok (W := W0) (Wf := Wn) (E := E0) rfl (fun _ _ _ _ _ _ _ h => h) a1 (as := .vb i :: as) (.cons (show AgOk K G1 σ (.ref p) (.vb i) from hp) r1) e3 ?_ (by rw [List.length_cons, hl _ _ _ ea])
    cases r with
    | ok d => exact fun G' H' a' x' => post G' H' a' x'
    | error x => exact fun G' H' a' x' => post G' σ H' a' x'
  · cases e1
theorem tA_nil {K : PySem.W.Frag} {σ : St} {H : Hp} {Q : List V → Hp → Prop} (q : tA K W0 aNil σ H Q) : tNil σ H Q := by
  obtain ⟨B, G, δ, r, δ', a, e1, post⟩ := q
  cases e1
  exact post G H a (Ext.refl _) _ .nil
theorem meth0_w {K : PySem.W.Frag} {sp : Sp} {σ : St} {H : Hp} {Q : VK} (q : tMeth C x sp [] E0 (tVar i) (tA K W0 aNil) σ H Q) : tMeth C x sp [] E0 (tVar i) tNil σ H Q := by
  obtain ⟨v, h1, a, dx, fs, h2, h3, h4, h5⟩ := q
  exact ⟨v, h1, a, dx, fs, h2, h3, h4, tA_nil h5⟩
theorem de_meth0 (TA : AlbK X.K C) (F : CalS X.prog X.w X.K X.mg X.base C k x 1 false m) (hr : Room k X.A) (ho : PE X o (tVar i)) (h1 : x ≠ "_views" := by decide) (h2 : x ≠ "_links" := by decide)
    (ht : eval (.Call (.Attribute o x apos) [] [] pos) X.env = (do
      let ov ← eval o X.env
      standAt apos.atName
      let (f, first) ← holding [ov] (getMethod ov x pl)
      callWith pos f first (backTo pos (starEach [] X.env)) (backToKw pos (keywordEach [] X.env))) := by rfl) : DE X W0 (.Call (.Attribute o x apos) [] [] pos) (eMeth m i aNil) := by
  obtain ⟨f, fd, ps, F, hm, hb⟩ := F.ex
  exact PE.weak (pe_meth0 (E := E0) ho TA.cls hm F hr hb .nil pass0 ht) fun σ H Q ⟨B, G, δ, r, δ', a, e1, post⟩ => meth0_w (meth_ok TA alen_nil h1 h2 a e1 (by
    cases r with
    | ok d => exact fun G' H' a' x' => by show (if false = true then _ else _); rw [if_neg Bool.false_ne_true]; exact fun v rv => post G' H' a' x' v rv
    | error x => exact post))
end
end M
set_option Elab.async false
set_option linter.all false
set_option maxRecDepth 100000
set_option maxHeartbeats 1000000
namespace M
open PySem L2 PySem.Spec PyProof.Rows
section
variable {K : PySem.W.Frag} {G G' : Hp}
mutual
/-- data of tuples alone, in another view of the same tuples -/
theorem R.tups (h : ∀ a xs, G a = some (.tup xs) → G' a = some (.tup xs)) : ∀ {v : V} {d : D}, R K G v d → pureD d = true → R K G' v d
  | _, _, .non, _ => .non
  | _, _, .bl b, _ => .bl b
  | _, _, .int i, _ => .int i
  | _, _, .str s, _ => .str s
  | _, _, .tup g l r, q => .tup (h _ _ g) l (RL.tups h r (by unfold pureD at q; exact q))
  | _, _, .lst _ _ _, q => by unfold pureD at q; cases q
  | _, _, .scr _ _ _, q => by unfold pureD at q; cases q
  | _, _, .dK _ _ _ _, q => by unfold pureD at q; cases q
  | _, _, .dT _ _ _ _, q => by unfold pureD at q; cases q
  | _, _, .alb _ _ _ _ _ _ _ _, q => by unfold pureD at q; cases q
  | _, _, .bld _ _ _ _ _ _ _ _ _ _ _ _, q => by unfold pureD at q; cases q
theorem RL.tups (h : ∀ a xs, G a = some (.tup xs) → G' a = some (.tup xs)) : ∀ {vs : List V} {ds : List D}, RL K G vs ds → pureDs ds = true → RL K G' vs ds
  | _, _, .nil, _ => .nil
  | _, _, .cons r t, q => by
    unfold pureDs at q
    rw [Bool.and_eq_true] at q
    exact .cons (R.tups h r q.1) (RL.tups h t q.2)
end
end
/-- the album's objects: the instance, its class, its dict, its lists and what they hold -/
structure AlbR where
  p : Addr
  C : Addr
  dx : Addr
  av : Addr
  al : Addr
  xs : List V
  ys : List V
def AlbR.ins (r : AlbR) : HO := .ins r.C r.dx [("_views", .ref r.av), ("_links", .ref r.al)]
/-- they are there, and nobody else knows them -/
structure AlbAt (K : PySem.W.Frag) (B : Bs) (G : Hp) (δ : Env) (σ : St) (H : Hp) (r : AlbR) : Prop where
  ns : PySem.W.nsIn K mainGlobals "Album" = some (some (.ref r.C))
  hp : H r.p = some r.ins
  hv : H r.av = some (.lst r.xs)
  hl : H r.al = some (.lst r.ys)
  g : G r.p = none ∧ G r.av = none ∧ G r.al = none
  b : B.H0 r.p = none ∧ B.H0 r.av = none ∧ B.H0 r.al = none
  no : ∀ j, ¬ OwnAt δ σ j r.p ∧ ¬ OwnAt δ σ j r.av ∧ ¬ OwnAt δ σ j r.al
  ne : r.av ≠ r.al
  lx : r.xs.length ≤ sizeLine
  ly : r.ys.length ≤ sizeLine
/-- the view through which the frame reads them -/
def albG (G : Hp) (r : AlbR) : Hp := fun a => if a = r.p then some r.ins else if a = r.av then some (.lst r.xs) else if a = r.al then some (.lst r.ys) else match G a with
  | some (.tup zs) => some (.tup zs)
  | _ => none
def albB (B : Bs) (G H : Hp) (i : Nat) (r : AlbR) : Bs := ⟨fun a => match B.H0 a with
  | some o => some o
  | none => if a = r.p ∨ a = r.av ∨ a = r.al then H a else match G a with
    | some (.tup zs) => some (.tup zs)
    | _ => none, G, fun j => if j = i then albG G r else B.Bo j, B.IO⟩
structure Inn (K : PySem.W.Frag) (B B' : Bs) (i : Nat) (r : AlbR) : Prop where
  h0 : ∀ a o, B.H0 a = some o → B'.H0 a = some o
  g0 : Ext B.G0 B'.G0
  io : B'.IO = B.IO
  bo : ∀ j, j ≠ i → B'.Bo j = B.Bo j
  lk : ∀ a o, B.H0 a = some o → (∀ xs, o ≠ .tup xs) → B.G0 a = none → B'.G0 a = none
  vi : ∀ a o, B.Bo i a = some o → ∃ o0, B.H0 a = some o0 ∧ (o0 = o ∨ (isD o = true ∧ ∃ x, o0 = .frz x o)) ∧ ∀ k, (k, a) ∉ B.IO
  bod : ∀ j a, B.Bo j a ≠ none → B.H0 a ≠ none
  iok : ∀ k a, (k, a) ∈ B.IO → B.G0 a = none ∧ B.H0 a ≠ none ∧ ∀ j, B.Bo j a = none
  tb : (∀ b ps, B.H0 b ≠ some (.tbl ps)) ∧ (∀ j b ps, B.Bo j b ≠ some (.tbl ps)) ∧ ∀ i b xs, (i, b) ∈ B.IO → B.H0 b ≠ some (.tup xs)
  ns : PySem.W.nsIn K mainGlobals "Album" = some (some (.ref r.C))
  b : B.H0 r.p = none ∧ B.H0 r.av = none ∧ B.H0 r.al = none
  ip : B'.Bo i r.p = some r.ins
  iv : B'.Bo i r.av = some (.lst r.xs)
  il : B'.Bo i r.al = some (.lst r.ys)
  uq : ∀ q C dx fs, B'.Bo i q = some (.ins C dx fs) → q = r.p
  z : B'.G0 r.p = none ∧ B'.G0 r.av = none ∧ B'.G0 r.al = none
  ne : r.av ≠ r.al
  lx : r.xs.length ≤ sizeLine
  ly : r.ys.length ≤ sizeLine
section
variable {K : PySem.W.Frag} {B B' : Bs} {G G' H H' : Hp} {δ δ' : Env} {σ σ' : St} {i : Nat} {r : AlbR}
theorem albG_p : albG G r r.p = some r.ins := if_pos rfl
theorem no_own : ∀ d, Sl.no ≠ Sl.own d ∧ Sl.no ≠ Sl.io d := fun d => ⟨fun c => (by cases c), fun c => (by cases c)⟩
theorem bor_own {x : D} : ∀ d, Sl.bor x ≠ Sl.own d ∧ Sl.bor x ≠ Sl.io d := fun d => ⟨fun c => (by cases c), fun c => (by cases c)⟩
theorem own_set (hs : ∀ d, s ≠ Sl.own d ∧ s ≠ Sl.io d) {j : Nat} {p : Addr} (z : OwnAt (δ.set i s) σ j p) : i ≠ j ∧ OwnAt δ σ j p := by
  obtain ⟨⟨d, z1 | z1⟩, z2⟩ := z
  · rcases get_set z1 with ⟨_, y, _⟩ | ⟨y, q⟩
    · exact absurd y.symm (hs d).1
    · exact ⟨y, ⟨d, .inl q⟩, z2⟩
  · rcases get_set z1 with ⟨_, y, _⟩ | ⟨y, q⟩
    · exact absurd y.symm (hs d).2
    · exact ⟨y, ⟨d, .inr q⟩, z2⟩
theorem At.exit (n : Inn K B B' i r) (a : At K B' G δ σ H) : At K B G (δ.set i .no) σ H ∧ AlbAt K B G (δ.set i .no) σ H r := by
  have nio : ∀ q, B'.Bo i q ≠ none → ∀ k, (k, q) ∉ B'.IO := fun q h k z => h ((a.iok k q z).2.2.1 i)
  have gnone : ∀ q o, B'.Bo i q = some o → isD o = false → (∀ xs, o ≠ .tup xs) → B'.G0 q = none → H q = some o ∧ G q = none := fun q o e d t z => by
    have hq : H q = some o := by
      rcases a.bo i q o e with h | ⟨h, _⟩
      · exact h
      · rw [d] at h; cases h
    have h0 := a.bod i q (by rw [e]; simp)
    cases q0 : B'.H0 q with
    | none => exact absurd q0 h0
    | some o0 =>
      have := a.keep q o0 q0 (nio q (by rw [e]; simp))
      rw [hq] at this; cases this
      exact ⟨hq, a.leak q o q0 t z⟩
  obtain ⟨h1, h2⟩ := gnone r.p _ n.ip rfl (fun xs e => by unfold AlbR.ins at e; cases e) n.z.1
  obtain ⟨h3, h4⟩ := gnone r.av _ n.iv rfl (fun xs e => by cases e) n.z.2.1
  obtain ⟨h5, h6⟩ := gnone r.al _ n.il rfl (fun xs e => by cases e) n.z.2.2
  have noOwn : ∀ q, B'.Bo i q ≠ none → ∀ j, ¬ OwnAt (δ.set i .no) σ j q := fun q h j z => by
    obtain ⟨_, ⟨d, z1 | z1⟩, z2⟩ := own_set no_own z
    · obtain ⟨p, e1, _, _, e4⟩ := a.own z1
      rw [e1] at z2; cases z2
      exact a.bod i q h e4
    · obtain ⟨p, e1, _, _, e4⟩ := a.io z1
      rw [e1] at z2; cases z2
      exact nio q h j e4
  refine ⟨⟨a.vw, n.g0.trans a.g0, fun q o h z => a.keep q o (n.h0 q o h) (by rw [n.io]; exact z), fun q h => ?_, fun q o h t z => a.leak q o (n.h0 q o h) t (n.lk q o h t z), fun k q h => ?_, fun j => ?_, n.bod, by rw [List.length_set]; exact a.len, fun j s e => ?_, fun j k q e1 e2 => ?_, ⟨a.tb.1, n.tb.1, a.tb.2.2.1, n.tb.2.1, n.tb.2.2⟩⟩, ⟨n.ns, h1, h3, h5, ⟨h2, h4, h6⟩, n.b, fun j => ⟨noOwn _ (by rw [n.ip]; simp) j, noOwn _ (by rw [n.iv]; simp) j, noOwn _ (by rw [n.il]; simp) j⟩, n.ne, n.lx, n.ly⟩⟩
  · cases q0 : B.H0 q with
    | none => exact absurd q0 h
    | some o => exact a.dom q (by rw [n.h0 q o q0]; simp)
  · obtain ⟨y1, y2, y3⟩ := n.iok k q h
    exact ⟨y1, y2, y3, (a.iok k q (by rw [n.io]; exact h)).2.2.2⟩
  · by_cases c : j = i
    · subst c
      intro q o e
      obtain ⟨o0, y1, y2, y3⟩ := n.vi q o e
      have := a.keep q o0 (n.h0 q o0 y1) (fun k => by rw [n.io]; exact y3 k)
      rcases y2 with rfl | ⟨y2, x, rfl⟩
      · exact .inl this
      · exact .inr ⟨y2, x, this⟩
    · rw [← n.bo j c]; exact a.bo j
  · rcases get_set e with ⟨rfl, rfl, z⟩ | ⟨c, e⟩
    · exact ⟨σ[i]'(by rw [← a.len]; exact z), List.getElem?_eq_getElem _, trivial⟩
    · obtain ⟨ov, y1, y2⟩ := a.sl j s e
      refine ⟨ov, y1, ?_⟩
      cases s with
      | no => trivial
      | imm d => exact y2
      | own d =>
        obtain ⟨p, z1, z2, z3, z4⟩ := y2
        refine ⟨p, z1, z2, z3, ?_⟩
        cases q0 : B.H0 p with
        | none => rfl
        | some o => rw [n.h0 p o q0] at z4; cases z4
      | io d =>
        obtain ⟨p, z1, z2, z3, z4⟩ := y2
        exact ⟨p, z1, z2, z3, by rw [← n.io]; exact z4⟩
      | bor d =>
        obtain ⟨v, z1, z2⟩ := y2
        exact ⟨v, z1, by rw [← n.bo j (Ne.symm c)]; exact z2⟩
  · exact a.apart j k q (own_set no_own e1).2 (own_set no_own e2).2
theorem At.enter (a : At K B G δ σ H) (g : AlbAt K B G δ σ H r) (hs : δ[i]? = some .no) (hσ : σ[i]? = some (some (.ref r.p))) {vs ls : List D} (rv : RL K G r.xs vs) (pv : pureDs vs = true) (rl : RL K G r.ys ls) (pl : pureDs ls = true) :
    Inn K B (albB B G H i r) i r ∧ At K (albB B G H i r) G (δ.set i (.bor (.alb vs ls))) σ H := by
  have np : r.p ≠ r.av := fun c => by have := g.hp; rw [c, g.hv] at this; unfold AlbR.ins at this; cases this
  have nq : r.p ≠ r.al := fun c => by have := g.hp; rw [c, g.hl] at this; unfold AlbR.ins at this; cases this
  have gv : albG G r r.av = some (.lst r.xs) := by unfold albG; rw [if_neg (Ne.symm np), if_pos rfl]
  have gl : albG G r r.al = some (.lst r.ys) := by unfold albG; rw [if_neg (Ne.symm nq), if_neg (Ne.symm g.ne), if_pos rfl]
  have gt : ∀ q zs, G q = some (.tup zs) → albG G r q = some (.tup zs) := fun q zs e => by
    unfold albG
    rw [if_neg (fun c => by rw [c, g.g.1] at e; cases e), if_neg (fun c => by rw [c, g.g.2.1] at e; cases e), if_neg (fun c => by rw [c, g.g.2.2] at e; cases e), e]
  have gof : ∀ q o, albG G r q = some o → (q = r.p ∧ o = r.ins) ∨ (q = r.av ∧ o = .lst r.xs) ∨ (q = r.al ∧ o = .lst r.ys) ∨ ∃ zs, G q = some (.tup zs) ∧ o = .tup zs := fun q o e => by
    unfold albG at e
    split at e
    · rename_i c; cases e; exact .inl ⟨c, rfl⟩
    · split at e
      · rename_i c; cases e; exact .inr (.inl ⟨c, rfl⟩)
      · split at e
        · rename_i c; cases e; exact .inr (.inr (.inl ⟨c, rfl⟩))
        · split at e
          · rename_i zs c; cases e; exact .inr (.inr (.inr ⟨zs, c, rfl⟩))
          · cases e
  have vwG : Vw (albG G r) H := fun q o e => by
    rcases gof q o e with ⟨rfl, rfl⟩ | ⟨rfl, rfl⟩ | ⟨rfl, rfl⟩ | ⟨zs, h, rfl⟩
    · exact .inl g.hp
    · exact .inl g.hv
    · exact .inl g.hl
    · exact .inl (a.vw.tup h)
  have H0of : ∀ q o, (albB B G H i r).H0 q = some o → B.H0 q = some o ∨ (B.H0 q = none ∧ H q = some o ∧ albG G r q = some o) := fun q o e => by
    have e : (match B.H0 q with
      | some o => some o
      | none => if q = r.p ∨ q = r.av ∨ q = r.al then H q else match G q with
        | some (.tup zs) => some (.tup zs)
        | _ => none) = some o := e
    cases q0 : B.H0 q with
    | some o' => rw [q0] at e; cases e; exact .inl rfl
    | none =>
      rw [q0] at e
      simp only [] at e
      split at e
      · rename_i c
        refine .inr ⟨rfl, e, ?_⟩
        rcases c with rfl | rfl | rfl
        · rw [g.hp] at e; cases e; exact albG_p
        · rw [g.hv] at e; cases e; exact gv
        · rw [g.hl] at e; cases e; exact gl
      · split at e
        · rename_i zs c; cases e; exact .inr ⟨rfl, a.vw.tup c, gt _ _ c⟩
        · cases e
  have H0up : ∀ q o, B.H0 q = some o → (albB B G H i r).H0 q = some o := fun q o e => by
    show (match B.H0 q with
      | some o => some o
      | none => _) = some o
    rw [e]
  have H0g : ∀ q, albG G r q ≠ none → (albB B G H i r).H0 q ≠ none := fun q h => by
    cases q0 : B.H0 q with
    | some o => rw [H0up q o q0]; simp
    | none =>
      show (match B.H0 q with
      | some o => some o
      | none => if q = r.p ∨ q = r.av ∨ q = r.al then H q else match G q with
        | some (.tup zs) => some (.tup zs)
        | _ => none) ≠ none
      rw [q0]
      cases e : albG G r q with
      | none => exact absurd e h
      | some o =>
        rcases gof q o e with ⟨rfl, _⟩ | ⟨rfl, _⟩ | ⟨rfl, _⟩ | ⟨zs, c, _⟩
        · simp only [true_or, if_true]; rw [g.hp]; simp
        · simp only [true_or, or_true, if_true]; rw [g.hv]; simp
        · simp only [or_true, if_true]; rw [g.hl]; simp
        · simp only []
          split
          · rw [a.vw.tup c]; simp
          · rw [c]; simp
  have gio : ∀ k q, (k, q) ∈ B.IO → G q = none := fun k q h => by
    obtain ⟨y1, y2, _, _⟩ := a.iok k q h
    cases q0 : B.H0 q with
    | none => exact absurd q0 y2
    | some o => exact a.leak q o q0 (fun xs c => a.tb.2.2.2.2 k q xs h (by rw [q0, c])) y1
  have nio : ∀ k q, (k, q) ∈ B.IO → albG G r q = none := fun k q h => by
    cases e : albG G r q with
    | none => rfl
    | some o =>
      have y2 := (a.iok k q h).2.1
      rcases gof q o e with ⟨rfl, _⟩ | ⟨rfl, _⟩ | ⟨rfl, _⟩ | ⟨zs, c, _⟩
      · exact absurd g.b.1 y2
      · exact absurd g.b.2.1 y2
      · exact absurd g.b.2.2 y2
      · rw [gio k q h] at c; cases c
  have Boi : (albB B G H i r).Bo i = albG G r := by show (if i = i then _ else _) = _; rw [if_pos rfl]
  have Boj : ∀ j, j ≠ i → (albB B G H i r).Bo j = B.Bo j := fun j c => by show (if j = i then _ else _) = _; rw [if_neg c]
  refine ⟨⟨H0up, a.g0, rfl, Boj, fun q o h t z => a.leak q o h t z, fun q o e => ?_, a.bod, fun k q h => ⟨(a.iok k q h).1, (a.iok k q h).2.1, (a.iok k q h).2.2.1⟩, ⟨a.tb.2.1, a.tb.2.2.2⟩, g.ns, g.b, by rw [Boi]; exact albG_p, by rw [Boi]; exact gv, by rw [Boi]; exact gl, fun q C dx fs e => ?_, g.g, g.ne, g.lx, g.ly⟩, ⟨a.vw, Ext.refl G, fun q o h z => ?_, fun q h => ?_, fun q o h t z => z, fun k q h => ?_, fun j => ?_, fun j q h => ?_, by rw [List.length_set]; exact a.len, fun j s e => ?_, fun j k q e1 e2 => ?_, ⟨a.tb.1, fun b ps e => ?_, a.tb.2.2.1, fun j b ps e => ?_, fun k b xs h e => ?_⟩⟩⟩
  · have h0 := a.bod i q (by rw [e]; simp)
    cases q0 : B.H0 q with
    | none => exact absurd q0 h0
    | some o0 =>
      have n : ∀ k, (k, q) ∉ B.IO := fun k z => by
        have := (a.iok k q z).2.2.1 i
        rw [e] at this; cases this
      refine ⟨o0, rfl, ?_, n⟩
      have h1 := a.keep q o0 q0 n
      rcases a.bo i q o e with h | ⟨h, x, h2⟩
      · rw [h1] at h; exact .inl (Option.some.inj h)
      · rw [h1] at h2; exact .inr ⟨h, x, Option.some.inj h2⟩
  · rw [Boi] at e
    rcases gof q _ e with ⟨h, _⟩ | ⟨_, h⟩ | ⟨_, h⟩ | ⟨zs, _, h⟩
    · exact h
    · cases h
    · cases h
    · cases h
  · rcases H0of q o h with h | ⟨_, h, _⟩
    · exact a.keep q o h z
    · exact h
  · cases q0 : (albB B G H i r).H0 q with
    | none => exact absurd q0 h
    | some o =>
      rcases H0of q o q0 with h | ⟨_, h, _⟩
      · exact a.dom q (by rw [h]; simp)
      · rw [h]; simp
  · obtain ⟨y1, y2, y3, y4⟩ := a.iok k q h
    refine ⟨gio k q h, ?_, fun j => ?_, y4⟩
    · cases q0 : B.H0 q with
      | none => exact absurd q0 y2
      | some o => rw [H0up q o q0]; simp
    · by_cases c : j = i
      · rw [c, Boi]; exact nio k q h
      · rw [Boj j c]; exact y3 j
  · by_cases c : j = i
    · rw [c, Boi]; exact vwG
    · rw [Boj j c]; exact a.bo j
  · by_cases c : j = i
    · rw [c, Boi] at h; exact H0g q h
    · rw [Boj j c] at h
      cases q0 : B.H0 q with
      | none => exact absurd q0 (a.bod j q h)
      | some o => rw [H0up q o q0]; simp
  · rcases get_set e with ⟨rfl, rfl, z⟩ | ⟨c, e⟩
    · refine ⟨_, hσ, .ref r.p, rfl, ?_⟩
      rw [Boi]
      exact .alb g.ns albG_p gv gl g.lx g.ly (rv.tups gt pv) (rl.tups gt pl)
    · obtain ⟨ov, y1, y2⟩ := a.sl j s e
      refine ⟨ov, y1, ?_⟩
      cases s with
      | no => trivial
      | imm d => exact y2
      | own d =>
        obtain ⟨p, z1, z2, z3, z4⟩ := y2
        subst z1
        refine ⟨p, rfl, z2, z3, ?_⟩
        cases q0 : (albB B G H i r).H0 p with
        | none => rfl
        | some o =>
          have oa : OwnAt δ σ j p := ⟨⟨d, .inl e⟩, y1⟩
          rcases H0of p o q0 with h | ⟨_, _, h⟩
          · rw [z4] at h; cases h
          · rcases gof p o h with ⟨rfl, _⟩ | ⟨rfl, _⟩ | ⟨rfl, _⟩ | ⟨zs, c, _⟩
            · exact absurd oa (g.no j).1
            · exact absurd oa (g.no j).2.1
            · exact absurd oa (g.no j).2.2
            · rw [z2] at c; cases c
      | io d => exact y2
      | bor d =>
        obtain ⟨v, z1, z2⟩ := y2
        exact ⟨v, z1, by rw [Boj j (Ne.symm c)]; exact z2⟩
  · exact a.apart j k q (own_set bor_own e1).2 (own_set bor_own e2).2
  · rcases H0of b _ e with h | ⟨_, _, h⟩
    · exact a.tb.2.1 b ps h
    · rcases gof b _ h with ⟨_, c⟩ | ⟨_, c⟩ | ⟨_, c⟩ | ⟨zs, _, c⟩
      · unfold AlbR.ins at c; cases c
      · cases c
      · cases c
      · cases c
  · by_cases c : j = i
    · rw [c, Boi] at e
      rcases gof b _ e with ⟨_, c⟩ | ⟨_, c⟩ | ⟨_, c⟩ | ⟨zs, _, c⟩
      · unfold AlbR.ins at c; cases c
      · cases c
      · cases c
      · cases c
    · rw [Boj j c] at e; exact a.tb.2.2.2.1 j b ps e
  · rcases H0of b _ e with h2 | ⟨h2, _, _⟩
    · exact a.tb.2.2.2.2 k b xs h h2
    · exact (a.iok k b h).2.1 h2
end
end M
set_option Elab.async false
set_option linter.all false
set_option maxRecDepth 100000
set_option maxHeartbeats 1000000
namespace M
open PySem L2 PySem.Spec PyProof.Rows
/-- what is held beside the frame: a relation between what the frame leaves as it was and what it leaves as it was for now -/
abbrev Kd := Bs → Bs → Hp → Prop
structure RegK (K : PySem.W.Frag) (i : Nat) (κ : Kd) : Prop where
  mono : ∀ {B B1 G G'}, κ B B1 G → Ext G G' → κ B B1 G'
  exit : ∀ {B B1 G δ σ H}, κ B B1 G → At K B1 G δ σ H → At K B G (δ.set i .no) σ H
  h0 : ∀ {B B1 G p o}, κ B B1 G → B.H0 p = some o → B1.H0 p = some o
def kAlb (K : PySem.W.Frag) (i : Nat) : Kd := fun B B1 G => ∃ r, Inn K B B1 i r ∧ ∀ a zs, B1.Bo i a = some (.tup zs) → G a = some (.tup zs)
theorem reg_alb {K : PySem.W.Frag} {i : Nat} : RegK K i (kAlb K i) := ⟨fun ⟨r, n, t⟩ x => ⟨r, n, fun a zs e => x _ _ (t a zs e)⟩, fun ⟨r, n, t⟩ a => (a.exit n).1, fun ⟨r, n, t⟩ e => n.h0 _ _ e⟩
def PostR (K : PySem.W.Frag) (κ : Kd) (B : Bs) (i : Nat) (G : Hp) (Dn : Ends) (r : Except Exn Out) (δ' : Env) : Prop := match r with
  | .error _ => False
  | .ok .nx => ∀ B1 G' σ' H', κ B B1 G' → At K B1 G' δ' σ' H' → Ext G G' → Dn.nx σ' H'
  | .ok .bk => ∀ B1 G' σ' H', κ B B1 G' → At K B1 G' δ' σ' H' → Ext G G' → Dn.bk σ' H'
  | .ok .ct => ∀ B1 G' σ' H', κ B B1 G' → At K B1 G' δ' σ' H' → Ext G G' → Dn.ct σ' H'
  | .ok (.rt d) => ∀ G' σ' H', At K B G' (δ'.set i .no) σ' H' → Ext G G' → ∀ v, R K G' v d → Dn.rt v H'
  | .ok (.rtO d) => ∀ G' σ' H', At K B G' (δ'.set i .no) σ' H' → Ext G G' → ∀ p, Fr1 K B G' (δ'.set i .no) σ' H' p d → Dn.rt (.ref p) H'
theorem PostR.mono {K : PySem.W.Frag} {κ : Kd} {B : Bs} {i : Nat} {G G1 : Hp} {Dn : Ends} {r : Except Exn Out} {δ' : Env} (h : PostR K κ B i G Dn r δ') (e : Ext G G1) : PostR K κ B i G1 Dn r δ' := by
  cases r with
  | error x => exact h
  | ok o => cases o with
    | nx => exact fun B1 G' σ' H' n a1 e1 => h B1 G' σ' H' n a1 (e.trans e1)
    | bk => exact fun B1 G' σ' H' n a1 e1 => h B1 G' σ' H' n a1 (e.trans e1)
    | ct => exact fun B1 G' σ' H' n a1 e1 => h B1 G' σ' H' n a1 (e.trans e1)
    | rt d => exact fun G' σ' H' a1 e1 => h G' σ' H' a1 (e.trans e1)
    | rtO d => exact fun G' σ' H' a1 e1 => h G' σ' H' a1 (e.trans e1)
def tSR (K : PySem.W.Frag) (κ : Kd) (i : Nat) (S : Mo Out) : TS := fun Dn σ H => ∃ B B1 G δ r δ', κ B B1 G ∧ At K B1 G δ σ H ∧ S δ = some (r, δ') ∧ PostR K κ B i G Dn r δ'
def DSR (X : Cx) (κ : Kd) (i : Nat) (st : Stmt) (S : Mo Out) : Prop := PS X st (tSR X.K κ i S)
def DSRs (X : Cx) (κ : Kd) (i : Nat) (st : List Stmt) (S : Mo Out) : Prop := PSs X st (tSR X.K κ i S)
section
variable {X : Cx} {κ : Kd} {i : Nat} {st : Stmt} {rest : List Stmt} {e c tg : Expr} {pos : Pos} {E : Mo D} {T : Mo Bool} {S S' : Mo Out}
/-- a statement that leaves the album as it is -/
theorem dsr_of (hk : RegK X.K i κ) (h : DS X W0 st S) : DSR X κ i st S := PS.weak h fun Dn σ H ⟨B, B1, G, δ, r, δ', n, a, e1, post⟩ => by
  refine ⟨B1, G, δ, r, δ', a, e1, ?_⟩
  cases r with
  | error x => exact absurd post id
  | ok o => cases o with
    | nx => exact fun G' σ' H' a' x' => post B1 G' σ' H' (hk.mono n x') a' x'
    | bk => exact fun G' σ' H' a' x' => post B1 G' σ' H' (hk.mono n x') a' x'
    | ct => exact fun G' σ' H' a' x' => post B1 G' σ' H' (hk.mono n x') a' x'
    | rt d => exact fun G' σ' H' a' x' => post G' σ' H' (hk.exit (hk.mono n x') a') x'
    | rtO d =>
      refine fun G' σ' H' a' x' p ⟨w1, w2, w3, w4⟩ => post G' σ' H' (hk.exit (hk.mono n x') a') x' p ⟨w1, ?_, fun j z => w3 j (own_set no_own z).2, w4⟩
      cases q : B.H0 p with
      | none => rfl
      | some o => rw [hk.h0 n q] at w2; cases w2
theorem dsrs_nil : DSRs X κ i [] sNx := PSs.weak pss_nil fun Dn σ H ⟨B, B1, G, δ, r, δ', n, a, e1, post⟩ => by
  cases e1; exact post B1 G σ H n a (Ext.refl _)
theorem dsrs_one (h : DSR X κ i st S) : DSRs X κ i [st] S := pss_one h
theorem dsrs_cons (h : DSR X κ i st S) (h' : DSRs X κ i rest S') : DSRs X κ i (st :: rest) (sSeq S S') := PSs.weak (pss_cons h h') fun Dn σ H ⟨B, B1, G, δ, r, δ', n, a, e1, post⟩ => by
  unfold sSeq at e1
  cases q : S δ with
  | none => rw [q] at e1; cases e1
  | some z =>
    obtain ⟨x, δ1⟩ := z
    rw [q] at e1
    cases x with
    | error x => cases e1; exact ⟨B, B1, G, δ, .error x, _, n, a, q, post⟩
    | ok o =>
      cases o with
      | nx => exact ⟨B, B1, G, δ, .ok .nx, δ1, n, a, q, fun B2 G1 σ1 H1 n1 a1 x1 => ⟨B, B2, G1, δ1, r, δ', n1, a1, e1, post.mono x1⟩⟩
      | bk => cases e1; exact ⟨B, B1, G, δ, .ok .bk, _, n, a, q, post⟩
      | ct => cases e1; exact ⟨B, B1, G, δ, .ok .ct, _, n, a, q, post⟩
      | rt d => cases e1; exact ⟨B, B1, G, δ, .ok (.rt d), _, n, a, q, post⟩
      | rtO d => cases e1; exact ⟨B, B1, G, δ, .ok (.rtO d), _, n, a, q, post⟩
theorem tT_bindR {K : PySem.W.Frag} {B B1 : Bs} {G H : Hp} {δ δ' : Env} {σ : St} {r : Except Exn Out} {Dn : Ends} {k : Bool → Mo Out} {Q : Bool → Hp → Prop} (a : At K B1 G δ σ H) (h : Mo.bind T k δ = some (r, δ')) (post : PostR K κ B i G Dn r δ')
    (q : ∀ H1 G1 δ1 d, At K B1 G1 δ1 σ H1 → Ext G G1 → k d δ1 = some (r, δ') → PostR K κ B i G1 Dn r δ' → Q d H1) : tT K W0 T σ H Q := by
  unfold Mo.bind at h
  cases e : T δ with
  | none => rw [e] at h; cases h
  | some z =>
    obtain ⟨x, δ1⟩ := z
    rw [e] at h
    cases x with
    | error x => cases h; exact absurd post id
    | ok d => exact ⟨B1, G, δ, .ok d, δ1, a, e, fun G1 H1 a1 e1 => q H1 G1 δ1 d a1 e1 h (post.mono e1)⟩
theorem tE_bindR {K : PySem.W.Frag} {B B1 : Bs} {G H : Hp} {δ δ' : Env} {σ : St} {r : Except Exn Out} {Dn : Ends} {k : D → Mo Out} {Q : VK} (a : At K B1 G δ σ H) (h : Mo.bind E k δ = some (r, δ')) (post : PostR K κ B i G Dn r δ')
    (q : ∀ v H1 G1 δ1 d, At K B1 G1 δ1 σ H1 → Ext G G1 → R K G1 v d → k d δ1 = some (r, δ') → PostR K κ B i G1 Dn r δ' → Q v H1) : tE K W0 E σ H Q := by
  unfold Mo.bind at h
  cases e : E δ with
  | none => rw [e] at h; cases h
  | some z =>
    obtain ⟨x, δ1⟩ := z
    rw [e] at h
    cases x with
    | error x => cases h; exact absurd post id
    | ok d => exact ⟨B1, G, δ, .ok d, δ1, a, e, fun G1 H1 a1 e1 v rv => q v H1 G1 δ1 d a1 e1 rv h (post.mono e1)⟩
theorem dsr_if (hk : RegK X.K i κ) {a b : List Stmt} (hc : DT X W0 c T) (ha : DSRs X κ i a S) (hb : DSRs X κ i b S') : DSR X κ i (.If c a b pos) (sIf T S S') := PS.weak (ps_if hc ha hb) fun Dn σ H ⟨B, B1, G, δ, r, δ', n, a, e1, post⟩ => by
  refine tT_bindR a e1 post fun H1 G1 δ1 d a1 x1 e2 post => ?_
  cases d with
  | true => rw [if_pos rfl] at e2 ⊢; exact ⟨B, B1, G1, δ1, r, δ', hk.mono n x1, a1, e2, post⟩
  | false => rw [if_neg Bool.false_ne_true] at e2 ⊢; exact ⟨B, B1, G1, δ1, r, δ', hk.mono n x1, a1, e2, post⟩
def tIR (K : PySem.W.Frag) (I : Mo (List D)) : TI := fun σ H R' => ∃ B G δ r δ', At K B G δ σ H ∧ I δ = some (r, δ') ∧ Post K W0 B G σ r δ' (fun ds G' H' => ∀ J, (∀ B', Yl K B' J G' ds) → R' J H')
def DIR (X : Cx) (tg e : Expr) (I : Mo (List D)) : Prop := PI X tg e (tIR X.K I)
theorem dir_of (h : DE X W0 e E) : DIR X tg e (iOf E) :=
  let h1 := PI.or (PI.or (pi_list (tg := tg) h) (pi_tup (tg := tg) h)) (pi_str (tg := tg) h)
  ⟨fun pins s σ H R' I ⟨B, G, δ, r, δ', a, e1, post⟩ => h1.run pins s σ H R' I (by
    unfold iOf Mo.bind at e1
    cases q : E δ with
    | none => rw [q] at e1; cases e1
    | some z =>
      obtain ⟨x, δ1⟩ := z
      rw [q] at e1
      cases x with
      | error x => cases e1; exact .inl (.inl ⟨B, G, δ, .error x, _, a, q, post⟩)
      | ok d =>
        obtain ⟨ds, hz, hr⟩ := lift_some e1
        cases hr
        cases d with
        | lst l =>
          cases hz
          refine .inl (.inl ⟨B, G, δ, .ok (.lst _), _, a, q, fun G1 H1 a1 x1 v rv => ?_⟩)
          cases rv with
          | lst g hl rl => exact ⟨_, rfl, ⟨_, SqL.of (a1.vw.lst g)⟩, post G1 H1 a1 x1 _ (fun B' => yl_list (SqL.of g) rl)⟩
        | tup l =>
          cases hz
          refine .inl (.inr ⟨B, G, δ, .ok (.tup _), _, a, q, fun G1 H1 a1 x1 v rv => ?_⟩)
          cases rv with
          | tup g hl rl => exact ⟨_, rfl, ⟨_, SqT.of (a1.vw.tup g)⟩, post G1 H1 a1 x1 _ (fun B' => yl_tup g rl)⟩
        | scr l =>
          cases hz
          refine .inl (.inl ⟨B, G, δ, .ok (.scr _), _, a, q, fun G1 H1 a1 x1 v rv => ?_⟩)
          cases rv with
          | scr g hl rl => exact ⟨_, rfl, ⟨_, a1.vw.sql g⟩, post G1 H1 a1 x1 _ (fun B' => yl_list g rl)⟩
        | str x =>
          cases hz
          refine .inr ⟨B, G, δ, .ok (.str x), _, a, q, fun G1 H1 a1 x1 v rv => ?_⟩
          cases rv with
          | str => exact ⟨_, rfl, post G1 H1 a1 x1 _ (fun B' => yl_str)⟩
        | _ => cases hz)⟩
theorem dir_rg1 {a : Expr} {A : Mo (List Ag)} {p pos : Pos} (hg : Gl X "range") (hm : X.mg "range" = none) (ha : DA X W0 [a] A) (hs : starEach [a] X.env = [(false, eval a X.env)] := by rfl) : DIR X tg (.Call (.Name "range" p) [a] [] pos) (iRg rg1 A) :=
  let h1 := pi_range1 (tg := tg) (pos := pos) (p := p) hg hm ha hs
  ⟨fun pins s σ H R' I ⟨B, G, δ, r, δ', a, e1, post⟩ => h1.run pins s σ H R' I (by
    refine tA_bind a e1 post fun vs H1 G1 δ1 as a1 x1 r1 e2 post => ?_
    obtain ⟨z, hz, hr⟩ := lift_some e2
    cases hr
    cases q : imms as with
    | none => rw [q] at hz; cases hz
    | some ds =>
      rw [q] at hz
      have r2 := imms_ok r1 q
      unfold rg1 at hz
      rw [Option.bind_some] at hz
      split at hz
      · split at hz
        · rename_i j hj
          cases hz
          cases r2 with
          | cons ra rb =>
            cases ra; cases rb
            exact ⟨j, rfl, by omega, by omega, post G1 H1 a1 (Ext.refl _) _ (fun B' => yl_rng)⟩
        · cases hz
      · cases hz)⟩
theorem tForR_at {K : PySem.W.Frag} (hk : RegK K i κ) {B B1 : Bs} {G1 : Hp} {δ1 δ' : Env} {J : It} {ds : List D} {r : Except Exn Out} {sl : List Nat} {T : D → Mo Unit} (hT : Calm T) {Dn : Ends} {σ : St} {H1 : Hp} (n1 : κ B B1 G1) (a1 : At K B1 G1 δ1 σ H1) (yl : ∀ B', Yl K B' J G1 ds) (e2 : forM T S ds δ1 = some (r, δ')) (post : PostR K κ B i G1 Dn r δ') : tFor (wiJ J) (tG K sl T) (tSR K κ i S) Dn σ H1 := by
  refine ⟨fun k m σ2 H2 => m + k = ds.length ∧ ∃ B2 G2 δ2, κ B B2 G2 ∧ At K B2 G2 δ2 σ2 H2 ∧ Ext G1 G2 ∧ forM T S (ds.drop k) δ2 = some (r, δ'), ⟨ds.length, by omega, B1, G1, δ1, n1, a1, Ext.refl _, e2⟩, ?_⟩
  rintro k m σ2 H2 ⟨hm, B2, G2, δ2, n2, a2, x2, e3⟩
  obtain ⟨y1, y2⟩ := yl B2 B2 G2 H2 δ2 σ2 (BLe.refl B2) a2 x2 k
  by_cases hi : ds.length ≤ k
  · refine .inl ⟨y2 hi, ?_⟩
    rw [List.drop_eq_nil_of_le hi] at e3
    cases e3
    exact post B2 G2 σ2 H2 n2 a2 x2
  · have hlt : k < ds.length := by omega
    obtain ⟨g1, g2⟩ := y1 ds[k] (List.getElem?_eq_getElem hlt)
    rw [List.drop_eq_getElem_cons hlt] at e3
    refine .inr ⟨g1, fun σ' H' => ∃ m', m' < m ∧ (m' + (k + 1) = ds.length ∧ ∃ B2 G2 δ2, κ B B2 G2 ∧ At K B2 G2 δ2 σ' H' ∧ Ext G1 G2 ∧ forM T S (ds.drop (k + 1)) δ2 = some (r, δ')), fun σ' H' z => z, fun x H' hy => ?_⟩
    obtain ⟨rfl, G3, a3, x3, r3⟩ := g2 x H' hy
    unfold forM Mo.bind at e3
    cases q : T ds[k] δ2 with
    | none => rw [q] at e3; cases e3
    | some z =>
      obtain ⟨u, δ3⟩ := z
      rw [q] at e3
      cases u with
      | error u => exact absurd q (hT _ _ _ _)
      | ok u =>
        refine ⟨B2, G3, δ2, ds[k], δ3, a3, r3, q, fun σ4 a4 _ => ?_⟩
        have n3 := hk.mono n2 x3
        cases q2 : S δ3 with
        | none => simp only [q2] at e3; cases e3
        | some z =>
          obtain ⟨u, δ4⟩ := z
          simp only [q2] at e3
          have x13 := x2.trans x3
          cases u with
          | error u => cases e3; exact absurd post id
          | ok o =>
            cases o with
            | nx => exact ⟨B, B2, G3, δ3, .ok .nx, δ4, n3, a4, q2, fun B5 G5 σ5 H5 n5 a5 x5 => ⟨m - 1, by omega, by omega, B5, G5, δ4, n5, a5, x13.trans x5, e3⟩⟩
            | ct => exact ⟨B, B2, G3, δ3, .ok .ct, δ4, n3, a4, q2, fun B5 G5 σ5 H5 n5 a5 x5 => ⟨m - 1, by omega, by omega, B5, G5, δ4, n5, a5, x13.trans x5, e3⟩⟩
            | bk => cases e3; exact ⟨B, B2, G3, δ3, .ok .bk, _, n3, a4, q2, fun B5 G5 σ5 H5 n5 a5 x5 => post B5 G5 σ5 H5 n5 a5 (x13.trans x5)⟩
            | rt d => cases e3; exact ⟨B, B2, G3, δ3, .ok (.rt d), _, n3, a4, q2, post.mono x13⟩
            | rtO d => cases e3; exact ⟨B, B2, G3, δ3, .ok (.rtO d), _, n3, a4, q2, post.mono x13⟩
theorem dsr_for (hk : RegK X.K i κ) {iter : Expr} {body : List Stmt} {I : Mo (List D)} {sl : List Nat} {T : D → Mo Unit} (hp : PassesOwn (model X.prog X.w) X.A X.env X.xe) (hc : X.calm = true) (hT : Calm T) (hi : DIR X tg iter I) (hg : DG X tg sl T) (hb : DSRs X κ i body S)
    (hs : ∀ x, foldedSetIterable iter X.env x = pure x := by intro _; rfl) : DSR X κ i (.For tg iter body [] pos) (sFor I T S) := PS.weak (ps_for hp hc hi hg hb hs) fun Dn σ H ⟨B, B1, G, δ, r, δ', n, a, e1, post⟩ => by
  have e1 : Mo.bind I (fun ds => forM T S ds) δ = some (r, δ') := e1
  unfold Mo.bind at e1
  cases e : I δ with
  | none => rw [e] at e1; cases e1
  | some z =>
    obtain ⟨x, δ1⟩ := z
    rw [e] at e1
    cases x with
    | error x => cases e1; exact absurd post id
    | ok ds => exact ⟨B1, G, δ, .ok ds, δ1, a, e, fun G1 H1 a1 x1 J yl => tForR_at hk hT (hk.mono n x1) a1 yl e1 (post.mono x1)⟩
theorem alb_bor {K : PySem.W.Frag} {B B1 : Bs} {r : AlbR} (n : Inn K B B1 i r) {v : V} {vs ls : List D} (q : R K (B1.Bo i) v (.alb vs ls)) : v = .ref r.p ∧ RL K (B1.Bo i) r.xs vs ∧ RL K (B1.Bo i) r.ys ls := by
  cases q with
  | alb c h1 h2 h3 l1 l2 r1 r2 =>
    have e := n.uq _ _ _ _ h1
    subst e
    rw [n.ip] at h1
    unfold AlbR.ins at h1
    cases h1
    rw [n.iv] at h2; cases h2
    rw [n.il] at h3; cases h3
    exact ⟨rfl, r1, r2⟩
/-- return of the album -/
def sRetAlb (i : Nat) : Mo Out := fun δ => match albSl δ i with
  | some (vs, ls) => if (pureDs vs && pureDs ls) = true then some (.ok (.rt (.alb vs ls)), δ) else none
  | none => none
theorem At.fix3 {K : PySem.W.Frag} {B : Bs} {G H : Hp} {δ : Env} {σ : St} {r : AlbR} (a : At K B G δ σ H) (g : AlbAt K B G δ σ H r) : ∃ G', At K B G' δ σ H ∧ Ext G G' ∧ G' r.p = some r.ins ∧ G' r.av = some (.lst r.xs) ∧ G' r.al = some (.lst r.ys) := by
  have np : r.p ≠ r.av := fun c => by have := g.hp; rw [c, g.hv] at this; unfold AlbR.ins at this; cases this
  have nq : r.p ≠ r.al := fun c => by have := g.hp; rw [c, g.hl] at this; unfold AlbR.ins at this; cases this
  have a1 := a.fix g.hp g.g.1 g.b.1 (fun j => (g.no j).1) (fun ps c => by unfold AlbR.ins at c; cases c)
  have a2 := a1.fix g.hv (by rw [upd_ne (Ne.symm np)]; exact g.g.2.1) g.b.2.1 (fun j => (g.no j).2.1) (fun ps c => by cases c)
  have a3 := a2.fix g.hl (by rw [upd_ne (Ne.symm g.ne), upd_ne (Ne.symm nq)]; exact g.g.2.2) g.b.2.2 (fun j => (g.no j).2.2) (fun ps c => by cases c)
  refine ⟨_, a3, ((Ext.new g.g.1).trans (Ext.new (by rw [upd_ne (Ne.symm np)]; exact g.g.2.1))).trans (Ext.new (by rw [upd_ne (Ne.symm g.ne), upd_ne (Ne.symm nq)]; exact g.g.2.2)), ?_, ?_, upd_same⟩
  · rw [upd_ne nq, upd_ne np, upd_same]
  · rw [upd_ne g.ne, upd_same]
theorem dsr_retA (ho : PE X e (tVar i)) : DSR X (kAlb X.K i) i (.Return (some e) pos) (sRetAlb i) := PS.weak (ps_ret ho) fun Dn σ H ⟨B, B1, G, δ, r, δ', ⟨rr, n1, n2⟩, a, e1, post⟩ => by
  unfold sRetAlb at e1
  split at e1
  · rename_i vs ls q
    split at e1
    · rename_i hp
      rw [Bool.and_eq_true] at hp
      cases e1
      obtain ⟨v, h1, r0⟩ := a.bor (albSl_ok q)
      obtain ⟨rfl, r1, r2⟩ := alb_bor n1 r0
      obtain ⟨a2, g2⟩ := a.exit n1
      obtain ⟨G3, a3, x3, g3, g4, g5⟩ := a2.fix3 g2
      have s1 := (r1.tups n2 hp.1).mono x3
      have s2 := (r2.tups n2 hp.2).mono x3
      exact ⟨_, h1, post G3 σ H a3 x3 _ (.alb n1.ns g3 g4 g5 n1.lx n1.ly s1 s2)⟩
    · cases e1
  · cases e1
end
end M
set_option Elab.async false
set_option linter.all false
set_option maxRecDepth 100000
set_option maxHeartbeats 1000000
namespace M
open PySem L2 PySem.Spec PyProof.Rows
theorem nt_ins {C dx : Addr} {fs : List (Str × V)} : NT (.ins C dx fs) := ⟨fun _ e => (by cases e), fun _ e => (by cases e), fun _ _ e => (by unfold LamX.CodeO at e; cases e)⟩
section
variable {K : PySem.W.Frag} {B : Bs} {G H : Hp} {δ : Env} {σ : St} {p : Addr} {o : HO}
/-- an object that nobody knows is changed -/
theorem At.poke (a : At K B G δ σ H) (h : H p = some o) (nt : NT o) (g : G p = none) (b : B.H0 p = none) (no : ∀ j, ¬ OwnAt δ σ j p) (o' : HO) : At K B G δ σ (upd H p o') :=
  ((a.add nt h g no).drop (a.out1 b g) nt).2.2.2 o'
end
def spInit (C : Addr) : Sp := fun vs H Q _ => ∃ x dx, vs = [.ref x] ∧ H x = some (.ins C dx []) ∧ ∀ av al, H av = none → upd (upd H av (.lst [])) x (.ins C dx [("_views", .ref av)]) al = none →
  Q .non (upd (upd (upd (upd H av (.lst [])) x (.ins C dx [("_views", .ref av)])) al (.lst [])) x (.ins C dx [("_views", .ref av), ("_links", .ref al)]))
theorem init_t {K : PySem.W.Frag} {C : Addr} (TA : AlbK K C) {N : List Str} {vs : List V} {H : Hp} {Q : VK} {E : XK} (hN : 0 < N.length) (h : spInit C vs H Q E) :
    tSeq (sFld K (tVar 0) (tLst tNil) "_views") (sFld K (tVar 0) (tLst tNil) "_links") { nx := fun _ H' => Q .non H', rt := Q } (L2.start N vs) H := by
  obtain ⟨x, dx, rfl, hx, k⟩ := h
  have h0 : (L2.start N [.ref x])[0]? = some (some (.ref x)) := by unfold L2.start; rfl
  refine ⟨Nat.zero_le _, fun av hav => ⟨_, h0, x, C, dx, [], rfl, ?_, TA.cls, TA.nv, by decide, ?_⟩⟩
  · rw [upd_ne (ne_of_none hx hav)]; exact hx
  · refine ⟨Nat.zero_le _, fun al hal => ⟨_, h0, x, C, dx, [("_views", .ref av)], rfl, ?_, TA.cls, TA.nl, (by show 1 < 1000; omega), ?_⟩⟩
    · rw [upd_ne (ne_of_none upd_same hal)]; exact upd_same
    · exact k av al hav hal
theorem init_len {C : Addr} : ∀ vs H Q E, spInit C vs H Q E → vs.length = (["self"] : List Str).length := fun vs H Q E ⟨_, _, h, _⟩ => by rw [h]; rfl
/-- x = Album(), and what stands behind it -/
def sAlb (i : Nat) (S : Mo Out) : Mo Out := fun δ => if i < δ.length then match S (δ.set i (.bor (.alb [] []))) with
    | some (.ok o, δ') => some (.ok o, δ'.set i .no)
    | _ => none
  else none
section
variable {X : Cx} {i k : Nat} {st : Stmt} {rest : List Stmt} {e : Expr} {p p' pos spos : Pos} {E : Mo D} {S S' : Mo Out} {C f : Addr} {fd : FuncData} {y : Str}
theorem own_forget {δ : Env} {σ : St} {v : Option V} {j : Nat} {q : Addr} (z : OwnAt (δ.set i .no) (σ.set i v) j q) : OwnAt δ σ j q := by
  obtain ⟨c, ⟨d, z1⟩, z2⟩ := own_set no_own z
  rw [List.getElem?_set_ne c] at z2
  exact ⟨⟨d, z1⟩, z2⟩
theorem At.clear {K : PySem.W.Frag} {B : Bs} {G H : Hp} {δ : Env} {σ : St} (a : At K B G δ σ H) (v : Option V) : At K B G (δ.set i .no) (σ.set i v) H :=
  a.forget (by rw [List.length_set, List.length_set]; exact a.len) fun j s q => by
    rcases get_set q with ⟨rfl, rfl, _⟩ | ⟨c, q⟩
    · exact .inl rfl
    · exact .inr ⟨q, List.getElem?_set_ne c⟩
theorem dss_alb (TA : AlbK X.K C) (MM : Mk X.K C f) (F : FnOk X.prog X.w X.K X.mg X.base CX0 k f fd ["self"] (spInit C)) (hr : Room (k + 1) X.A) (hg : Gl X "Album") (hm : X.mg "Album" = some (.ref C)) (hb : Binds X.K fd ["self"] [])
    (hN : X.N.Nodup) (hi : X.N[i]? = some y) (hx : Loc X.env.scope y) (hrest : DSRs X (kAlb X.K i) i rest S) (hs : swapsWith (.Call (.Name "Album" p) [] [] pos) (some (.Name y p')) spos.line X.env = pure false := by rfl)
    (hf : X.fn y = true ∨ X.env.scope.names.lookup y = some .local := by first | exact .inl rfl | exact .inr rfl | assumption) : DSs X W0 (.Assign [.Name y p'] (.Call (.Name "Album" p) [] [] pos) spos :: rest) (sAlb i S) :=
  PSs.weak (pss_cons (ps_set hN hi hx (pe_make0 (E := E0) MM F hr hg hm hb .nil pass0) hs hf) hrest) fun Dn σ H ⟨B, G, δ, r, δ', a, e1, post⟩ => by
  show ∀ x dx, H x = none → H dx = none → dx ≠ x → _
  intro x dx hx hdx hne
  refine ⟨x, dx, rfl, upd_same, fun av al hav hal => ⟨rfl, ?_⟩⟩
  -- the objects
  have a1 := a.alloc (o := .own x) hdx
  have hx1 : upd H dx (.own x) x = none := by rw [upd_ne (Ne.symm hne)]; exact hx
  have a2 := a1.alloc (o := .ins C dx []) hx1
  have b2 := a1.fresh0 hx1
  have g2 := a1.vw.none hx1
  have n2 := a1.noOwn hx1
  have a3 := a2.alloc (o := .lst []) hav
  have b3 := a2.fresh0 hav
  have g3 := a2.vw.none hav
  have n3 := a2.noOwn hav
  have cav : x ≠ av := ne_of_none upd_same hav
  have a4 := a3.poke (p := x) (o := .ins C dx []) (by rw [upd_ne cav]; exact upd_same) nt_ins g2 b2 n2 (.ins C dx [("_views", .ref av)])
  have a5 := a4.alloc (o := .lst []) hal
  have b5 := a4.fresh0 hal
  have g5 := a4.vw.none hal
  have n5 := a4.noOwn hal
  have cal : x ≠ al := ne_of_none upd_same hal
  have cva : av ≠ al := by
    refine ne_of_none (o := .lst []) ?_ hal
    rw [upd_ne (Ne.symm cav)]; exact upd_same
  have a6 := a5.poke (p := x) (o := .ins C dx [("_views", .ref av)]) (by rw [upd_ne cal]; exact upd_same) nt_ins g2 b2 n2 (.ins C dx [("_views", .ref av), ("_links", .ref al)])
  have a7 := a6.clear (i := i) (some (.ref x))
  unfold sAlb at e1
  split at e1
  · rename_i hi
    have hl : i < σ.length := by rw [← a.len]; exact hi
    have g : AlbAt X.K B G (δ.set i .no) (σ.set i (some (.ref x))) (upd (upd (upd (upd (upd (upd H dx (.own x)) x (.ins C dx [])) av (.lst [])) x (.ins C dx [("_views", .ref av)])) al (.lst [])) x (.ins C dx [("_views", .ref av), ("_links", .ref al)])) ⟨x, C, dx, av, al, [], []⟩ := ⟨TA.ns, upd_same, by show upd _ x _ av = _; rw [upd_ne (Ne.symm cav), upd_ne cva, upd_ne (Ne.symm cav)]; exact upd_same, by show upd _ x _ al = _; rw [upd_ne (Ne.symm cal)]; exact upd_same, ⟨g2, g3, g5⟩, ⟨b2, b3, b5⟩, fun j => ⟨fun z => n2 j (own_forget z), fun z => n3 j (own_forget z), fun z => n5 j (own_forget z)⟩, cva, Nat.zero_le _, Nat.zero_le _⟩
    obtain ⟨n8, a8⟩ := a7.enter (i := i) g (List.getElem?_set_self hi) (List.getElem?_set_self hl) (vs := []) (ls := []) .nil (by unfold pureDs; rfl) .nil (by unfold pureDs; rfl)
    rw [List.set_set] at a8
    split at e1
    · rename_i o δ1 q
      cases e1
      have lv : ∀ {B1 G' σ' H'}, kAlb X.K i B B1 G' → At X.K B1 G' δ1 σ' H' → At X.K B G' (δ1.set i .no) σ' H' := fun ⟨rr, m, _⟩ a' => (a'.exit m).1
      refine ⟨B, _, G, _, .ok o, δ1, ⟨_, n8, fun q zs e => ?_⟩, a8, q, ?_⟩
      · have e : (if i = i then albG G _ else B.Bo i) q = some (.tup zs) := e
        rw [if_pos rfl] at e
        unfold albG at e
        split at e
        · cases e
        · split at e
          · cases e
          · split at e
            · cases e
            · split at e
              · rename_i c; cases e; exact c
              · cases e
      · cases o with
        | nx => exact fun B1 G' σ' H' n a' x' => post G' σ' H' (lv n a') x'
        | bk => exact fun B1 G' σ' H' n a' x' => post G' σ' H' (lv n a') x'
        | ct => exact fun B1 G' σ' H' n a' x' => post G' σ' H' (lv n a') x'
        | rt d => exact post
        | rtO d => exact post
    · cases e1
  · cases e1
end
def eLenF (i : Nat) (b : Bool) : Mo D := fun δ => match albSl δ i with
  | some (vs, ls) => some (.ok (.int ((fldL b vs ls).length : Nat)), δ)
  | none => none
theorem de_lenF {X : Cx} {W : WK} {o : Expr} {x f : Str} {p pos apos : Pos} {C : Addr} {i : Nat} {b : Bool} (TA : AlbK X.K C) (hf : f = fldN b) (hg : Gl X x) (hm : X.mg x = none) (hv : bootBuiltins x = some (.builtin "len")) (ho : PE X o (tVar i)) (hb : attributeBase o f X.env (eval o X.env) = eval o X.env := by rfl)
    (hn : x ≠ "__name__" := by decide) (hdb : (x == ("__debug__" : Str)) = false := by decide)
    (he : starEach [.Attribute o f apos] X.env = (false, eval (.Attribute o f apos) X.env) :: starEach [] X.env := by rfl) (hpl : (backTo pos (starEach [] X.env)).any (·.1) = false := by rfl) :
    DE X W (.Call (.Name x p) [.Attribute o f apos] [] pos) (eLenF i b) :=
  PE.weak (pe_callB call_lenA hg hm hv (pa_cons (pe_fld ho hb) pa_nil he) hn hdb he hpl) fun σ H Q ⟨B, G, δ, r, δ', a, e1, post⟩ => by
    unfold eLenF at e1
    split at e1
    · rename_i vs ls q
      cases e1
      obtain ⟨v, qa, xs, h1, ⟨pa, C', dx, fs, u, h2, h3, h4, h5, h6, h7⟩, h8, h9, hl, h10⟩ := fld_at TA hf a q
      subst h7
      refine ⟨v, h1, pa, C', dx, fs, .ref qa, h2, h3, h4, h5, h6, ?_⟩
      refine ⟨.ref qa, (fldL b vs ls).length, rfl, .inl (.inl ⟨xs, SqL.of h9, by rw [h10.length]⟩), post G H a (Ext.refl _) _ (.int _)⟩
    · cases e1
def fldX (b : Bool) (x y : List V) : List V := match b with | true => x | false => y
def fldA (b : Bool) (x y : Addr) : Addr := match b with | true => x | false => y
/-- behind the tests: the value is hung on -/
def AddK (K : PySem.W.Frag) (B : Bs) (b : Bool) (G : Hp) (δ1 : Env) (d0 : D) (Q : St → Hp → Prop) : Prop := ∀ G' σ' H' p av al dx C xs ys v, At K B G' δ1 σ' H' → Ext G G' → B.Bo 0 p = some (.ins C dx [("_views", .ref av), ("_links", .ref al)]) → B.Bo 0 av = some (.lst xs) → B.Bo 0 al = some (.lst ys) → R K G' v d0 →
  Q σ' (upd H' (fldA b av al) (.lst (fldX b xs ys ++ [v])))
def tAdd (K : PySem.W.Frag) (b : Bool) (Pm : Mo Out) : TS := fun Dn σ H => ∃ B G δ δ1 vs ls d0, At K B G δ σ H ∧ Pm δ = some (.ok .nx, δ1) ∧ δ1[0]? = some (.bor (.alb vs ls)) ∧ δ1[1]? = some (.imm d0) ∧ (fldL b vs ls).length < sizeLine ∧ AddK K B b G δ1 d0 Dn.nx
section
variable {X : Cx} {st : Stmt} {rest : List Stmt} {o e : Expr} {f m : Str} {C fa : Addr} {fd : FuncData} {b : Bool} {S Pm : Mo Out} {pos apos cpos mpos spos : Pos} {i k N : Nat} {E : Mo D} {ps : List Str}
theorem padd_cons (h : DS X W0 st S) (h' : PSs X rest (tAdd X.K b Pm)) : PSs X (st :: rest) (tAdd X.K b (sSeq S Pm)) := PSs.weak (pss_cons h h') fun Dn σ H ⟨B, G, δ, δ1, vs, ls, d0, a, e1, h0, h1, hl, k⟩ => by
  unfold sSeq at e1
  cases q : S δ with
  | none => rw [q] at e1; cases e1
  | some z =>
    obtain ⟨x, δ2⟩ := z
    rw [q] at e1
    cases x with
    | error x => cases e1
    | ok o' =>
      cases o' with
      | nx => exact ⟨B, G, δ, .ok .nx, δ2, a, q, fun G1 σ1 H1 a1 x1 => ⟨B, G1, δ2, δ1, vs, ls, d0, a1, e1, h0, h1, hl, fun G' σ' H' p av al dx C xs ys v a' x' => k G' σ' H' p av al dx C xs ys v a' (x1.trans x')⟩⟩
      | bk => cases e1
      | ct => cases e1
      | rt d => cases e1
      | rtO d => cases e1
theorem padd_last (TA : AlbK X.K C) (hf : f = fldN b) (ho : PE X o (tVar 0)) (hb : attributeBase o f X.env (eval o X.env) = eval o X.env := by rfl) (he : PE X e (tVar 1))
    (hs : starEach [e] X.env = (false, eval e X.env) :: starEach [] X.env := by rfl)
    (hbase : attributeBase (.Attribute o f mpos) "append" X.env (eval (.Attribute o f mpos) X.env) = eval (.Attribute o f mpos) X.env := by rfl)
    (hfew : ((backTo cpos (starEach [e] X.env)).all (fun x => !x.1) && (backToKw cpos (keywordEach [] X.env)).all (fun x => x.1.isSome)
      && decide (([e] : List Expr).length + ([] : List Keyword).length + (if ([] : List Keyword).isEmpty then 0 else 1) < 30)) = true := by rfl)
    (hline : (apos.endLine == cpos.line) = true := by rfl) (hplain : (backTo cpos (starEach [] X.env)).any (·.1) = false := by rfl)
    (hsw : swapsWith (.Call (.Attribute (.Attribute o f mpos) "append" apos) [e] [] cpos) none pos.line X.env = pure false := by rfl) :
    PSs X [.Expr (.Call (.Attribute (.Attribute o f mpos) "append" apos) [e] [] cpos) pos] (tAdd X.K b sNx) :=
  PSs.weak (pss_one (ps_expr (pe_bm PySem.F.plainAttrs_list PySem.F.slot_list_append PySem.F.type_list_append mt_append (pe_fld (pos := mpos) ho hb) (pa_cons he pa_nil hs) hbase hfew hline hs hplain) hsw)) fun Dn σ H ⟨B, G, δ, δ1, vs, ls, d0, a, e1, h0, h1, hl, k⟩ => by
  cases e1
  have hsl : albSl δ 0 = some (vs, ls) := by unfold albSl; rw [h0]
  obtain ⟨v, q1, r1⟩ := a.bor h0
  obtain ⟨u, q2, r2⟩ := a.imm h1
  cases r1 with
  | alb c g1 g2 g3 l1 l2 s1 s2 =>
    rename_i p av al C' dx xs ys
    have := c.symm.trans TA.ns
    cases this
    have H1 := (a.bo 0).ins g1
    have H2 := (a.bo 0).lst g2
    have H3 := (a.bo 0).lst g3
    have kk := k G σ H p av al dx C xs ys u a (Ext.refl _) g1 g2 g3 r2
    cases b with
    | true =>
      subst hf
      exact ⟨_, q1, p, C, dx, _, _, rfl, H1, TA.cls, TA.nv, rfl, .inl ⟨rfl, xs, SqL.of H2⟩, u, q2, av, xs, u, rfl, rfl, H2, by rw [s1.length]; exact hl, kk⟩
    | false =>
      subst hf
      exact ⟨_, q1, p, C, dx, _, _, rfl, H1, TA.cls, TA.nl, rfl, .inl ⟨rfl, ys, SqL.of H3⟩, u, q2, al, ys, u, rfl, rfl, H3, by rw [s2.length]; exact hl, kk⟩
end
end M
set_option Elab.async false
set_option linter.all false
set_option maxRecDepth 100000
set_option maxHeartbeats 1000000
namespace M
open PySem L2 PySem.Spec PyProof.Rows
/-- the promise of a method that adds: n slots beside self and its argument -/
def spAdd (K : PySem.W.Frag) (b : Bool) (Pm : Mo Out) (n : Nat) : Sp := fun vs H Q _ => vs.length = 2 ∧ ∃ B G δ δ1 vw ls d0, At K B G δ (vs.map some) H ∧ Pm (δ ++ List.replicate n .no) = some (.ok .nx, δ1) ∧ δ1[0]? = some (.bor (.alb vw ls)) ∧ δ1[1]? = some (.imm d0) ∧ (fldL b vw ls).length < sizeLine ∧ AddK K B b G δ1 d0 fun _ H' => Q .non H'
theorem add_body {K : PySem.W.Frag} {b : Bool} {Pm : Mo Out} {n : Nat} {N : List Str} {vs : List V} {H : Hp} {Q : VK} {E : XK} (hn : N.length - 2 = n) (h : spAdd K b Pm n vs H Q E) : tAdd K b Pm { nx := fun _ H' => Q .non H', rt := Q } (L2.start N vs) H := by
  obtain ⟨hl, B, G, δ, δ1, vw, ls, d0, a, e1, h0, h1, h2, k⟩ := h
  have a1 := a.start n
  have hs : L2.start N vs = vs.map some ++ List.replicate n none := by unfold L2.start; rw [hl, hn]
  rw [hs]
  exact ⟨B, G, _, δ1, vw, ls, d0, a1, e1, h0, h1, h2, k⟩
section
variable {P : Program} {w : World} {K : PySem.W.Frag} {mg : Str → Option Value} {base : Heap} {x qual : Str} {st : Stmt} {f : Addr} {fd : FuncData} {N ps : List Str} {k n : Nat} {b : Bool} {Pm : Mo Out}
theorem fn_okAdd (F : Fun K x qual st f fd) (S : FnScope N ps (defScope st)) (hn : ps.length = 2) (hN : N.length - 2 = n)
    (hb : ∀ (cdv : Value) (A : Around) (outer : List PySem.Env) (s : Shared) (H : Hp) (E : XK), Room k (A.deeper (envOfC qual (defScope st) s.heap.objs.size f cdv)) → PSs (cxOf CX0 P w K mg base N qual (defScope st) f cdv A outer s H E).nox (defBody st) (tAdd K b Pm)) :
    FnOk P w K mg base CX0 (k + 1) f fd ps (spAdd K b Pm n) :=
  F.ok S (fun vs H Q E h => h.1.trans hn.symm) fun cdv A outer s H vs Q E hr h => ⟨tAdd K b Pm, hb cdv A outer s H E hr, add_body hN h⟩
theorem fn_okInit {C : Addr} (F : Fun K x qual st f fd) (S : FnScope N ["self"] (defScope st)) (TA : AlbK K C) (hN : 0 < N.length)
    (hb : ∀ (cdv : Value) (A : Around) (outer : List PySem.Env) (s : Shared) (H : Hp) (E : XK), Room k (A.deeper (envOfC qual (defScope st) s.heap.objs.size f cdv)) → PSs (cxOf CX0 P w K mg base N qual (defScope st) f cdv A outer s H E).nox (defBody st) (tSeq (sFld K (tVar 0) (tLst tNil) "_views") (sFld K (tVar 0) (tLst tNil) "_links"))) :
    FnOk P w K mg base CX0 (k + 1) f fd ["self"] (spInit C) :=
  F.ok S init_len fun cdv A outer s H vs Q E hr h => ⟨_, hb cdv A outer s H E hr, init_t (E := E) TA hN h⟩
end
section
variable {K : PySem.W.Frag} {B : Bs} {G G' H H' : Hp} {δ : Env} {σ σ' : St} {r : AlbR}
/-- the callee's state: the album lent, a value -/
theorem At.callee (a : At K B G δ σ H) (g : AlbAt K B G δ σ H r) {vs ls : List D} {v : V} {d : D} (rv : RL K G r.xs vs) (pv : pureDs vs = true) (rl : RL K G r.ys ls) (pl : pureDs ls = true) (rd : R K G v d) :
    At K ⟨hid H, G, fun _ => albG G r, []⟩ G [.bor (.alb vs ls), .imm d] ([V.ref r.p, v].map some) H := by
  have np : r.p ≠ r.av := fun c => by have := g.hp; rw [c, g.hv] at this; unfold AlbR.ins at this; cases this
  have nq : r.p ≠ r.al := fun c => by have := g.hp; rw [c, g.hl] at this; unfold AlbR.ins at this; cases this
  have gv : albG G r r.av = some (.lst r.xs) := by unfold albG; rw [if_neg (Ne.symm np), if_pos rfl]
  have gl : albG G r r.al = some (.lst r.ys) := by unfold albG; rw [if_neg (Ne.symm nq), if_neg (Ne.symm g.ne), if_pos rfl]
  have gt : ∀ q zs, G q = some (.tup zs) → albG G r q = some (.tup zs) := fun q zs e => by
    unfold albG
    rw [if_neg (fun c => by rw [c, g.g.1] at e; cases e), if_neg (fun c => by rw [c, g.g.2.1] at e; cases e), if_neg (fun c => by rw [c, g.g.2.2] at e; cases e), e]
  have gof : ∀ q o, albG G r q = some o → H q = some o ∧ ∀ ps, o ≠ .tbl ps := fun q o e => by
    unfold albG at e
    split at e
    · rename_i c; cases e; exact ⟨by rw [c]; exact g.hp, fun ps z => by unfold AlbR.ins at z; cases z⟩
    · split at e
      · rename_i c; cases e; exact ⟨by rw [c]; exact g.hv, fun ps z => by cases z⟩
      · split at e
        · rename_i c; cases e; exact ⟨by rw [c]; exact g.hl, fun ps z => by cases z⟩
        · split at e
          · rename_i zs c; cases e; exact ⟨a.vw.tup c, fun ps z => by cases z⟩
          · cases e
  refine ⟨a.vw, Ext.refl G, fun _ _ e _ => (hid_of e).1, fun _ e => hid_ne e, fun _ _ _ _ e => e, fun k p e => (by cases e), fun j q o e => .inl (gof q o e).1, fun j q e => ?_, rfl, fun k s e => ?_, fun k l p e1 e2 => ?_, ⟨a.tb.1, fun b ps e => (hid_of e).2 ps rfl, a.tb.2.2.1, fun j b ps e => (gof b _ e).2 ps rfl, fun _ _ _ e => (by cases e)⟩⟩
  · cases q0 : albG G r q with
    | none => exact absurd q0 e
    | some o =>
      obtain ⟨y1, y2⟩ := gof q o q0
      show hid H q ≠ none
      rw [hid_nt y1 y2]; simp
  · match k, e with
    | 0, e =>
      cases e
      exact ⟨_, rfl, _, rfl, .alb g.ns albG_p gv gl g.lx g.ly (rv.tups gt pv) (rl.tups gt pl)⟩
    | 1, e => cases e; exact ⟨_, rfl, v, rfl, rd⟩
    | k + 2, e => simp at e
  · obtain ⟨⟨d', z⟩, _⟩ := e1
    match k, z with
    | 0, z => rcases z with z | z <;> cases z
    | 1, z => rcases z with z | z <;> cases z
    | k + 2, z => simp at z
/-- behind the callee -/
theorem At.called {Bc : Bs} {δc : Env} {σc : St} (a : At K B G δ σ H) (e1 : Bc.H0 = hid H) (e2 : Bc.G0 = G) (e3 : Bc.IO = []) (ac : At K Bc G' δc σc H') : At K B G' δ σ H' := by
  have f : At K Bc G' [] (([] : List V).map some) H' := ac.forget rfl fun i s e => by simp at e
  exact call_leave (as := []) (vs := []) (δc := []) (δc' := []) a .nil rfl (by unfold vrs; exact List.nodup_nil) e1 e2 e3 f rfl
end
def albAdd : Bool → List D → List D → D → D
  | true, vs, ls, d => .alb (vs ++ [d]) ls
  | false, vs, ls, d => .alb vs (ls ++ [d])
/-- x.m(e), m a method that adds, by its tests Pm -/
def sAdd (i : Nat) (b : Bool) (Pm : Mo Out) (n : Nat) (E : Mo D) : Mo Out := fun δ => if isAlb δ i = true then (E.bind fun d => fun δ => match albSl δ i with
  | some (vs, ls) => if (pureDs vs && pureDs ls) = true then match Pm ([.bor (.alb vs ls), .imm d] ++ List.replicate n .no) with
      | some (.ok .nx, .bor (.alb v' l') :: .imm d' :: _) => if (pureD d' && decide ((fldL b v' l').length < sizeLine) && decide ((fldL b vs ls).length < sizeLine)) = true then some (.ok .nx, δ.set i (.bor (albAdd b vs ls d'))) else none
      | _ => none
    else none
  | none => none) δ else none
theorem pureDs_snoc : ∀ {l : List D} {d : D}, pureDs l = true → pureD d = true → pureDs (l ++ [d]) = true
  | [], d, _, h => by show (pureD d && pureDs []) = true; rw [h]; unfold pureDs; rfl
  | x :: l, d, h, h2 => by
    unfold pureDs at h
    rw [Bool.and_eq_true] at h
    show (pureD x && pureDs (l ++ [d])) = true
    rw [h.1, pureDs_snoc h.2 h2]; rfl
theorem keep_off {K : PySem.W.Frag} {B : Bs} {G G' H H' : Hp} {δ : Env} {σ : St} {r : AlbR} {Bc : Bs} {δc : Env} {σc : St} (g : AlbAt K B G δ σ H r) (e1 : Bc.H0 = hid H) (e2 : Bc.G0 = G) (e3 : Bc.IO = []) (ac : At K Bc G' δc σc H') :
    (H' r.p = some r.ins ∧ H' r.av = some (.lst r.xs) ∧ H' r.al = some (.lst r.ys)) ∧ (G' r.p = none ∧ G' r.av = none ∧ G' r.al = none) := by
  have nt : ∀ ps, r.ins ≠ .tbl ps := fun ps z => by unfold AlbR.ins at z; cases z
  have k : ∀ q o, (∀ ps, o ≠ .tbl ps) → H q = some o → H' q = some o := fun q o t h => ac.keep q o (by rw [e1]; exact hid_nt h t) (fun i z => by rw [e3] at z; cases z)
  have l : ∀ q o, (∀ ps, o ≠ .tbl ps) → (∀ xs, o ≠ .tup xs) → H q = some o → G q = none → G' q = none := fun q o t u h z => ac.leak q o (by rw [e1]; exact hid_nt h t) u (by rw [e2]; exact z)
  exact ⟨⟨k _ _ nt g.hp, k _ _ (fun ps z => by cases z) g.hv, k _ _ (fun ps z => by cases z) g.hl⟩, ⟨l _ _ nt (fun xs z => by unfold AlbR.ins at z; cases z) g.hp g.g.1, l _ _ (fun ps z => by cases z) (fun xs z => by cases z) g.hv g.g.2.1, l _ _ (fun ps z => by cases z) (fun xs z => by cases z) g.hl g.g.2.2⟩⟩
section
variable {X : Cx} {o e : Expr} {m : Str} {C fa : Addr} {fd : FuncData} {b : Bool} {Pm : Mo Out} {apos mpos spos : Pos} {i k n : Nat} {E : Mo D} {ps : List Str} {pl : Sem Bool}
theorem dsr_add (TA : AlbK X.K C) (F : ∃ fa fd ps, FnOk X.prog X.w X.K X.mg X.base CX0 k fa fd ps (spAdd X.K b Pm n) ∧ Meth X.K C m fa ∧ Binds X.K fd ps []) (hr : Room k X.A) (ho : PE X o (tVar i)) (he : DE X W0 e E) (h1 : m ≠ "_views" := by decide) (h2 : m ≠ "_links" := by decide)
    (hst : starEach [e] X.env = (false, eval e X.env) :: starEach [] X.env := by rfl) (hpl : (backTo mpos (starEach [] X.env)).any (·.1) = false := by rfl)
    (ht : eval (.Call (.Attribute o m apos) [e] [] mpos) X.env = (do
      let ov ← eval o X.env
      standAt apos.atName
      let (f, first) ← holding [ov] (getMethod ov m pl)
      callWith mpos f first (backTo mpos (starEach [e] X.env)) (backToKw mpos (keywordEach [] X.env))) := by rfl)
    (hsw : swapsWith (.Call (.Attribute o m apos) [e] [] mpos) none spos.line X.env = pure false := by rfl) : DSR X (kAlb X.K i) i (.Expr (.Call (.Attribute o m apos) [e] [] mpos) spos) (sAdd i b Pm n E) := by
  obtain ⟨fa, fd, ps, F, hm, hb⟩ := F
  refine PS.weak (ps_expr (pe_meth (E := E0) ho TA.cls hm F hr hb .nil pass0 (pa_cons he pa_nil hst) hst hpl ht) hsw) fun Dn σ H ⟨B, B1, G, δ, r, δ', ⟨rr, n1, n2⟩, a, e1, post⟩ => ?_
  unfold sAdd at e1
  split at e1
  · rename_i hi
    obtain ⟨p0, av0, al0, dx0, hp0, hH0⟩ := isAlb_ok TA a hi
    refine ⟨_, hp0, p0, dx0, _, rfl, hH0, ?_, ?_⟩
    · simp only [List.lookup]
      rw [show (m == ("_views" : Str)) = false from beq_eq_false_iff_ne.mpr h1, show (m == ("_links" : Str)) = false from beq_eq_false_iff_ne.mpr h2]
    refine tE_bindR a e1 post fun v H1 G1 δ1 d a1 x1 r1 e2 post => ?_
    split at e2
    · rename_i vs ls q
      split at e2
      · rename_i hp
        rw [Bool.and_eq_true] at hp
        split at e2
        · rename_i v' l' d' tl qP
          split at e2
          · rename_i hd
            rw [Bool.and_eq_true, Bool.and_eq_true, decide_eq_true_eq, decide_eq_true_eq] at hd
            obtain ⟨⟨hd1, hd2⟩, hd3⟩ := hd
            have e3 : r = .ok .nx ∧ δ' = δ1.set i (.bor (albAdd b vs ls d')) := by cases e2; exact ⟨rfl, rfl⟩
            obtain ⟨hr9, hδ9⟩ := e3
            obtain ⟨u, y1, y2⟩ := a1.bor (albSl_ok q)
            rw [hp0] at y1; cases y1
            obtain ⟨ep, s1, s2⟩ := alb_bor n1 y2
            have ep : p0 = rr.p := V.ref.inj ep
            subst ep
            obtain ⟨a2, g2⟩ := a1.exit n1
            have t1 := s1.tups (fun a zs e => x1 _ _ (n2 a zs e)) hp.1
            have t2 := s2.tups (fun a zs e => x1 _ _ (n2 a zs e)) hp.2
            have ac := a2.callee g2 t1 hp.1 t2 hp.2 r1
            refine ⟨rfl, _, G1, _, _, v', l', d', ac, qP, rfl, rfl, hd2, ?_⟩
            intro G' σ' H' p av al dx C' xs ys w a' x' z1 z2 z3 rw'
            have zp : p = rr.p ∧ av = rr.av ∧ al = rr.al := by
              have z1 : albG G1 rr p = some (.ins C' dx [("_views", .ref av), ("_links", .ref al)]) := z1
              unfold albG at z1
              split at z1
              · rename_i c; unfold AlbR.ins at z1; cases z1; exact ⟨c, rfl, rfl⟩
              · split at z1
                · cases z1
                · split at z1
                  · cases z1
                  · split at z1 <;> cases z1
            obtain ⟨rfl, rfl, rfl⟩ := zp
            have np : rr.p ≠ rr.av := fun c => by have := g2.hp; rw [c, g2.hv] at this; unfold AlbR.ins at this; cases this
            have nq : rr.p ≠ rr.al := fun c => by have := g2.hp; rw [c, g2.hl] at this; unfold AlbR.ins at this; cases this
            have z2' : xs = rr.xs := by
              have z2 : albG G1 rr rr.av = some (.lst xs) := z2
              unfold albG at z2; rw [if_neg (Ne.symm np), if_pos rfl] at z2; cases z2; rfl
            have z3' : ys = rr.ys := by
              have z3 : albG G1 rr rr.al = some (.lst ys) := z3
              unfold albG at z3; rw [if_neg (Ne.symm nq), if_neg (Ne.symm g2.ne), if_pos rfl] at z3; cases z3; rfl
            subst z2' z3'
            obtain ⟨⟨k1, k2, k3⟩, ⟨k4, k5, k6⟩⟩ := keep_off g2 rfl rfl rfl a'
            have a3 := a2.called rfl rfl rfl a'
            have hσl : i < σ.length := (List.getElem?_eq_some_iff.mp hp0).1
            have hδl : i < δ1.length := by rw [a1.len]; exact hσl
            have fin : ∀ (r2 : AlbR) (H2 : Hp) (vs2 ls2 : List D), At X.K B G' (δ1.set i .no) σ H2 → AlbAt X.K B G' (δ1.set i .no) σ H2 r2 → r2.p = rr.p → RL X.K G' r2.xs vs2 → pureDs vs2 = true → RL X.K G' r2.ys ls2 → pureDs ls2 = true → (δ1.set i (.bor (.alb vs2 ls2))) = δ' → Dn.nx σ H2 := fun r2 H2 vs2 ls2 b1 b2 b3 b4 b5 b6 b7 b8 => by
              subst hr9
              obtain ⟨n8, a8⟩ := b1.enter (i := i) b2 (List.getElem?_set_self hδl) (by rw [b3]; exact hp0) b4 b5 b6 b7
              rw [List.set_set, b8] at a8
              refine post _ G' σ H2 ⟨_, n8, fun q zs e => ?_⟩ a8 x'
              have e : (if i = i then albG G' r2 else B.Bo i) q = some (.tup zs) := e
              rw [if_pos rfl] at e
              unfold albG at e
              split at e
              · cases e
              · split at e
                · cases e
                · split at e
                  · cases e
                  · split at e
                    · rename_i c; cases e; exact c
                    · cases e
            cases b with
            | true =>
              have b1 := a3.poke k2 nt_lst k5 g2.b.2.1 (fun j => (g2.no j).2.1) (.lst (rr.xs ++ [w]))
              refine fin ⟨rr.p, rr.C, rr.dx, rr.av, rr.al, rr.xs ++ [w], rr.ys⟩ _ (vs ++ [d']) ls b1 ⟨g2.ns, by show upd H' rr.av _ rr.p = _; rw [upd_ne np]; exact k1, upd_same, by show upd H' rr.av _ rr.al = _; rw [upd_ne (Ne.symm g2.ne)]; exact k3, ⟨k4, k5, k6⟩, g2.b, g2.no, g2.ne, ?_, g2.ly⟩ rfl ((t1.mono x').append (.cons rw' .nil)) (pureDs_snoc hp.1 hd1) (t2.mono x') hp.2 hδ9.symm
              show (rr.xs ++ [w]).length ≤ sizeLine
              have hd3 : vs.length < sizeLine := hd3
              rw [List.length_append, List.length_singleton, t1.length]; omega
            | false =>
              have b1 := a3.poke k3 nt_lst k6 g2.b.2.2 (fun j => (g2.no j).2.2) (.lst (rr.ys ++ [w]))
              refine fin ⟨rr.p, rr.C, rr.dx, rr.av, rr.al, rr.xs, rr.ys ++ [w]⟩ _ vs (ls ++ [d']) b1 ⟨g2.ns, by show upd H' rr.al _ rr.p = _; rw [upd_ne nq]; exact k1, by show upd H' rr.al _ rr.av = _; rw [upd_ne g2.ne]; exact k2, upd_same, ⟨k4, k5, k6⟩, g2.b, g2.no, g2.ne, g2.lx, ?_⟩ rfl (t1.mono x') hp.1 ((t2.mono x').append (.cons rw' .nil)) (pureDs_snoc hp.2 hd1) hδ9.symm
              show (rr.ys ++ [w]).length ≤ sizeLine
              have hd3 : ls.length < sizeLine := hd3
              rw [List.length_append, List.length_singleton, t2.length]; omega
          · cases e2
        · cases e2
      · cases e2
    · cases e2
  · cases e1
end
end M
set_option Elab.async false
set_option linter.all false
set_option maxRecDepth 100000
set_option maxHeartbeats 1000000
namespace M
open PySem L2 PySem.Spec PyProof.Rows
def regG (G r : Hp) : Hp := fun a => match r a with
  | some o => some o
  | none => match G a with
    | some (.tup zs) => some (.tup zs)
    | _ => none
def regB (B : Bs) (G : Hp) (i : Nat) (r : Hp) : Bs := ⟨fun a => match B.H0 a with
  | some o => some o
  | none => regG G r a, G, fun j => if j = i then regG G r else B.Bo j, B.IO⟩
structure RegAt (B : Bs) (G : Hp) (δ : Env) (σ : St) (H r : Hp) : Prop where
  at_ : ∀ a o, r a = some o → H a = some o ∧ G a = none ∧ B.H0 a = none ∧ NT o ∧ ∀ j, ¬ OwnAt δ σ j a
structure GInn (B B' : Bs) (i : Nat) (r : Hp) : Prop where
  h0 : ∀ a o, B.H0 a = some o → B'.H0 a = some o
  g0 : Ext B.G0 B'.G0
  io : B'.IO = B.IO
  bo : ∀ j, j ≠ i → B'.Bo j = B.Bo j
  lk : ∀ a o, B.H0 a = some o → (∀ xs, o ≠ .tup xs) → B.G0 a = none → B'.G0 a = none
  vi : ∀ a o, B.Bo i a = some o → ∃ o0, B.H0 a = some o0 ∧ (o0 = o ∨ (isD o = true ∧ ∃ x, o0 = .frz x o)) ∧ ∀ k, (k, a) ∉ B.IO
  bod : ∀ j a, B.Bo j a ≠ none → B.H0 a ≠ none
  iok : ∀ k a, (k, a) ∈ B.IO → B.G0 a = none ∧ B.H0 a ≠ none ∧ ∀ j, B.Bo j a = none
  tb : (∀ b ps, B.H0 b ≠ some (.tbl ps)) ∧ (∀ j b ps, B.Bo j b ≠ some (.tbl ps)) ∧ ∀ i b xs, (i, b) ∈ B.IO → B.H0 b ≠ some (.tup xs)
  rg : ∀ a o, r a = some o → B.H0 a = none ∧ B'.H0 a = some o ∧ B'.G0 a = none ∧ B'.Bo i a = some o ∧ NT o
  bi : ∀ a o, B'.Bo i a = some o → r a = some o ∨ ∃ zs, o = .tup zs
section
variable {K : PySem.W.Frag} {B B' : Bs} {G G' H H' r : Hp} {δ δ' : Env} {σ σ' : St} {i : Nat}
theorem At.gexit (n : GInn B B' i r) (a : At K B' G δ σ H) : At K B G (δ.set i .no) σ H ∧ RegAt B G (δ.set i .no) σ H r := by
  have nio : ∀ q, B'.Bo i q ≠ none → ∀ k, (k, q) ∉ B'.IO := fun q h k z => h ((a.iok k q z).2.2.1 i)
  have noOwn : ∀ q o, r q = some o → ∀ j, ¬ OwnAt (δ.set i .no) σ j q := fun q o h j z => by
    obtain ⟨y1, y2, y3, y4, _⟩ := n.rg q o h
    obtain ⟨_, ⟨d, z1 | z1⟩, z2⟩ := own_set no_own z
    · obtain ⟨p, e1, _, _, e4⟩ := a.own z1
      rw [e1] at z2; cases z2
      rw [y2] at e4; cases e4
    · obtain ⟨p, e1, _, _, e4⟩ := a.io z1
      rw [e1] at z2; cases z2
      exact nio q (by rw [y4]; simp) j e4
  refine ⟨⟨a.vw, n.g0.trans a.g0, fun q o h z => a.keep q o (n.h0 q o h) (by rw [n.io]; exact z), fun q h => ?_, fun q o h t z => a.leak q o (n.h0 q o h) t (n.lk q o h t z), fun k q h => ?_, fun j => ?_, n.bod, by rw [List.length_set]; exact a.len, fun j s e => ?_, fun j k q e1 e2 => ?_, ⟨a.tb.1, n.tb.1, a.tb.2.2.1, n.tb.2.1, n.tb.2.2⟩⟩, ⟨fun q o h => ?_⟩⟩
  · cases q0 : B.H0 q with
    | none => exact absurd q0 h
    | some o => exact a.dom q (by rw [n.h0 q o q0]; simp)
  · obtain ⟨y1, y2, y3⟩ := n.iok k q h
    exact ⟨y1, y2, y3, (a.iok k q (by rw [n.io]; exact h)).2.2.2⟩
  · by_cases c : j = i
    · subst c
      intro q o e
      obtain ⟨o0, y1, y2, y3⟩ := n.vi q o e
      have := a.keep q o0 (n.h0 q o0 y1) (fun k => by rw [n.io]; exact y3 k)
      rcases y2 with rfl | ⟨y2, x, rfl⟩
      · exact .inl this
      · exact .inr ⟨y2, x, this⟩
    · rw [← n.bo j c]; exact a.bo j
  · rcases get_set e with ⟨rfl, rfl, z⟩ | ⟨c, e⟩
    · exact ⟨σ[i]'(by rw [← a.len]; exact z), List.getElem?_eq_getElem _, trivial⟩
    · obtain ⟨ov, y1, y2⟩ := a.sl j s e
      refine ⟨ov, y1, ?_⟩
      cases s with
      | no => trivial
      | imm d => exact y2
      | own d =>
        obtain ⟨p, z1, z2, z3, z4⟩ := y2
        refine ⟨p, z1, z2, z3, ?_⟩
        cases q0 : B.H0 p with
        | none => rfl
        | some o => rw [n.h0 p o q0] at z4; cases z4
      | io d =>
        obtain ⟨p, z1, z2, z3, z4⟩ := y2
        exact ⟨p, z1, z2, z3, by rw [← n.io]; exact z4⟩
      | bor d =>
        obtain ⟨v, z1, z2⟩ := y2
        exact ⟨v, z1, by rw [← n.bo j (Ne.symm c)]; exact z2⟩
  · exact a.apart j k q (own_set no_own e1).2 (own_set no_own e2).2
  · obtain ⟨y1, y2, y3, y4, y5⟩ := n.rg q o h
    exact ⟨a.keep q o y2 (nio q (by rw [y4]; simp)), a.leak q o y2 y5.tup y3, y1, y5, noOwn q o h⟩
theorem At.genter (a : At K B G δ σ H) (g : RegAt B G δ σ H r) (hs : δ[i]? = some .no) {v : V} (hσ : σ[i]? = some (some v)) {d : D} (hd : R K (regG G r) v d) : GInn B (regB B G i r) i r ∧ At K (regB B G i r) G (δ.set i (.bor d)) σ H := by
  have gof : ∀ q o, regG G r q = some o → r q = some o ∨ ∃ zs, r q = none ∧ G q = some (.tup zs) ∧ o = .tup zs := fun q o e => by
    unfold regG at e
    split at e
    · rename_i o' c; cases e; exact .inl c
    · rename_i c
      split at e
      · rename_i zs c2; cases e; exact .inr ⟨zs, c, c2, rfl⟩
      · cases e
  have gr : ∀ q o, r q = some o → regG G r q = some o := fun q o e => by unfold regG; rw [e]
  have gt : ∀ q zs, G q = some (.tup zs) → regG G r q = some (.tup zs) := fun q zs e => by
    unfold regG
    cases c : r q with
    | some o => rw [(g.at_ q o c).2.1] at e; cases e
    | none => rw [e]
  have vwG : ∀ q o, regG G r q = some o → H q = some o := fun q o e => by
    rcases gof q o e with h | ⟨zs, _, h, rfl⟩
    · exact (g.at_ q o h).1
    · exact a.vw.tup h
  have nT : ∀ q o, regG G r q = some o → ∀ ps, o ≠ .tbl ps := fun q o e => by
    rcases gof q o e with h | ⟨zs, _, h, rfl⟩
    · exact (g.at_ q o h).2.2.2.1.tbl
    · exact fun ps c => by cases c
  have H0of : ∀ q o, (regB B G i r).H0 q = some o → B.H0 q = some o ∨ (B.H0 q = none ∧ regG G r q = some o) := fun q o e => by
    have e : (match B.H0 q with
      | some o => some o
      | none => regG G r q) = some o := e
    cases q0 : B.H0 q with
    | some o' => rw [q0] at e; cases e; exact .inl rfl
    | none => rw [q0] at e; exact .inr ⟨rfl, e⟩
  have H0up : ∀ q o, B.H0 q = some o → (regB B G i r).H0 q = some o := fun q o e => by
    show (match B.H0 q with
      | some o => some o
      | none => _) = some o
    rw [e]
  have H0n : ∀ q, B.H0 q = none → (regB B G i r).H0 q = regG G r q := fun q e => by
    show (match B.H0 q with
      | some o => some o
      | none => regG G r q) = _
    rw [e]
  have gio : ∀ k q, (k, q) ∈ B.IO → G q = none := fun k q h => by
    obtain ⟨y1, y2, _, _⟩ := a.iok k q h
    cases q0 : B.H0 q with
    | none => exact absurd q0 y2
    | some o => exact a.leak q o q0 (fun xs c => a.tb.2.2.2.2 k q xs h (by rw [q0, c])) y1
  have nio : ∀ k q, (k, q) ∈ B.IO → regG G r q = none := fun k q h => by
    cases e : regG G r q with
    | none => rfl
    | some o =>
      have y2 := (a.iok k q h).2.1
      rcases gof q o e with c | ⟨zs, _, c, _⟩
      · exact absurd (g.at_ q o c).2.2.1 y2
      · rw [gio k q h] at c; cases c
  have Boi : (regB B G i r).Bo i = regG G r := by show (if i = i then _ else _) = _; rw [if_pos rfl]
  have Boj : ∀ j, j ≠ i → (regB B G i r).Bo j = B.Bo j := fun j c => by show (if j = i then _ else _) = _; rw [if_neg c]
  refine ⟨⟨H0up, a.g0, rfl, Boj, fun q o h t z => a.leak q o h t z, fun q o e => ?_, a.bod, fun k q h => ⟨(a.iok k q h).1, (a.iok k q h).2.1, (a.iok k q h).2.2.1⟩, ⟨a.tb.2.1, a.tb.2.2.2⟩, fun q o h => ?_, fun q o e => ?_⟩, ⟨a.vw, Ext.refl G, fun q o h z => ?_, fun q h => ?_, fun q o h t z => z, fun k q h => ?_, fun j => ?_, fun j q h => ?_, by rw [List.length_set]; exact a.len, fun j s e => ?_, fun j k q e1 e2 => ?_, ⟨a.tb.1, fun b ps e => ?_, a.tb.2.2.1, fun j b ps e => ?_, fun k b xs h e => ?_⟩⟩⟩
  · have h0 := a.bod i q (by rw [e]; simp)
    cases q0 : B.H0 q with
    | none => exact absurd q0 h0
    | some o0 =>
      have n : ∀ k, (k, q) ∉ B.IO := fun k z => by
        have := (a.iok k q z).2.2.1 i
        rw [e] at this; cases this
      refine ⟨o0, rfl, ?_, n⟩
      have h1 := a.keep q o0 q0 n
      rcases a.bo i q o e with h | ⟨h, x, h2⟩
      · rw [h1] at h; exact .inl (Option.some.inj h)
      · rw [h1] at h2; exact .inr ⟨h, x, Option.some.inj h2⟩
  · obtain ⟨y1, y2, y3, y4, y5⟩ := g.at_ q o h
    exact ⟨y3, by rw [H0n q y3]; exact gr q o h, y2, by rw [Boi]; exact gr q o h, y4⟩
  · rw [Boi] at e
    rcases gof q o e with h | ⟨zs, _, _, h⟩
    · exact .inl h
    · exact .inr ⟨zs, h⟩
  · rcases H0of q o h with h | ⟨_, h⟩
    · exact a.keep q o h z
    · exact vwG q o h
  · cases q0 : (regB B G i r).H0 q with
    | none => exact absurd q0 h
    | some o =>
      rcases H0of q o q0 with h | ⟨_, h⟩
      · exact a.dom q (by rw [h]; simp)
      · rw [vwG q o h]; simp
  · obtain ⟨y1, y2, y3, y4⟩ := a.iok k q h
    refine ⟨gio k q h, ?_, fun j => ?_, y4⟩
    · cases q0 : B.H0 q with
      | none => exact absurd q0 y2
      | some o => rw [H0up q o q0]; simp
    · by_cases c : j = i
      · rw [c, Boi]; exact nio k q h
      · rw [Boj j c]; exact y3 j
  · by_cases c : j = i
    · rw [c, Boi]; exact fun q o e => .inl (vwG q o e)
    · rw [Boj j c]; exact a.bo j
  · by_cases c : j = i
    · rw [c, Boi] at h
      cases q0 : B.H0 q with
      | some o => rw [H0up q o q0]; simp
      | none => rw [H0n q q0]; exact h
    · rw [Boj j c] at h
      cases q0 : B.H0 q with
      | none => exact absurd q0 (a.bod j q h)
      | some o => rw [H0up q o q0]; simp
  · rcases get_set e with ⟨rfl, rfl, z⟩ | ⟨c, e⟩
    · refine ⟨_, hσ, v, rfl, ?_⟩
      rw [Boi]; exact hd
    · obtain ⟨ov, y1, y2⟩ := a.sl j s e
      refine ⟨ov, y1, ?_⟩
      cases s with
      | no => trivial
      | imm d => exact y2
      | own d =>
        obtain ⟨p, z1, z2, z3, z4⟩ := y2
        subst z1
        refine ⟨p, rfl, z2, z3, ?_⟩
        rw [H0n p z4]
        cases q0 : regG G r p with
        | none => rfl
        | some o =>
          have oa : OwnAt δ σ j p := ⟨⟨d, .inl e⟩, y1⟩
          rcases gof p o q0 with h | ⟨zs, _, c, _⟩
          · exact absurd oa ((g.at_ p o h).2.2.2.2 j)
          · rw [z2] at c; cases c
      | io d => exact y2
      | bor d =>
        obtain ⟨v, z1, z2⟩ := y2
        exact ⟨v, z1, by rw [Boj j (Ne.symm c)]; exact z2⟩
  · exact a.apart j k q (own_set bor_own e1).2 (own_set bor_own e2).2
  · rcases H0of b _ e with h | ⟨_, h⟩
    · exact a.tb.2.1 b ps h
    · exact nT b _ h ps rfl
  · by_cases c : j = i
    · rw [c, Boi] at e; exact nT b _ e ps rfl
    · rw [Boj j c] at e; exact a.tb.2.2.2.1 j b ps e
  · rcases H0of b _ e with h2 | ⟨h2, _⟩
    · exact a.tb.2.2.2.2 k b xs h h2
    · exact (a.iok k b h).2.1 h2
/-- .. and told to be fixed, all at once -/
theorem At.fixR (a : At K B G δ σ H) (g : RegAt B G δ σ H r) : ∃ G', At K B G' δ σ H ∧ Ext G G' ∧ ∀ q o, r q = some o → G' q = some o := by
  have ex : Ext G (fun q => match r q with | some o => some o | none => G q) := fun q o e => by
    show (match r q with | some o => some o | none => G q) = some o
    cases c : r q with
    | some o' => rw [(g.at_ q o' c).2.1] at e; cases e
    | none => exact e
  have inv : ∀ q o, (match r q with | some o => some o | none => G q) = some o → r q = some o ∨ (r q = none ∧ G q = some o) := fun q o e => by
    cases c : r q with
    | some o' => rw [c] at e; exact .inl e
    | none => rw [c] at e; exact .inr ⟨rfl, e⟩
  refine ⟨fun q => match r q with | some o => some o | none => G q, ⟨fun q o e => ?_, a.g0.trans ex, a.keep, a.dom, fun q o e t z => ?_, a.iok, a.bo, a.bod, a.len, fun j s e => ?_, a.apart, ⟨a.tb.1, a.tb.2.1, fun b ps e => ?_, a.tb.2.2.2⟩⟩, ex, fun q o e => by show (match r q with | some o => some o | none => G q) = some o; rw [e]⟩
  · rcases inv q o e with h | ⟨_, h⟩
    · exact .inl (g.at_ q o h).1
    · exact a.vw q o h
  · show (match r q with | some o => some o | none => G q) = none
    cases c : r q with
    | some o' => rw [(g.at_ q o' c).2.2.1] at e; cases e
    | none => exact a.leak q o e t z
  · obtain ⟨ov, h1, h2⟩ := a.sl j s e
    refine ⟨ov, h1, ?_⟩
    have ng : ∀ q, OwnAt δ σ j q → G q = none → (match r q with | some o => some o | none => G q) = none := fun q oa z => by
      cases c : r q with
      | some o' => exact absurd oa ((g.at_ q o' c).2.2.2.2 j)
      | none => exact z
    cases s with
    | no => trivial
    | imm d => obtain ⟨v, y1, y2⟩ := h2; exact ⟨v, y1, y2.mono ex⟩
    | bor d => exact h2
    | own d =>
      obtain ⟨q, a1, a2, a3, a4⟩ := h2
      subst a1
      exact ⟨q, rfl, ng q ⟨⟨d, .inl e⟩, h1⟩ a2, a3.mono ex, a4⟩
    | io d =>
      obtain ⟨q, a1, a2, a3, a4⟩ := h2
      subst a1
      exact ⟨q, rfl, ng q ⟨⟨d, .inr e⟩, h1⟩ a2, a3.mono ex, a4⟩
  · rcases inv b _ e with h | ⟨_, h⟩
    · exact (g.at_ b _ h).2.2.2.1.tbl ps rfl
    · exact a.tb.2.2.1 b ps h
end
end M
set_option Elab.async false
set_option linter.all false
set_option maxRecDepth 100000
set_option maxHeartbeats 1000000
namespace M
open PySem L2 PySem.Spec PyProof.Rows
abbrev NE := Str × Addr × List V
abbrev NL := Str × List D
def nKV (es : List NE) : List (Key × V) := es.map fun e => (.inr e.1, .ref e.2.1)
abbrev NestOk (K : PySem.W.Frag) (G : Hp) : List NE → List NL → Prop := Paired fun e l => e.1 = l.1 ∧ e.2.2.length ≤ sizeLine ∧ RL K G e.2.2 l.2 ∧ pureDs l.2 = true
def NoD (p : Addr) (es : List NE) : Prop := (p :: es.map fun e => e.2.1).Nodup
section
variable {K : PySem.W.Frag} {B B1 : Bs} {G G' H H' : Hp} {δ : Env} {σ : St} {i : Nat} {p : Addr} {es : List NE} {ls : List NL}
theorem NestOk.mono (x : Ext G G') (h : NestOk K G es ls) : NestOk K G' es ls := Paired.mapP h fun _ _ ⟨a, b, c, d⟩ => ⟨a, b, c.mono x, d⟩
end
end M
set_option Elab.async false
set_option linter.all false
set_option maxRecDepth 100000
set_option maxHeartbeats 1000000
namespace M
open PySem L2 PySem.Spec PyProof.Rows
/-- the dict and its lists so far -/
structure NS (H1 H2 : Hp) (D : Addr) (es : List NE) : Prop where
  d : H2 D = some (.dK (nKV es))
  el : ∀ e ∈ es, H2 e.2.1 = some (.lst []) ∧ e.2.2 = []
  nd : NoD D es
  fr : ∀ p ∈ D :: es.map (fun e => e.2.1), H1 p = none
  out : ∀ p, p ∉ D :: es.map (fun e => e.2.1) → H2 p = H1 p
theorem NS.start {H1 : Hp} {D : Addr} (h : H1 D = none) : NS H1 (upd H1 D (.dK [])) D [] := ⟨upd_same, fun e m => (by cases m), (by unfold NoD; simp), fun p hp => (by simp at hp; rw [hp]; exact h), fun p hp => upd_ne fun c => hp (by rw [c]; simp)⟩
theorem NS.ext {H1 H2 : Hp} {D : Addr} {es : List NE} (t : NS H1 H2 D es) : Ext H1 H2 := fun a o e => by
  rw [t.out a fun m => by rw [t.fr a m] at e; cases e]; exact e
theorem NS.there {H1 H2 : Hp} {D : Addr} {es : List NE} (t : NS H1 H2 D es) {p : Addr} (h : p ∈ D :: es.map (fun e => e.2.1)) : H2 p ≠ none := by
  rcases List.mem_cons.mp h with rfl | h
  · rw [t.d]; simp
  · obtain ⟨e, he, rfl⟩ := List.mem_map.mp h
    rw [(t.el e he).1]; simp
end M
set_option Elab.async false
set_option linter.all false
set_option maxRecDepth 100000
set_option maxHeartbeats 1000000
namespace M
open PySem L2 PySem.Spec PyProof.Rows
/-- Album() -/
structure AlbM (P : Program) (w : World) (K : PySem.W.Frag) (mg : Str → Option Value) (base : Heap) (C : Addr) (k : Nat) : Prop where
  ex : ∃ f fd, Mk K C f ∧ FnOk P w K mg base CX0 k f fd ["self"] (spInit C) ∧ Binds K fd ["self"] [] ∧ mg "Album" = some (.ref C)
/-- a method of Album that adds -/
def CalD (P : Program) (w : World) (K : PySem.W.Frag) (mg : Str → Option Value) (base : Heap) (C : Addr) (k : Nat) (m : Str) (b : Bool) (Pm : Mo Out) (n : Nat) : Prop := ∃ fa fd ps, FnOk P w K mg base CX0 k fa fd ps (spAdd K b Pm n) ∧ Meth K C m fa ∧ Binds K fd ps []
theorem CalD.mono {P : Program} {w : World} {K : PySem.W.Frag} {mg : Str → Option Value} {base : Heap} {C : Addr} {k : Nat} {m : Str} {b : Bool} {Pm : Mo Out} {n : Nat} (h : CalD P w K mg base C k m b Pm n) : ∃ fa fd ps, FnOk P w K mg base CX0 k fa fd ps (spAdd K b Pm n) ∧ Meth K C m fa ∧ Binds K fd ps [] := h
section
variable {X : Cx} {i k : Nat} {rest : List Stmt} {p p' pos spos : Pos} {S : Mo Out} {C : Addr} {y : Str}
theorem dss_albC (TA : AlbK X.K C) (AM : AlbM X.prog X.w X.K X.mg X.base C k) (hr : Room (k + 1) X.A) (hg : Gl X "Album")
    (hN : X.N.Nodup) (hi : X.N[i]? = some y) (hx : Loc X.env.scope y) (hrest : DSRs X (kAlb X.K i) i rest S) (hs : swapsWith (.Call (.Name "Album" p) [] [] pos) (some (.Name y p')) spos.line X.env = pure false := by rfl)
    (hf : X.fn y = true ∨ X.env.scope.names.lookup y = some .local := by first | exact .inl rfl | exact .inr rfl | assumption) : DSs X W0 (.Assign [.Name y p'] (.Call (.Name "Album" p) [] [] pos) spos :: rest) (sAlb i S) := by
  obtain ⟨f, fd, MM, F, hb, hm⟩ := AM.ex
  exact dss_alb TA MM F hr hg hm hb hN hi hx hrest hs hf
end
end M
set_option Elab.async false
set_option linter.all false
set_option maxRecDepth 100000
set_option maxHeartbeats 1000000
set_option Elab.async false
set_option linter.all false
set_option maxRecDepth 100000
set_option maxHeartbeats 1000000
set_option Elab.async false
set_option linter.all false
set_option maxRecDepth 100000
set_option maxHeartbeats 1000000
set_option Elab.async false
set_option linter.all false
set_option maxRecDepth 100000
set_option maxHeartbeats 1000000
set_option Elab.async false
set_option linter.all false
set_option maxRecDepth 100000
set_option maxHeartbeats 1000000
set_option Elab.async false
set_option linter.all false
set_option maxRecDepth 100000
set_option maxHeartbeats 1000000
set_option Elab.async false
set_option linter.all false
set_option maxRecDepth 100000
set_option maxHeartbeats 1000000
namespace M
open PySem L2 PySem.Spec PyProof.Rows
section
variable {X : Cx} {W : WK} {o e : Expr} {x : Str} {es : List Expr} {p pos apos : Pos} {Eo Ee : Mo D} {A : Mo (List Ag)} {r : V → List V → Hp → VK → Prop}
def isStrD : D → Bool
  | .str _ => true
  | _ => false
def eM1 (f : D → D → Option D) (Eo Ee : Mo D) : Mo D := Eo.bind fun d => fun δ => if isStrD d = true then (Ee.bind fun k => Mo.lift (f d k)) δ else none
theorem isStrD_ok {K : PySem.W.Frag} {G : Hp} {v : V} {d : D} (r : R K G v d) (h : isStrD d = true) : ∃ a, v = .str a := by
  cases r with
  | str a => exact ⟨a, rfl⟩
  | _ => cases h
theorem de_m1 {f : D → D → Option D} (hf : Snd2 X.K f (fun x y H Q => r x [y] H Q)) (h : PE X e (tM1 r (tE X.K W Eo) (tE X.K W Ee))) : DE X W e (eM1 f Eo Ee) := PE.weak h fun σ H Q ⟨B, G, δ, r', δ', a, e1, post⟩ => by
  refine tE_bind a e1 post fun v H1 G1 δ1 d a1 x1 r1 e2 post => ?_
  split at e2
  · rename_i hs
    refine ⟨isStrD_ok r1 hs, ?_⟩
    refine tE_bind a1 e2 post fun w H2 G2 δ2 d2 a2 x2 r2 e3 post => ?_
    obtain ⟨z, hz, hr⟩ := lift_some e3
    cases hr
    exact hf B G2 H2 δ' σ v w d d2 z Q a2 (r1.mono x2) r2 hz fun v G3 H3 a3 x3 rv => post G3 H3 a3 x3 v rv
  · cases e2
theorem do_m1 {f : D → D → Option D} (hf : Snd2O X.K f (fun x y H Q => r x [y] H Q)) (h : PE X e (tM1 r (tE X.K W Eo) (tE X.K W Ee))) : DO X W e (eM1 f Eo Ee) := PE.weak h fun σ H Q ⟨B, G, δ, r', δ', a, e1, post⟩ => by
  refine tE_bind a e1 post fun v H1 G1 δ1 d a1 x1 r1 e2 post => ?_
  split at e2
  · rename_i hs
    refine ⟨isStrD_ok r1 hs, ?_⟩
    refine tE_bind a1 e2 post fun w H2 G2 δ2 d2 a2 x2 r2 e3 post => ?_
    obtain ⟨z, hz, hr⟩ := lift_some e3
    cases hr
    exact hf B G2 H2 δ' σ v w d d2 z Q a2 (r1.mono x2) r2 hz fun p H3 a3 w3 => post G2 H3 a3 (Ext.refl _) p w3
  · cases e2
def dStarts : D → D → Option D
  | .str a, .str b => some (.bl (Txt.startswith a b))
  | _, _ => none
theorem snd_starts {K : PySem.W.Frag} : Snd2 K dStarts (fun x y H Q => ∃ a b, x = .str a ∧ [y] = [.str b] ∧ Q (.bl (Txt.startswith a b)) H) := fun B G H δ σ x y a b d Q at' rx ry h k => by
  unfold dStarts at h
  split at h
  · rename_i s t
    cases h
    cases rx
    cases ry
    exact ⟨s, t, rfl, rfl, k _ G H at' (Ext.refl _) (.bl _)⟩
  · cases h
theorem de_starts (ho : DE X W o Eo) (he : DE X W e Ee) (hs : starEach [e] X.env = [(false, eval e X.env)] := by rfl) (hbase : attributeBase o "startswith" X.env (eval o X.env) = eval o X.env := by rfl) (hline : (apos.endLine == pos.line) = true := by rfl) :
    DE X W (.Call (.Attribute o "startswith" apos) [e] [] pos) (eM1 dStarts Eo Ee) := de_m1 snd_starts (pe_m1 F.slot_str_startswith F.type_str_startswith mt_startswith ho he hs hbase hline)
def dSplit : D → D → Option D
  | .str a, .str b => if (b.length == 0) = false ∧ a.length ≤ 1000000 then some (.lst ((Txt.split a b).map D.str)) else none
  | _, _ => none
theorem strs_rl {K : PySem.W.Frag} {G : Hp} : ∀ {ys : List Str}, RL K G (ys.map V.str) (ys.map D.str)
  | [] => .nil
  | y :: ys => .cons (.str y) strs_rl
theorem snd_split {K : PySem.W.Frag} : Snd2O K dSplit (fun x y H Q => ∃ a b, x = .str a ∧ [y] = [.str b] ∧ (b.length == 0) = false ∧ a.length + 2 ≤ sizeLine ∧ rNewStrs (Txt.split a b) H Q) := fun B G H δ σ x y a b d Q at' rx ry h k => by
  unfold dSplit at h
  split at h
  · rename_i s t
    split at h
    · rename_i hc
      cases h
      cases rx
      cases ry
      have hz : s.length + 2 ≤ sizeLine := by rw [sizeLine_eq]; omega
      refine ⟨s, t, rfl, rfl, hc.1, hz, fun q hq => ?_⟩
      obtain ⟨b1, b2⟩ := at'.own1 (p := q) (o := .lst ((Txt.split s t).map V.str)) hq (.lst upd_same (by rw [List.length_map]; exact Nat.le_trans (PyProof.Rows.split_le s t) hz) strs_rl)
      exact k q _ b1 b2
    · cases h
  · cases h
theorem do_split (ho : DE X W o Eo) (he : DE X W e Ee) (hs : starEach [e] X.env = [(false, eval e X.env)] := by rfl) (hbase : attributeBase o "split" X.env (eval o X.env) = eval o X.env := by rfl) (hline : (apos.endLine == pos.line) = true := by rfl) :
    DO X W (.Call (.Attribute o "split" apos) [e] [] pos) (eM1 dSplit Eo Ee) := do_m1 snd_split (pe_split ho he hs hbase hline)
def strsD' : List D → Option (List Str)
  | [] => some []
  | .str x :: l => (strsD' l).map (x :: ·)
  | _ => none
theorem strsD'_map : ∀ {l : List Str}, strsD' (l.map D.str) = some l
  | [] => rfl
  | x :: l => by
    rw [List.map_cons]
    show (strsD' (l.map D.str)).map (x :: ·) = _
    rw [strsD'_map]; rfl
theorem strsD'_ok {K : PySem.W.Frag} {G : Hp} : ∀ {vs : List V} {ds : List D} {ys : List Str}, RL K G vs ds → strsD' ds = some ys → vs = ys.map V.str
  | _, _, ys, .nil, h => by cases h; rfl
  | _, _, ys, .cons (v := v) (vs := vs) (d := d) (ds := ds) r t, h => by
    cases r with
    | str x =>
      have h : (strsD' ds).map (x :: ·) = some ys := h
      cases q : strsD' ds with
      | none => rw [q] at h; cases h
      | some js =>
        rw [q] at h
        cases h
        rw [strsD'_ok t q]; rfl
    | _ => cases h
def dJoin : D → D → Option D
  | .str a, .lst l => (strsD' l).bind fun ys => if (ys.map (·.length)).sum + ys.length * a.length ≤ 16777216 then some (.str (Txt.join a ys)) else none
  | _, _ => none
theorem snd_join {K : PySem.W.Frag} : Snd2 K dJoin (fun x y H Q => ∃ a p, ∃ ys : List Str, x = .str a ∧ [y] = [.ref p] ∧ (SqL K H p (ys.map V.str) ∨ SqT K H p (ys.map V.str)) ∧
    (ys.map (·.length)).sum + ys.length * a.length ≤ 16777216 ∧ Q (.str (Txt.join a ys)) H) := fun B G H δ σ x y a b d Q at' rx ry h k => by
  unfold dJoin at h
  split at h
  · rename_i s l
    cases q : strsD' l with
    | none => rw [q] at h; cases h
    | some ys =>
      rw [q, Option.bind_some] at h
      split at h
      · rename_i hz
        cases h
        cases rx
        cases ry with
        | lst g hl rl =>
          have := strsD'_ok rl q
          subst this
          exact ⟨s, _, ys, rfl, rfl, .inl (SqL.of (at'.vw.lst g)), hz, k _ G H at' (Ext.refl _) (.str _)⟩
      · cases h
  · cases h
theorem de_join (ho : DE X W o Eo) (he : DE X W e Ee) (hs : starEach [e] X.env = [(false, eval e X.env)] := by rfl) (hbase : attributeBase o "join" X.env (eval o X.env) = eval o X.env := by rfl) (hline : (apos.endLine == pos.line) = true := by rfl) :
    DE X W (.Call (.Attribute o "join" apos) [e] [] pos) (eM1 dJoin Eo Ee) := de_m1 snd_join (pe_join ho he hs hbase hline)
def fIntS : List D → Option D
  | [.str a] => (PySem.intText? a).bind fun n => if a.length ≤ 640 then some (.int n) else none
  | _ => none
theorem snd_intS {K : PySem.W.Frag} : SndF K fIntS (fun xs H Q => ∃ a n, xs = [V.str a] ∧ PySem.intText? a = some n ∧ a.length ≤ 640 ∧ Q (.int n) H) := fun B G H δ σ xs as d Q at' rx h k => by
  unfold fIntS at h
  split at h
  · rename_i a
    cases q : PySem.intText? a with
    | none => rw [q] at h; cases h
    | some n =>
      rw [q, Option.bind_some] at h
      split at h
      · rename_i hl
        cases h
        obtain ⟨v, rfl, rv⟩ := rl1 rx
        cases rv
        exact ⟨a, n, rfl, q, hl, k _ G H at' (Ext.refl _) (.int _)⟩
      · cases h
  · cases h
theorem de_intS (hg : Gl X x) (hm : X.mg x = none) (hv : bootBuiltins x = some (.type "int")) (ha : DA X W (e :: es) A) (hn : x ≠ "__name__" := by decide) (hdb : (x == ("__debug__" : Str)) = false := by decide)
    (he : starEach (e :: es) X.env = (false, eval e X.env) :: starEach es X.env := by rfl) (hpl : (backTo pos (starEach es X.env)).any (·.1) = false := by rfl) : DE X W (.Call (.Name x p) (e :: es) [] pos) (eF fIntS A) :=
  de_tCB snd_intS (pe_callTy call_int_str hg hm hv ha hn hdb he hpl)
def fStrA : List D → Option D
  | [.int i] => if i.natAbs.log2 < 1920 then some (.str (toString i)) else none
  | [.str a] => some (.str a)
  | _ => none
theorem snd_strA {K : PySem.W.Frag} : SndF K fStrA (fun xs H Q => (∃ i, xs = [V.int i] ∧ i.natAbs.log2 < 1920 ∧ Q (.str (toString i)) H) ∨ ∃ a, xs = [V.str a] ∧ Q (.str a) H) := fun B G H δ σ xs as d Q at' rx h k => by
  unfold fStrA at h
  split at h
  · rename_i i
    split at h
    · rename_i hi
      cases h
      obtain ⟨v, rfl, rv⟩ := rl1 rx
      cases rv
      exact .inl ⟨i, rfl, hi, k _ G H at' (Ext.refl _) (.str _)⟩
    · cases h
  · rename_i a
    cases h
    obtain ⟨v, rfl, rv⟩ := rl1 rx
    cases rv
    exact .inr ⟨a, rfl, k _ G H at' (Ext.refl _) (.str _)⟩
  · cases h
theorem de_strA (hg : Gl X x) (hm : X.mg x = none) (hv : bootBuiltins x = some (.type "str")) (ha : DA X W (e :: es) A) (hn : x ≠ "__name__" := by decide) (hdb : (x == ("__debug__" : Str)) = false := by decide)
    (he : starEach (e :: es) X.env = (false, eval e X.env) :: starEach es X.env := by rfl) (hpl : (backTo pos (starEach es X.env)).any (·.1) = false := by rfl) : DE X W (.Call (.Name x p) (e :: es) [] pos) (eF fStrA A) :=
  de_tCB snd_strA (pe_callTy (callR_or call_str_int SkE.call_str_str) hg hm hv ha hn hdb he hpl)
end
end M
set_option Elab.async false
set_option linter.all false
set_option maxRecDepth 100000
set_option maxHeartbeats 1000000
namespace M
open PySem L2 PySem.Spec PyProof.Rows
/-- the class Builder -/
structure BldK (K : PySem.W.Frag) (C : Addr) : Prop where
  ns : PySem.W.nsIn K mainGlobals "Builder" = some (some (.ref C))
  cls : Cls K C
  na : NoAttr K C "album"
  nn : NoAttr K C "name"
  nr : NoAttr K C "rows"
structure BldR where
  p : Addr
  CB : Addr
  dx : Addr
  ap : Addr
  CA : Addr
  dy : Addr
  av : Addr
  al : Addr
  rp : Addr
  nv : V
  xs : List V
  ys : List V
  zs : List V
def BldR.ins (r : BldR) : HO := .ins r.CB r.dx [("album", .ref r.ap), ("name", r.nv), ("rows", .ref r.rp)]
def BldR.alb (r : BldR) : HO := .ins r.CA r.dy [("_views", .ref r.av), ("_links", .ref r.al)]
def BldR.hp (r : BldR) : Hp := fun a => if a = r.p then some r.ins else if a = r.ap then some r.alb else if a = r.av then some (.lst r.xs) else if a = r.al then some (.lst r.ys) else if a = r.rp then some (.lst r.zs) else none
structure BldR.Ne (r : BldR) : Prop where
  pa : r.p ≠ r.ap
  pv : r.p ≠ r.av
  pl : r.p ≠ r.al
  pr : r.p ≠ r.rp
  av : r.ap ≠ r.av
  al : r.ap ≠ r.al
  ar : r.ap ≠ r.rp
  vl : r.av ≠ r.al
  vr : r.av ≠ r.rp
  lr : r.al ≠ r.rp
structure BldR.Ok (K : PySem.W.Frag) (r : BldR) : Prop where
  nb : PySem.W.nsIn K mainGlobals "Builder" = some (some (.ref r.CB))
  na : PySem.W.nsIn K mainGlobals "Album" = some (some (.ref r.CA))
  ne : r.Ne
  lx : r.xs.length ≤ sizeLine
  ly : r.ys.length ≤ sizeLine
  lz : r.zs.length ≤ sizeLine
structure BldR.Only (r : BldR) (Gb : Hp) : Prop where
  has : ∀ a o, r.hp a = some o → Gb a = some o
  of : ∀ a o, Gb a = some o → r.hp a = some o ∨ ∃ zs, o = .tup zs
section
variable {K : PySem.W.Frag} {r : BldR} {Gb : Hp}
theorem hp_p : r.hp r.p = some r.ins := if_pos rfl
theorem hp_a (n : r.Ne) : r.hp r.ap = some r.alb := by unfold BldR.hp; rw [if_neg (Ne.symm n.pa), if_pos rfl]
theorem hp_v (n : r.Ne) : r.hp r.av = some (.lst r.xs) := by unfold BldR.hp; rw [if_neg (Ne.symm n.pv), if_neg (Ne.symm n.av), if_pos rfl]
theorem hp_l (n : r.Ne) : r.hp r.al = some (.lst r.ys) := by unfold BldR.hp; rw [if_neg (Ne.symm n.pl), if_neg (Ne.symm n.al), if_neg (Ne.symm n.vl), if_pos rfl]
theorem hp_r (n : r.Ne) : r.hp r.rp = some (.lst r.zs) := by unfold BldR.hp; rw [if_neg (Ne.symm n.pr), if_neg (Ne.symm n.ar), if_neg (Ne.symm n.vr), if_neg (Ne.symm n.lr), if_pos rfl]
theorem hp_of {a : Addr} {o : HO} (h : r.hp a = some o) : (a = r.p ∧ o = r.ins) ∨ (a = r.ap ∧ o = r.alb) ∨ (a = r.av ∧ o = .lst r.xs) ∨ (a = r.al ∧ o = .lst r.ys) ∨ (a = r.rp ∧ o = .lst r.zs) := by
  unfold BldR.hp at h
  split at h
  · rename_i c; cases h; exact .inl ⟨c, rfl⟩
  · split at h
    · rename_i c; cases h; exact .inr (.inl ⟨c, rfl⟩)
    · split at h
      · rename_i c; cases h; exact .inr (.inr (.inl ⟨c, rfl⟩))
      · split at h
        · rename_i c; cases h; exact .inr (.inr (.inr (.inl ⟨c, rfl⟩)))
        · split at h
          · rename_i c; cases h; exact .inr (.inr (.inr (.inr ⟨c, rfl⟩)))
          · cases h
theorem hp_nt {a : Addr} {o : HO} (h : r.hp a = some o) : NT o := by
  rcases hp_of h with ⟨_, rfl⟩ | ⟨_, rfl⟩ | ⟨_, rfl⟩ | ⟨_, rfl⟩ | ⟨_, rfl⟩
  · exact nt_ins
  · exact nt_ins
  · exact nt_lst
  · exact nt_lst
  · exact nt_lst
theorem hp_ins {a C dx ap rp : Addr} {nv : V} (of : ∀ a o, Gb a = some o → r.hp a = some o ∨ ∃ zs, o = .tup zs) (h : Gb a = some (.ins C dx [("album", .ref ap), ("name", nv), ("rows", .ref rp)])) : a = r.p ∧ C = r.CB ∧ dx = r.dx ∧ ap = r.ap ∧ nv = r.nv ∧ rp = r.rp := by
  rcases of _ _ h with h | ⟨_, h⟩
  · rcases hp_of h with ⟨c, h⟩ | ⟨_, h⟩ | ⟨_, h⟩ | ⟨_, h⟩ | ⟨_, h⟩
    · unfold BldR.ins at h
      injection h with h1 h2 h3
      injection h3 with h4 h5
      injection h5 with h6 h7
      injection h7 with h8 _
      have h4 := congrArg Prod.snd h4
      have h6 := congrArg Prod.snd h6
      have h8 := congrArg Prod.snd h8
      exact ⟨c, h1, h2, V.ref.inj h4, h6, V.ref.inj h8⟩
    · unfold BldR.alb at h
      injection h with h1 h2 h3
      have := congrArg List.length h3
      cases this
    · cases h
    · cases h
    · cases h
  · cases h
theorem hp_alb {a C dx av al : Addr} (of : ∀ a o, Gb a = some o → r.hp a = some o ∨ ∃ zs, o = .tup zs) (h : Gb a = some (.ins C dx [("_views", .ref av), ("_links", .ref al)])) : a = r.ap ∧ C = r.CA ∧ dx = r.dy ∧ av = r.av ∧ al = r.al := by
  rcases of _ _ h with h | ⟨_, h⟩
  · rcases hp_of h with ⟨_, h⟩ | ⟨c, h⟩ | ⟨_, h⟩ | ⟨_, h⟩ | ⟨_, h⟩
    · unfold BldR.ins at h
      injection h with h1 h2 h3
      have := congrArg List.length h3
      cases this
    · unfold BldR.alb at h
      injection h with h1 h2 h3
      injection h3 with h4 h5
      injection h5 with h6 h7
      have h4 := congrArg Prod.snd h4
      have h6 := congrArg Prod.snd h6
      exact ⟨c, h1, h2, V.ref.inj h4, V.ref.inj h6⟩
    · cases h
    · cases h
    · cases h
  · cases h
theorem hp_lst (n : r.Ne) (has : ∀ a o, r.hp a = some o → Gb a = some o) {xs : List V} : (Gb r.av = some (.lst xs) → xs = r.xs) ∧ (Gb r.al = some (.lst xs) → xs = r.ys) ∧ (Gb r.rp = some (.lst xs) → xs = r.zs) := by
  refine ⟨fun h => ?_, fun h => ?_, fun h => ?_⟩
  · rw [has _ _ (hp_v n)] at h; cases h; rfl
  · rw [has _ _ (hp_l n)] at h; cases h; rfl
  · rw [has _ _ (hp_r n)] at h; cases h; rfl
theorem bld_of (n : r.Ne) (on : r.Only Gb) {v : V} {vs ls rows : List D} {nm : D} (q : R K Gb v (.bld vs ls nm rows)) : v = .ref r.p ∧ RL K Gb r.xs vs ∧ RL K Gb r.ys ls ∧ RL K Gb r.zs rows ∧ R K Gb r.nv nm := by
  cases q with
  | bld c1 c2 h1 h2 h3 h4 h5 l r1 r2 r3 r4 =>
    obtain ⟨rfl, _, _, rfl, rfl, rfl⟩ := hp_ins on.of h1
    obtain ⟨_, _, _, rfl, rfl⟩ := hp_alb on.of h2
    obtain rfl := (hp_lst n on.has).1 h3
    obtain rfl := (hp_lst n on.has).2.1 h4
    obtain rfl := (hp_lst n on.has).2.2 h5
    exact ⟨rfl, r1, r2, r3, r4⟩
theorem bld_R (ok : r.Ok K) (has : ∀ a o, r.hp a = some o → Gb a = some o) {vs ls rows : List D} {nm : D} (r1 : RL K Gb r.xs vs) (r2 : RL K Gb r.ys ls) (r3 : RL K Gb r.zs rows) (r4 : R K Gb r.nv nm) : R K Gb (.ref r.p) (.bld vs ls nm rows) :=
  .bld ok.nb ok.na (has _ _ hp_p) (has _ _ (hp_a ok.ne)) (has _ _ (hp_v ok.ne)) (has _ _ (hp_l ok.ne)) (has _ _ (hp_r ok.ne)) ⟨ok.lx, ok.ly, ok.lz⟩ r1 r2 r3 r4
theorem alb_R (ok : r.Ok K) (has : ∀ a o, r.hp a = some o → Gb a = some o) {vs ls : List D} (r1 : RL K Gb r.xs vs) (r2 : RL K Gb r.ys ls) : R K Gb (.ref r.ap) (.alb vs ls) :=
  .alb ok.na (has _ _ (hp_a ok.ne)) (has _ _ (hp_v ok.ne)) (has _ _ (hp_l ok.ne)) ok.lx ok.ly r1 r2
end
inductive Tk where
  | fin (d : D) | row (d : D) | opn (d : D) | lnk (d : D)
def TkQ (K : PySem.W.Frag) (r : BldR) (G' H' : Hp) (Q : Hp → Prop) : Tk → Prop
  | .fin d => ∀ v, R K G' v d → Q (upd (upd H' r.av (.lst (r.xs ++ [v]))) r.p (.ins r.CB r.dx [("album", .ref r.ap), ("name", .non), ("rows", .ref r.rp)]))
  | .row d => ∀ v, R K G' v d → Q (upd H' r.rp (.lst (r.zs ++ [v])))
  | .lnk d => ∀ v, R K G' v d → Q (upd H' r.al (.lst (r.ys ++ [v])))
  | .opn d => ∀ v, R K G' v d → ∀ q, upd H' r.p (.ins r.CB r.dx [("album", .ref r.ap), ("name", v), ("rows", .ref r.rp)]) q = none →
      Q (upd (upd (upd H' r.p (.ins r.CB r.dx [("album", .ref r.ap), ("name", v), ("rows", .ref r.rp)])) q (.lst [])) r.p (.ins r.CB r.dx [("album", .ref r.ap), ("name", v), ("rows", .ref q)]))
def TkK (K : PySem.W.Frag) (B : Bs) (r : BldR) (G : Hp) (δ1 : Env) (t : Tk) (Q : St → Hp → Prop) : Prop := ∀ G' σ' H', At K B G' δ1 σ' H' → Ext G G' → TkQ K r G' H' (Q σ') t
theorem TkK.mono {K : PySem.W.Frag} {B : Bs} {r : BldR} {G G1 : Hp} {δ1 : Env} {t : Tk} {Q : St → Hp → Prop} (h : TkK K B r G δ1 t Q) (e : Ext G G1) : TkK K B r G1 δ1 t Q := fun G' σ' H' a x => h G' σ' H' a (e.trans x)
def tTk (K : PySem.W.Frag) (Pm : Mo Tk) : TS := fun Dn σ H => ∃ B G δ δ1 t r, BldR.Ok K r ∧ BldR.Only r (B.Bo 0) ∧ At K B G δ σ H ∧ Pm δ = some (.ok t, δ1) ∧ TkK K B r G δ1 t Dn.nx
def sSeqT (S : Mo Out) (P : Mo Tk) : Mo Tk := fun δ => match S δ with
  | some (.ok .nx, δ') => P δ'
  | _ => none
def sIfT (T : Mo Bool) (a b : Mo Tk) : Mo Tk := T.bind fun k => if k = true then a else b
def sNevT : Mo Tk := fun _ => none
section
variable {X : Cx} {st : Stmt} {rest body a b : List Stmt} {c : Expr} {pos : Pos} {S : Mo Out} {T : Mo Bool} {Pm Pa Pb : Mo Tk}
theorem ptk_cons (h : DS X W0 st S) (h' : PSs X rest (tTk X.K Pm)) : PSs X (st :: rest) (tTk X.K (sSeqT S Pm)) := PSs.weak (pss_cons h h') fun Dn σ H ⟨B, G, δ, δ1, t, r, ok, on, a, e1, k⟩ => by
  unfold sSeqT at e1
  cases q : S δ with
  | none => rw [q] at e1; cases e1
  | some z =>
    obtain ⟨x, δ2⟩ := z
    rw [q] at e1
    cases x with
    | error x => cases e1
    | ok o' =>
      cases o' with
      | nx => exact ⟨B, G, δ, .ok .nx, δ2, a, q, fun G1 σ1 H1 a1 x1 => ⟨B, G1, δ2, δ1, t, r, ok, on, a1, e1, k.mono x1⟩⟩
      | bk => cases e1
      | ct => cases e1
      | rt d => cases e1
      | rtO d => cases e1
theorem ptk_if (hc : DT X W0 c T) (ha : PSs X a (tTk X.K Pa)) (hb : PSs X b (tTk X.K Pb)) : PSs X [.If c a b pos] (tTk X.K (sIfT T Pa Pb)) := PSs.weak (pss_one (ps_if hc ha hb)) fun Dn σ H ⟨B, G, δ, δ1, t, r, ok, on, a, e1, k⟩ => by
  unfold sIfT Mo.bind at e1
  cases q : T δ with
  | none => rw [q] at e1; cases e1
  | some z =>
    obtain ⟨x, δ2⟩ := z
    rw [q] at e1
    cases x with
    | error x => cases e1
    | ok d =>
      refine ⟨B, G, δ, .ok d, δ2, a, q, fun G1 H1 a1 x1 => ?_⟩
      cases d with
      | true => rw [if_pos rfl]; exact ⟨B, G1, δ2, δ1, t, r, ok, on, a1, e1, k.mono x1⟩
      | false => rw [if_neg Bool.false_ne_true]; exact ⟨B, G1, δ2, δ1, t, r, ok, on, a1, e1, k.mono x1⟩
theorem ptk_never : PSs X body (tTk X.K sNevT) := ⟨fun pins s σ H Dn I ⟨B, G, δ, δ1, t, r, ok, on, a, e1, k⟩ => by cases e1⟩
end
def bldSl (δ : Env) (i : Nat) : Option (List D × List D × D × List D) := match δ[i]? with
  | some (.bor (.bld vs ls nm rows)) => some (vs, ls, nm, rows)
  | _ => none
theorem bldSl_ok {δ : Env} {i : Nat} {vs ls rows : List D} {nm : D} (h : bldSl δ i = some (vs, ls, nm, rows)) : δ[i]? = some (.bor (.bld vs ls nm rows)) := by
  unfold bldSl at h
  split at h
  · rename_i q; cases h; exact q
  · cases h
/-- x.name -/
def eBNm (i : Nat) : Mo D := fun δ => match bldSl δ i with
  | some (_, _, nm, _) => if flatD nm = true then some (.ok nm, δ) else none
  | none => none
/-- tuple(x.rows) -/
def eBTup (i : Nat) : Mo D := fun δ => match bldSl δ i with
  | some (_, _, _, rows) => if pureDs rows = true then some (.ok (.tup rows), δ) else none
  | none => none
section
variable {X : Cx} {W : WK} {o : Expr} {x : Str} {p pos apos : Pos} {C : Addr} {i : Nat}
theorem de_bnm (TB : BldK X.K C) (ho : PE X o (tVar i)) (hb : attributeBase o "name" X.env (eval o X.env) = eval o X.env := by rfl) : DE X W (.Attribute o "name" pos) (eBNm i) := PE.weak (pe_fld ho hb) fun σ H Q ⟨B, G, δ, r, δ', a, e1, post⟩ => by
  unfold eBNm at e1
  split at e1
  · rename_i vs ls nm rows q
    split at e1
    · rename_i hf
      cases e1
      obtain ⟨v, h1, r0⟩ := a.bor (bldSl_ok q)
      cases r0 with
      | bld c1 c2 g1 g2 g3 g4 g5 l r1 r2 r3 r4 =>
        have := c1.symm.trans TB.ns
        cases this
        exact ⟨_, h1, _, C, _, _, _, rfl, (a.bo i).ins g1, TB.cls, TB.nn, rfl, post G H a (Ext.refl _) _ (r4.flat hf)⟩
    · cases e1
  · cases e1
theorem de_btup (TB : BldK X.K C) (hg : Gl X x) (hm : X.mg x = none) (hv : bootBuiltins x = some (.type "tuple")) (ho : PE X o (tVar i)) (hb : attributeBase o "rows" X.env (eval o X.env) = eval o X.env := by rfl)
    (hn : x ≠ "__name__" := by decide) (hdb : (x == ("__debug__" : Str)) = false := by decide)
    (he : starEach [.Attribute o "rows" apos] X.env = (false, eval (.Attribute o "rows" apos) X.env) :: starEach [] X.env := by rfl) (hpl : (backTo pos (starEach [] X.env)).any (·.1) = false := by rfl) :
    DE X W (.Call (.Name x p) [.Attribute o "rows" apos] [] pos) (eBTup i) := PE.weak (pe_callTy call_tuple_of hg hm hv (pa_cons (pe_fld ho hb) pa_nil he) hn hdb he hpl) fun σ H Q ⟨B, G, δ, r, δ', a, e1, post⟩ => by
  unfold eBTup at e1
  split at e1
  · rename_i vs ls nm rows q
    split at e1
    · rename_i hf
      cases e1
      obtain ⟨v, h1, r0⟩ := a.bor (bldSl_ok q)
      cases r0 with
      | bld c1 c2 g1 g2 g3 g4 g5 l r1 r2 r3 r4 =>
        have := c1.symm.trans TB.ns
        cases this
        obtain ⟨G1, a1, x1, s1⟩ := r3.tell (a.bo i) hf a
        refine ⟨_, h1, _, C, _, _, _, rfl, (a.bo i).ins g1, TB.cls, TB.nr, rfl, ?_⟩
        refine ⟨_, _, rfl, .inl ⟨SqL.of ((a.bo i).lst g5), fun u hu => ?_⟩⟩
        exact post _ _ (a1.laid hu fun _ z => by cases z) (x1.trans (Ext.new (a1.vw.none hu))) _ (.tup upd_same l.2.2 (s1.mono (Ext.new (a1.vw.none hu))))
    · cases e1
  · cases e1
end
section
variable {K : PySem.W.Frag} {B : Bs} {G H : Hp} {δ : Env} {σ : St}
theorem At.calleeB (a : At K B G δ σ H) (j : Nat) {w v : V} {d0 d : D} (r0 : R K (B.Bo j) w d0) (rd : R K G v d) : At K ⟨hid H, G, fun _ => B.Bo j, []⟩ G [.bor d0, .imm d] ([w, v].map some) H := by
  refine ⟨a.vw, Ext.refl G, fun _ _ e _ => (hid_of e).1, fun _ e => hid_ne e, fun _ _ _ _ e => e, fun k p e => (by cases e), fun _ => a.bo j, fun _ q e => ?_, rfl, fun k s e => ?_, fun k l p e1 e2 => ?_, ⟨a.tb.1, fun b ps e => (hid_of e).2 ps rfl, a.tb.2.2.1, fun _ b ps e => a.tb.2.2.2.1 j b ps e, fun _ _ _ e => (by cases e)⟩⟩
  · cases z : B.Bo j q with
    | none => exact absurd z e
    | some u =>
      have nu : ∀ ps, u ≠ .tbl ps := fun ps c => a.tb.2.2.2.1 j q ps (by rw [z, c])
      show hid H q ≠ none
      rcases a.bo j q u z with h | ⟨_, x, h⟩
      · rw [hid_nt h nu]; simp
      · rw [hid_nt h (fun ps c => by cases c)]; simp
  · match k, e with
    | 0, e => cases e; exact ⟨_, rfl, _, rfl, r0⟩
    | 1, e => cases e; exact ⟨_, rfl, v, rfl, rd⟩
    | k + 2, e => simp at e
  · obtain ⟨⟨d', z⟩, _⟩ := e1
    match k, z with
    | 0, z => rcases z with z | z <;> cases z
    | 1, z => rcases z with z | z <;> cases z
    | k + 2, z => simp at z
end
def bAdd (b : Bool) (Pm : Mo Out) (n : Nat) (E : Mo D) : Mo D := fun δ => match bldSl δ 0 with
  | some _ => match E δ with
    | some (.ok d, δ2) => match bldSl δ2 0 with
      | some (vs, ls, _, _) => match Pm ([.bor (.alb vs ls), .imm d] ++ List.replicate n .no) with
        | some (.ok .nx, .bor (.alb v' l') :: .imm d' :: _) => if decide ((fldL b v' l').length < sizeLine) = true then some (.ok d', δ2) else none
        | _ => none
      | none => none
    | _ => none
  | none => none
section
variable {K : PySem.W.Frag} {B : Bs} {G H : Hp} {δ δ1 : Env} {σ : St} {r : BldR} {CA CB : Addr} {m : Str} {b : Bool} {Pm : Mo Out} {n : Nat} {E : Mo D} {d' : D} {Q : VK}
theorem slot0 (ok : r.Ok K) (on : r.Only (B.Bo 0)) (a : At K B G δ σ H) {vs ls rows : List D} {nm : D} (h : bldSl δ 0 = some (vs, ls, nm, rows)) : σ[0]? = some (some (.ref r.p)) := by
  obtain ⟨v, h1, r0⟩ := a.bor (bldSl_ok h)
  obtain ⟨rfl, _⟩ := bld_of ok.ne on r0
  exact h1
theorem bAdd_ok (TA : AlbK K CA) (TB : BldK K CB) (ok : r.Ok K) (on : r.Only (B.Bo 0)) (h1 : m ≠ "_views") (h2 : m ≠ "_links") (a : At K B G δ σ H) (e1 : bAdd b Pm n E δ = some (.ok d', δ1))
    (k : ∀ G' H' v, σ[0]? = some (some (.ref r.p)) → At K B G' δ1 σ H' → Ext G G' → R K G' v d' → Q .non (upd H' (fldA b r.av r.al) (.lst (fldX b r.xs r.ys ++ [v])))) : tMeth CA m (spAdd K b Pm n) [] E0 (tFld K (tVar 0) "album") (tCons (tE K W0 E) tNil) σ H Q := by
  unfold bAdd at e1
  split at e1
  · rename_i q0 hq0
    obtain ⟨vs0, ls0, nm0, rows0⟩ := q0
    have h0 := slot0 ok on a hq0
    have eCB : r.CB = CB := by have := ok.nb.symm.trans TB.ns; cases this; rfl
    have eCA : r.CA = CA := by have := ok.na.symm.trans TA.ns; cases this; rfl
    subst eCB eCA
    refine ⟨_, h0, r.p, r.CB, r.dx, _, .ref r.ap, rfl, (a.bo 0).ins (on.has _ _ hp_p), TB.cls, TB.na, rfl, ?_⟩
    refine ⟨r.ap, r.dy, _, rfl, (a.bo 0).ins (on.has _ _ (hp_a ok.ne)), ?_, ?_⟩
    · simp only [List.lookup]
      rw [show (m == ("_views" : Str)) = false from beq_eq_false_iff_ne.mpr h1, show (m == ("_links" : Str)) = false from beq_eq_false_iff_ne.mpr h2]
    split at e1
    · rename_i d δ2 qE
      split at e1
      · rename_i vs ls nm rows hq2
        split at e1
        · rename_i v' l' d2 tl qP
          split at e1
          · rename_i hd
            have hd := of_decide_eq_true hd
            have ed : d2 = d' ∧ δ2 = δ1 := by cases e1; exact ⟨rfl, rfl⟩
            obtain ⟨rfl, rfl⟩ := ed
            refine ⟨B, G, δ, .ok d, δ2, a, qE, fun G1 H1 a1 x1 v rv => ?_⟩
            obtain ⟨v0, _, r0⟩ := a1.bor (bldSl_ok hq2)
            obtain ⟨_, s1, s2, _, _⟩ := bld_of ok.ne on r0
            refine ⟨rfl, _, G1, _, _, v', l', d2, a1.calleeB 0 (alb_R ok on.has s1 s2) rv, qP, rfl, rfl, hd, ?_⟩
            intro G' σ' H' p av al dx C' xs ys w a' x' z1 z2 z3 rw'
            obtain ⟨rfl, _, _, rfl, rfl⟩ := hp_alb on.of z1
            obtain rfl := (hp_lst ok.ne on.has).1 z2
            obtain rfl := (hp_lst ok.ne on.has).2.1 z3
            exact k G' H' w h0 (a1.called rfl rfl rfl a') (x1.trans x') rw'
          · cases e1
        · cases e1
      · cases e1
    · cases e1
  · cases e1
end
def pFin (Pm : Mo Out) (n : Nat) (E : Mo D) : Mo Tk := fun δ => match bAdd true Pm n E δ with
  | some (.ok d, δ') => some (.ok (.fin d), δ')
  | _ => none
def pLnk (Pm : Mo Out) (n : Nat) (E : Mo D) : Mo Tk := fun δ => match bAdd false Pm n E δ with
  | some (.ok d, δ') => some (.ok (.lnk d), δ')
  | _ => none
def pRow (E : Mo D) : Mo Tk := fun δ => match bldSl δ 0 with
  | some _ => match E δ with
    | some (.ok d, δ') => match bldSl δ' 0 with
      | some (_, _, _, rows) => if decide (rows.length < sizeLine) = true then some (.ok (.row d), δ') else none
      | none => none
    | _ => none
  | none => none
def pOpn (E : Mo D) : Mo Tk := fun δ => match bldSl δ 0 with
  | some _ => match E δ with
    | some (.ok d, δ') => some (.ok (.opn d), δ')
    | _ => none
  | none => none
section
variable {X : Cx} {o e o3 en : Expr} {m : Str} {CA CB : Addr} {Pm : Mo Out} {apos mp mpos spos spos2 p' cpos p2 p3 lpos : Pos} {k n : Nat} {E : Mo D} {pl : Sem Bool} {kd ls : Nat}
theorem ptk_fin (TA : AlbK X.K CA) (TB : BldK X.K CB) (F : ∃ fa fd ps, FnOk X.prog X.w X.K X.mg X.base CX0 k fa fd ps (spAdd X.K true Pm n) ∧ Meth X.K CA m fa ∧ Binds X.K fd ps []) (hr : Room k X.A) (ho : PE X o (tVar 0)) (he : DE X W0 e E) (ho3 : PE X o3 (tVar 0)) (hv : PE X en (tC .non))
    (hb : attributeBase o "album" X.env (eval o X.env) = eval o X.env := by rfl) (h1 : m ≠ "_views" := by decide) (h2 : m ≠ "_links" := by decide)
    (hst : starEach [e] X.env = (false, eval e X.env) :: starEach [] X.env := by rfl) (hpl : (backTo mpos (starEach [] X.env)).any (·.1) = false := by rfl)
    (ht : eval (.Call (.Attribute (.Attribute o "album" mp) m apos) [e] [] mpos) X.env = (do
      let ov ← eval (.Attribute o "album" mp) X.env
      standAt apos.atName
      let (f, first) ← holding [ov] (getMethod ov m pl)
      callWith mpos f first (backTo mpos (starEach [e] X.env)) (backToKw mpos (keywordEach [] X.env))) := by rfl)
    (hsw : swapsWith (.Call (.Attribute (.Attribute o "album" mp) m apos) [e] [] mpos) none spos.line X.env = pure false := by rfl)
    (hsw2 : swapsWith en (some (.Attribute o3 "name" p')) spos2.line X.env = pure false := by rfl) :
    PSs X [.Expr (.Call (.Attribute (.Attribute o "album" mp) m apos) [e] [] mpos) spos, .Assign [.Attribute o3 "name" p'] en spos2] (tTk X.K (pFin Pm n E)) := by
  obtain ⟨fa, fd, ps, F, hm, hbn⟩ := F
  refine PSs.weak (pss_cons (ps_expr (pe_meth (E := E0) (pe_fld (pos := mp) ho hb) TA.cls hm F hr hbn .nil pass0 (pa_cons he pa_nil hst) hst hpl ht) hsw) (pss_one (ps_fld ho3 hv hsw2))) fun Dn σ H ⟨B, G, δ, δ1, t, r, ok, on, a, e1, kk⟩ => ?_
  unfold pFin at e1
  split at e1
  · rename_i d δ' q
    cases e1
    refine bAdd_ok TA TB ok on h1 h2 a q fun G' H' v h0 a' x' rv => ?_
    have eCB : r.CB = CB := by have := ok.nb.symm.trans TB.ns; cases this; rfl
    subst eCB
    exact ⟨_, h0, r.p, r.CB, r.dx, [("album", .ref r.ap), ("name", r.nv), ("rows", .ref r.rp)], rfl, by show upd H' r.av _ r.p = _; rw [upd_ne ok.ne.pv]; exact (a'.bo 0).ins (on.has _ _ hp_p), TB.cls, TB.nn, (by show 3 < 1000; omega), kk G' σ H' a' x' v rv⟩
  · cases e1
theorem ptk_lnk (TA : AlbK X.K CA) (TB : BldK X.K CB) (F : ∃ fa fd ps, FnOk X.prog X.w X.K X.mg X.base CX0 k fa fd ps (spAdd X.K false Pm n) ∧ Meth X.K CA m fa ∧ Binds X.K fd ps []) (hr : Room k X.A) (ho : PE X o (tVar 0)) (he : DE X W0 e E)
    (hb : attributeBase o "album" X.env (eval o X.env) = eval o X.env := by rfl) (h1 : m ≠ "_views" := by decide) (h2 : m ≠ "_links" := by decide)
    (hst : starEach [e] X.env = (false, eval e X.env) :: starEach [] X.env := by rfl) (hpl : (backTo mpos (starEach [] X.env)).any (·.1) = false := by rfl)
    (ht : eval (.Call (.Attribute (.Attribute o "album" mp) m apos) [e] [] mpos) X.env = (do
      let ov ← eval (.Attribute o "album" mp) X.env
      standAt apos.atName
      let (f, first) ← holding [ov] (getMethod ov m pl)
      callWith mpos f first (backTo mpos (starEach [e] X.env)) (backToKw mpos (keywordEach [] X.env))) := by rfl)
    (hsw : swapsWith (.Call (.Attribute (.Attribute o "album" mp) m apos) [e] [] mpos) none spos.line X.env = pure false := by rfl) :
    PSs X [.Expr (.Call (.Attribute (.Attribute o "album" mp) m apos) [e] [] mpos) spos] (tTk X.K (pLnk Pm n E)) := by
  obtain ⟨fa, fd, ps, F, hm, hbn⟩ := F
  refine PSs.weak (pss_one (ps_expr (pe_meth (E := E0) (pe_fld (pos := mp) ho hb) TA.cls hm F hr hbn .nil pass0 (pa_cons he pa_nil hst) hst hpl ht) hsw)) fun Dn σ H ⟨B, G, δ, δ1, t, r, ok, on, a, e1, kk⟩ => ?_
  unfold pLnk at e1
  split at e1
  · rename_i d δ' q
    cases e1
    exact bAdd_ok TA TB ok on h1 h2 a q fun G' H' v h0 a' x' rv => kk G' σ H' a' x' v rv
  · cases e1
theorem ptk_row (TB : BldK X.K CB) (ho : PE X o (tVar 0)) (he : DE X W0 e E) (hb : attributeBase o "rows" X.env (eval o X.env) = eval o X.env := by rfl)
    (hs : starEach [e] X.env = (false, eval e X.env) :: starEach [] X.env := by rfl)
    (hbase : attributeBase (.Attribute o "rows" mpos) "append" X.env (eval (.Attribute o "rows" mpos) X.env) = eval (.Attribute o "rows" mpos) X.env := by rfl)
    (hfew : ((backTo cpos (starEach [e] X.env)).all (fun x => !x.1) && (backToKw cpos (keywordEach [] X.env)).all (fun x => x.1.isSome)
      && decide (([e] : List Expr).length + ([] : List Keyword).length + (if ([] : List Keyword).isEmpty then 0 else 1) < 30)) = true := by rfl)
    (hline : (apos.endLine == cpos.line) = true := by rfl) (hplain : (backTo cpos (starEach [] X.env)).any (·.1) = false := by rfl)
    (hsw : swapsWith (.Call (.Attribute (.Attribute o "rows" mpos) "append" apos) [e] [] cpos) none spos.line X.env = pure false := by rfl) :
    PSs X [.Expr (.Call (.Attribute (.Attribute o "rows" mpos) "append" apos) [e] [] cpos) spos] (tTk X.K (pRow E)) :=
  PSs.weak (pss_one (ps_expr (pe_bm PySem.F.plainAttrs_list PySem.F.slot_list_append PySem.F.type_list_append mt_append (pe_fld (pos := mpos) ho hb) (pa_cons he pa_nil hs) hbase hfew hline hs hplain) hsw)) fun Dn σ H ⟨B, G, δ, δ1, t, r, ok, on, a, e1, kk⟩ => by
  unfold pRow at e1
  split at e1
  · rename_i q0 hq0
    obtain ⟨vs0, ls0, nm0, rows0⟩ := q0
    have h0 := slot0 ok on a hq0
    have eCB : r.CB = CB := by have := ok.nb.symm.trans TB.ns; cases this; rfl
    subst eCB
    split at e1
    · rename_i d δ2 qE
      split at e1
      · rename_i vs ls nm rows hq2
        split at e1
        · rename_i hd
          cases e1
          have hd := of_decide_eq_true hd
          refine ⟨_, h0, r.p, r.CB, r.dx, _, .ref r.rp, rfl, (a.bo 0).ins (on.has _ _ hp_p), TB.cls, TB.nr, rfl, .inl ⟨rfl, r.zs, SqL.of ((a.bo 0).lst (on.has _ _ (hp_r ok.ne)))⟩, ?_⟩
          refine ⟨B, G, δ, .ok d, δ1, a, qE, fun G1 H1 a1 x1 v rv => ?_⟩
          obtain ⟨v0, _, r0⟩ := a1.bor (bldSl_ok hq2)
          obtain ⟨_, _, _, s3, _⟩ := bld_of ok.ne on r0
          exact ⟨r.rp, r.zs, v, rfl, rfl, (a1.bo 0).lst (on.has _ _ (hp_r ok.ne)), by rw [s3.length]; exact hd, kk G1 σ H1 a1 x1 v rv⟩
        · cases e1
      · cases e1
    · cases e1
  · cases e1
theorem ptk_opn {er : Expr} (TB : BldK X.K CB) (ho : PE X o (tVar 0)) (he : DE X W0 e E) (ho3 : PE X o3 (tVar 0)) (hv : PE X er (tLst tNil))
    (hsw : swapsWith e (some (.Attribute o "name" p')) spos.line X.env = pure false := by rfl) (hsw2 : swapsWith er (some (.Attribute o3 "rows" p2)) spos2.line X.env = pure false := by rfl) :
    PSs X [.Assign [.Attribute o "name" p'] e spos, .Assign [.Attribute o3 "rows" p2] er spos2] (tTk X.K (pOpn E)) :=
  PSs.weak (pss_cons (ps_fld ho he hsw) (pss_one (ps_fld ho3 hv hsw2))) fun Dn σ H ⟨B, G, δ, δ1, t, r, ok, on, a, e1, kk⟩ => by
  unfold pOpn at e1
  split at e1
  · rename_i q0 hq0
    obtain ⟨vs0, ls0, nm0, rows0⟩ := q0
    have h0 := slot0 ok on a hq0
    have eCB : r.CB = CB := by have := ok.nb.symm.trans TB.ns; cases this; rfl
    subst eCB
    split at e1
    · rename_i d δ2 qE
      cases e1
      refine ⟨B, G, δ, .ok d, δ1, a, qE, fun G1 H1 a1 x1 v rv => ?_⟩
      refine ⟨_, h0, r.p, r.CB, r.dx, [("album", .ref r.ap), ("name", r.nv), ("rows", .ref r.rp)], rfl, (a1.bo 0).ins (on.has _ _ hp_p), TB.cls, TB.nn, (by show 3 < 1000; omega), ?_⟩
      refine ⟨Nat.zero_le _, fun q hq => ⟨_, h0, r.p, r.CB, r.dx, [("album", .ref r.ap), ("name", v), ("rows", .ref r.rp)], rfl, ?_, TB.cls, TB.nr, (by show 3 < 1000; omega), kk G1 σ H1 a1 x1 v rv q hq⟩⟩
      rw [upd_ne (ne_of_none upd_same hq)]; exact upd_same
    · cases e1
  · cases e1
end
def spTk (K : PySem.W.Frag) (Pm : Mo Tk) (n : Nat) : Sp := fun vs H Q _ => vs.length = 3 ∧ ∃ B G δ δ1 t r, BldR.Ok K r ∧ BldR.Only r (B.Bo 0) ∧ At K B G δ (vs.map some) H ∧ Pm (δ ++ List.replicate n .no) = some (.ok t, δ1) ∧ TkK K B r G δ1 t fun _ H' => Q .non H'
theorem tk_body {K : PySem.W.Frag} {Pm : Mo Tk} {n : Nat} {N : List Str} {vs : List V} {H : Hp} {Q : VK} {E : XK} (hn : N.length - 3 = n) (h : spTk K Pm n vs H Q E) : tTk K Pm { nx := fun _ H' => Q .non H', rt := Q } (L2.start N vs) H := by
  obtain ⟨hl, B, G, δ, δ1, t, r, ok, on, a, e1, k⟩ := h
  have a1 := a.start n
  have hs : L2.start N vs = vs.map some ++ List.replicate n none := by unfold L2.start; rw [hl, hn]
  rw [hs]
  exact ⟨B, G, _, δ1, t, r, ok, on, a1, e1, k⟩
section
variable {P : Program} {w : World} {K : PySem.W.Frag} {mg : Str → Option Value} {base : Heap} {x qual : Str} {st : Stmt} {f : Addr} {fd : FuncData} {N ps : List Str} {k n : Nat} {Pm : Mo Tk}
theorem fn_okTk (F : Fun K x qual st f fd) (S : FnScope N ps (defScope st)) (hn : ps.length = 3) (hN : N.length - 3 = n)
    (hb : ∀ (cdv : Value) (A : Around) (outer : List PySem.Env) (s : Shared) (H : Hp) (E : XK), Room k (A.deeper (envOfC qual (defScope st) s.heap.objs.size f cdv)) → PSs (cxOf CX0 P w K mg base N qual (defScope st) f cdv A outer s H E).nox (defBody st) (tTk K Pm)) :
    FnOk P w K mg base CX0 (k + 1) f fd ps (spTk K Pm n) :=
  F.ok S (fun vs H Q E h => h.1.trans hn.symm) fun cdv A outer s H vs Q E hr h => ⟨tTk K Pm, hb cdv A outer s H E hr, tk_body hN h⟩
end
end M
set_option Elab.async false
set_option linter.all false
set_option maxRecDepth 100000
set_option maxHeartbeats 1000000
namespace M
open PySem L2 PySem.Spec PyProof.Rows
/-- what is held: a builder's objects -/
def kBld (K : PySem.W.Frag) (i : Nat) : Kd := fun B B1 G => ∃ r : BldR, r.Ok K ∧ GInn B B1 i r.hp ∧ ∀ a zs, B1.Bo i a = some (.tup zs) → G a = some (.tup zs)
theorem reg_bld {K : PySem.W.Frag} {i : Nat} : RegK K i (kBld K i) := ⟨fun ⟨r, n1, n, t⟩ x => ⟨r, n1, n, fun a zs e => x _ _ (t a zs e)⟩, fun ⟨r, n1, n, t⟩ a => (a.gexit n).1, fun ⟨r, n1, n, t⟩ e => n.h0 _ _ e⟩
section
variable {K : PySem.W.Frag} {B B1 : Bs} {G G' H H' : Hp} {δ : Env} {σ : St} {i : Nat} {r : BldR}
theorem only_reg (n : GInn B B1 i r.hp) : r.Only (B1.Bo i) := ⟨fun a o h => (n.rg a o h).2.2.2.1, n.bi⟩
theorem regG_only {r0 : Hp} {a : Addr} {o : HO} (e : regG G r0 a = some o) : r0 a = some o ∨ ∃ zs, r0 a = none ∧ G a = some (.tup zs) ∧ o = .tup zs := by
  unfold regG at e
  split at e
  · rename_i o' c; cases e; exact .inl c
  · rename_i c
    split at e
    · rename_i zs c2; cases e; exact .inr ⟨zs, c, c2, rfl⟩
    · cases e
theorem only_regG : r.Only (regG G r.hp) := ⟨fun a o h => by unfold regG; rw [h], fun a o e => (regG_only e).imp id fun ⟨zs, _, _, h⟩ => ⟨zs, h⟩⟩
theorem regG_tup (g : RegAt B G δ σ H r.hp) : ∀ a zs, G a = some (.tup zs) → regG G r.hp a = some (.tup zs) := fun a zs e => by
  unfold regG
  cases c : r.hp a with
  | some o => rw [(g.at_ a o c).2.1] at e; cases e
  | none => rw [e]
/-- the callee's state: an object lent, two values -/
theorem At.calleeR {rp : Hp} (a : At K B G δ σ H) (g : RegAt B G δ σ H rp) {w v1 v2 : V} {d0 d1 d2 : D} (r0 : R K (regG G rp) w d0) (r1 : R K G v1 d1) (r2 : R K G v2 d2) :
    At K ⟨hid H, G, fun _ => regG G rp, []⟩ G [.bor d0, .imm d1, .imm d2] ([w, v1, v2].map some) H := by
  have gof : ∀ q o, regG G rp q = some o → H q = some o ∧ ∀ ps, o ≠ .tbl ps := fun q o e => by
    rcases regG_only e with h | ⟨zs, _, h, rfl⟩
    · exact ⟨(g.at_ q o h).1, (g.at_ q o h).2.2.2.1.tbl⟩
    · exact ⟨a.vw.tup h, fun ps z => by cases z⟩
  refine ⟨a.vw, Ext.refl G, fun _ _ e _ => (hid_of e).1, fun _ e => hid_ne e, fun _ _ _ _ e => e, fun k p e => (by cases e), fun j q o e => .inl (gof q o e).1, fun j q e => ?_, rfl, fun k s e => ?_, fun k l p e1 e2 => ?_, ⟨a.tb.1, fun b ps e => (hid_of e).2 ps rfl, a.tb.2.2.1, fun j b ps e => (gof b _ e).2 ps rfl, fun _ _ _ e => (by cases e)⟩⟩
  · cases q0 : regG G rp q with
    | none => exact absurd q0 e
    | some o =>
      obtain ⟨y1, y2⟩ := gof q o q0
      show hid H q ≠ none
      rw [hid_nt y1 y2]; simp
  · match k, e with
    | 0, e => cases e; exact ⟨_, rfl, _, rfl, r0⟩
    | 1, e => cases e; exact ⟨_, rfl, _, rfl, r1⟩
    | 2, e => cases e; exact ⟨_, rfl, _, rfl, r2⟩
    | k + 3, e => simp at e
  · obtain ⟨⟨d', z⟩, _⟩ := e1
    match k, z with
    | 0, z => rcases z with z | z <;> cases z
    | 1, z => rcases z with z | z <;> cases z
    | 2, z => rcases z with z | z <;> cases z
    | k + 3, z => simp at z
/-- what the callee did not know stays -/
theorem keep_offR {rp : Hp} {Bc : Bs} {δc : Env} {σc : St} (g : RegAt B G δ σ H rp) (e1 : Bc.H0 = hid H) (e2 : Bc.G0 = G) (e3 : Bc.IO = []) (ac : At K Bc G' δc σc H') {q : Addr} {o : HO} (h : rp q = some o) : H' q = some o ∧ G' q = none := by
  obtain ⟨y1, y2, y3, y4, y5⟩ := g.at_ q o h
  exact ⟨ac.keep q o (by rw [e1]; exact hid_nt y1 y4.tbl) (fun i z => by rw [e3] at z; cases z), ac.leak q o (by rw [e1]; exact hid_nt y1 y4.tbl) y4.tup (by rw [e2]; exact y2)⟩
/-- into the region -/
theorem bld_enter (ok : r.Ok K) (a : At K B G δ σ H) (g : RegAt B G δ σ H r.hp) (hs : δ[i]? = some .no) (hσ : σ[i]? = some (some (.ref r.p))) {vs ls rows : List D} {nm : D}
    (r1 : RL K G r.xs vs) (p1 : pureDs vs = true) (r2 : RL K G r.ys ls) (p2 : pureDs ls = true) (r3 : RL K G r.zs rows) (p3 : pureDs rows = true) (r4 : R K G r.nv nm) (p4 : flatD nm = true) :
    ∃ B1, kBld K i B B1 G ∧ At K B1 G (δ.set i (.bor (.bld vs ls nm rows))) σ H := by
  have gt := regG_tup g
  obtain ⟨n8, a8⟩ := a.genter (i := i) g hs hσ (bld_R ok only_regG.has (r1.tups gt p1) (r2.tups gt p2) (r3.tups gt p3) (r4.flat p4))
  refine ⟨_, ⟨r, ok, n8, fun b zs e => ?_⟩, a8⟩
  have e : (if i = i then regG G r.hp else B.Bo i) b = some (.tup zs) := e
  rw [if_pos rfl] at e
  rcases regG_only e with h | ⟨_, _, h, z⟩
  · exact absurd rfl ((hp_nt h).tup zs)
  · cases z; exact h
end
def bPure (vs ls rows : List D) (nm : D) : Bool := pureDs vs && pureDs ls && pureDs rows && flatD nm
theorem bPure_ok {vs ls rows : List D} {nm : D} (h : bPure vs ls rows nm = true) : pureDs vs = true ∧ pureDs ls = true ∧ pureDs rows = true ∧ flatD nm = true := by
  unfold bPure at h
  rw [Bool.and_eq_true, Bool.and_eq_true, Bool.and_eq_true] at h
  exact ⟨h.1.1.1, h.1.1.2, h.1.2, h.2⟩
def tkD (vs ls rows : List D) (nm : D) : Tk → Option D
  | .fin d => if (pureD d && decide (vs.length < sizeLine)) = true then some (.bld (vs ++ [d]) ls .non rows) else none
  | .row d => if (pureD d && decide (rows.length < sizeLine)) = true then some (.bld vs ls nm (rows ++ [d])) else none
  | .lnk d => if (pureD d && decide (ls.length < sizeLine)) = true then some (.bld vs (ls ++ [d]) nm rows) else none
  | .opn d => if flatD d = true then some (.bld vs ls d []) else none
/-- x.take(e, e') -/
def sTk (i : Nat) (Pm : Mo Tk) (n : Nat) (E1 E2 : Mo D) : Mo Out := fun δ => match bldSl δ i with
  | some _ => (E1.bind fun d1 => E2.bind fun d2 => fun δ => match bldSl δ i with
    | some (vs, ls, nm, rows) => if bPure vs ls rows nm = true then match Pm ([.bor (.bld vs ls nm rows), .imm d1, .imm d2] ++ List.replicate n .no) with
        | some (.ok t, _) => match tkD vs ls rows nm t with
          | some d' => some (.ok .nx, δ.set i (.bor d'))
          | none => none
        | _ => none
      else none
    | none => none) δ
  | none => none
section
variable {X : Cx} {o e e2 : Expr} {CB CA : Addr} {Pm : Mo Tk} {apos mpos spos pos : Pos} {i k n : Nat} {E1 E2 E : Mo D} {pl : Sem Bool} {m : Str}
theorem dsr_tk (TB : BldK X.K CB) (F : ∃ fa fd ps, FnOk X.prog X.w X.K X.mg X.base CX0 k fa fd ps (spTk X.K Pm n) ∧ Meth X.K CB m fa ∧ Binds X.K fd ps []) (hr : Room k X.A) (ho : PE X o (tVar i)) (he : DE X W0 e E1) (he2 : DE X W0 e2 E2)
    (h1 : m ≠ "album" := by decide) (h2 : m ≠ "name" := by decide) (h3 : m ≠ "rows" := by decide)
    (hst2 : starEach [e2] X.env = (false, eval e2 X.env) :: starEach [] X.env := by rfl)
    (hst : starEach [e, e2] X.env = (false, eval e X.env) :: starEach [e2] X.env := by rfl) (hpl : (backTo mpos (starEach [e2] X.env)).any (·.1) = false := by rfl)
    (ht : eval (.Call (.Attribute o m apos) [e, e2] [] mpos) X.env = (do
      let ov ← eval o X.env
      standAt apos.atName
      let (f, first) ← holding [ov] (getMethod ov m pl)
      callWith mpos f first (backTo mpos (starEach [e, e2] X.env)) (backToKw mpos (keywordEach [] X.env))) := by rfl)
    (hsw : swapsWith (.Call (.Attribute o m apos) [e, e2] [] mpos) none spos.line X.env = pure false := by rfl) : DSR X (kBld X.K i) i (.Expr (.Call (.Attribute o m apos) [e, e2] [] mpos) spos) (sTk i Pm n E1 E2) := by
  obtain ⟨fa, fd, ps, F, hm, hb⟩ := F
  refine PS.weak (ps_expr (pe_meth (E := E0) ho TB.cls hm F hr hb .nil pass0 (pa_cons he (pa_cons he2 pa_nil hst2) hst) hst hpl ht) hsw) fun Dn σ H ⟨B, B1, G, δ, r', δ', ⟨r, ok, n1, n2⟩, a, e1, post⟩ => ?_
  have eCB : r.CB = CB := by have := ok.nb.symm.trans TB.ns; cases this; rfl
  subst eCB
  have on := only_reg n1
  unfold sTk at e1
  split at e1
  · rename_i q0 hq0
    obtain ⟨vs0, ls0, nm0, rows0⟩ := q0
    obtain ⟨v0, h0, r0⟩ := a.bor (bldSl_ok hq0)
    obtain ⟨rfl, _⟩ := bld_of ok.ne on r0
    refine ⟨_, h0, r.p, r.dx, _, rfl, (a.bo i).ins (on.has _ _ hp_p), ?_, ?_⟩
    · simp only [List.lookup]
      rw [show (m == ("album" : Str)) = false from beq_eq_false_iff_ne.mpr h1, show (m == ("name" : Str)) = false from beq_eq_false_iff_ne.mpr h2, show (m == ("rows" : Str)) = false from beq_eq_false_iff_ne.mpr h3]
    refine tE_bindR a e1 post fun v1 H1 G1 δ1 d1 a1 x1 rr1 e1 post => ?_
    refine tE_bindR a1 e1 post fun v2 H2 G2 δ2 d2 a2 x2 rr2 e2 post => ?_
    split at e2
    · rename_i vs ls nm rows hq2
      split at e2
      · rename_i hp
        obtain ⟨p1, p2, p3, p4⟩ := bPure_ok hp
        split at e2
        · rename_i t δt qP
          split at e2
          · rename_i d' qD
            have e3 : r' = .ok .nx ∧ δ' = δ2.set i (.bor d') := by cases e2; exact ⟨rfl, rfl⟩
            obtain ⟨hr9, hδ9⟩ := e3
            obtain ⟨_, _, r9⟩ := a2.bor (bldSl_ok hq2)
            obtain ⟨_, s1, s2, s3, s4⟩ := bld_of ok.ne on r9
            obtain ⟨a3, g3⟩ := a2.gexit n1
            have t0 : ∀ a zs, B1.Bo i a = some (.tup zs) → G2 a = some (.tup zs) := fun a zs e => x2 _ _ (x1 _ _ (n2 a zs e))
            have t1 := s1.tups t0 p1
            have t2 := s2.tups t0 p2
            have t3 := s3.tups t0 p3
            have t4 : R X.K G2 r.nv nm := s4.flat p4
            have gt := regG_tup g3
            have ac := a3.calleeR g3 (bld_R ok only_regG.has (t1.tups gt p1) (t2.tups gt p2) (t3.tups gt p3) (t4.flat p4)) (rr1.mono x2) rr2
            refine ⟨rfl, _, G2, _, _, t, r, ok, only_regG, ac, qP, ?_⟩
            intro G' σ' H' a' x'
            have a4 := a3.called rfl rfl rfl a'
            have kp : ∀ q o, r.hp q = some o → H' q = some o ∧ G' q = none := fun q o h => keep_offR g3 rfl rfl rfl a' h
            have b0 : ∀ q o, r.hp q = some o → B.H0 q = none ∧ ∀ j, ¬ OwnAt (δ2.set i .no) σ j q := fun q o h => ⟨(g3.at_ q o h).2.2.1, (g3.at_ q o h).2.2.2.2⟩
            have hσl : i < σ.length := (List.getElem?_eq_some_iff.mp h0).1
            have hδl : i < δ2.length := by rw [a2.len]; exact hσl
            have fin : ∀ (r2 : BldR) (H3 : Hp) (vs2 ls2 rows2 : List D) (nm2 : D), r2.Ok X.K → At X.K B G' (δ2.set i .no) σ H3 → RegAt B G' (δ2.set i .no) σ H3 r2.hp → r2.p = r.p → RL X.K G' r2.xs vs2 → pureDs vs2 = true → RL X.K G' r2.ys ls2 → pureDs ls2 = true → RL X.K G' r2.zs rows2 → pureDs rows2 = true → R X.K G' r2.nv nm2 → flatD nm2 = true → d' = .bld vs2 ls2 nm2 rows2 → Dn.nx σ H3 := fun r2 H3 vs2 ls2 rows2 nm2 c1 c2 c3 c4 c5 c6 c7 c8 c9 c10 c11 c12 c13 => by
              subst hr9
              obtain ⟨B8, n8, a8⟩ := bld_enter (i := i) c1 c2 c3 (List.getElem?_set_self hδl) (by rw [c4]; exact h0) c5 c6 c7 c8 c9 c10 c11 c12
              rw [List.set_set, ← c13, ← hδ9] at a8
              exact post B8 G' σ H3 n8 a8 x'
            have ne := ok.ne
            have hP := hp_p (r := r)
            have hA := hp_a ne
            have hV := hp_v ne
            have hL := hp_l ne
            have hR := hp_r ne
            cases t with
            | fin d =>
              unfold tkD at qD
              simp only [] at qD
              split at qD
              · rename_i hc
                rw [Bool.and_eq_true, decide_eq_true_eq] at hc
                cases qD
                intro v rv
                have b1 := a4.poke (kp _ _ hV).1 nt_lst (kp _ _ hV).2 (b0 _ _ hV).1 (b0 _ _ hV).2 (.lst (r.xs ++ [v]))
                have b2 := b1.poke (p := r.p) (o := r.ins) (by rw [upd_ne ne.pv]; exact (kp _ _ hP).1) (hp_nt hP) (kp _ _ hP).2 (b0 _ _ hP).1 (b0 _ _ hP).2 (.ins r.CB r.dx [("album", .ref r.ap), ("name", .non), ("rows", .ref r.rp)])
                have lx : (r.xs ++ [v]).length ≤ sizeLine := by rw [List.length_append, List.length_singleton, t1.length]; omega
                refine fin ⟨r.p, r.CB, r.dx, r.ap, r.CA, r.dy, r.av, r.al, r.rp, .non, r.xs ++ [v], r.ys, r.zs⟩ _ _ _ _ _ ⟨ok.nb, ok.na, ⟨ne.pa, ne.pv, ne.pl, ne.pr, ne.av, ne.al, ne.ar, ne.vl, ne.vr, ne.lr⟩, lx, ok.ly, ok.lz⟩ b2 ⟨fun q o h => ?_⟩ rfl ((t1.mono x').append (.cons rv .nil)) (pureDs_snoc p1 hc.1) (t2.mono x') p2 (t3.mono x') p3 .non rfl rfl
                have nt := hp_nt h
                rcases hp_of h with ⟨rfl, rfl⟩ | ⟨rfl, rfl⟩ | ⟨rfl, rfl⟩ | ⟨rfl, rfl⟩ | ⟨rfl, rfl⟩
                · exact ⟨upd_same, (kp _ _ hP).2, (b0 _ _ hP).1, nt, (b0 _ _ hP).2⟩
                · exact ⟨by show upd (upd H' _ _) _ _ r.ap = _; rw [upd_ne (Ne.symm ne.pa), upd_ne ne.av]; exact (kp _ _ hA).1, (kp _ _ hA).2, (b0 _ _ hA).1, nt, (b0 _ _ hA).2⟩
                · exact ⟨by show upd (upd H' _ _) _ _ r.av = _; rw [upd_ne (Ne.symm ne.pv), upd_same], (kp _ _ hV).2, (b0 _ _ hV).1, nt, (b0 _ _ hV).2⟩
                · exact ⟨by show upd (upd H' _ _) _ _ r.al = _; rw [upd_ne (Ne.symm ne.pl), upd_ne (Ne.symm ne.vl)]; exact (kp _ _ hL).1, (kp _ _ hL).2, (b0 _ _ hL).1, nt, (b0 _ _ hL).2⟩
                · exact ⟨by show upd (upd H' _ _) _ _ r.rp = _; rw [upd_ne (Ne.symm ne.pr), upd_ne (Ne.symm ne.vr)]; exact (kp _ _ hR).1, (kp _ _ hR).2, (b0 _ _ hR).1, nt, (b0 _ _ hR).2⟩
              · cases qD
            | row d =>
              unfold tkD at qD
              simp only [] at qD
              split at qD
              · rename_i hc
                rw [Bool.and_eq_true, decide_eq_true_eq] at hc
                cases qD
                intro v rv
                have b1 := a4.poke (kp _ _ hR).1 nt_lst (kp _ _ hR).2 (b0 _ _ hR).1 (b0 _ _ hR).2 (.lst (r.zs ++ [v]))
                have lx : (r.zs ++ [v]).length ≤ sizeLine := by rw [List.length_append, List.length_singleton, t3.length]; omega
                refine fin ⟨r.p, r.CB, r.dx, r.ap, r.CA, r.dy, r.av, r.al, r.rp, r.nv, r.xs, r.ys, r.zs ++ [v]⟩ _ _ _ _ _ ⟨ok.nb, ok.na, ⟨ne.pa, ne.pv, ne.pl, ne.pr, ne.av, ne.al, ne.ar, ne.vl, ne.vr, ne.lr⟩, ok.lx, ok.ly, lx⟩ b1 ⟨fun q o h => ?_⟩ rfl (t1.mono x') p1 (t2.mono x') p2 ((t3.mono x').append (.cons rv .nil)) (pureDs_snoc p3 hc.1) (t4.mono x') p4 rfl
                have nt := hp_nt h
                rcases hp_of h with ⟨rfl, rfl⟩ | ⟨rfl, rfl⟩ | ⟨rfl, rfl⟩ | ⟨rfl, rfl⟩ | ⟨rfl, rfl⟩
                · exact ⟨by show upd H' _ _ r.p = _; rw [upd_ne ne.pr]; exact (kp _ _ hP).1, (kp _ _ hP).2, (b0 _ _ hP).1, nt, (b0 _ _ hP).2⟩
                · exact ⟨by show upd H' _ _ r.ap = _; rw [upd_ne ne.ar]; exact (kp _ _ hA).1, (kp _ _ hA).2, (b0 _ _ hA).1, nt, (b0 _ _ hA).2⟩
                · exact ⟨by show upd H' _ _ r.av = _; rw [upd_ne ne.vr]; exact (kp _ _ hV).1, (kp _ _ hV).2, (b0 _ _ hV).1, nt, (b0 _ _ hV).2⟩
                · exact ⟨by show upd H' _ _ r.al = _; rw [upd_ne ne.lr]; exact (kp _ _ hL).1, (kp _ _ hL).2, (b0 _ _ hL).1, nt, (b0 _ _ hL).2⟩
                · exact ⟨upd_same, (kp _ _ hR).2, (b0 _ _ hR).1, nt, (b0 _ _ hR).2⟩
              · cases qD
            | lnk d =>
              unfold tkD at qD
              simp only [] at qD
              split at qD
              · rename_i hc
                rw [Bool.and_eq_true, decide_eq_true_eq] at hc
                cases qD
                intro v rv
                have b1 := a4.poke (kp _ _ hL).1 nt_lst (kp _ _ hL).2 (b0 _ _ hL).1 (b0 _ _ hL).2 (.lst (r.ys ++ [v]))
                have lx : (r.ys ++ [v]).length ≤ sizeLine := by rw [List.length_append, List.length_singleton, t2.length]; omega
                refine fin ⟨r.p, r.CB, r.dx, r.ap, r.CA, r.dy, r.av, r.al, r.rp, r.nv, r.xs, r.ys ++ [v], r.zs⟩ _ _ _ _ _ ⟨ok.nb, ok.na, ⟨ne.pa, ne.pv, ne.pl, ne.pr, ne.av, ne.al, ne.ar, ne.vl, ne.vr, ne.lr⟩, ok.lx, lx, ok.lz⟩ b1 ⟨fun q o h => ?_⟩ rfl (t1.mono x') p1 ((t2.mono x').append (.cons rv .nil)) (pureDs_snoc p2 hc.1) (t3.mono x') p3 (t4.mono x') p4 rfl
                have nt := hp_nt h
                rcases hp_of h with ⟨rfl, rfl⟩ | ⟨rfl, rfl⟩ | ⟨rfl, rfl⟩ | ⟨rfl, rfl⟩ | ⟨rfl, rfl⟩
                · exact ⟨by show upd H' _ _ r.p = _; rw [upd_ne ne.pl]; exact (kp _ _ hP).1, (kp _ _ hP).2, (b0 _ _ hP).1, nt, (b0 _ _ hP).2⟩
                · exact ⟨by show upd H' _ _ r.ap = _; rw [upd_ne ne.al]; exact (kp _ _ hA).1, (kp _ _ hA).2, (b0 _ _ hA).1, nt, (b0 _ _ hA).2⟩
                · exact ⟨by show upd H' _ _ r.av = _; rw [upd_ne ne.vl]; exact (kp _ _ hV).1, (kp _ _ hV).2, (b0 _ _ hV).1, nt, (b0 _ _ hV).2⟩
                · exact ⟨upd_same, (kp _ _ hL).2, (b0 _ _ hL).1, nt, (b0 _ _ hL).2⟩
                · exact ⟨by show upd H' _ _ r.rp = _; rw [upd_ne (Ne.symm ne.lr)]; exact (kp _ _ hR).1, (kp _ _ hR).2, (b0 _ _ hR).1, nt, (b0 _ _ hR).2⟩
              · cases qD
            | opn d =>
              unfold tkD at qD
              simp only [] at qD
              split at qD
              · rename_i hc
                cases qD
                intro v rv q hq
                have b1 := a4.poke (kp _ _ hP).1 (hp_nt hP) (kp _ _ hP).2 (b0 _ _ hP).1 (b0 _ _ hP).2 (.ins r.CB r.dx [("album", .ref r.ap), ("name", v), ("rows", .ref r.rp)])
                have b2 := b1.alloc (o := .lst []) hq
                have gq := b1.vw.none hq
                have bq := b1.fresh0 hq
                have nq := b1.noOwn hq
                have hqp : r.p ≠ q := ne_of_none upd_same hq
                have b3 := b2.poke (p := r.p) (o := .ins r.CB r.dx [("album", .ref r.ap), ("name", v), ("rows", .ref r.rp)]) (by rw [upd_ne hqp]; exact upd_same) nt_ins (kp _ _ hP).2 (b0 _ _ hP).1 (b0 _ _ hP).2 (.ins r.CB r.dx [("album", .ref r.ap), ("name", v), ("rows", .ref q)])
                have off : ∀ a o, r.hp a = some o → a ≠ r.p → a ≠ q := fun a o h c => by
                  refine ne_of_none (o := o) ?_ hq
                  rw [upd_ne c]; exact (kp _ _ h).1
                have qA := off _ _ hA (Ne.symm ne.pa)
                have qV := off _ _ hV (Ne.symm ne.pv)
                have qL := off _ _ hL (Ne.symm ne.pl)
                refine fin ⟨r.p, r.CB, r.dx, r.ap, r.CA, r.dy, r.av, r.al, q, v, r.xs, r.ys, []⟩ _ _ _ _ _ ⟨ok.nb, ok.na, ⟨ne.pa, ne.pv, ne.pl, hqp, ne.av, ne.al, qA, ne.vl, qV, qL⟩, ok.lx, ok.ly, Nat.zero_le _⟩ b3 ⟨fun q' o h => ?_⟩ rfl (t1.mono x') p1 (t2.mono x') p2 .nil (by unfold pureDs; rfl) rv hc rfl
                have nt := hp_nt h
                rcases hp_of h with ⟨rfl, rfl⟩ | ⟨rfl, rfl⟩ | ⟨rfl, rfl⟩ | ⟨rfl, rfl⟩ | ⟨rfl, rfl⟩
                · exact ⟨upd_same, (kp _ _ hP).2, (b0 _ _ hP).1, nt, (b0 _ _ hP).2⟩
                · exact ⟨by show upd (upd (upd H' _ _) _ _) _ _ r.ap = _; rw [upd_ne (Ne.symm ne.pa), upd_ne qA, upd_ne (Ne.symm ne.pa)]; exact (kp _ _ hA).1, (kp _ _ hA).2, (b0 _ _ hA).1, nt, (b0 _ _ hA).2⟩
                · exact ⟨by show upd (upd (upd H' _ _) _ _) _ _ r.av = _; rw [upd_ne (Ne.symm ne.pv), upd_ne qV, upd_ne (Ne.symm ne.pv)]; exact (kp _ _ hV).1, (kp _ _ hV).2, (b0 _ _ hV).1, nt, (b0 _ _ hV).2⟩
                · exact ⟨by show upd (upd (upd H' _ _) _ _) _ _ r.al = _; rw [upd_ne (Ne.symm ne.pl), upd_ne qL, upd_ne (Ne.symm ne.pl)]; exact (kp _ _ hL).1, (kp _ _ hL).2, (b0 _ _ hL).1, nt, (b0 _ _ hL).2⟩
                · exact ⟨by rw [upd_ne (Ne.symm hqp), upd_same], gq, bq, nt, nq⟩
              · cases qD
          · cases e2
        · cases e2
      · cases e2
    · cases e2
  · cases e1
/-- return x.album -/
def sRetB (i : Nat) : Mo Out := fun δ => match bldSl δ i with
  | some (vs, ls, _, _) => if (pureDs vs && pureDs ls) = true then some (.ok (.rt (.alb vs ls)), δ) else none
  | none => none
theorem dsr_retB (TB : BldK X.K CB) (ho : PE X o (tVar i)) (hb : attributeBase o "album" X.env (eval o X.env) = eval o X.env := by rfl) : DSR X (kBld X.K i) i (.Return (some (.Attribute o "album" apos)) pos) (sRetB i) := PS.weak (ps_ret (pe_fld ho hb)) fun Dn σ H ⟨B, B1, G, δ, r', δ', ⟨r, ok, n1, n2⟩, a, e1, post⟩ => by
  have eCB : r.CB = CB := by have := ok.nb.symm.trans TB.ns; cases this; rfl
  subst eCB
  have on := only_reg n1
  unfold sRetB at e1
  split at e1
  · rename_i vs ls nm rows hq
    split at e1
    · rename_i hp
      rw [Bool.and_eq_true] at hp
      cases e1
      obtain ⟨v, h1, r0⟩ := a.bor (bldSl_ok hq)
      obtain ⟨rfl, s1, s2, s3, s4⟩ := bld_of ok.ne on r0
      obtain ⟨a2, g2⟩ := a.gexit n1
      obtain ⟨G3, a3, x3, g3⟩ := a2.fixR g2
      have t1 := (s1.tups n2 hp.1).mono x3
      have t2 := (s2.tups n2 hp.2).mono x3
      exact ⟨_, h1, r.p, r.CB, r.dx, _, .ref r.ap, rfl, (a.bo i).ins (on.has _ _ hp_p), TB.cls, TB.na, rfl, post G3 σ H a3 x3 _ (alb_R ok g3 t1 t2)⟩
    · cases e1
  · cases e1
/-- a try that runs through -/
theorem dsr_try {κ : Kd} {body : List Stmt} {h0 : ExceptHandler} {hs : List ExceptHandler} {S : Mo Out} (hn : ∀ e s, ¬ X.xe e s) (hb : DSRs X κ i body S) : DSR X κ i (.Try body (h0 :: hs) [] [] pos) S := PS.weak (ps_try_never hn hb pss_nil) fun Dn σ H q => q
end
def spInitB (CB CA : Addr) : Sp := fun vs H Q _ => ∃ x dx, vs = [.ref x] ∧ H x = some (.ins CB dx []) ∧ ∀ ap dy av al rp, H ap = none → H dy = none → dy ≠ ap → (∀ H1, H1 = upd (upd H dy (.own ap)) ap (.ins CA dy []) → H1 av = none → ∀ H2, H2 = upd (upd H1 av (.lst [])) ap (.ins CA dy [("_views", .ref av)]) → H2 al = none → ∀ H3, H3 = upd (upd (upd H2 al (.lst [])) ap (.ins CA dy [("_views", .ref av), ("_links", .ref al)])) x (.ins CB dx [("album", .ref ap)]) →
  ∀ H4, H4 = upd H3 x (.ins CB dx [("album", .ref ap), ("name", .non)]) → H4 rp = none → Q .non (upd (upd H4 rp (.lst [])) x (.ins CB dx [("album", .ref ap), ("name", .non), ("rows", .ref rp)])))
section
variable {K : PySem.W.Frag} {CB CA : Addr}
theorem initB_t (TB : BldK K CB) {N : List Str} {vs : List V} {H : Hp} {Q : VK} {E : XK} (h : spInitB CB CA vs H Q E) :
    tSeq (sFld K (tVar 0) (tMake CA (spInit CA) [] E0 tNil) "album") (tSeq (sFld K (tVar 0) (tC .non) "name") (sFld K (tVar 0) (tLst tNil) "rows")) { nx := fun _ H' => Q .non H', rt := Q } (L2.start N vs) H := by
  obtain ⟨x, dx, rfl, hx, k⟩ := h
  have h0 : (L2.start N [.ref x])[0]? = some (some (.ref x)) := by unfold L2.start; rfl
  intro ap dy hap hdy hne
  show spInit CA ([.ref ap] ++ []) (upd (upd H dy (.own ap)) ap (.ins CA dy [])) _ E0
  refine ⟨ap, dy, rfl, upd_same, fun av al hav hal => ⟨rfl, ?_⟩⟩
  have c1 : x ≠ ap := ne_of_none hx hap
  have c2 : x ≠ dy := ne_of_none hx hdy
  have hx1 : upd (upd H dy (.own ap)) ap (.ins CA dy []) x = some (.ins CB dx []) := by rw [upd_ne c1, upd_ne c2]; exact hx
  have c3 : x ≠ av := ne_of_none hx1 hav
  have hx2 : upd (upd (upd (upd H dy (.own ap)) ap (.ins CA dy [])) av (.lst [])) ap (.ins CA dy [("_views", .ref av)]) x = some (.ins CB dx []) := by rw [upd_ne c1, upd_ne c3]; exact hx1
  have c4 : x ≠ al := ne_of_none hx2 hal
  refine ⟨_, h0, x, CB, dx, [], rfl, by rw [upd_ne c1, upd_ne c4]; exact hx2, TB.cls, TB.na, by decide, ?_⟩
  refine ⟨_, h0, x, CB, dx, [("album", .ref ap)], rfl, upd_same, TB.cls, TB.nn, (by show 1 < 1000; omega), ?_⟩
  refine ⟨Nat.zero_le _, fun rp hrp => ⟨_, h0, x, CB, dx, [("album", .ref ap), ("name", .non)], rfl, by rw [upd_ne (ne_of_none upd_same hrp)]; exact upd_same, TB.cls, TB.nr, (by show 2 < 1000; omega), ?_⟩⟩
  exact k ap dy av al rp hap hdy hne _ rfl hav _ rfl hal _ rfl _ rfl hrp
theorem initB_len : ∀ vs H Q E, spInitB CB CA vs H Q E → vs.length = (["self"] : List Str).length := fun vs H Q E ⟨_, _, h, _⟩ => by rw [h]; rfl
variable {P : Program} {w : World} {mg : Str → Option Value} {base : Heap} {x qual : Str} {st : Stmt} {f : Addr} {fd : FuncData} {N : List Str} {k : Nat}
theorem fn_okInitB (F : Fun K x qual st f fd) (S : FnScope N ["self"] (defScope st)) (TB : BldK K CB)
    (hb : ∀ (cdv : Value) (A : Around) (outer : List PySem.Env) (s : Shared) (H : Hp) (E : XK), Room k (A.deeper (envOfC qual (defScope st) s.heap.objs.size f cdv)) → PSs (cxOf CX0 P w K mg base N qual (defScope st) f cdv A outer s H E).nox (defBody st) (tSeq (sFld K (tVar 0) (tMake CA (spInit CA) [] E0 tNil) "album") (tSeq (sFld K (tVar 0) (tC .non) "name") (sFld K (tVar 0) (tLst tNil) "rows")))) :
    FnOk P w K mg base CX0 (k + 1) f fd ["self"] (spInitB CB CA) :=
  F.ok S initB_len fun cdv A outer s H vs Q E hr h => ⟨_, hb cdv A outer s H E hr, initB_t (E := E) TB h⟩
end
/-- the three statements of __init__ -/
theorem pss_initB {X : Cx} {k : Nat} {CA : Addr} {o1 o2 o3 en er : Expr} {p p1 p2 p3 q0 q1 q2 q3 : Pos} (AM : AlbM X.prog X.w X.K X.mg X.base CA k) (hr : Room (k + 1) X.A) (hg : Gl X "Album") (ho1 : PE X o1 (tVar 0)) (ho2 : PE X o2 (tVar 0)) (ho3 : PE X o3 (tVar 0)) (hn : PE X en (tC .non)) (hl : PE X er (tLst tNil))
    (s1 : swapsWith (.Call (.Name "Album" p) [] [] q0) (some (.Attribute o1 "album" p1)) q1.line X.env = pure false := by rfl) (s2 : swapsWith en (some (.Attribute o2 "name" p2)) q2.line X.env = pure false := by rfl) (s3 : swapsWith er (some (.Attribute o3 "rows" p3)) q3.line X.env = pure false := by rfl) :
    PSs X [.Assign [.Attribute o1 "album" p1] (.Call (.Name "Album" p) [] [] q0) q1, .Assign [.Attribute o2 "name" p2] en q2, .Assign [.Attribute o3 "rows" p3] er q3] (tSeq (sFld X.K (tVar 0) (tMake CA (spInit CA) [] E0 tNil) "album") (tSeq (sFld X.K (tVar 0) (tC .non) "name") (sFld X.K (tVar 0) (tLst tNil) "rows"))) := by
  obtain ⟨f, fd, MM, F, hb, hm⟩ := AM.ex
  exact pss_cons (ps_fld ho1 (pe_make0 (E := E0) MM F hr hg hm hb .nil pass0) s1) (pss_cons (ps_fld ho2 hn s2) (pss_one (ps_fld ho3 hl s3)))
/-- Builder() -/
structure BldM (P : Program) (w : World) (K : PySem.W.Frag) (mg : Str → Option Value) (base : Heap) (CB CA : Addr) (k : Nat) : Prop where
  ex : ∃ f fd, Mk K CB f ∧ FnOk P w K mg base CX0 k f fd ["self"] (spInitB CB CA) ∧ Binds K fd ["self"] [] ∧ mg "Builder" = some (.ref CB)
/-- x = Builder(), and what stands behind it -/
def sBld (i : Nat) (S : Mo Out) : Mo Out := fun δ => if i < δ.length then match S (δ.set i (.bor (.bld [] [] .non []))) with
    | some (.ok o, δ') => some (.ok o, δ'.set i .no)
    | _ => none
  else none
section
variable {X : Cx} {i k : Nat} {rest : List Stmt} {p p' pos spos : Pos} {S : Mo Out} {CA CB : Addr} {y : Str}
theorem dss_bld (TB : BldK X.K CB) (TA : AlbK X.K CA) (BM : BldM X.prog X.w X.K X.mg X.base CB CA k) (hr : Room (k + 1) X.A) (hg : Gl X "Builder")
    (hN : X.N.Nodup) (hi : X.N[i]? = some y) (hx : Loc X.env.scope y) (hrest : DSRs X (kBld X.K i) i rest S) (hs : swapsWith (.Call (.Name "Builder" p) [] [] pos) (some (.Name y p')) spos.line X.env = pure false := by rfl)
    (hf : X.fn y = true ∨ X.env.scope.names.lookup y = some .local := by first | exact .inl rfl | exact .inr rfl | assumption) : DSs X W0 (.Assign [.Name y p'] (.Call (.Name "Builder" p) [] [] pos) spos :: rest) (sBld i S) := by
  obtain ⟨f, fd, MM, F, hb, hm⟩ := BM.ex
  refine PSs.weak (pss_cons (ps_set hN hi hx (pe_make0 (E := E0) MM F hr hg hm hb .nil pass0) hs hf) hrest) fun Dn σ H ⟨B, G, δ, r, δ', a, ev, post⟩ => ?_
  show ∀ x dx, H x = none → H dx = none → dx ≠ x → _
  intro x dx hx hdx hne
  refine ⟨x, dx, rfl, upd_same, fun ap dy av al rp hap hdy hn2 H1 e1 hav H2 e2 hal H3 e3 H4 e4 hrp => ⟨rfl, ?_⟩⟩
  have a1 := a.alloc (o := .own x) hdx
  have hx1 : upd H dx (.own x) x = none := by rw [upd_ne (Ne.symm hne)]; exact hx
  have a2 := a1.alloc (o := .ins CB dx []) hx1
  have bX := a1.fresh0 hx1
  have gX := a1.vw.none hx1
  have nX := a1.noOwn hx1
  generalize hH0 : upd (upd H dx (.own x)) x (.ins CB dx []) = H0 at *
  have x0 : H0 x = some (.ins CB dx []) := by rw [← hH0]; exact upd_same
  have cxa : x ≠ ap := ne_of_none x0 hap
  have cxd : x ≠ dy := ne_of_none x0 hdy
  have a3 := a2.alloc (o := .own ap) hdy
  have hap1 : upd H0 dy (.own ap) ap = none := by rw [upd_ne (Ne.symm hn2)]; exact hap
  have a4 := a3.alloc (o := .ins CA dy []) hap1
  have bA := a3.fresh0 hap1
  have gA := a3.vw.none hap1
  have nA := a3.noOwn hap1
  rw [← e1] at a4
  have x1 : H1 x = some (.ins CB dx []) := by rw [e1, upd_ne cxa, upd_ne cxd]; exact x0
  have p1 : H1 ap = some (.ins CA dy []) := by rw [e1]; exact upd_same
  have cxv : x ≠ av := ne_of_none x1 hav
  have cav : ap ≠ av := ne_of_none p1 hav
  have a5 := a4.alloc (o := .lst []) hav
  have bV := a4.fresh0 hav
  have gV := a4.vw.none hav
  have nV := a4.noOwn hav
  have a6 := a5.poke (p := ap) (o := .ins CA dy []) (by rw [upd_ne cav]; exact p1) nt_ins gA bA nA (.ins CA dy [("_views", .ref av)])
  rw [← e2] at a6
  have x2 : H2 x = some (.ins CB dx []) := by rw [e2, upd_ne cxa, upd_ne cxv]; exact x1
  have p2 : H2 ap = some (.ins CA dy [("_views", .ref av)]) := by rw [e2]; exact upd_same
  have v2 : H2 av = some (.lst []) := by rw [e2, upd_ne (Ne.symm cav)]; exact upd_same
  have cxl : x ≠ al := ne_of_none x2 hal
  have cal : ap ≠ al := ne_of_none p2 hal
  have cvl : av ≠ al := ne_of_none v2 hal
  have a7 := a6.alloc (o := .lst []) hal
  have bL := a6.fresh0 hal
  have gL := a6.vw.none hal
  have nL := a6.noOwn hal
  have a8 := a7.poke (p := ap) (o := .ins CA dy [("_views", .ref av)]) (by rw [upd_ne cal]; exact p2) nt_ins gA bA nA (.ins CA dy [("_views", .ref av), ("_links", .ref al)])
  have a9 := a8.poke (p := x) (o := .ins CB dx []) (by rw [upd_ne cxa, upd_ne cxl]; exact x2) nt_ins gX bX nX (.ins CB dx [("album", .ref ap)])
  rw [← e3] at a9
  have x3 : H3 x = some (.ins CB dx [("album", .ref ap)]) := by rw [e3]; exact upd_same
  have p3 : H3 ap = some (.ins CA dy [("_views", .ref av), ("_links", .ref al)]) := by rw [e3, upd_ne (Ne.symm cxa)]; exact upd_same
  have v3 : H3 av = some (.lst []) := by rw [e3, upd_ne (Ne.symm cxv), upd_ne (Ne.symm cav), upd_ne cvl]; exact v2
  have l3 : H3 al = some (.lst []) := by rw [e3, upd_ne (Ne.symm cxl), upd_ne (Ne.symm cal)]; exact upd_same
  have a10 := a9.poke (p := x) x3 nt_ins gX bX nX (.ins CB dx [("album", .ref ap), ("name", .non)])
  rw [← e4] at a10
  have x4 : H4 x = some (.ins CB dx [("album", .ref ap), ("name", .non)]) := by rw [e4]; exact upd_same
  have p4 : H4 ap = some (.ins CA dy [("_views", .ref av), ("_links", .ref al)]) := by rw [e4, upd_ne (Ne.symm cxa)]; exact p3
  have v4 : H4 av = some (.lst []) := by rw [e4, upd_ne (Ne.symm cxv)]; exact v3
  have l4 : H4 al = some (.lst []) := by rw [e4, upd_ne (Ne.symm cxl)]; exact l3
  have cxr : x ≠ rp := ne_of_none x4 hrp
  have car : ap ≠ rp := ne_of_none p4 hrp
  have cvr : av ≠ rp := ne_of_none v4 hrp
  have clr : al ≠ rp := ne_of_none l4 hrp
  have a11 := a10.alloc (o := .lst []) hrp
  have bR := a10.fresh0 hrp
  have gR := a10.vw.none hrp
  have nR := a10.noOwn hrp
  have a12 := a11.poke (p := x) (o := .ins CB dx [("album", .ref ap), ("name", .non)]) (by rw [upd_ne cxr]; exact x4) nt_ins gX bX nX (.ins CB dx [("album", .ref ap), ("name", .non), ("rows", .ref rp)])
  have a13 := a12.clear (i := i) (some (.ref x))
  unfold sBld at ev
  split at ev
  · rename_i hi
    have hl : i < σ.length := by rw [← a.len]; exact hi
    have ok : BldR.Ok X.K ⟨x, CB, dx, ap, CA, dy, av, al, rp, .non, [], [], []⟩ := ⟨TB.ns, TA.ns, ⟨cxa, cxv, cxl, cxr, cav, cal, car, cvl, cvr, clr⟩, Nat.zero_le _, Nat.zero_le _, Nat.zero_le _⟩
    have g : RegAt B G (δ.set i .no) (σ.set i (some (.ref x))) (upd (upd H4 rp (.lst [])) x (.ins CB dx [("album", .ref ap), ("name", .non), ("rows", .ref rp)])) (BldR.hp ⟨x, CB, dx, ap, CA, dy, av, al, rp, .non, [], [], []⟩) := ⟨fun q o h => by
      have nt := hp_nt h
      rcases hp_of h with ⟨rfl, rfl⟩ | ⟨rfl, rfl⟩ | ⟨rfl, rfl⟩ | ⟨rfl, rfl⟩ | ⟨rfl, rfl⟩
      · exact ⟨upd_same, gX, bX, nt, fun j z => nX j (own_forget z)⟩
      · exact ⟨by rw [upd_ne (Ne.symm cxa), upd_ne car]; exact p4, gA, bA, nt, fun j z => nA j (own_forget z)⟩
      · exact ⟨by rw [upd_ne (Ne.symm cxv), upd_ne cvr]; exact v4, gV, bV, nt, fun j z => nV j (own_forget z)⟩
      · exact ⟨by rw [upd_ne (Ne.symm cxl), upd_ne clr]; exact l4, gL, bL, nt, fun j z => nL j (own_forget z)⟩
      · exact ⟨by rw [upd_ne (Ne.symm cxr)]; exact upd_same, gR, bR, nt, fun j z => nR j (own_forget z)⟩⟩
    obtain ⟨B8, n8, a8'⟩ := bld_enter (i := i) ok a13 g (List.getElem?_set_self hi) (List.getElem?_set_self hl) (vs := []) (ls := []) (rows := []) (nm := .non) .nil (by unfold pureDs; rfl) .nil (by unfold pureDs; rfl) .nil (by unfold pureDs; rfl) .non rfl
    rw [List.set_set] at a8'
    split at ev
    · rename_i o δ1 q
      cases ev
      have lv : ∀ {B1 G' σ' H'}, kBld X.K i B B1 G' → At X.K B1 G' δ1 σ' H' → At X.K B G' (δ1.set i .no) σ' H' := fun ⟨rr, _, m, _⟩ a' => (a'.gexit m).1
      refine ⟨B, B8, G, _, .ok o, δ1, n8, a8', q, ?_⟩
      cases o with
      | nx => exact fun B1 G' σ' H' n a' x' => post G' σ' H' (lv n a') x'
      | bk => exact fun B1 G' σ' H' n a' x' => post G' σ' H' (lv n a') x'
      | ct => exact fun B1 G' σ' H' n a' x' => post G' σ' H' (lv n a') x'
      | rt d => exact post
      | rtO d => exact post
    · cases ev
  · cases ev
end
/-- take, by its name -/
def CalT (P : Program) (w : World) (K : PySem.W.Frag) (mg : Str → Option Value) (base : Heap) (C : Addr) (k : Nat) (m : Str) (Pm : Mo Tk) (n : Nat) : Prop := ∃ fa fd ps, FnOk P w K mg base CX0 k fa fd ps (spTk K Pm n) ∧ Meth K C m fa ∧ Binds K fd ps []
theorem CalT.mono {P : Program} {w : World} {K : PySem.W.Frag} {mg : Str → Option Value} {base : Heap} {C : Addr} {k : Nat} {m : Str} {Pm : Mo Tk} {n : Nat} (h : CalT P w K mg base C k m Pm n) : ∃ fa fd ps, FnOk P w K mg base CX0 k fa fd ps (spTk K Pm n) ∧ Meth K C m fa ∧ Binds K fd ps [] := h
end M
set_option Elab.async false
set_option linter.all false
set_option maxRecDepth 100000
set_option maxHeartbeats 0
namespace M
open PySem L2 PySem.Spec PyProof.Rows
def top (i : Nat) : Stmt := PySem.Challenge.pw_laidviews_k02_albums_read.main.body.getD i (.Pass ⟨0, 0, 0, 0⟩)
def clsAt (st : Stmt) (j : Nat) : Stmt := match st with
  | .ClassDef _ _ _ body _ _ _ _ _ _ _ => body.getD j (.Pass ⟨0, 0, 0, 0⟩)
  | s => s
structure Bi (mg : Str → Option Value) : Prop where
  c_MAX_NAME : ∃ t, mg "MAX_NAME" = some (.int 8 t)
  c_MOST : ∃ t, mg "MOST" = some (.int 999 t)
  c_MAX_SIDE : ∃ t, mg "MAX_SIDE" = some (.int 12 t)
  c_MAX_VIEWS : ∃ t, mg "MAX_VIEWS" = some (.int 30 t)
  c_MAX_SHIFT : ∃ t, mg "MAX_SHIFT" = some (.int 99 t)
  c_MAX_LIGHT : ∃ t, mg "MAX_LIGHT" = some (.int 999 t)
  c_MAX_LINKS : ∃ t, mg "MAX_LINKS" = some (.int 60 t)
  c_MAX_DIGITS : ∃ t, mg "MAX_DIGITS" = some (.int 9 t)
  abs : mg "abs" = none
  all : mg "all" = none
  bool : mg "bool" = none
  int : mg "int" = none
  isinstance : mg "isinstance" = none
  len : mg "len" = none
  list : mg "list" = none
  range : mg "range" = none
  str : mg "str" = none
  tuple : mg "tuple" = none
section
variable {P : Program} {w : World} {K : PySem.W.Frag} {mg : Str → Option Value} {base : Heap} {f C fI CA CB : Addr} {fd : FuncData}
abbrev s__law_pool : Stmt := top 34
noncomputable def b__law_pool : Mo Out :=
 (sRetO (eLst (aCons (eC (.int 0)) (aCons (eF fList' (aCons (eV 0) aNil)) (aCons (eUn dNeg (eC (.int 1))) aNil)))))
noncomputable def m__law_pool : Mo D := fnO 1 1 b__law_pool
theorem sc__law_pool : FnScope ["_law_script"] ["_law_script"] (defScope s__law_pool) := ⟨rfl, rfl, rfl, by decide +kernel, rfl, by decide +kernel, by decide +kernel⟩
theorem ok__law_pool (F : Fun K "_law_pool" "_law_pool" s__law_pool f fd) (T : Bi mg)  : FnOk P w K mg base CX0 1 f fd ["_law_script"] (spM Wn K 1 true m__law_pool) :=
 fn_okO F sc__law_pool rfl fun cdv A outer s H E hr =>
 (dss_one (ds_retO (do_lst (da_cons de_int (da_cons (DO.de (do_list (by rfl) (by rfl) T.list bt_list (da_cons (de_v (pv 0)) da_nil (by rfl)) (by decide) (by decide) (by rfl) (by rfl))) (da_cons (de_neg de_int) da_nil (by rfl)) (by rfl)) (by rfl)))))
abbrev s__law_wide : Stmt := top 32
noncomputable def b__law_wide : Mo Out :=
 (sSeq (sAsg (gN 2) (eC (.int 0)))
 (sSeq (sIf (eB (eBin dLt (eV 1) (eF fLen (aCons (eV 0) aNil))))
 (sAsg (gN 2) (eF fAbs (aCons (eIxV 0 (eV 1)) aNil)))
 sNx)
 (sSeq (sIf (eB (eBin dGe (eV 2) (eC (.int 1000000000000000000))))
 (sRet (eV 2))
 sNx)
 (sSeq (sAsg (gN 3) (eBin dMod (eF fInt (aCons (eBin dAdd (eBin dMul (eBin dAdd (eV 2) (eC (.int 1))) (eC (.int 6364136223846793005))) (eBin dMul (eBin dAdd (eV 1) (eC (.int 1))) (eC (.int 1442695040888963407)))) aNil)) (eC (.int 2305843009213693951))))
 (sRet (eBin dMod (eF fInt (aCons (eBin dAdd (eBin dMul (eV 3) (eC (.int 3202034522624059733))) (eBin dDiv (eV 3) (eC (.int 1000003)))) aNil)) (eC (.int 2305843009213693951))))))))
noncomputable def m__law_wide : Mo D := fnM 4 2 b__law_wide
theorem sc__law_wide : FnScope ["_law_script", "_law_k", "_law_cell", "_law_mixed"] ["_law_script", "_law_k"] (defScope s__law_wide) := ⟨rfl, rfl, rfl, by decide +kernel, rfl, by decide +kernel, by decide +kernel⟩
theorem nd__law_wide : List.Nodup (α := Str) ["_law_script", "_law_k", "_law_cell", "_law_mixed"] := by decide +kernel
theorem ok__law_wide (F : Fun K "_law_wide" "_law_wide" s__law_wide f fd) (T : Bi mg)  : FnOk P w K mg base CX0 1 f fd ["_law_script", "_law_k"] (spM Wn K 2 false m__law_wide) :=
 fn_ok F sc__law_wide rfl fun cdv A outer s H E hr =>
 (dss_cons (ds_set nd__law_wide rfl (by first | exact Or.inl rfl | exact Or.inr rfl) de_int (by rfl) (by first | exact Or.inl rfl | exact Or.inr rfl | assumption))
 (dss_cons (ds_if (dt_lt (de_v (pv 1)) (de_len (by rfl) T.len bt_len (da_cons (de_v (pv 0)) da_nil (by rfl)) (by decide) (by decide) (by rfl) (by rfl)))
 (dss_one (ds_set nd__law_wide rfl (by first | exact Or.inl rfl | exact Or.inr rfl) (de_abs (by rfl) T.abs bt_abs (da_cons (de_ixV hr.u1 (pv 0) (de_v (pv 1)) (by intro _ _; rfl) (by intro _ _; rfl)) da_nil (by rfl)) (by decide) (by decide) (by rfl) (by rfl)) (by rfl) (by first | exact Or.inl rfl | exact Or.inr rfl | assumption)))
 dss_nil)
 (dss_cons (ds_if (dt_ge (de_v (pv 2)) de_int)
 (dss_one (ds_ret (de_v (pv 2))))
 dss_nil)
 (dss_cons (ds_set nd__law_wide rfl (by first | exact Or.inl rfl | exact Or.inr rfl) (de_mod (de_int1 (by rfl) T.int bt_int (da_cons (de_add (de_mul (de_add (de_v (pv 2)) de_int) de_int) (de_mul (de_add (de_v (pv 1)) de_int) de_int)) da_nil (by rfl)) (by decide) (by decide) (by rfl) (by rfl)) de_int) (by rfl) (by first | exact Or.inl rfl | exact Or.inr rfl | assumption))
 (dss_one (ds_ret (de_mod (de_int1 (by rfl) T.int bt_int (da_cons (de_add (de_mul (de_v (pv 3)) de_int) (de_div (de_v (pv 3)) de_int)) da_nil (by rfl)) (by decide) (by decide) (by rfl) (by rfl)) de_int)))))))
abbrev s__law_take : Stmt := top 33
noncomputable def b__law_take : Mo Out :=
 (sSeq (sIf (eB (eBin dLt (eIxV 0 (eC (.int 0))) (eC (.int 1000))))
 (sSeq (sSet 0 (eC (.int 2)) (eBin dAdd (eIxV 0 (eC (.int 2))) (eC (.int 1))))
 (sSet 0 (eC (.int 0)) (eCall m__law_wide (aCons (eIxV 0 (eC (.int 1))) (aCons (eIxV 0 (eC (.int 2))) aNil)))))
 sNx)
 (sSeq (sAsg (gN 2) (eBin dMod (eF fInt (aCons (eIxV 0 (eC (.int 0))) aNil)) (eV 1)))
 (sSeq (sSet 0 (eC (.int 0)) (eBin dDiv (eIxV 0 (eC (.int 0))) (eV 1)))
 (sRet (eV 2)))))
noncomputable def m__law_take : Mo D := fnM 3 2 b__law_take
theorem sc__law_take : FnScope ["_law_pool_here", "_law_most", "_law_taken"] ["_law_pool_here", "_law_most"] (defScope s__law_take) := ⟨rfl, rfl, rfl, by decide +kernel, rfl, by decide +kernel, by decide +kernel⟩
theorem nd__law_take : List.Nodup (α := Str) ["_law_pool_here", "_law_most", "_law_taken"] := by decide +kernel
theorem ok__law_take (F : Fun K "_law_take" "_law_take" s__law_take f fd) (T : Bi mg) (C__law_wide : CalM P w K mg base 1 "_law_wide" 2 false m__law_wide) : FnOk P w K mg base CX0 2 f fd ["_law_pool_here", "_law_most"] (spM Wn K 2 false m__law_take) :=
 fn_ok F sc__law_take rfl fun cdv A outer s H E hr =>
 (dss_cons (ds_if (dt_lt (de_ixV hr.u1 (pv 0) de_int (by intro _ _; rfl) (by intro _ _; rfl)) de_int)
 (dss_cons (ds_sub hr.u1 (pv 0) de_int (de_add (de_ixV hr.u1 (pv 0) de_int (by intro _ _; rfl) (by intro _ _; rfl)) de_int) (by rfl) (by rfl))
 (dss_one (ds_sub hr.u1 (pv 0) de_int (de_callC C__law_wide (hr.mono (by decide)) (by rfl) (alen_cons (alen_cons alen_nil)) (da_cons (de_ixV hr.u1 (pv 0) de_int (by intro _ _; rfl) (by intro _ _; rfl)) (da_cons (de_ixV hr.u1 (pv 0) de_int (by intro _ _; rfl) (by intro _ _; rfl)) da_nil (by rfl)) (by rfl)) (by decide) (by rfl) (by rfl)) (by rfl) (by rfl))))
 dss_nil)
 (dss_cons (ds_set nd__law_take rfl (by first | exact Or.inl rfl | exact Or.inr rfl) (de_mod (de_int1 (by rfl) T.int bt_int (da_cons (de_ixV hr.u1 (pv 0) de_int (by intro _ _; rfl) (by intro _ _; rfl)) da_nil (by rfl)) (by decide) (by decide) (by rfl) (by rfl)) (de_v (pv 1))) (by rfl) (by first | exact Or.inl rfl | exact Or.inr rfl | assumption))
 (dss_cons (ds_sub hr.u1 (pv 0) de_int (de_div (de_ixV hr.u1 (pv 0) de_int (by intro _ _; rfl) (by intro _ _; rfl)) (de_v (pv 1))) (by rfl) (by rfl))
 (dss_one (ds_ret (de_v (pv 2)))))))
abbrev s__law_name : Stmt := top 35
noncomputable def b__law_name : Mo Out :=
 (sSeq (sAsg (gN 1) (eC (.str "abcdefghijklmnopqrstuvwxyz")))
 (sSeq (sAsg (gN 2) (eIx (eLst (aCons (eC (.str "a")) (aCons (eC (.str "b")) (aCons (eC (.str "view")) (aCons (eC (.str "end")) (aCons (eC (.str "link")) (aCons (eC (.str "c")) aNil))))))) (eCall m__law_take (aVr 0 (aCons (eC (.int 6)) aNil)))))
 (sSeq (sIf (eB (eBin dEq (eCall m__law_take (aVr 0 (aCons (eC (.int 3)) aNil))) (eC (.int 0))))
 (sSeq (sAsg (gN 2) (eIxV 1 (eCall m__law_take (aVr 0 (aCons (eC (.int 26)) aNil)))))
 (sFor (iRg rg1 (aCons (eIx (eLst (aCons (eC (.int 0)) (aCons (eC (.int 1)) (aCons (eC (.int 3)) (aCons (eC (.int 7)) aNil))))) (eCall m__law_take (aVr 0 (aCons (eC (.int 4)) aNil)))) aNil)) (gN 3)
 (sAsg (gN 2) (eBin dAdd (eV 2) (eIx (eBin dAdd (eV 1) (eC (.str "0123456789"))) (eCall m__law_take (aVr 0 (aCons (eC (.int 36)) aNil))))))))
 sNx)
 (sRet (eV 2)))))
noncomputable def m__law_name : Mo D := fnM 4 1 b__law_name
theorem sc__law_name : FnScope ["_law_pool_here", "_law_letters", "_law_name_here", "_law_k"] ["_law_pool_here"] (defScope s__law_name) := ⟨rfl, rfl, rfl, by decide +kernel, rfl, by decide +kernel, by decide +kernel⟩
theorem nd__law_name : List.Nodup (α := Str) ["_law_pool_here", "_law_letters", "_law_name_here", "_law_k"] := by decide +kernel
theorem ok__law_name (F : Fun K "_law_name" "_law_name" s__law_name f fd) (T : Bi mg) (C__law_take : CalM P w K mg base 2 "_law_take" 2 false m__law_take) : FnOk P w K mg base CX0 3 f fd ["_law_pool_here"] (spM Wn K 1 false m__law_name) :=
 fn_ok F sc__law_name rfl fun cdv A outer s H E hr =>
 (dss_cons (ds_set nd__law_name rfl (by first | exact Or.inl rfl | exact Or.inr rfl) de_str (by rfl) (by first | exact Or.inl rfl | exact Or.inr rfl | assumption))
 (dss_cons (ds_set nd__law_name rfl (by first | exact Or.inl rfl | exact Or.inr rfl) (de_ix hr.u1 (DO.de (do_lst (da_cons de_str (da_cons de_str (da_cons de_str (da_cons de_str (da_cons de_str (da_cons de_str da_nil (by rfl)) (by rfl)) (by rfl)) (by rfl)) (by rfl)) (by rfl)))) (de_callC C__law_take (hr.mono (by decide)) (by rfl) (alen_vr (alen_cons alen_nil)) (da_vr (pv 0) (da_cons de_int da_nil (by rfl)) (by rfl)) (by decide) (by rfl) (by rfl)) (by intro _ _; rfl) (by intro _ _; rfl)) (by rfl) (by first | exact Or.inl rfl | exact Or.inr rfl | assumption))
 (dss_cons (ds_if (dt_eq hr.units (de_callC C__law_take (hr.mono (by decide)) (by rfl) (alen_vr (alen_cons alen_nil)) (da_vr (pv 0) (da_cons de_int da_nil (by rfl)) (by rfl)) (by decide) (by rfl) (by rfl)) de_int)
 (dss_cons (ds_set nd__law_name rfl (by first | exact Or.inl rfl | exact Or.inr rfl) (de_ixV hr.u1 (pv 1) (de_callC C__law_take (hr.mono (by decide)) (by rfl) (alen_vr (alen_cons alen_nil)) (da_vr (pv 0) (da_cons de_int da_nil (by rfl)) (by rfl)) (by decide) (by rfl) (by rfl)) (by intro _ _; rfl) (by intro _ _; rfl)) (by rfl) (by first | exact Or.inl rfl | exact Or.inr rfl | assumption))
 (dss_one (ds_for PassesOwn.never rfl calm_N (di_rg1 (by rfl) T.range (da_cons (de_ix hr.u1 (DO.de (do_lst (da_cons de_int (da_cons de_int (da_cons de_int (da_cons de_int da_nil (by rfl)) (by rfl)) (by rfl)) (by rfl)))) (de_callC C__law_take (hr.mono (by decide)) (by rfl) (alen_vr (alen_cons alen_nil)) (da_vr (pv 0) (da_cons de_int da_nil (by rfl)) (by rfl)) (by decide) (by rfl) (by rfl)) (by intro _ _; rfl) (by intro _ _; rfl)) da_nil (by rfl)) (by rfl)) (dg_name nd__law_name rfl (by first | exact Or.inl rfl | exact Or.inr rfl) (by first | exact Or.inl rfl | exact Or.inr rfl | assumption))
 (dss_one (ds_set nd__law_name rfl (by first | exact Or.inl rfl | exact Or.inr rfl) (de_add (de_v (pv 2)) (de_ix hr.u1 (de_add (de_v (pv 1)) de_str) (de_callC C__law_take (hr.mono (by decide)) (by rfl) (alen_vr (alen_cons alen_nil)) (da_vr (pv 0) (da_cons de_int da_nil (by rfl)) (by rfl)) (by decide) (by rfl) (by rfl)) (by intro _ _; rfl) (by intro _ _; rfl))) (by rfl) (by first | exact Or.inl rfl | exact Or.inr rfl | assumption))) (by intro _; rfl))))
 dss_nil)
 (dss_one (ds_ret (de_v (pv 2)))))))
abbrev s__law_names : Stmt := top 36
noncomputable def b__law_names : Mo Out :=
 (sSeq (sAsgO 2 (eLst aNil))
 (sSeq (sFor (iRg rg1 (aCons (eV 1) aNil)) (gN 3)
 (sSeq (sAsg (gN 4) (eCall m__law_name (aVr 0 aNil)))
 (sSeq (sIf (eB (eInV false (eV 4) 2))
 (sAsg (gN 4) (eBin dAdd (eSl dSl (eV 4) eP0 (eP1 (eC (.int 6)))) (eF fStr (aCons (eV 3) aNil))))
 sNx)
 (sSeq (sIf (eB (eInV false (eV 4) 2))
 (sAsg (gN 4) (eBin dAdd (eBin dAdd (eC (.str "z")) (eF fStr (aCons (eV 3) aNil))) (eC (.str "q"))))
 sNx)
 (sApp 2 (eV 4))))))
 (sRet (eV 2))))
noncomputable def m__law_names : Mo D := fnM 5 2 b__law_names
theorem sc__law_names : FnScope ["_law_pool_here", "_law_count", "_law_names_here", "_law_k", "_law_name_here"] ["_law_pool_here", "_law_count"] (defScope s__law_names) := ⟨rfl, rfl, rfl, by decide +kernel, rfl, by decide +kernel, by decide +kernel⟩
theorem nd__law_names : List.Nodup (α := Str) ["_law_pool_here", "_law_count", "_law_names_here", "_law_k", "_law_name_here"] := by decide +kernel
theorem ok__law_names (F : Fun K "_law_names" "_law_names" s__law_names f fd) (T : Bi mg) (C__law_name : CalM P w K mg base 3 "_law_name" 1 false m__law_name) : FnOk P w K mg base CX0 4 f fd ["_law_pool_here", "_law_count"] (spM Wn K 2 false m__law_names) :=
 fn_ok F sc__law_names rfl fun cdv A outer s H E hr =>
 (dss_cons (ds_setO nd__law_names rfl (by first | exact Or.inl rfl | exact Or.inr rfl) (do_lst da_nil) (by rfl) (by first | exact Or.inl rfl | exact Or.inr rfl | assumption))
 (dss_cons (ds_for PassesOwn.never rfl calm_N (di_rg1 (by rfl) T.range (da_cons (de_v (pv 1)) da_nil (by rfl)) (by rfl)) (dg_name nd__law_names rfl (by first | exact Or.inl rfl | exact Or.inr rfl) (by first | exact Or.inl rfl | exact Or.inr rfl | assumption))
 (dss_cons (ds_set nd__law_names rfl (by first | exact Or.inl rfl | exact Or.inr rfl) (de_callC C__law_name (hr.mono (by decide)) (by rfl) (alen_vr alen_nil) (da_vr (pv 0) da_nil (by rfl)) (by decide) (by rfl) (by rfl)) (by rfl) (by first | exact Or.inl rfl | exact Or.inr rfl | assumption))
 (dss_cons (ds_if (dt_inV hr.u65 (de_v (pv 4)) (pv 2) (by rfl))
 (dss_one (ds_set nd__law_names rfl (by first | exact Or.inl rfl | exact Or.inr rfl) (de_add (de_sl (de_v (pv 4)) dp_none (dp_some de_int)) (de_str1 (by rfl) T.str bt_str (da_cons (de_v (pv 3)) da_nil (by rfl)) (by decide) (by decide) (by rfl) (by rfl))) (by rfl) (by first | exact Or.inl rfl | exact Or.inr rfl | assumption)))
 dss_nil)
 (dss_cons (ds_if (dt_inV hr.u65 (de_v (pv 4)) (pv 2) (by rfl))
 (dss_one (ds_set nd__law_names rfl (by first | exact Or.inl rfl | exact Or.inr rfl) (de_add (de_add de_str (de_str1 (by rfl) T.str bt_str (da_cons (de_v (pv 3)) da_nil (by rfl)) (by decide) (by decide) (by rfl) (by rfl))) de_str) (by rfl) (by first | exact Or.inl rfl | exact Or.inr rfl | assumption)))
 dss_nil)
 (dss_one (ds_app (pv 2) (de_v (pv 4)) (by rfl)))))) (by intro _; rfl))
 (dss_one (ds_ret (de_v (pv 2))))))
abbrev s__law_links : Stmt := top 39
noncomputable def b__law_links : Mo Out :=
 (sSeq (sAsgO 3 (eD0 (.dK [])))
 (sSeq (sFor (iOf (eV 1)) (gN 4)
 (sSet 3 (eV 4) (eTup (aCons (eBin dSub (eCall m__law_take (aVr 0 (aCons (eC (.int 7)) aNil))) (eC (.int 3))) (aCons (eBin dSub (eCall m__law_take (aVr 0 (aCons (eC (.int 5)) aNil))) (eC (.int 2))) (aCons (eBin dSub (eCall m__law_take (aVr 0 (aCons (eC (.int 9)) aNil))) (eC (.int 4))) aNil))))))
 (sSeq (sAsgO 5 (eLst aNil))
 (sSeq (sFor (iRg rg1 (aCons (eCall m__law_take (aVr 0 (aCons (eBin dAdd (eV 2) (eC (.int 1))) aNil))) aNil)) (gN 6)
 (sSeq (sAsg (gN 7) (eIxV 1 (eCall m__law_take (aVr 0 (aCons (eF fLen (aCons (eV 1) aNil)) aNil)))))
 (sSeq (sAsg (gN 8) (eIxV 1 (eCall m__law_take (aVr 0 (aCons (eF fLen (aCons (eV 1) aNil)) aNil)))))
 (sIf (eB (eBin dNe (eV 7) (eV 8)))
 (sSeq (sAsgO 9 (eLc (iRg rg1 (aCons (eC (.int 3)) aNil)) (gN 10) tYesM (eBin dSub (eIx (eIxV 3 (eV 8)) (eV 10)) (eIx (eIxV 3 (eV 7)) (eV 10))) [10]))
 (sSeq (sIf (eB (eBin dEq (eCall m__law_take (aVr 0 (aCons (eC (.int 7)) aNil))) (eC (.int 0))))
 (sSeq (sAsg (gN 10) (eCall m__law_take (aVr 0 (aCons (eC (.int 3)) aNil))))
 (sSet 9 (eV 10) (eBin dAdd (eIxV 9 (eV 10)) (eIx (eLst (aCons (eC (.int 1)) (aCons (eUn dNeg (eC (.int 1))) (aCons (eC (.int 5)) aNil)))) (eCall m__law_take (aVr 0 (aCons (eC (.int 3)) aNil)))))))
 sNx)
 (sApp 5 (eTup (aCons (eV 7) (aCons (eV 8) (aCons (eIxV 9 (eC (.int 0))) (aCons (eIxV 9 (eC (.int 1))) (aCons (eIxV 9 (eC (.int 2))) aNil)))))))))
 sNx))))
 (sRet (eV 5))))))
noncomputable def m__law_links : Mo D := fnM 11 3 b__law_links
theorem sc__law_links : FnScope ["_law_pool_here", "_law_names_here", "_law_many", "_law_places", "_law_name_here", "_law_links_here", "_law_k", "_law_one", "_law_two", "_law_moves", "_law_j"] ["_law_pool_here", "_law_names_here", "_law_many"] (defScope s__law_links) := ⟨rfl, rfl, rfl, by decide +kernel, rfl, by decide +kernel, by decide +kernel⟩
theorem nd__law_links : List.Nodup (α := Str) ["_law_pool_here", "_law_names_here", "_law_many", "_law_places", "_law_name_here", "_law_links_here", "_law_k", "_law_one", "_law_two", "_law_moves", "_law_j"] := by decide +kernel
theorem ok__law_links (F : Fun K "_law_links" "_law_links" s__law_links f fd) (T : Bi mg) (C__law_take : CalM P w K mg base 2 "_law_take" 2 false m__law_take) : FnOk P w K mg base CX0 3 f fd ["_law_pool_here", "_law_names_here", "_law_many"] (spM Wn K 3 false m__law_links) :=
 fn_ok F sc__law_links rfl fun cdv A outer s H E hr =>
 (dss_cons (ds_setO nd__law_links rfl (by first | exact Or.inl rfl | exact Or.inr rfl) do_new0K (by rfl) (by first | exact Or.inl rfl | exact Or.inr rfl | assumption))
 (dss_cons (ds_for PassesOwn.never rfl calm_N (di_of (de_v (pv 1))) (dg_name nd__law_links rfl (by first | exact Or.inl rfl | exact Or.inr rfl) (by first | exact Or.inl rfl | exact Or.inr rfl | assumption))
 (dss_one (ds_sub hr.u1 (pv 3) (de_v (pv 4)) (de_tup (da_cons (de_sub (de_callC C__law_take (hr.mono (by decide)) (by rfl) (alen_vr (alen_cons alen_nil)) (da_vr (pv 0) (da_cons de_int da_nil (by rfl)) (by rfl)) (by decide) (by rfl) (by rfl)) de_int) (da_cons (de_sub (de_callC C__law_take (hr.mono (by decide)) (by rfl) (alen_vr (alen_cons alen_nil)) (da_vr (pv 0) (da_cons de_int da_nil (by rfl)) (by rfl)) (by decide) (by rfl) (by rfl)) de_int) (da_cons (de_sub (de_callC C__law_take (hr.mono (by decide)) (by rfl) (alen_vr (alen_cons alen_nil)) (da_vr (pv 0) (da_cons de_int da_nil (by rfl)) (by rfl)) (by decide) (by rfl) (by rfl)) de_int) da_nil (by rfl)) (by rfl)) (by rfl))) (by rfl) (by rfl))) (by intro _; rfl))
 (dss_cons (ds_setO nd__law_links rfl (by first | exact Or.inl rfl | exact Or.inr rfl) (do_lst da_nil) (by rfl) (by first | exact Or.inl rfl | exact Or.inr rfl | assumption))
 (dss_cons (ds_for PassesOwn.never rfl calm_N (di_rg1 (by rfl) T.range (da_cons (de_callC C__law_take (hr.mono (by decide)) (by rfl) (alen_vr (alen_cons alen_nil)) (da_vr (pv 0) (da_cons (de_add (de_v (pv 2)) de_int) da_nil (by rfl)) (by rfl)) (by decide) (by rfl) (by rfl)) da_nil (by rfl)) (by rfl)) (dg_name nd__law_links rfl (by first | exact Or.inl rfl | exact Or.inr rfl) (by first | exact Or.inl rfl | exact Or.inr rfl | assumption))
 (dss_cons (ds_set nd__law_links rfl (by first | exact Or.inl rfl | exact Or.inr rfl) (de_ixV hr.u1 (pv 1) (de_callC C__law_take (hr.mono (by decide)) (by rfl) (alen_vr (alen_cons alen_nil)) (da_vr (pv 0) (da_cons (de_len (by rfl) T.len bt_len (da_cons (de_v (pv 1)) da_nil (by rfl)) (by decide) (by decide) (by rfl) (by rfl)) da_nil (by rfl)) (by rfl)) (by decide) (by rfl) (by rfl)) (by intro _ _; rfl) (by intro _ _; rfl)) (by rfl) (by first | exact Or.inl rfl | exact Or.inr rfl | assumption))
 (dss_cons (ds_set nd__law_links rfl (by first | exact Or.inl rfl | exact Or.inr rfl) (de_ixV hr.u1 (pv 1) (de_callC C__law_take (hr.mono (by decide)) (by rfl) (alen_vr (alen_cons alen_nil)) (da_vr (pv 0) (da_cons (de_len (by rfl) T.len bt_len (da_cons (de_v (pv 1)) da_nil (by rfl)) (by decide) (by decide) (by rfl) (by rfl)) da_nil (by rfl)) (by rfl)) (by decide) (by rfl) (by rfl)) (by intro _ _; rfl) (by intro _ _; rfl)) (by rfl) (by first | exact Or.inl rfl | exact Or.inr rfl | assumption))
 (dss_one (ds_if (dt_ne hr.units (de_v (pv 7)) (de_v (pv 8)))
 (dss_cons (ds_setLcO (own := [("_law_j", 10)]) rfl nd__law_links rfl rfl (sw_true rfl rfl rfl (by decide +kernel)) (di_rg1 (by rfl) T.range (da_cons de_int da_nil (by rfl)) (by rfl)) (blkOk_by (N := ["_law_pool_here", "_law_names_here", "_law_many", "_law_places", "_law_name_here", "_law_links_here", "_law_k", "_law_one", "_law_two", "_law_moves", "_law_j"]) (sc := (defScope s__law_links)) (own := [("_law_j", 10)]) (by decide +kernel)) (by decide) (fun _ _ _ _ _ => (dg_name nd__law_links rfl (by first | exact Or.inl rfl | exact Or.inr rfl) (by first | exact Or.inl rfl | exact Or.inr rfl | assumption))) (fun _ _ _ _ _ => dts_nil) (fun _ _ _ _ _ => (de_sub (de_ix hr.u1 (de_ixV hr.u1 (pv 3) (de_v (pv 8)) (by intro _ _; rfl) (by intro _ _; rfl)) (de_v (pv 10)) (by intro _ _; rfl) (by intro _ _; rfl)) (de_ix hr.u1 (de_ixV hr.u1 (pv 3) (de_v (pv 7)) (by intro _ _; rfl) (by intro _ _; rfl)) (de_v (pv 10)) (by intro _ _; rfl) (by intro _ _; rfl)))) (by intro _; rfl))
 (dss_cons (ds_if (dt_eq hr.units (de_callC C__law_take (hr.mono (by decide)) (by rfl) (alen_vr (alen_cons alen_nil)) (da_vr (pv 0) (da_cons de_int da_nil (by rfl)) (by rfl)) (by decide) (by rfl) (by rfl)) de_int)
 (dss_cons (ds_set nd__law_links rfl (by first | exact Or.inl rfl | exact Or.inr rfl) (de_callC C__law_take (hr.mono (by decide)) (by rfl) (alen_vr (alen_cons alen_nil)) (da_vr (pv 0) (da_cons de_int da_nil (by rfl)) (by rfl)) (by decide) (by rfl) (by rfl)) (by rfl) (by first | exact Or.inl rfl | exact Or.inr rfl | assumption))
 (dss_one (ds_sub hr.u1 (pv 9) (de_v (pv 10)) (de_add (de_ixV hr.u1 (pv 9) (de_v (pv 10)) (by intro _ _; rfl) (by intro _ _; rfl)) (de_ix hr.u1 (DO.de (do_lst (da_cons de_int (da_cons (de_neg de_int) (da_cons de_int da_nil (by rfl)) (by rfl)) (by rfl)))) (de_callC C__law_take (hr.mono (by decide)) (by rfl) (alen_vr (alen_cons alen_nil)) (da_vr (pv 0) (da_cons de_int da_nil (by rfl)) (by rfl)) (by decide) (by rfl) (by rfl)) (by intro _ _; rfl) (by intro _ _; rfl))) (by rfl) (by rfl))))
 dss_nil)
 (dss_one (ds_app (pv 5) (de_tup (da_cons (de_v (pv 7)) (da_cons (de_v (pv 8)) (da_cons (de_ixV hr.u1 (pv 9) de_int (by intro _ _; rfl) (by intro _ _; rfl)) (da_cons (de_ixV hr.u1 (pv 9) de_int (by intro _ _; rfl) (by intro _ _; rfl)) (da_cons (de_ixV hr.u1 (pv 9) de_int (by intro _ _; rfl) (by intro _ _; rfl)) da_nil (by rfl)) (by rfl)) (by rfl)) (by rfl)) (by rfl))) (by rfl)))))
 dss_nil)))) (by intro _; rfl))
 (dss_one (ds_ret (de_v (pv 5))))))))
abbrev s_Album___init__ : Stmt := clsAt (top 23) 0
theorem sc_Album___init__ : FnScope ["self"] ["self"] (defScope s_Album___init__) := ⟨rfl, rfl, rfl, by decide +kernel, rfl, by decide +kernel, by decide +kernel⟩
theorem ok_Album___init__ (F : Fun K "__init__" "Album.__init__" s_Album___init__ f fd) (TA : AlbK K CA) : FnOk P w K mg base CX0 1 f fd ["self"] (spInit CA) :=
 fn_okInit F sc_Album___init__ TA (by decide) fun cdv A outer s H E hr =>
 pss_cons (ps_fld (pv 0) (pe_lst pa_nil) (by rfl)) (pss_one (ps_fld (pv 0) (pe_lst pa_nil) (by rfl)))
abbrev s_is_name : Stmt := top 13
noncomputable def b_is_name : Mo Out :=
 (sSeq (sIf (tOrM (tNotM (eTru (eIsi2 "str" (eV 0)))) (tOrM (eB (eBin dEq (eV 0) (eC (.str "")))) (eB (eBin dGt (eF fLen (aCons (eV 0) aNil)) (eC (.int 8))))))
 (sRet (eC (.bl false)))
 sNx)
 (sSeq (sIf (tNotM (eTru (eF fAll (aCons (eLc (iOf (eV 0)) (gN 1) tYesM (eOr (eChain dLe dLe (eC (.str "a")) (eV 1) (eC (.str "z"))) (eChain dLe dLe (eC (.str "0")) (eV 1) (eC (.str "9")))) [1]) aNil))))
 (sRet (eC (.bl false)))
 sNx)
 (sRet (eChain dLe dLe (eC (.str "a")) (eIxV 0 (eC (.int 0))) (eC (.str "z"))))))
noncomputable def m_is_name : Mo D := fnM 2 1 b_is_name
theorem sc_is_name : FnScope ["value", "char"] ["value"] (defScope s_is_name) := ⟨rfl, rfl, rfl, by decide +kernel, rfl, by decide +kernel, by decide +kernel⟩
theorem nd_is_name : List.Nodup (α := Str) ["value", "char"] := by decide +kernel
theorem ok_is_name (F : Fun K "is_name" "is_name" s_is_name f fd) (T : Bi mg)  : FnOk P w K mg base CX0 1 f fd ["value"] (spM Wn K 1 false m_is_name) :=
 fn_ok F sc_is_name rfl fun cdv A outer s H E hr =>
 (dss_cons (ds_if (dw_t (dw_or (dt_not (dt_tru (de_isi2 (by rfl) T.isinstance bt_isinstance (by rfl) T.str bt_str (de_v (pv 0)) (by decide) (by decide) (by decide) (by decide) (by rfl) (by rfl)) (by intro _; rfl))) (dw_or (dt_eq hr.units (de_v (pv 0)) de_str) (dw_or1 (dt_gt (de_len (by rfl) T.len bt_len (da_cons (de_v (pv 0)) da_nil (by rfl)) (by decide) (by decide) (by rfl) (by rfl)) (de_gC (by rfl) T.c_MAX_NAME (by decide)))))))
 (dss_one (ds_ret de_bl))
 dss_nil)
 (dss_cons (ds_if (dt_not (dt_tru (de_all (by rfl) (by rfl) T.all bt_all (da_cons (DO.de (do_lc (own := [("char", 1)]) (by rfl) nd_is_name (di_of (de_v (pv 0))) (blkOk_by (N := ["value", "char"]) (sc := (defScope s_is_name)) (own := [("char", 1)]) (by decide +kernel)) (by decide) (fun _ _ _ _ _ => (dg_name nd_is_name rfl (by first | exact Or.inl rfl | exact Or.inr rfl) (by first | exact Or.inl rfl | exact Or.inr rfl | assumption))) (fun _ _ _ _ _ => dts_nil) (fun _ _ _ _ _ => (de_or (de_chain opc_le opc_le snd_cmp' snd_cmp' de_str (de_v (pv 1)) de_str (by with_unfolding_all rfl)) (de_one (de_chain opc_le opc_le snd_cmp' snd_cmp' de_str (de_v (pv 1)) de_str (by with_unfolding_all rfl))))) (by intro _; rfl))) da_nil (by rfl)) (by decide) (by decide) (by rfl) (by rfl)) (by intro _; rfl)))
 (dss_one (ds_ret de_bl))
 dss_nil)
 (dss_one (ds_ret (de_chain opc_le opc_le snd_cmp' snd_cmp' de_str (de_ixV hr.u1 (pv 0) de_int (by intro _ _; rfl) (by intro _ _; rfl)) de_str (by with_unfolding_all rfl))))))
abbrev s_is_whole : Stmt := top 12
noncomputable def b_is_whole : Mo Out :=
 (sRet (eAnd (eIsi2 "int" (eV 0)) (eNot (eIsi2 "bool" (eV 0)))))
noncomputable def m_is_whole : Mo D := fnM 1 1 b_is_whole
theorem sc_is_whole : FnScope ["value"] ["value"] (defScope s_is_whole) := ⟨rfl, rfl, rfl, by decide +kernel, rfl, by decide +kernel, by decide +kernel⟩
theorem ok_is_whole (F : Fun K "is_whole" "is_whole" s_is_whole f fd) (T : Bi mg)  : FnOk P w K mg base CX0 1 f fd ["value"] (spM Wn K 1 false m_is_whole) :=
 fn_ok F sc_is_whole rfl fun cdv A outer s H E hr =>
 (dss_one (ds_ret (de_and (de_isi2 (by rfl) T.isinstance bt_isinstance (by rfl) T.int bt_int (de_v (pv 0)) (by decide) (by decide) (by decide) (by decide) (by rfl) (by rfl)) (de_one (de_not (de_isi2 (by rfl) T.isinstance bt_isinstance (by rfl) T.bool bt_bool (de_v (pv 0)) (by decide) (by decide) (by decide) (by decide) (by rfl) (by rfl)))))))
abbrev s_is_reading : Stmt := top 14
noncomputable def b_is_reading : Mo Out :=
 (sRet (eOr (eBin (dIs false) (eV 0) (eC .non)) (eAnd (eCall m_is_whole (aCons (eV 0) aNil)) (eChain dLe dLe (eC (.int 0)) (eV 0) (eC (.int 999))))))
noncomputable def m_is_reading : Mo D := fnM 1 1 b_is_reading
theorem sc_is_reading : FnScope ["value"] ["value"] (defScope s_is_reading) := ⟨rfl, rfl, rfl, by decide +kernel, rfl, by decide +kernel, by decide +kernel⟩
theorem ok_is_reading (F : Fun K "is_reading" "is_reading" s_is_reading f fd) (T : Bi mg) (C_is_whole : CalM P w K mg base 1 "is_whole" 1 false m_is_whole) : FnOk P w K mg base CX0 2 f fd ["value"] (spM Wn K 1 false m_is_reading) :=
 fn_ok F sc_is_reading rfl fun cdv A outer s H E hr =>
 (dss_one (ds_ret (de_or (de_isN (de_v (pv 0)) de_non) (de_one (de_and (de_callC C_is_whole (hr.mono (by decide)) (by rfl) (alen_cons alen_nil) (da_cons (de_v (pv 0)) da_nil (by rfl)) (by decide) (by rfl) (by rfl)) (de_one (de_chain opc_le opc_le snd_cmp' snd_cmp' de_int (de_v (pv 0)) (de_gC (by rfl) T.c_MOST (by decide)) (by with_unfolding_all rfl))))))))
abbrev s_is_view : Stmt := top 15
noncomputable def b_is_view : Mo Out :=
 (sSeq (sIf (tOrM (tNotM (eTru (eIsi2 "tuple" (eV 0)))) (tOrM (eB (eBin dNe (eF fLen (aCons (eV 0) aNil)) (eC (.int 2)))) (tNotM (eTru (eCall m_is_name (aCons (eIxV 0 (eC (.int 0))) aNil))))))
 (sRet (eC (.bl false)))
 sNx)
 (sSeq (sAsg (gN 1) (eIxV 0 (eC (.int 1))))
 (sSeq (sIf (tOrM (tNotM (eTru (eIsi2 "tuple" (eV 1)))) (tNotM (eB (eChain dLe dLe (eC (.int 1)) (eF fLen (aCons (eV 1) aNil)) (eC (.int 12))))))
 (sRet (eC (.bl false)))
 sNx)
 (sSeq (sFor (iOf (eV 1)) (gN 2)
 (sSeq (sIf (tOrM (tNotM (eTru (eIsi2 "tuple" (eV 2)))) (tOrM (tNotM (eB (eChain dLe dLe (eC (.int 1)) (eF fLen (aCons (eV 2) aNil)) (eC (.int 12))))) (eB (eBin dNe (eF fLen (aCons (eV 2) aNil)) (eF fLen (aCons (eIxV 1 (eC (.int 0))) aNil))))))
 (sRet (eC (.bl false)))
 sNx)
 (sIf (tNotM (eTru (eF fAll (aCons (eLc (iOf (eV 2)) (gN 3) tYesM (eCall m_is_reading (aCons (eV 3) aNil)) [3]) aNil))))
 (sRet (eC (.bl false)))
 sNx)))
 (sRet (eC (.bl true)))))))
noncomputable def m_is_view : Mo D := fnM 4 1 b_is_view
theorem sc_is_view : FnScope ["value", "rows", "row", "reading"] ["value"] (defScope s_is_view) := ⟨rfl, rfl, rfl, by decide +kernel, rfl, by decide +kernel, by decide +kernel⟩
theorem nd_is_view : List.Nodup (α := Str) ["value", "rows", "row", "reading"] := by decide +kernel
theorem ok_is_view (F : Fun K "is_view" "is_view" s_is_view f fd) (T : Bi mg) (C_is_name : CalM P w K mg base 1 "is_name" 1 false m_is_name) (C_is_reading : CalM P w K mg base 2 "is_reading" 1 false m_is_reading) : FnOk P w K mg base CX0 3 f fd ["value"] (spM Wn K 1 false m_is_view) :=
 fn_ok F sc_is_view rfl fun cdv A outer s H E hr =>
 (dss_cons (ds_if (dw_t (dw_or (dt_not (dt_tru (de_isi2 (by rfl) T.isinstance bt_isinstance (by rfl) T.tuple bt_tuple (de_v (pv 0)) (by decide) (by decide) (by decide) (by decide) (by rfl) (by rfl)) (by intro _; rfl))) (dw_or (dt_ne hr.units (de_len (by rfl) T.len bt_len (da_cons (de_v (pv 0)) da_nil (by rfl)) (by decide) (by decide) (by rfl) (by rfl)) de_int) (dw_or1 (dt_not (dt_tru (de_callC C_is_name (hr.mono (by decide)) (by rfl) (alen_cons alen_nil) (da_cons (de_ixV hr.u1 (pv 0) de_int (by intro _ _; rfl) (by intro _ _; rfl)) da_nil (by rfl)) (by decide) (by rfl) (by rfl)) (by intro _; rfl)))))))
 (dss_one (ds_ret de_bl))
 dss_nil)
 (dss_cons (ds_set nd_is_view rfl (by first | exact Or.inl rfl | exact Or.inr rfl) (de_ixV hr.u1 (pv 0) de_int (by intro _ _; rfl) (by intro _ _; rfl)) (by rfl) (by first | exact Or.inl rfl | exact Or.inr rfl | assumption))
 (dss_cons (ds_if (dw_t (dw_or (dt_not (dt_tru (de_isi2 (by rfl) T.isinstance bt_isinstance (by rfl) T.tuple bt_tuple (de_v (pv 1)) (by decide) (by decide) (by decide) (by decide) (by rfl) (by rfl)) (by intro _; rfl))) (dw_or1 (dt_not (dt_chain opc_le opc_le snd_cmp' snd_cmp' de_int (de_len (by rfl) T.len bt_len (da_cons (de_v (pv 1)) da_nil (by rfl)) (by decide) (by decide) (by rfl) (by rfl)) (de_gC (by rfl) T.c_MAX_SIDE (by decide)) (by with_unfolding_all rfl))))))
 (dss_one (ds_ret de_bl))
 dss_nil)
 (dss_cons (ds_for PassesOwn.never rfl calm_N (di_of (de_v (pv 1))) (dg_name nd_is_view rfl (by first | exact Or.inl rfl | exact Or.inr rfl) (by first | exact Or.inl rfl | exact Or.inr rfl | assumption))
 (dss_cons (ds_if (dw_t (dw_or (dt_not (dt_tru (de_isi2 (by rfl) T.isinstance bt_isinstance (by rfl) T.tuple bt_tuple (de_v (pv 2)) (by decide) (by decide) (by decide) (by decide) (by rfl) (by rfl)) (by intro _; rfl))) (dw_or (dt_not (dt_chain opc_le opc_le snd_cmp' snd_cmp' de_int (de_len (by rfl) T.len bt_len (da_cons (de_v (pv 2)) da_nil (by rfl)) (by decide) (by decide) (by rfl) (by rfl)) (de_gC (by rfl) T.c_MAX_SIDE (by decide)) (by with_unfolding_all rfl))) (dw_or1 (dt_ne hr.units (de_len (by rfl) T.len bt_len (da_cons (de_v (pv 2)) da_nil (by rfl)) (by decide) (by decide) (by rfl) (by rfl)) (de_len (by rfl) T.len bt_len (da_cons (de_ixV hr.u1 (pv 1) de_int (by intro _ _; rfl) (by intro _ _; rfl)) da_nil (by rfl)) (by decide) (by decide) (by rfl) (by rfl)))))))
 (dss_one (ds_ret de_bl))
 dss_nil)
 (dss_one (ds_if (dt_not (dt_tru (de_all (by rfl) (by rfl) T.all bt_all (da_cons (DO.de (do_lc (own := [("reading", 3)]) (by rfl) nd_is_view (di_of (de_v (pv 2))) (blkOk_by (N := ["value", "rows", "row", "reading"]) (sc := (defScope s_is_view)) (own := [("reading", 3)]) (by decide +kernel)) (by decide) (fun _ _ _ _ _ => (dg_name nd_is_view rfl (by first | exact Or.inl rfl | exact Or.inr rfl) (by first | exact Or.inl rfl | exact Or.inr rfl | assumption))) (fun _ _ _ _ _ => dts_nil) (fun _ _ _ _ _ => (de_callC C_is_reading (hr.mono (by decide)) (by rfl) (alen_cons alen_nil) (da_cons (de_v (pv 3)) da_nil (by rfl)) (by decide) (by rfl) (by rfl))) (by intro _; rfl))) da_nil (by rfl)) (by decide) (by decide) (by rfl) (by rfl)) (by intro _; rfl)))
 (dss_one (ds_ret de_bl))
 dss_nil))) (by intro _; rfl))
 (dss_one (ds_ret de_bl))))))
abbrev s_Album_names : Stmt := clsAt (top 23) 8
noncomputable def b_Album_names : Mo Out :=
 (sRet (eLc (iFld 0 true) (gN 1) tYesM (eIxV 1 (eC (.int 0))) [1]))
noncomputable def m_Album_names : Mo D := fnM 2 1 b_Album_names
theorem sc_Album_names : FnScope ["self", "view"] ["self"] (defScope s_Album_names) := ⟨rfl, rfl, rfl, by decide +kernel, rfl, by decide +kernel, by decide +kernel⟩
theorem nd_Album_names : List.Nodup (α := Str) ["self", "view"] := by decide +kernel
theorem ok_Album_names (F : Fun K "names" "Album.names" s_Album_names f fd) (T : Bi mg) (TA : AlbK K CA)  : FnOk P w K mg base CX0 1 f fd ["self"] (spM Wn K 1 false m_Album_names) :=
 fn_ok F sc_Album_names rfl fun cdv A outer s H E hr =>
 (dss_one (ds_ret (DO.de (do_lc (own := [("view", 1)]) (by rfl) nd_Album_names (di_fld TA rfl (pv 0)) (blkOk_by (N := ["self", "view"]) (sc := (defScope s_Album_names)) (own := [("view", 1)]) (by decide +kernel)) (by decide) (fun _ _ _ _ _ => (dg_name nd_Album_names rfl (by first | exact Or.inl rfl | exact Or.inr rfl) (by first | exact Or.inl rfl | exact Or.inr rfl | assumption))) (fun _ _ _ _ _ => dts_nil) (fun _ _ _ _ _ => (de_ixV hr.u1 (pv 1) de_int (by intro _ _; rfl) (by intro _ _; rfl))) (by intro _; rfl)))))
abbrev s_Album_add_view : Stmt := clsAt (top 23) 1
noncomputable def b_Album_add_view : Mo Out :=
 (sSeq (sIf (tNotM (eTru (eCall m_is_view (aCons (eV 1) aNil))))
 sNever
 sNx)
 (sSeq (sIf (eB (eBin (dIn false) (eIxV 1 (eC (.int 0))) (eMeth m_Album_names 0 aNil)))
 sNever
 sNx)
 (sSeq (sIf (eB (eBin dGe (eLenF 0 true) (eC (.int 30))))
 sNever
 sNx)
 sNx)))
theorem sc_Album_add_view : FnScope ["self", "view"] ["self", "view"] (defScope s_Album_add_view) := ⟨rfl, rfl, rfl, by decide +kernel, rfl, by decide +kernel, by decide +kernel⟩
theorem ok_Album_add_view (F : Fun K "add_view" "Album.add_view" s_Album_add_view f fd) (T : Bi mg) (TA : AlbK K CA) (C_Album_names : CalS P w K mg base CA 1 "names" 1 false m_Album_names) (C_is_view : CalM P w K mg base 3 "is_view" 1 false m_is_view) : FnOk P w K mg base CX0 4 f fd ["self", "view"] (spAdd K true b_Album_add_view 0) :=
 fn_okAdd F sc_Album_add_view rfl rfl fun cdv A outer s H E hr =>
 (padd_cons (ds_if (dt_not (dt_tru (de_callC C_is_view (hr.mono (by decide)) (by rfl) (alen_cons alen_nil) (da_cons (de_v (pv 1)) da_nil (by rfl)) (by decide) (by rfl) (by rfl)) (by intro _; rfl)))
 (dss_one ds_never)
 dss_nil)
 (padd_cons (ds_if (dt_in hr.u65 (de_ixV hr.u1 (pv 1) de_int (by intro _ _; rfl) (by intro _ _; rfl)) (de_meth0 TA C_Album_names (hr.mono (by decide)) (pv 0)) (by rfl))
 (dss_one ds_never)
 dss_nil)
 (padd_cons (ds_if (dt_ge (de_lenF TA rfl (by rfl) T.len bt_len (pv 0)) (de_gC (by rfl) T.c_MAX_VIEWS (by decide)))
 (dss_one ds_never)
 dss_nil)
 (padd_last TA rfl (pv 0) (by rfl) (pv 1)))))
abbrev s_is_link : Stmt := top 22
noncomputable def b_is_link : Mo Out :=
 (sSeq (sIf (tOrM (tNotM (eTru (eIsi2 "tuple" (eV 0)))) (eB (eBin dNe (eF fLen (aCons (eV 0) aNil)) (eC (.int 5)))))
 (sRet (eC (.bl false)))
 sNx)
 (sSeq (sAsg (gT 5 (gCons (gN 1) (gCons (gN 2) (gCons (gN 3) (gCons (gN 4) (gCons (gN 5) gNil)))))) (eV 0))
 (sSeq (sIf (tOrM (tNotM (eTru (eCall m_is_name (aCons (eV 1) aNil)))) (tOrM (tNotM (eTru (eCall m_is_name (aCons (eV 2) aNil)))) (eB (eBin dEq (eV 1) (eV 2)))))
 (sRet (eC (.bl false)))
 sNx)
 (sSeq (sIf (tOrM (tNotM (eTru (eCall m_is_whole (aCons (eV 3) aNil)))) (tOrM (tNotM (eTru (eCall m_is_whole (aCons (eV 4) aNil)))) (tNotM (eTru (eCall m_is_whole (aCons (eV 5) aNil))))))
 (sRet (eC (.bl false)))
 sNx)
 (sRet (eAnd (eBin dLe (eF fAbs (aCons (eV 3) aNil)) (eC (.int 99))) (eAnd (eBin dLe (eF fAbs (aCons (eV 4) aNil)) (eC (.int 99))) (eBin dLe (eF fAbs (aCons (eV 5) aNil)) (eC (.int 999))))))))))
noncomputable def m_is_link : Mo D := fnM 6 1 b_is_link
theorem sc_is_link : FnScope ["value", "one", "two", "dx", "dy", "light"] ["value"] (defScope s_is_link) := ⟨rfl, rfl, rfl, by decide +kernel, rfl, by decide +kernel, by decide +kernel⟩
theorem nd_is_link : List.Nodup (α := Str) ["value", "one", "two", "dx", "dy", "light"] := by decide +kernel
theorem ok_is_link (F : Fun K "is_link" "is_link" s_is_link f fd) (T : Bi mg) (C_is_name : CalM P w K mg base 1 "is_name" 1 false m_is_name) (C_is_whole : CalM P w K mg base 1 "is_whole" 1 false m_is_whole) : FnOk P w K mg base CX0 2 f fd ["value"] (spM Wn K 1 false m_is_link) :=
 fn_ok F sc_is_link rfl fun cdv A outer s H E hr =>
 (dss_cons (ds_if (dw_t (dw_or (dt_not (dt_tru (de_isi2 (by rfl) T.isinstance bt_isinstance (by rfl) T.tuple bt_tuple (de_v (pv 0)) (by decide) (by decide) (by decide) (by decide) (by rfl) (by rfl)) (by intro _; rfl))) (dw_or1 (dt_ne hr.units (de_len (by rfl) T.len bt_len (da_cons (de_v (pv 0)) da_nil (by rfl)) (by decide) (by decide) (by rfl) (by rfl)) de_int))))
 (dss_one (ds_ret de_bl))
 dss_nil)
 (dss_cons (ds_asg (calm_T (calm_cons calm_N (calm_cons calm_N (calm_cons calm_N (calm_cons calm_N (calm_cons calm_N calm_nil)))))) (de_v (pv 0)) (dg_tup rfl (dgs_cons (dg_name nd_is_link rfl (by first | exact Or.inl rfl | exact Or.inr rfl) (by first | exact Or.inl rfl | exact Or.inr rfl | assumption)) (dgs_cons (dg_name nd_is_link rfl (by first | exact Or.inl rfl | exact Or.inr rfl) (by first | exact Or.inl rfl | exact Or.inr rfl | assumption)) (dgs_cons (dg_name nd_is_link rfl (by first | exact Or.inl rfl | exact Or.inr rfl) (by first | exact Or.inl rfl | exact Or.inr rfl | assumption)) (dgs_cons (dg_name nd_is_link rfl (by first | exact Or.inl rfl | exact Or.inr rfl) (by first | exact Or.inl rfl | exact Or.inr rfl | assumption)) (dgs_cons (dg_name nd_is_link rfl (by first | exact Or.inl rfl | exact Or.inr rfl) (by first | exact Or.inl rfl | exact Or.inr rfl | assumption)) dgs_nil (by rfl)) (by rfl)) (by rfl)) (by rfl)) (by rfl)) (by rfl) (by rfl)) (by rfl) (by rfl) (by rfl))
 (dss_cons (ds_if (dw_t (dw_or (dt_not (dt_tru (de_callC C_is_name (hr.mono (by decide)) (by rfl) (alen_cons alen_nil) (da_cons (de_v (pv 1)) da_nil (by rfl)) (by decide) (by rfl) (by rfl)) (by intro _; rfl))) (dw_or (dt_not (dt_tru (de_callC C_is_name (hr.mono (by decide)) (by rfl) (alen_cons alen_nil) (da_cons (de_v (pv 2)) da_nil (by rfl)) (by decide) (by rfl) (by rfl)) (by intro _; rfl))) (dw_or1 (dt_eq hr.units (de_v (pv 1)) (de_v (pv 2)))))))
 (dss_one (ds_ret de_bl))
 dss_nil)
 (dss_cons (ds_if (dw_t (dw_or (dt_not (dt_tru (de_callC C_is_whole (hr.mono (by decide)) (by rfl) (alen_cons alen_nil) (da_cons (de_v (pv 3)) da_nil (by rfl)) (by decide) (by rfl) (by rfl)) (by intro _; rfl))) (dw_or (dt_not (dt_tru (de_callC C_is_whole (hr.mono (by decide)) (by rfl) (alen_cons alen_nil) (da_cons (de_v (pv 4)) da_nil (by rfl)) (by decide) (by rfl) (by rfl)) (by intro _; rfl))) (dw_or1 (dt_not (dt_tru (de_callC C_is_whole (hr.mono (by decide)) (by rfl) (alen_cons alen_nil) (da_cons (de_v (pv 5)) da_nil (by rfl)) (by decide) (by rfl) (by rfl)) (by intro _; rfl)))))))
 (dss_one (ds_ret de_bl))
 dss_nil)
 (dss_one (ds_ret (de_and (de_le (de_abs (by rfl) T.abs bt_abs (da_cons (de_v (pv 3)) da_nil (by rfl)) (by decide) (by decide) (by rfl) (by rfl)) (de_gC (by rfl) T.c_MAX_SHIFT (by decide))) (de_and (de_le (de_abs (by rfl) T.abs bt_abs (da_cons (de_v (pv 4)) da_nil (by rfl)) (by decide) (by decide) (by rfl) (by rfl)) (de_gC (by rfl) T.c_MAX_SHIFT (by decide))) (de_one (de_le (de_abs (by rfl) T.abs bt_abs (da_cons (de_v (pv 5)) da_nil (by rfl)) (by decide) (by decide) (by rfl) (by rfl)) (de_gC (by rfl) T.c_MAX_LIGHT (by decide))))))))))))
abbrev s_Album_add_link : Stmt := clsAt (top 23) 2
noncomputable def b_Album_add_link : Mo Out :=
 (sSeq (sIf (tNotM (eTru (eCall m_is_link (aCons (eV 1) aNil))))
 sNever
 sNx)
 (sSeq (sFor (iOf (eSl dSl (eV 1) eP0 (eP1 (eC (.int 2))))) (gN 2)
 (sIf (eB (eBin (dIn true) (eV 2) (eMeth m_Album_names 0 aNil)))
 sNever
 sNx))
 (sSeq (sIf (eB (eBin dGe (eLenF 0 false) (eC (.int 60))))
 sNever
 sNx)
 sNx)))
theorem sc_Album_add_link : FnScope ["self", "link", "name"] ["self", "link"] (defScope s_Album_add_link) := ⟨rfl, rfl, rfl, by decide +kernel, rfl, by decide +kernel, by decide +kernel⟩
theorem nd_Album_add_link : List.Nodup (α := Str) ["self", "link", "name"] := by decide +kernel
theorem ok_Album_add_link (F : Fun K "add_link" "Album.add_link" s_Album_add_link f fd) (T : Bi mg) (TA : AlbK K CA) (C_Album_names : CalS P w K mg base CA 1 "names" 1 false m_Album_names) (C_is_link : CalM P w K mg base 2 "is_link" 1 false m_is_link) : FnOk P w K mg base CX0 3 f fd ["self", "link"] (spAdd K false b_Album_add_link 1) :=
 fn_okAdd F sc_Album_add_link rfl rfl fun cdv A outer s H E hr =>
 (padd_cons (ds_if (dt_not (dt_tru (de_callC C_is_link (hr.mono (by decide)) (by rfl) (alen_cons alen_nil) (da_cons (de_v (pv 1)) da_nil (by rfl)) (by decide) (by rfl) (by rfl)) (by intro _; rfl)))
 (dss_one ds_never)
 dss_nil)
 (padd_cons (ds_for PassesOwn.never rfl calm_N (di_of (de_sl (de_v (pv 1)) dp_none (dp_some de_int))) (dg_name nd_Album_add_link rfl (by first | exact Or.inl rfl | exact Or.inr rfl) (by first | exact Or.inl rfl | exact Or.inr rfl | assumption))
 (dss_one (ds_if (dt_notin hr.u65 (de_v (pv 2)) (de_meth0 TA C_Album_names (hr.mono (by decide)) (pv 0)) (by rfl))
 (dss_one ds_never)
 dss_nil)) (by intro _; rfl))
 (padd_cons (ds_if (dt_ge (de_lenF TA rfl (by rfl) T.len bt_len (pv 0)) (de_gC (by rfl) T.c_MAX_LINKS (by decide)))
 (dss_one ds_never)
 dss_nil)
 (padd_last TA rfl (pv 0) (by rfl) (pv 1)))))
abbrev s__law_album : Stmt := top 40
noncomputable def b__law_album : Mo Out :=
 (sAlb 3
 (sSeq (sFor (iRg rg1 (aCons (eF fLen (aCons (eV 0) aNil)) aNil)) (gN 4)
 (sAdd 3 true b_Album_add_view 0 (eTup (aCons (eIxV 0 (eV 4)) (aCons (eIxV 1 (eV 4)) aNil)))))
 (sSeq (sFor (iOf (eV 2)) (gN 5)
 (sAdd 3 false b_Album_add_link 1 (eV 5)))
 (sRetAlb 3))))
noncomputable def m__law_album : Mo D := fnM 6 3 b__law_album
theorem sc__law_album : FnScope ["_law_names_here", "_law_rows_here", "_law_links_here", "_law_album_here", "_law_k", "_law_link"] ["_law_names_here", "_law_rows_here", "_law_links_here"] (defScope s__law_album) := ⟨rfl, rfl, rfl, by decide +kernel, rfl, by decide +kernel, by decide +kernel⟩
theorem nd__law_album : List.Nodup (α := Str) ["_law_names_here", "_law_rows_here", "_law_links_here", "_law_album_here", "_law_k", "_law_link"] := by decide +kernel
theorem ok__law_album (F : Fun K "_law_album" "_law_album" s__law_album f fd) (T : Bi mg) (TA : AlbK K CA) (AM : AlbM P w K mg base CA 1) (C_Album_add_view : CalD P w K mg base CA 4 "add_view" true b_Album_add_view 0) (C_Album_add_link : CalD P w K mg base CA 3 "add_link" false b_Album_add_link 1) : FnOk P w K mg base CX0 5 f fd ["_law_names_here", "_law_rows_here", "_law_links_here"] (spM Wn K 3 false m__law_album) :=
 fn_ok F sc__law_album rfl fun cdv A outer s H E hr =>
 (dss_albC TA AM (hr.mono (by decide)) (by rfl) nd__law_album rfl (by first | exact Or.inl rfl | exact Or.inr rfl)
 (dsrs_cons (dsr_for reg_alb PassesOwn.never rfl calm_N (dir_rg1 (by rfl) T.range (da_cons (de_len (by rfl) T.len bt_len (da_cons (de_v (pv 0)) da_nil (by rfl)) (by decide) (by decide) (by rfl) (by rfl)) da_nil (by rfl)) (by rfl)) (dg_name nd__law_album rfl (by first | exact Or.inl rfl | exact Or.inr rfl) (by first | exact Or.inl rfl | exact Or.inr rfl | assumption))
 (dsrs_one (dsr_add TA C_Album_add_view.mono (hr.mono (by decide)) (pv 3) (de_tup (da_cons (de_ixV hr.u1 (pv 0) (de_v (pv 4)) (by intro _ _; rfl) (by intro _ _; rfl)) (da_cons (de_ixV hr.u1 (pv 1) (de_v (pv 4)) (by intro _ _; rfl) (by intro _ _; rfl)) da_nil (by rfl)) (by rfl))) (by decide) (by decide) (by rfl) (by rfl) (by rfl) (by rfl))) (by intro _; rfl))
 (dsrs_cons (dsr_for reg_alb PassesOwn.never rfl calm_N (dir_of (de_v (pv 2))) (dg_name nd__law_album rfl (by first | exact Or.inl rfl | exact Or.inr rfl) (by first | exact Or.inl rfl | exact Or.inr rfl | assumption))
 (dsrs_one (dsr_add TA C_Album_add_link.mono (hr.mono (by decide)) (pv 3) (de_v (pv 5)) (by decide) (by decide) (by rfl) (by rfl) (by rfl) (by rfl))) (by intro _; rfl))
 (dsrs_one (dsr_retA (pv 3))))) (by rfl) (by first | exact .inl rfl | exact .inr rfl | assumption))
abbrev s_Album_views : Stmt := clsAt (top 23) 7
noncomputable def b_Album_views : Mo Out :=
 (sRet (eLstF 0 true))
noncomputable def m_Album_views : Mo D := fnM 1 1 b_Album_views
theorem sc_Album_views : FnScope ["self"] ["self"] (defScope s_Album_views) := ⟨rfl, rfl, rfl, by decide +kernel, rfl, by decide +kernel, by decide +kernel⟩
theorem ok_Album_views (F : Fun K "views" "Album.views" s_Album_views f fd) (T : Bi mg) (TA : AlbK K CA)  : FnOk P w K mg base CX0 1 f fd ["self"] (spM Wn K 1 false m_Album_views) :=
 fn_ok F sc_Album_views rfl fun cdv A outer s H E hr =>
 (dss_one (ds_ret (DO.de (do_lstF (by rfl) TA rfl (by rfl) T.list bt_list (pv 0)))))
abbrev s_Album_links : Stmt := clsAt (top 23) 9
noncomputable def b_Album_links : Mo Out :=
 (sRet (eLstF 0 false))
noncomputable def m_Album_links : Mo D := fnM 1 1 b_Album_links
theorem sc_Album_links : FnScope ["self"] ["self"] (defScope s_Album_links) := ⟨rfl, rfl, rfl, by decide +kernel, rfl, by decide +kernel, by decide +kernel⟩
theorem ok_Album_links (F : Fun K "links" "Album.links" s_Album_links f fd) (T : Bi mg) (TA : AlbK K CA)  : FnOk P w K mg base CX0 1 f fd ["self"] (spM Wn K 1 false m_Album_links) :=
 fn_ok F sc_Album_links rfl fun cdv A outer s H E hr =>
 (dss_one (ds_ret (DO.de (do_lstF (by rfl) TA rfl (by rfl) T.list bt_list (pv 0)))))
abbrev s_show_row : Stmt := top 29
noncomputable def b_show_row : Mo Out :=
 (sRet (eM1 dJoin (eC (.str " ")) (eLc (iOf (eV 0)) (gN 1) tYesM (eIf (eB (eBin (dIs false) (eV 1) (eC .non))) (eC (.str ".")) (eF fStr (aCons (eV 1) aNil))) [1])))
noncomputable def m_show_row : Mo D := fnM 2 1 b_show_row
theorem sc_show_row : FnScope ["row", "reading"] ["row"] (defScope s_show_row) := ⟨rfl, rfl, rfl, by decide +kernel, rfl, by decide +kernel, by decide +kernel⟩
theorem nd_show_row : List.Nodup (α := Str) ["row", "reading"] := by decide +kernel
theorem ok_show_row (F : Fun K "show_row" "show_row" s_show_row f fd) (T : Bi mg)  : FnOk P w K mg base CX0 1 f fd ["row"] (spM Wn K 1 false m_show_row) :=
 fn_ok F sc_show_row rfl fun cdv A outer s H E hr =>
 (dss_one (ds_ret (de_join de_str (DO.de (do_lc (own := [("reading", 1)]) (by rfl) nd_show_row (di_of (de_v (pv 0))) (blkOk_by (N := ["row", "reading"]) (sc := (defScope s_show_row)) (own := [("reading", 1)]) (by decide +kernel)) (by decide) (fun _ _ _ _ _ => (dg_name nd_show_row rfl (by first | exact Or.inl rfl | exact Or.inr rfl) (by first | exact Or.inl rfl | exact Or.inr rfl | assumption))) (fun _ _ _ _ _ => dts_nil) (fun _ _ _ _ _ => (de_if (dt_isN (de_v (pv 1)) de_non) de_str (de_str1 (by rfl) T.str bt_str (da_cons (de_v (pv 1)) da_nil (by rfl)) (by decide) (by decide) (by rfl) (by rfl)))) (by intro _; rfl))) (by rfl) (by rfl) (by rfl))))
abbrev s_show_album : Stmt := top 30
noncomputable def b_show_album : Mo Out :=
 (sSeq (sAsgO 1 (eLst aNil))
 (sSeq (sFor (iOf (eMeth m_Album_views 0 aNil)) (gT 2 (gCons (gN 2) (gCons (gN 3) gNil)))
 (sAsgO 1 (eBin dAddL (eBin dAdd (eBin dAdd (eV 1) (eLst (aCons (eBin dAdd (eC (.str "view ")) (eV 2)) aNil))) (eLc (iOf (eV 3)) (gN 5) tYesM (eCall m_show_row (aCons (eV 5) aNil)) [5])) (eLst (aCons (eC (.str "end")) aNil)))))
 (sSeq (sFor (iOf (eMeth m_Album_links 0 aNil)) (gN 4)
 (sApp 1 (eM1 dJoin (eC (.str " ")) (eBin dAdd (eLst (aCons (eC (.str "link")) aNil)) (eLc (iOf (eV 4)) (gN 6) tYesM (eF fStrA (aCons (eV 6) aNil)) [6])))))
 (sRet (eM1 dJoin (eC (.str "")) (eLc (iOf (eV 1)) (gN 7) tYesM (eBin dAdd (eV 7) (eC (.str "\n"))) [7]))))))
noncomputable def m_show_album : Mo D := fnM 8 1 b_show_album
theorem sc_show_album : FnScope ["album", "lines", "name", "rows", "link", "row", "part", "line"] ["album"] (defScope s_show_album) := ⟨rfl, rfl, rfl, by decide +kernel, rfl, by decide +kernel, by decide +kernel⟩
theorem nd_show_album : List.Nodup (α := Str) ["album", "lines", "name", "rows", "link", "row", "part", "line"] := by decide +kernel
theorem ok_show_album (F : Fun K "show_album" "show_album" s_show_album f fd) (T : Bi mg) (TA : AlbK K CA) (C_Album_views : CalS P w K mg base CA 1 "views" 1 false m_Album_views) (C_show_row : CalM P w K mg base 1 "show_row" 1 false m_show_row) (C_Album_links : CalS P w K mg base CA 1 "links" 1 false m_Album_links) : FnOk P w K mg base CX0 2 f fd ["album"] (spM Wn K 1 false m_show_album) :=
 fn_ok F sc_show_album rfl fun cdv A outer s H E hr =>
 (dss_cons (ds_setO nd_show_album rfl (by first | exact Or.inl rfl | exact Or.inr rfl) (do_lst da_nil) (by rfl) (by first | exact Or.inl rfl | exact Or.inr rfl | assumption))
 (dss_cons (ds_for PassesOwn.never rfl (calm_T (calm_cons calm_N (calm_cons calm_N calm_nil))) (di_of (de_meth0 TA C_Album_views (hr.mono (by decide)) (pv 0))) (dg_tup rfl (dgs_cons (dg_name nd_show_album rfl (by first | exact Or.inl rfl | exact Or.inr rfl) (by first | exact Or.inl rfl | exact Or.inr rfl | assumption)) (dgs_cons (dg_name nd_show_album rfl (by first | exact Or.inl rfl | exact Or.inr rfl) (by first | exact Or.inl rfl | exact Or.inr rfl | assumption)) dgs_nil (by rfl)) (by rfl)) (by rfl) (by rfl))
 (dss_one (ds_setO nd_show_album rfl (by first | exact Or.inl rfl | exact Or.inr rfl) (do_cat (de_add (de_add (de_v (pv 1)) (DO.de (do_lst (da_cons (de_add de_str (de_v (pv 2))) da_nil (by rfl))))) (DO.de (do_lc (own := [("row", 5)]) (by rfl) nd_show_album (di_of (de_v (pv 3))) (blkOk_by (N := ["album", "lines", "name", "rows", "link", "row", "part", "line"]) (sc := (defScope s_show_album)) (own := [("row", 5)]) (by decide +kernel)) (by decide) (fun _ _ _ _ _ => (dg_name nd_show_album rfl (by first | exact Or.inl rfl | exact Or.inr rfl) (by first | exact Or.inl rfl | exact Or.inr rfl | assumption))) (fun _ _ _ _ _ => dts_nil) (fun _ _ _ _ _ => (de_callC C_show_row (hr.mono (by decide)) (by rfl) (alen_cons alen_nil) (da_cons (de_v (pv 5)) da_nil (by rfl)) (by decide) (by rfl) (by rfl))) (by intro _; rfl)))) (DO.de (do_lst (da_cons de_str da_nil (by rfl))))) (by rfl) (by first | exact Or.inl rfl | exact Or.inr rfl | assumption))) (by intro _; rfl))
 (dss_cons (ds_for PassesOwn.never rfl calm_N (di_of (de_meth0 TA C_Album_links (hr.mono (by decide)) (pv 0))) (dg_name nd_show_album rfl (by first | exact Or.inl rfl | exact Or.inr rfl) (by first | exact Or.inl rfl | exact Or.inr rfl | assumption))
 (dss_one (ds_app (pv 1) (de_join de_str (de_add (DO.de (do_lst (da_cons de_str da_nil (by rfl)))) (DO.de (do_lc (own := [("part", 6)]) (by rfl) nd_show_album (di_of (de_v (pv 4))) (blkOk_by (N := ["album", "lines", "name", "rows", "link", "row", "part", "line"]) (sc := (defScope s_show_album)) (own := [("part", 6)]) (by decide +kernel)) (by decide) (fun _ _ _ _ _ => (dg_name nd_show_album rfl (by first | exact Or.inl rfl | exact Or.inr rfl) (by first | exact Or.inl rfl | exact Or.inr rfl | assumption))) (fun _ _ _ _ _ => dts_nil) (fun _ _ _ _ _ => (de_strA (by rfl) T.str bt_str (da_cons (de_v (pv 6)) da_nil (by rfl)) (by decide) (by decide) (by rfl) (by rfl))) (by intro _; rfl)))) (by rfl) (by rfl) (by rfl)) (by rfl))) (by intro _; rfl))
 (dss_one (ds_ret (de_join de_str (DO.de (do_lc (own := [("line", 7)]) (by rfl) nd_show_album (di_of (de_v (pv 1))) (blkOk_by (N := ["album", "lines", "name", "rows", "link", "row", "part", "line"]) (sc := (defScope s_show_album)) (own := [("line", 7)]) (by decide +kernel)) (by decide) (fun _ _ _ _ _ => (dg_name nd_show_album rfl (by first | exact Or.inl rfl | exact Or.inr rfl) (by first | exact Or.inl rfl | exact Or.inr rfl | assumption))) (fun _ _ _ _ _ => dts_nil) (fun _ _ _ _ _ => (de_add (de_v (pv 7)) de_str)) (by intro _; rfl))) (by rfl) (by rfl) (by rfl)))))))
abbrev s_Builder___init__ : Stmt := clsAt (top 27) 0
theorem sc_Builder___init__ : FnScope ["self"] ["self"] (defScope s_Builder___init__) := ⟨rfl, rfl, rfl, by decide +kernel, rfl, by decide +kernel, by decide +kernel⟩
theorem ok_Builder___init__ (F : Fun K "__init__" "Builder.__init__" s_Builder___init__ f fd) (TA : AlbK K CA) (TB : BldK K CB) (AM : AlbM P w K mg base CA 1) : FnOk P w K mg base CX0 3 f fd ["self"] (spInitB CB CA) :=
 fn_okInitB F sc_Builder___init__ TB fun cdv A outer s H E hr =>
 pss_initB AM (hr.mono (by decide)) (by rfl) (pv 0) (pv 0) (pv 0) pe_non (pe_lst pa_nil) (by rfl) (by rfl) (by rfl)
abbrev s_number_of : Stmt := top 24
noncomputable def b_number_of : Mo Out :=
 (sSeq (sAsg (gN 2) (eIf (eTru (eM1 dStarts (eV 0) (eC (.str "-")))) (eSl dSl (eV 0) (eP1 (eC (.int 1))) eP0) (eV 0)))
 (sSeq (sAsg (gN 3) (eAnd (eBin dNe (eV 2) (eC (.str ""))) (eAnd (eBin dLe (eF fLen (aCons (eV 2) aNil)) (eC (.int 9))) (eF fAll (aCons (eLc (iOf (eV 2)) (gN 4) tYesM (eChain dLe dLe (eC (.str "0")) (eV 4) (eC (.str "9"))) [4]) aNil)))))
 (sSeq (sIf (tOrM (tNotM (eTru (eV 3))) (tAndM (eB (eBin dEq (eIxV 2 (eC (.int 0))) (eC (.str "0")))) (eB (eBin dGt (eF fLen (aCons (eV 0) aNil)) (eC (.int 1))))))
 sNever
 sNx)
 (sRet (eF fIntS (aCons (eV 0) aNil))))))
noncomputable def m_number_of : Mo D := fnM 5 2 b_number_of
theorem sc_number_of : FnScope ["part", "line", "digits", "plain", "char"] ["part", "line"] (defScope s_number_of) := ⟨rfl, rfl, rfl, by decide +kernel, rfl, by decide +kernel, by decide +kernel⟩
theorem nd_number_of : List.Nodup (α := Str) ["part", "line", "digits", "plain", "char"] := by decide +kernel
theorem ok_number_of (F : Fun K "number_of" "number_of" s_number_of f fd) (T : Bi mg)  : FnOk P w K mg base CX0 1 f fd ["part", "line"] (spM Wn K 2 false m_number_of) :=
 fn_ok F sc_number_of rfl fun cdv A outer s H E hr =>
 (dss_cons (ds_set nd_number_of rfl (by first | exact Or.inl rfl | exact Or.inr rfl) (de_if (dt_tru (de_starts (de_v (pv 0)) de_str (by rfl) (by rfl) (by rfl)) (by intro _; rfl)) (de_sl (de_v (pv 0)) (dp_some de_int) dp_none) (de_v (pv 0))) (by rfl) (by first | exact Or.inl rfl | exact Or.inr rfl | assumption))
 (dss_cons (ds_set nd_number_of rfl (by first | exact Or.inl rfl | exact Or.inr rfl) (de_and (de_ne hr.units (de_v (pv 2)) de_str) (de_and (de_le (de_len (by rfl) T.len bt_len (da_cons (de_v (pv 2)) da_nil (by rfl)) (by decide) (by decide) (by rfl) (by rfl)) (de_gC (by rfl) T.c_MAX_DIGITS (by decide))) (de_one (de_all (by rfl) (by rfl) T.all bt_all (da_cons (DO.de (do_lc (own := [("char", 4)]) (by rfl) nd_number_of (di_of (de_v (pv 2))) (blkOk_by (N := ["part", "line", "digits", "plain", "char"]) (sc := (defScope s_number_of)) (own := [("char", 4)]) (by decide +kernel)) (by decide) (fun _ _ _ _ _ => (dg_name nd_number_of rfl (by first | exact Or.inl rfl | exact Or.inr rfl) (by first | exact Or.inl rfl | exact Or.inr rfl | assumption))) (fun _ _ _ _ _ => dts_nil) (fun _ _ _ _ _ => (de_chain opc_le opc_le snd_cmp' snd_cmp' de_str (de_v (pv 4)) de_str (by with_unfolding_all rfl))) (by intro _; rfl))) da_nil (by rfl)) (by decide) (by decide) (by rfl) (by rfl))))) (by rfl) (by first | exact Or.inl rfl | exact Or.inr rfl | assumption))
 (dss_cons (ds_if (dw_t (dw_or (dt_not (dt_tru (de_v (pv 3)) (by intro _; rfl))) (dw_or1 (dw_t (dw_and (dt_eq hr.units (de_ixV hr.u1 (pv 2) de_int (by intro _ _; rfl) (by intro _ _; rfl)) de_str) (dw_and1 (dt_gt (de_len (by rfl) T.len bt_len (da_cons (de_v (pv 0)) da_nil (by rfl)) (by decide) (by decide) (by rfl) (by rfl)) de_int)))))))
 (dss_one ds_never)
 dss_nil)
 (dss_one (ds_ret (de_intS (by rfl) T.int bt_int (da_cons (de_v (pv 0)) da_nil (by rfl)) (by decide) (by decide) (by rfl) (by rfl)))))))
abbrev s_row_of : Stmt := top 25
noncomputable def b_row_of : Mo Out :=
 (sSeq (sAsgO 2 (eLst aNil))
 (sSeq (sFor (iOf (eM1 dSplit (eV 0) (eC (.str " ")))) (gN 3)
 (sIf (eB (eBin dEq (eV 3) (eC (.str "."))))
 (sApp 2 (eC .non))
 (sApp 2 (eCall m_number_of (aCons (eV 3) (aCons (eV 1) aNil))))))
 (sRet (eF fTuple (aCons (eV 2) aNil)))))
noncomputable def m_row_of : Mo D := fnM 4 2 b_row_of
theorem sc_row_of : FnScope ["text", "line", "found", "part"] ["text", "line"] (defScope s_row_of) := ⟨rfl, rfl, rfl, by decide +kernel, rfl, by decide +kernel, by decide +kernel⟩
theorem nd_row_of : List.Nodup (α := Str) ["text", "line", "found", "part"] := by decide +kernel
theorem ok_row_of (F : Fun K "row_of" "row_of" s_row_of f fd) (T : Bi mg) (C_number_of : CalM P w K mg base 1 "number_of" 2 false m_number_of) : FnOk P w K mg base CX0 2 f fd ["text", "line"] (spM Wn K 2 false m_row_of) :=
 fn_ok F sc_row_of rfl fun cdv A outer s H E hr =>
 (dss_cons (ds_setO nd_row_of rfl (by first | exact Or.inl rfl | exact Or.inr rfl) (do_lst da_nil) (by rfl) (by first | exact Or.inl rfl | exact Or.inr rfl | assumption))
 (dss_cons (ds_for PassesOwn.never rfl calm_N (di_of (DO.de (do_split (de_v (pv 0)) de_str (by rfl) (by rfl) (by rfl)))) (dg_name nd_row_of rfl (by first | exact Or.inl rfl | exact Or.inr rfl) (by first | exact Or.inl rfl | exact Or.inr rfl | assumption))
 (dss_one (ds_if (dt_eq hr.units (de_v (pv 3)) de_str)
 (dss_one (ds_app (pv 2) de_non (by rfl)))
 (dss_one (ds_app (pv 2) (de_callC C_number_of (hr.mono (by decide)) (by rfl) (alen_cons (alen_cons alen_nil)) (da_cons (de_v (pv 3)) (da_cons (de_v (pv 1)) da_nil (by rfl)) (by rfl)) (by decide) (by rfl) (by rfl)) (by rfl))))) (by intro _; rfl))
 (dss_one (ds_ret (de_tuple (by rfl) T.tuple bt_tuple (da_cons (de_v (pv 2)) da_nil (by rfl)) (by decide) (by decide) (by rfl) (by rfl))))))
abbrev s_link_of_parts : Stmt := top 26
noncomputable def b_link_of_parts : Mo Out :=
 (sSeq (sIf (eB (eBin dNe (eF fLen (aCons (eV 0) aNil)) (eC (.int 6))))
 sNever
 sNx)
 (sSeq (sAsgO 2 (eLc (iOf (eSl dSlL (eV 0) (eP1 (eC (.int 3))) eP0)) (gN 3) tYesM (eCall m_number_of (aCons (eV 3) (aCons (eV 1) aNil))) [3]))
 (sRet (eTup (aCons (eIxV 0 (eC (.int 1))) (aCons (eIxV 0 (eC (.int 2))) (aCons (eIxV 2 (eC (.int 0))) (aCons (eIxV 2 (eC (.int 1))) (aCons (eIxV 2 (eC (.int 2))) aNil)))))))))
noncomputable def m_link_of_parts : Mo D := fnM 4 2 b_link_of_parts
theorem sc_link_of_parts : FnScope ["parts", "line", "numbers", "part"] ["parts", "line"] (defScope s_link_of_parts) := ⟨rfl, rfl, rfl, by decide +kernel, rfl, by decide +kernel, by decide +kernel⟩
theorem nd_link_of_parts : List.Nodup (α := Str) ["parts", "line", "numbers", "part"] := by decide +kernel
theorem ok_link_of_parts (F : Fun K "link_of_parts" "link_of_parts" s_link_of_parts f fd) (T : Bi mg) (C_number_of : CalM P w K mg base 1 "number_of" 2 false m_number_of) : FnOk P w K mg base CX0 2 f fd ["parts", "line"] (spM Wn K 2 false m_link_of_parts) :=
 fn_ok F sc_link_of_parts rfl fun cdv A outer s H E hr =>
 (dss_cons (ds_if (dt_ne hr.units (de_len (by rfl) T.len bt_len (da_cons (de_v (pv 0)) da_nil (by rfl)) (by decide) (by decide) (by rfl) (by rfl)) de_int)
 (dss_one ds_never)
 dss_nil)
 (dss_cons (ds_setLcO (own := [("part", 3)]) rfl nd_link_of_parts rfl rfl (sw_true rfl rfl rfl (by decide +kernel)) (di_of (DO.de (do_sl (de_v (pv 0)) (dp_some de_int) dp_none))) (blkOk_by (N := ["parts", "line", "numbers", "part"]) (sc := (defScope s_link_of_parts)) (own := [("part", 3)]) (by decide +kernel)) (by decide) (fun _ _ _ _ _ => (dg_name nd_link_of_parts rfl (by first | exact Or.inl rfl | exact Or.inr rfl) (by first | exact Or.inl rfl | exact Or.inr rfl | assumption))) (fun _ _ _ _ _ => dts_nil) (fun _ _ _ _ _ => (de_callC C_number_of (hr.mono (by decide)) (by rfl) (alen_cons (alen_cons alen_nil)) (da_cons (de_v (pv 3)) (da_cons (de_v (pv 1)) da_nil (by rfl)) (by rfl)) (by decide) (by rfl) (by rfl))) (by intro _; rfl))
 (dss_one (ds_ret (de_tup (da_cons (de_ixV hr.u1 (pv 0) de_int (by intro _ _; rfl) (by intro _ _; rfl)) (da_cons (de_ixV hr.u1 (pv 0) de_int (by intro _ _; rfl) (by intro _ _; rfl)) (da_cons (de_ixV hr.u1 (pv 2) de_int (by intro _ _; rfl) (by intro _ _; rfl)) (da_cons (de_ixV hr.u1 (pv 2) de_int (by intro _ _; rfl) (by intro _ _; rfl)) (da_cons (de_ixV hr.u1 (pv 2) de_int (by intro _ _; rfl) (by intro _ _; rfl)) da_nil (by rfl)) (by rfl)) (by rfl)) (by rfl)) (by rfl)))))))
abbrev s_Builder_take : Stmt := clsAt (top 27) 1
noncomputable def b_Builder_take : Mo Tk :=
 (sSeqT (sAsg (gN 3) (eM1 dSplit (eV 1) (eC (.str " "))))
 (sIfT (eB (eBin (dIs true) (eBNm 0) (eC .non)))
 (sIfT (eB (eBin dEq (eV 1) (eC (.str "end"))))
 (pFin b_Album_add_view 0 (eTup (aCons (eBNm 0) (aCons (eBTup 0) aNil))))
 (pRow (eCall m_row_of (aCons (eV 1) (aCons (eV 2) aNil)))))
 (sIfT (tAndM (eB (eBin dEq (eIxV 3 (eC (.int 0))) (eC (.str "view")))) (tAndM (eB (eBin dEq (eF fLen (aCons (eV 3) aNil)) (eC (.int 2)))) (eTru (eCall m_is_name (aCons (eIxV 3 (eC (.int 1))) aNil)))))
 (pOpn (eIxV 3 (eC (.int 1))))
 (sIfT (eB (eBin dEq (eIxV 3 (eC (.int 0))) (eC (.str "link"))))
 (pLnk b_Album_add_link 1 (eCall m_link_of_parts (aCons (eV 3) (aCons (eV 2) aNil))))
 sNevT))))
theorem sc_Builder_take : FnScope ["self", "text", "line", "parts"] ["self", "text", "line"] (defScope s_Builder_take) := ⟨rfl, rfl, rfl, by decide +kernel, rfl, by decide +kernel, by decide +kernel⟩
theorem nd_Builder_take : List.Nodup (α := Str) ["self", "text", "line", "parts"] := by decide +kernel
theorem ok_Builder_take (F : Fun K "take" "Builder.take" s_Builder_take f fd) (T : Bi mg) (TA : AlbK K CA) (TB : BldK K CB) (C_Album_add_view : CalD P w K mg base CA 4 "add_view" true b_Album_add_view 0) (C_row_of : CalM P w K mg base 2 "row_of" 2 false m_row_of) (C_is_name : CalM P w K mg base 1 "is_name" 1 false m_is_name) (C_Album_add_link : CalD P w K mg base CA 3 "add_link" false b_Album_add_link 1) (C_link_of_parts : CalM P w K mg base 2 "link_of_parts" 2 false m_link_of_parts) : FnOk P w K mg base CX0 5 f fd ["self", "text", "line"] (spTk K b_Builder_take 1) :=
 fn_okTk F sc_Builder_take rfl rfl fun cdv A outer s H E hr =>
 (ptk_cons (ds_set nd_Builder_take rfl (by first | exact Or.inl rfl | exact Or.inr rfl) (DO.de (do_split (de_v (pv 1)) de_str (by rfl) (by rfl) (by rfl))) (by rfl) (by first | exact Or.inl rfl | exact Or.inr rfl | assumption))
 (ptk_if (dt_notN (de_bnm TB (pv 0) (by rfl)) de_non)
 (ptk_if (dt_eq hr.units (de_v (pv 1)) de_str)
 (ptk_fin TA TB C_Album_add_view.mono (hr.mono (by decide)) (pv 0) (de_tup (da_cons (de_bnm TB (pv 0) (by rfl)) (da_cons (de_btup TB (by rfl) T.tuple bt_tuple (pv 0) (by rfl) (by decide) (by decide) (by rfl) (by rfl)) da_nil (by rfl)) (by rfl))) (pv 0) pe_non (by rfl) (by decide) (by decide) (by rfl) (by rfl) (by rfl) (by rfl) (by rfl))
 (ptk_row TB (pv 0) (de_callC C_row_of (hr.mono (by decide)) (by rfl) (alen_cons (alen_cons alen_nil)) (da_cons (de_v (pv 1)) (da_cons (de_v (pv 2)) da_nil (by rfl)) (by rfl)) (by decide) (by rfl) (by rfl)) (by rfl) (by rfl) (by rfl) (by rfl) (by rfl) (by rfl) (by rfl)))
 (ptk_if (dw_t (dw_and (dt_eq hr.units (de_ixV hr.u1 (pv 3) de_int (by intro _ _; rfl) (by intro _ _; rfl)) de_str) (dw_and (dt_eq hr.units (de_len (by rfl) T.len bt_len (da_cons (de_v (pv 3)) da_nil (by rfl)) (by decide) (by decide) (by rfl) (by rfl)) de_int) (dw_and1 (dt_tru (de_callC C_is_name (hr.mono (by decide)) (by rfl) (alen_cons alen_nil) (da_cons (de_ixV hr.u1 (pv 3) de_int (by intro _ _; rfl) (by intro _ _; rfl)) da_nil (by rfl)) (by decide) (by rfl) (by rfl)) (by intro _; rfl))))))
 (ptk_opn TB (pv 0) (de_ixV hr.u1 (pv 3) de_int (by intro _ _; rfl) (by intro _ _; rfl)) (pv 0) (pe_lst pa_nil) (by rfl) (by rfl))
 (ptk_if (dt_eq hr.units (de_ixV hr.u1 (pv 3) de_int (by intro _ _; rfl) (by intro _ _; rfl)) de_str)
 (ptk_lnk TA TB C_Album_add_link.mono (hr.mono (by decide)) (pv 0) (de_callC C_link_of_parts (hr.mono (by decide)) (by rfl) (alen_cons (alen_cons alen_nil)) (da_cons (de_v (pv 3)) (da_cons (de_v (pv 2)) da_nil (by rfl)) (by rfl)) (by decide) (by rfl) (by rfl)) (by rfl) (by decide) (by decide) (by rfl) (by rfl) (by rfl) (by rfl))
 ptk_never))))
abbrev s_album_of : Stmt := top 28
noncomputable def b_album_of : Mo Out :=
 (sBld 1
 (sSeq (sAsg (gN 2) (eM1 dSplit (eV 0) (eC (.str "\n"))))
 (sSeq (sFor (iRg rg1 (aCons (eF fLen (aCons (eV 2) aNil)) aNil)) (gN 3)
 (sIf (eB (eBin dNe (eIxV 2 (eV 3)) (eC (.str ""))))
 (sTk 1 b_Builder_take 1 (eIxV 2 (eV 3)) (eV 3))
 sNx))
 (sSeq (sIf (eB (eBin (dIs true) (eBNm 1) (eC .non)))
 sNever
 sNx)
 (sRetB 1)))))
noncomputable def m_album_of : Mo D := fnM 5 1 b_album_of
theorem sc_album_of : FnScope ["text", "builder", "lines", "line", "e"] ["text"] (defScope s_album_of) := ⟨rfl, rfl, rfl, by decide +kernel, rfl, by decide +kernel, by decide +kernel⟩
theorem nd_album_of : List.Nodup (α := Str) ["text", "builder", "lines", "line", "e"] := by decide +kernel
theorem ok_album_of (F : Fun K "album_of" "album_of" s_album_of f fd) (T : Bi mg) (TA : AlbK K CA) (TB : BldK K CB) (BM : BldM P w K mg base CB CA 3) (C_Builder_take : CalT P w K mg base CB 5 "take" b_Builder_take 1) : FnOk P w K mg base CX0 6 f fd ["text"] (spM Wn K 1 false m_album_of) :=
 fn_ok F sc_album_of rfl fun cdv A outer s H E hr =>
 (dss_bld TB TA BM (hr.mono (by decide)) (by rfl) nd_album_of rfl (by first | exact Or.inl rfl | exact Or.inr rfl)
 (dsrs_cons (dsr_of reg_bld (ds_set nd_album_of rfl (by first | exact Or.inl rfl | exact Or.inr rfl) (DO.de (do_split (de_v (pv 0)) de_str (by rfl) (by rfl) (by rfl))) (by rfl) (by first | exact Or.inl rfl | exact Or.inr rfl | assumption)))
 (dsrs_cons (dsr_for reg_bld PassesOwn.never rfl calm_N (dir_rg1 (by rfl) T.range (da_cons (de_len (by rfl) T.len bt_len (da_cons (de_v (pv 2)) da_nil (by rfl)) (by decide) (by decide) (by rfl) (by rfl)) da_nil (by rfl)) (by rfl)) (dg_name nd_album_of rfl (by first | exact Or.inl rfl | exact Or.inr rfl) (by first | exact Or.inl rfl | exact Or.inr rfl | assumption))
 (dsrs_one (dsr_if reg_bld (dt_ne hr.units (de_ixV hr.u1 (pv 2) (de_v (pv 3)) (by intro _ _; rfl) (by intro _ _; rfl)) de_str)
 (dsrs_one (dsr_try (fun _ _ h => h) (dsrs_one (dsr_tk TB C_Builder_take.mono (hr.mono (by decide)) (pv 1) (de_ixV hr.u1 (pv 2) (de_v (pv 3)) (by intro _ _; rfl) (by intro _ _; rfl)) (de_v (pv 3)) (by decide) (by decide) (by decide) (by rfl) (by rfl) (by rfl) (by rfl) (by rfl)))))
 dsrs_nil)) (by intro _; rfl))
 (dsrs_cons (dsr_of reg_bld (ds_if (dt_notN (de_bnm TB (pv 1) (by rfl)) de_non)
 (dss_one ds_never)
 dss_nil))
 (dsrs_one (dsr_retB TB (pv 1) (by rfl)))))) (by rfl) (by first | exact .inl rfl | exact .inr rfl | assumption))
abbrev s__law_reading : Stmt := top 37
noncomputable def b__law_reading : Mo Out :=
 (sRet (eIx (eLst (aCons (eC .non) (aCons (eC (.int 0)) (aCons (eC (.int 999)) (aCons (eC (.int 7)) (aCons (eC (.int 8)) (aCons (eC (.int 9)) (aCons (eCall m__law_take (aVr 0 (aCons (eC (.int 1000)) aNil))) (aCons (eC (.int 10)) aNil))))))))) (eCall m__law_take (aVr 0 (aCons (eC (.int 8)) aNil)))))
noncomputable def m__law_reading : Mo D := fnM 1 1 b__law_reading
theorem sc__law_reading : FnScope ["_law_pool_here"] ["_law_pool_here"] (defScope s__law_reading) := ⟨rfl, rfl, rfl, by decide +kernel, rfl, by decide +kernel, by decide +kernel⟩
theorem ok__law_reading (F : Fun K "_law_reading" "_law_reading" s__law_reading f fd) (T : Bi mg) (C__law_take : CalM P w K mg base 2 "_law_take" 2 false m__law_take) : FnOk P w K mg base CX0 3 f fd ["_law_pool_here"] (spM Wn K 1 false m__law_reading) :=
 fn_ok F sc__law_reading rfl fun cdv A outer s H E hr =>
 (dss_one (ds_ret (de_ix hr.u1 (DO.de (do_lst (da_cons de_non (da_cons de_int (da_cons de_int (da_cons de_int (da_cons de_int (da_cons de_int (da_cons (de_callC C__law_take (hr.mono (by decide)) (by rfl) (alen_vr (alen_cons alen_nil)) (da_vr (pv 0) (da_cons de_int da_nil (by rfl)) (by rfl)) (by decide) (by rfl) (by rfl)) (da_cons de_int da_nil (by rfl)) (by rfl)) (by rfl)) (by rfl)) (by rfl)) (by rfl)) (by rfl)) (by rfl)))) (de_callC C__law_take (hr.mono (by decide)) (by rfl) (alen_vr (alen_cons alen_nil)) (da_vr (pv 0) (da_cons de_int da_nil (by rfl)) (by rfl)) (by decide) (by rfl) (by rfl)) (by intro _ _; rfl) (by intro _ _; rfl))))
abbrev s__law_rows : Stmt := top 38
noncomputable def b__law_rows : Mo Out :=
 (sSeq (sAsg (gN 2) (eBin dAdd (eC (.int 1)) (eCall m__law_take (aVr 0 (aCons (eV 1) aNil)))))
 (sSeq (sAsg (gN 3) (eBin dAdd (eC (.int 1)) (eCall m__law_take (aVr 0 (aCons (eV 1) aNil)))))
 (sRet (eF fTuple (aCons (eLc (iRg rg1 (aCons (eV 3) aNil)) (gN 5) tYesM (eF fTuple (aCons (eLc (iRg rg1 (aCons (eV 2) aNil)) (gN 4) tYesM (eCall m__law_reading (aVr 0 aNil)) [4]) aNil)) [5]) aNil)))))
noncomputable def m__law_rows : Mo D := fnM 6 2 b__law_rows
theorem sc__law_rows : FnScope ["_law_pool_here", "_law_most", "_law_width", "_law_height", "_law_x", "_law_y"] ["_law_pool_here", "_law_most"] (defScope s__law_rows) := ⟨rfl, rfl, rfl, by decide +kernel, rfl, by decide +kernel, by decide +kernel⟩
theorem nd__law_rows : List.Nodup (α := Str) ["_law_pool_here", "_law_most", "_law_width", "_law_height", "_law_x", "_law_y"] := by decide +kernel
theorem ok__law_rows (F : Fun K "_law_rows" "_law_rows" s__law_rows f fd) (T : Bi mg) (C__law_take : CalM P w K mg base 2 "_law_take" 2 false m__law_take) (C__law_reading : CalM P w K mg base 3 "_law_reading" 1 false m__law_reading) : FnOk P w K mg base CX0 4 f fd ["_law_pool_here", "_law_most"] (spM Wn K 2 false m__law_rows) :=
 fn_ok F sc__law_rows rfl fun cdv A outer s H E hr =>
 (dss_cons (ds_set nd__law_rows rfl (by first | exact Or.inl rfl | exact Or.inr rfl) (de_add de_int (de_callC C__law_take (hr.mono (by decide)) (by rfl) (alen_vr (alen_cons alen_nil)) (da_vr (pv 0) (da_cons (de_v (pv 1)) da_nil (by rfl)) (by rfl)) (by decide) (by rfl) (by rfl))) (by rfl) (by first | exact Or.inl rfl | exact Or.inr rfl | assumption))
 (dss_cons (ds_set nd__law_rows rfl (by first | exact Or.inl rfl | exact Or.inr rfl) (de_add de_int (de_callC C__law_take (hr.mono (by decide)) (by rfl) (alen_vr (alen_cons alen_nil)) (da_vr (pv 0) (da_cons (de_v (pv 1)) da_nil (by rfl)) (by rfl)) (by decide) (by rfl) (by rfl))) (by rfl) (by first | exact Or.inl rfl | exact Or.inr rfl | assumption))
 (dss_one (ds_ret (de_tuple (by rfl) T.tuple bt_tuple (da_cons (DO.de (do_lc (own := [("_law_y", 5)]) (by rfl) nd__law_rows (di_rg1 (by rfl) T.range (da_cons (de_v (pv 3)) da_nil (by rfl)) (by rfl)) (blkOk_by (N := ["_law_pool_here", "_law_most", "_law_width", "_law_height", "_law_x", "_law_y"]) (sc := (defScope s__law_rows)) (own := [("_law_y", 5)]) (by decide +kernel)) (by decide) (fun _ _ _ _ _ => (dg_name nd__law_rows rfl (by first | exact Or.inl rfl | exact Or.inr rfl) (by first | exact Or.inl rfl | exact Or.inr rfl | assumption))) (fun _ _ _ _ _ => dts_nil) (fun _ _ _ _ _ => (de_tuple (by rfl) T.tuple bt_tuple (da_cons (DO.de (do_lc (own := [("_law_x", 4)]) (by rfl) nd__law_rows (di_rg1 (by rfl) T.range (da_cons (de_v (pv 2)) da_nil (by rfl)) (by rfl)) (blkOk_by (N := ["_law_pool_here", "_law_most", "_law_width", "_law_height", "_law_x", "_law_y"]) (sc := _) (own := [("_law_x", 4)]) (by with_unfolding_all rfl)) (by decide) (fun _ _ _ _ _ => (dg_name nd__law_rows rfl (by first | exact Or.inl rfl | exact Or.inr rfl) (by first | exact Or.inl rfl | exact Or.inr rfl | assumption))) (fun _ _ _ _ _ => dts_nil) (fun _ _ _ _ _ => (de_callC C__law_reading (hr.mono (by decide)) (by rfl) (alen_vr alen_nil) (da_vr (pv 0) da_nil (by rfl)) (by decide) (by rfl) (by rfl))) (by intro _; rfl))) da_nil (by rfl)) (by decide) (by decide) (by rfl) (by rfl))) (by intro _; rfl))) da_nil (by rfl)) (by decide) (by decide) (by rfl) (by rfl))))))
abbrev s__law_view_lines : Stmt := top 44
noncomputable def b__law_view_lines : Mo Out :=
 (sSeq (sAsgO 2 (eLst (aCons (eBin dAdd (eC (.str "view ")) (eV 0)) aNil)))
 (sSeq (sFor (iOf (eV 1)) (gN 3)
 (sApp 2 (eM1 dJoin (eC (.str " ")) (eLc (iOf (eV 3)) (gN 4) tYesM (eIf (eB (eBin (dIs false) (eV 4) (eC .non))) (eC (.str ".")) (eF fStr (aCons (eV 4) aNil))) [4]))))
 (sRet (eBin dAdd (eV 2) (eLst (aCons (eC (.str "end")) aNil))))))
noncomputable def m__law_view_lines : Mo D := fnM 5 2 b__law_view_lines
theorem sc__law_view_lines : FnScope ["_law_name_here", "_law_rows_here", "_law_lines", "_law_row", "_law_reading_here"] ["_law_name_here", "_law_rows_here"] (defScope s__law_view_lines) := ⟨rfl, rfl, rfl, by decide +kernel, rfl, by decide +kernel, by decide +kernel⟩
theorem nd__law_view_lines : List.Nodup (α := Str) ["_law_name_here", "_law_rows_here", "_law_lines", "_law_row", "_law_reading_here"] := by decide +kernel
theorem ok__law_view_lines (F : Fun K "_law_view_lines" "_law_view_lines" s__law_view_lines f fd) (T : Bi mg)  : FnOk P w K mg base CX0 1 f fd ["_law_name_here", "_law_rows_here"] (spM Wn K 2 false m__law_view_lines) :=
 fn_ok F sc__law_view_lines rfl fun cdv A outer s H E hr =>
 (dss_cons (ds_setO nd__law_view_lines rfl (by first | exact Or.inl rfl | exact Or.inr rfl) (do_lst (da_cons (de_add de_str (de_v (pv 0))) da_nil (by rfl))) (by rfl) (by first | exact Or.inl rfl | exact Or.inr rfl | assumption))
 (dss_cons (ds_for PassesOwn.never rfl calm_N (di_of (de_v (pv 1))) (dg_name nd__law_view_lines rfl (by first | exact Or.inl rfl | exact Or.inr rfl) (by first | exact Or.inl rfl | exact Or.inr rfl | assumption))
 (dss_one (ds_app (pv 2) (de_join de_str (DO.de (do_lc (own := [("_law_reading_here", 4)]) (by rfl) nd__law_view_lines (di_of (de_v (pv 3))) (blkOk_by (N := ["_law_name_here", "_law_rows_here", "_law_lines", "_law_row", "_law_reading_here"]) (sc := (defScope s__law_view_lines)) (own := [("_law_reading_here", 4)]) (by decide +kernel)) (by decide) (fun _ _ _ _ _ => (dg_name nd__law_view_lines rfl (by first | exact Or.inl rfl | exact Or.inr rfl) (by first | exact Or.inl rfl | exact Or.inr rfl | assumption))) (fun _ _ _ _ _ => dts_nil) (fun _ _ _ _ _ => (de_if (dt_isN (de_v (pv 4)) de_non) de_str (de_str1 (by rfl) T.str bt_str (da_cons (de_v (pv 4)) da_nil (by rfl)) (by decide) (by decide) (by rfl) (by rfl)))) (by intro _; rfl))) (by rfl) (by rfl) (by rfl)) (by rfl))) (by intro _; rfl))
 (dss_one (ds_ret (de_add (de_v (pv 2)) (DO.de (do_lst (da_cons de_str da_nil (by rfl)))))))))
abbrev s__law_link_line : Stmt := top 45
noncomputable def b__law_link_line : Mo Out :=
 (sRet (eM1 dJoin (eC (.str " ")) (eBin dAdd (eLst (aCons (eC (.str "link")) aNil)) (eLc (iOf (eV 0)) (gN 1) tYesM (eF fStrA (aCons (eV 1) aNil)) [1]))))
noncomputable def m__law_link_line : Mo D := fnM 2 1 b__law_link_line
theorem sc__law_link_line : FnScope ["_law_link", "_law_part"] ["_law_link"] (defScope s__law_link_line) := ⟨rfl, rfl, rfl, by decide +kernel, rfl, by decide +kernel, by decide +kernel⟩
theorem nd__law_link_line : List.Nodup (α := Str) ["_law_link", "_law_part"] := by decide +kernel
theorem ok__law_link_line (F : Fun K "_law_link_line" "_law_link_line" s__law_link_line f fd) (T : Bi mg)  : FnOk P w K mg base CX0 1 f fd ["_law_link"] (spM Wn K 1 false m__law_link_line) :=
 fn_ok F sc__law_link_line rfl fun cdv A outer s H E hr =>
 (dss_one (ds_ret (de_join de_str (de_add (DO.de (do_lst (da_cons de_str da_nil (by rfl)))) (DO.de (do_lc (own := [("_law_part", 1)]) (by rfl) nd__law_link_line (di_of (de_v (pv 0))) (blkOk_by (N := ["_law_link", "_law_part"]) (sc := (defScope s__law_link_line)) (own := [("_law_part", 1)]) (by decide +kernel)) (by decide) (fun _ _ _ _ _ => (dg_name nd__law_link_line rfl (by first | exact Or.inl rfl | exact Or.inr rfl) (by first | exact Or.inl rfl | exact Or.inr rfl | assumption))) (fun _ _ _ _ _ => dts_nil) (fun _ _ _ _ _ => (de_strA (by rfl) T.str bt_str (da_cons (de_v (pv 1)) da_nil (by rfl)) (by decide) (by decide) (by rfl) (by rfl))) (by intro _; rfl)))) (by rfl) (by rfl) (by rfl))))
abbrev s_law : Stmt := top 46
noncomputable def b_law : Mo Out :=
 (sSeq (sAsgO 1 (eCall m__law_pool (aCons (eV 0) aNil)))
 (sSeq (sAsg (gN 2) (eCall m__law_names (aVr 1 (aCons (eBin dAdd (eC (.int 1)) (eCall m__law_take (aVr 1 (aCons (eC (.int 6)) aNil)))) aNil))))
 (sSeq (sAsg (gN 3) (eLc (iOf (eV 2)) (gN 16) tYesM (eCall m__law_rows (aVr 1 (aCons (eC (.int 3)) aNil))) [16]))
 (sSeq (sAsg (gN 4) (eCall m__law_links (aVr 1 (aCons (eV 2) (aCons (eC (.int 8)) aNil)))))
 (sSeq (sAsg (gN 5) (eCall m__law_album (aCons (eV 2) (aCons (eV 3) (aCons (eV 4) aNil)))))
 (sSeq (sAsgO 6 (eLc (iRg rg1 (aCons (eF fLen (aCons (eV 2) aNil)) aNil)) (gN 13) tYesM (eCall m__law_view_lines (aCons (eIxV 2 (eV 13)) (aCons (eIxV 3 (eV 13)) aNil))) [13]))
 (sSeq (sAsg (gN 7) (eLst aNil))
 (sSeq (sFor (iOf (eV 6)) (gN 8)
 (sAsg (gN 7) (eBin dAdd (eV 7) (eV 8))))
 (sSeq (sAsg (gN 7) (eBin dAdd (eV 7) (eLc (iOf (eV 4)) (gN 17) tYesM (eCall m__law_link_line (aCons (eV 17) aNil)) [17])))
 (sSeq (sAsg (gN 9) (eCall m_show_album (aVb 5 aNil)))
 (sSeq (sIf (eB (eBin dNe (eV 9) (eM1 dJoin (eC (.str "")) (eLc (iOf (eV 7)) (gN 15) tYesM (eBin dAdd (eV 15) (eC (.str "\n"))) [15]))))
 (sRet (eC (.bl false)))
 sNx)
 (sSeq (sAsg (gN 10) (eCall m_album_of (aCons (eV 9) aNil)))
 (sSeq (sIf (tOrM (eB (eBin dNe (eMeth m_Album_views 10 aNil) (eMeth m_Album_views 5 aNil))) (eB (eBin dNe (eMeth m_Album_links 10 aNil) (eV 4))))
 (sRet (eC (.bl false)))
 sNx)
 (sSeq (sAsgO 11 (eLst aNil))
 (sSeq (sAsg (gN 12) (eF fList' (aCons (eV 4) aNil)))
 (sSeq (sFor (iRg rg1 (aCons (eF fLen (aCons (eV 6) aNil)) aNil)) (gN 13)
 (sSeq (sAsgO 11 (eBin dAddL (eV 11) (eIxV 6 (eV 13))))
 (sWhile (tAndM (eTru (eV 12)) (tAndM (eB (eBin (dIn false) (eIx (eIxV 12 (eC (.int 0))) (eC (.int 0))) (eSl dSlL (eV 2) eP0 (eP1 (eBin dAdd (eV 13) (eC (.int 1))))))) (eB (eBin (dIn false) (eIx (eIxV 12 (eC (.int 0))) (eC (.int 1))) (eSl dSlL (eV 2) eP0 (eP1 (eBin dAdd (eV 13) (eC (.int 1)))))))))
 (sSeq (sIf (eB (eBin dEq (eCall m__law_take (aVr 1 (aCons (eC (.int 3)) aNil))) (eC (.int 0))))
 sBreak
 sNx)
 (sSeq (sApp 11 (eCall m__law_link_line (aCons (eIxV 12 (eC (.int 0))) aNil)))
 (sAsg (gN 12) (eSl dSlL (eV 12) (eP1 (eC (.int 1))) eP0)))))))
 (sSeq (sAsgO 11 (eBin dAddL (eV 11) (eLc (iOf (eV 12)) (gN 17) tYesM (eCall m__law_link_line (aCons (eV 17) aNil)) [17])))
 (sSeq (sAsg (gN 14) (eLst aNil))
 (sSeq (sFor (iOf (eV 11)) (gN 15)
 (sAsg (gN 14) (eBin dAdd (eBin dAdd (eV 14) (eBin dMulL (eLst (aCons (eC (.str "")) aNil)) (eCall m__law_take (aVr 1 (aCons (eC (.int 2)) aNil))))) (eLst (aCons (eV 15) aNil)))))
 (sSeq (sAsg (gN 10) (eCall m_album_of (aCons (eM1 dJoin (eC (.str "\n")) (eV 14)) aNil)))
 (sRet (eAnd (eBin dEq (eMeth m_Album_views 10 aNil) (eMeth m_Album_views 5 aNil)) (eBin dEq (eMeth m_Album_links 10 aNil) (eV 4))))))))))))))))))))))))
noncomputable def m_law : Mo D := fnM 18 1 b_law
theorem sc_law : FnScope ["_law_script", "_law_pool_here", "_law_names_here", "_law_rows_here", "_law_links_here", "_law_album_here", "_law_blocks", "_law_lines", "_law_block", "_law_text", "_law_read", "_law_mixed", "_law_waiting", "_law_k", "_law_loose", "_law_line", "_law_name_here", "_law_link"] ["_law_script"] (defScope s_law) := ⟨rfl, rfl, rfl, by decide +kernel, rfl, by decide +kernel, by decide +kernel⟩
theorem nd_law : List.Nodup (α := Str) ["_law_script", "_law_pool_here", "_law_names_here", "_law_rows_here", "_law_links_here", "_law_album_here", "_law_blocks", "_law_lines", "_law_block", "_law_text", "_law_read", "_law_mixed", "_law_waiting", "_law_k", "_law_loose", "_law_line", "_law_name_here", "_law_link"] := by decide +kernel
theorem ok_law (F : Fun K "law" "law" s_law f fd) (T : Bi mg) (TA : AlbK K CA) (C__law_pool : CalM P w K mg base 1 "_law_pool" 1 true m__law_pool) (C__law_take : CalM P w K mg base 2 "_law_take" 2 false m__law_take) (C__law_names : CalM P w K mg base 4 "_law_names" 2 false m__law_names) (C__law_rows : CalM P w K mg base 4 "_law_rows" 2 false m__law_rows) (C__law_links : CalM P w K mg base 3 "_law_links" 3 false m__law_links) (C__law_album : CalM P w K mg base 5 "_law_album" 3 false m__law_album) (C__law_view_lines : CalM P w K mg base 1 "_law_view_lines" 2 false m__law_view_lines) (C__law_link_line : CalM P w K mg base 1 "_law_link_line" 1 false m__law_link_line) (C_show_album : CalM P w K mg base 2 "show_album" 1 false m_show_album) (C_album_of : CalM P w K mg base 6 "album_of" 1 false m_album_of) (C_Album_views : CalS P w K mg base CA 1 "views" 1 false m_Album_views) (C_Album_links : CalS P w K mg base CA 1 "links" 1 false m_Album_links) : FnOk P w K mg base CX0 7 f fd ["_law_script"] (spM Wn K 1 false m_law) :=
 fn_ok F sc_law rfl fun cdv A outer s H E hr =>
 (dss_cons (ds_setO nd_law rfl (by first | exact Or.inl rfl | exact Or.inr rfl) (do_callC C__law_pool (hr.mono (by decide)) (by rfl) (alen_cons alen_nil) (da_cons (de_v (pv 0)) da_nil (by rfl)) (by decide) (by rfl) (by rfl)) (by rfl) (by first | exact Or.inl rfl | exact Or.inr rfl | assumption))
 (dss_cons (ds_set nd_law rfl (by first | exact Or.inl rfl | exact Or.inr rfl) (de_callC C__law_names (hr.mono (by decide)) (by rfl) (alen_vr (alen_cons alen_nil)) (da_vr (pv 1) (da_cons (de_add de_int (de_callC C__law_take (hr.mono (by decide)) (by rfl) (alen_vr (alen_cons alen_nil)) (da_vr (pv 1) (da_cons de_int da_nil (by rfl)) (by rfl)) (by decide) (by rfl) (by rfl))) da_nil (by rfl)) (by rfl)) (by decide) (by rfl) (by rfl)) (by rfl) (by first | exact Or.inl rfl | exact Or.inr rfl | assumption))
 (dss_cons (ds_set nd_law rfl (by first | exact Or.inl rfl | exact Or.inr rfl) (DO.de (do_lc (own := [("_law_name_here", 16)]) (by rfl) nd_law (di_of (de_v (pv 2))) (blkOk_by (N := ["_law_script", "_law_pool_here", "_law_names_here", "_law_rows_here", "_law_links_here", "_law_album_here", "_law_blocks", "_law_lines", "_law_block", "_law_text", "_law_read", "_law_mixed", "_law_waiting", "_law_k", "_law_loose", "_law_line", "_law_name_here", "_law_link"]) (sc := (defScope s_law)) (own := [("_law_name_here", 16)]) (by decide +kernel)) (by decide) (fun _ _ _ _ _ => (dg_name nd_law rfl (by first | exact Or.inl rfl | exact Or.inr rfl) (by first | exact Or.inl rfl | exact Or.inr rfl | assumption))) (fun _ _ _ _ _ => dts_nil) (fun _ _ _ _ _ => (de_callC C__law_rows (hr.mono (by decide)) (by rfl) (alen_vr (alen_cons alen_nil)) (da_vr (pv 1) (da_cons de_int da_nil (by rfl)) (by rfl)) (by decide) (by rfl) (by rfl))) (by intro _; rfl))) (by rfl) (by first | exact Or.inl rfl | exact Or.inr rfl | assumption))
 (dss_cons (ds_set nd_law rfl (by first | exact Or.inl rfl | exact Or.inr rfl) (de_callC C__law_links (hr.mono (by decide)) (by rfl) (alen_vr (alen_cons (alen_cons alen_nil))) (da_vr (pv 1) (da_cons (de_v (pv 2)) (da_cons de_int da_nil (by rfl)) (by rfl)) (by rfl)) (by decide) (by rfl) (by rfl)) (by rfl) (by first | exact Or.inl rfl | exact Or.inr rfl | assumption))
 (dss_cons (ds_set nd_law rfl (by first | exact Or.inl rfl | exact Or.inr rfl) (de_callC C__law_album (hr.mono (by decide)) (by rfl) (alen_cons (alen_cons (alen_cons alen_nil))) (da_cons (de_v (pv 2)) (da_cons (de_v (pv 3)) (da_cons (de_v (pv 4)) da_nil (by rfl)) (by rfl)) (by rfl)) (by decide) (by rfl) (by rfl)) (by rfl) (by first | exact Or.inl rfl | exact Or.inr rfl | assumption))
 (dss_cons (ds_setLcO (own := [("_law_k", 13)]) rfl nd_law rfl rfl (sw_true rfl rfl rfl (by decide +kernel)) (di_rg1 (by rfl) T.range (da_cons (de_len (by rfl) T.len bt_len (da_cons (de_v (pv 2)) da_nil (by rfl)) (by decide) (by decide) (by rfl) (by rfl)) da_nil (by rfl)) (by rfl)) (blkOk_by (N := ["_law_script", "_law_pool_here", "_law_names_here", "_law_rows_here", "_law_links_here", "_law_album_here", "_law_blocks", "_law_lines", "_law_block", "_law_text", "_law_read", "_law_mixed", "_law_waiting", "_law_k", "_law_loose", "_law_line", "_law_name_here", "_law_link"]) (sc := (defScope s_law)) (own := [("_law_k", 13)]) (by decide +kernel)) (by decide) (fun _ _ _ _ _ => (dg_name nd_law rfl (by first | exact Or.inl rfl | exact Or.inr rfl) (by first | exact Or.inl rfl | exact Or.inr rfl | assumption))) (fun _ _ _ _ _ => dts_nil) (fun _ _ _ _ _ => (de_callC C__law_view_lines (hr.mono (by decide)) (by rfl) (alen_cons (alen_cons alen_nil)) (da_cons (de_ixV hr.u1 (pv 2) (de_v (pv 13)) (by intro _ _; rfl) (by intro _ _; rfl)) (da_cons (de_ixV hr.u1 (pv 3) (de_v (pv 13)) (by intro _ _; rfl) (by intro _ _; rfl)) da_nil (by rfl)) (by rfl)) (by decide) (by rfl) (by rfl))) (by intro _; rfl))
 (dss_cons (ds_set nd_law rfl (by first | exact Or.inl rfl | exact Or.inr rfl) (DO.de (do_lst da_nil)) (by rfl) (by first | exact Or.inl rfl | exact Or.inr rfl | assumption))
 (dss_cons (ds_for PassesOwn.never rfl calm_N (di_of (de_v (pv 6))) (dg_name nd_law rfl (by first | exact Or.inl rfl | exact Or.inr rfl) (by first | exact Or.inl rfl | exact Or.inr rfl | assumption))
 (dss_one (ds_set nd_law rfl (by first | exact Or.inl rfl | exact Or.inr rfl) (de_add (de_v (pv 7)) (de_v (pv 8))) (by rfl) (by first | exact Or.inl rfl | exact Or.inr rfl | assumption))) (by intro _; rfl))
 (dss_cons (ds_set nd_law rfl (by first | exact Or.inl rfl | exact Or.inr rfl) (de_add (de_v (pv 7)) (DO.de (do_lc (own := [("_law_link", 17)]) (by rfl) nd_law (di_of (de_v (pv 4))) (blkOk_by (N := ["_law_script", "_law_pool_here", "_law_names_here", "_law_rows_here", "_law_links_here", "_law_album_here", "_law_blocks", "_law_lines", "_law_block", "_law_text", "_law_read", "_law_mixed", "_law_waiting", "_law_k", "_law_loose", "_law_line", "_law_name_here", "_law_link"]) (sc := (defScope s_law)) (own := [("_law_link", 17)]) (by decide +kernel)) (by decide) (fun _ _ _ _ _ => (dg_name nd_law rfl (by first | exact Or.inl rfl | exact Or.inr rfl) (by first | exact Or.inl rfl | exact Or.inr rfl | assumption))) (fun _ _ _ _ _ => dts_nil) (fun _ _ _ _ _ => (de_callC C__law_link_line (hr.mono (by decide)) (by rfl) (alen_cons alen_nil) (da_cons (de_v (pv 17)) da_nil (by rfl)) (by decide) (by rfl) (by rfl))) (by intro _; rfl)))) (by rfl) (by first | exact Or.inl rfl | exact Or.inr rfl | assumption))
 (dss_cons (ds_set nd_law rfl (by first | exact Or.inl rfl | exact Or.inr rfl) (de_callC C_show_album (hr.mono (by decide)) (by rfl) (alen_vb alen_nil) (da_vb (pv 5) da_nil (by rfl)) (by decide) (by rfl) (by rfl)) (by rfl) (by first | exact Or.inl rfl | exact Or.inr rfl | assumption))
 (dss_cons (ds_if (dt_ne hr.units (de_v (pv 9)) (de_join de_str (DO.de (do_lc (own := [("_law_line", 15)]) (by rfl) nd_law (di_of (de_v (pv 7))) (blkOk_by (N := ["_law_script", "_law_pool_here", "_law_names_here", "_law_rows_here", "_law_links_here", "_law_album_here", "_law_blocks", "_law_lines", "_law_block", "_law_text", "_law_read", "_law_mixed", "_law_waiting", "_law_k", "_law_loose", "_law_line", "_law_name_here", "_law_link"]) (sc := (defScope s_law)) (own := [("_law_line", 15)]) (by decide +kernel)) (by decide) (fun _ _ _ _ _ => (dg_name nd_law rfl (by first | exact Or.inl rfl | exact Or.inr rfl) (by first | exact Or.inl rfl | exact Or.inr rfl | assumption))) (fun _ _ _ _ _ => dts_nil) (fun _ _ _ _ _ => (de_add (de_v (pv 15)) de_str)) (by intro _; rfl))) (by rfl) (by rfl) (by rfl)))
 (dss_one (ds_ret de_bl))
 dss_nil)
 (dss_cons (ds_set nd_law rfl (by first | exact Or.inl rfl | exact Or.inr rfl) (de_callC C_album_of (hr.mono (by decide)) (by rfl) (alen_cons alen_nil) (da_cons (de_v (pv 9)) da_nil (by rfl)) (by decide) (by rfl) (by rfl)) (by rfl) (by first | exact Or.inl rfl | exact Or.inr rfl | assumption))
 (dss_cons (ds_if (dw_t (dw_or (dt_ne hr.units (de_meth0 TA C_Album_views (hr.mono (by decide)) (pv 10)) (de_meth0 TA C_Album_views (hr.mono (by decide)) (pv 5))) (dw_or1 (dt_ne hr.units (de_meth0 TA C_Album_links (hr.mono (by decide)) (pv 10)) (de_v (pv 4))))))
 (dss_one (ds_ret de_bl))
 dss_nil)
 (dss_cons (ds_setO nd_law rfl (by first | exact Or.inl rfl | exact Or.inr rfl) (do_lst da_nil) (by rfl) (by first | exact Or.inl rfl | exact Or.inr rfl | assumption))
 (dss_cons (ds_set nd_law rfl (by first | exact Or.inl rfl | exact Or.inr rfl) (DO.de (do_list (by rfl) (by rfl) T.list bt_list (da_cons (de_v (pv 4)) da_nil (by rfl)) (by decide) (by decide) (by rfl) (by rfl))) (by rfl) (by first | exact Or.inl rfl | exact Or.inr rfl | assumption))
 (dss_cons (ds_for PassesOwn.never rfl calm_N (di_rg1 (by rfl) T.range (da_cons (de_len (by rfl) T.len bt_len (da_cons (de_v (pv 6)) da_nil (by rfl)) (by decide) (by decide) (by rfl) (by rfl)) da_nil (by rfl)) (by rfl)) (dg_name nd_law rfl (by first | exact Or.inl rfl | exact Or.inr rfl) (by first | exact Or.inl rfl | exact Or.inr rfl | assumption))
 (dss_cons (ds_setO nd_law rfl (by first | exact Or.inl rfl | exact Or.inr rfl) (do_cat (de_v (pv 11)) (de_ixV hr.u1 (pv 6) (de_v (pv 13)) (by intro _ _; rfl) (by intro _ _; rfl))) (by rfl) (by first | exact Or.inl rfl | exact Or.inr rfl | assumption))
 (dss_one (ds_while PassesOwn.never (dw_t (dw_and (dt_tru (de_v (pv 12)) (by intro _; rfl)) (dw_and (dt_in hr.u65 (de_ix hr.u1 (de_ixV hr.u1 (pv 12) de_int (by intro _ _; rfl) (by intro _ _; rfl)) de_int (by intro _ _; rfl) (by intro _ _; rfl)) (DO.de (do_sl (de_v (pv 2)) dp_none (dp_some (de_add (de_v (pv 13)) de_int)))) (by rfl)) (dw_and1 (dt_in hr.u65 (de_ix hr.u1 (de_ixV hr.u1 (pv 12) de_int (by intro _ _; rfl) (by intro _ _; rfl)) de_int (by intro _ _; rfl) (by intro _ _; rfl)) (DO.de (do_sl (de_v (pv 2)) dp_none (dp_some (de_add (de_v (pv 13)) de_int)))) (by rfl))))))
 (dss_cons (ds_if (dt_eq hr.units (de_callC C__law_take (hr.mono (by decide)) (by rfl) (alen_vr (alen_cons alen_nil)) (da_vr (pv 1) (da_cons de_int da_nil (by rfl)) (by rfl)) (by decide) (by rfl) (by rfl)) de_int)
 (dss_one ds_break)
 dss_nil)
 (dss_cons (ds_app (pv 11) (de_callC C__law_link_line (hr.mono (by decide)) (by rfl) (alen_cons alen_nil) (da_cons (de_ixV hr.u1 (pv 12) de_int (by intro _ _; rfl) (by intro _ _; rfl)) da_nil (by rfl)) (by decide) (by rfl) (by rfl)) (by rfl))
 (dss_one (ds_set nd_law rfl (by first | exact Or.inl rfl | exact Or.inr rfl) (DO.de (do_sl (de_v (pv 12)) (dp_some de_int) dp_none)) (by rfl) (by first | exact Or.inl rfl | exact Or.inr rfl | assumption)))))))) (by intro _; rfl))
 (dss_cons (ds_setO nd_law rfl (by first | exact Or.inl rfl | exact Or.inr rfl) (do_cat (de_v (pv 11)) (DO.de (do_lc (own := [("_law_link", 17)]) (by rfl) nd_law (di_of (de_v (pv 12))) (blkOk_by (N := ["_law_script", "_law_pool_here", "_law_names_here", "_law_rows_here", "_law_links_here", "_law_album_here", "_law_blocks", "_law_lines", "_law_block", "_law_text", "_law_read", "_law_mixed", "_law_waiting", "_law_k", "_law_loose", "_law_line", "_law_name_here", "_law_link"]) (sc := (defScope s_law)) (own := [("_law_link", 17)]) (by decide +kernel)) (by decide) (fun _ _ _ _ _ => (dg_name nd_law rfl (by first | exact Or.inl rfl | exact Or.inr rfl) (by first | exact Or.inl rfl | exact Or.inr rfl | assumption))) (fun _ _ _ _ _ => dts_nil) (fun _ _ _ _ _ => (de_callC C__law_link_line (hr.mono (by decide)) (by rfl) (alen_cons alen_nil) (da_cons (de_v (pv 17)) da_nil (by rfl)) (by decide) (by rfl) (by rfl))) (by intro _; rfl)))) (by rfl) (by first | exact Or.inl rfl | exact Or.inr rfl | assumption))
 (dss_cons (ds_set nd_law rfl (by first | exact Or.inl rfl | exact Or.inr rfl) (DO.de (do_lst da_nil)) (by rfl) (by first | exact Or.inl rfl | exact Or.inr rfl | assumption))
 (dss_cons (ds_for PassesOwn.never rfl calm_N (di_of (de_v (pv 11))) (dg_name nd_law rfl (by first | exact Or.inl rfl | exact Or.inr rfl) (by first | exact Or.inl rfl | exact Or.inr rfl | assumption))
 (dss_one (ds_set nd_law rfl (by first | exact Or.inl rfl | exact Or.inr rfl) (de_add (de_add (de_v (pv 14)) (DO.de (do_rep (DO.de (do_lst (da_cons de_str da_nil (by rfl)))) (de_callC C__law_take (hr.mono (by decide)) (by rfl) (alen_vr (alen_cons alen_nil)) (da_vr (pv 1) (da_cons de_int da_nil (by rfl)) (by rfl)) (by decide) (by rfl) (by rfl))))) (DO.de (do_lst (da_cons (de_v (pv 15)) da_nil (by rfl))))) (by rfl) (by first | exact Or.inl rfl | exact Or.inr rfl | assumption))) (by intro _; rfl))
 (dss_cons (ds_set nd_law rfl (by first | exact Or.inl rfl | exact Or.inr rfl) (de_callC C_album_of (hr.mono (by decide)) (by rfl) (alen_cons alen_nil) (da_cons (de_join de_str (de_v (pv 14)) (by rfl) (by rfl) (by rfl)) da_nil (by rfl)) (by decide) (by rfl) (by rfl)) (by rfl) (by first | exact Or.inl rfl | exact Or.inr rfl | assumption))
 (dss_one (ds_ret (de_and (de_eq hr.units (de_meth0 TA C_Album_views (hr.mono (by decide)) (pv 10)) (de_meth0 TA C_Album_views (hr.mono (by decide)) (pv 5))) (de_one (de_eq hr.units (de_meth0 TA C_Album_links (hr.mono (by decide)) (pv 10)) (de_v (pv 4)))))))))))))))))))))))))))
end
theorem all_mk {l : PySem.W.OpenLaw} {w : World} {K : PySem.W.Frag} {h : Heap} {mg : Str → Option Value} {fa CA CB : Addr} {tq_MAX_NAME tq_MOST tq_MAX_SIDE tq_MAX_VIEWS tq_MAX_SHIFT tq_MAX_LIGHT tq_MAX_LINKS tq_MAX_DIGITS : Tok} (X : K.In h) (G : h.Ns mainGlobals mg) (hfa : mg "law" = some (.ref fa))
 {f0 f1 f2 f3 f4 f5 f6 f7 f8 f9 f10 f11 f12 f13 f14 f15 f16 f17 f18 f19 f20 f21 f22 f23 f24 f25 f26 f27 f28 f29 f30 : Addr} {od0 an0 od1 an1 od2 an2 od3 an3 od4 an4 od5 an5 od6 an6 od7 an7 od8 an8 od9 an9 od10 an10 od11 an11 od12 an12 od13 an13 od14 an14 od15 an15 od16 an16 od17 an17 od18 an18 od19 an19 od20 an20 od21 an21 od22 an22 od23 an23 od24 an24 od25 an25 od26 an26 od27 an27 od28 an28 od29 an29 od30 an30 : Option Addr} {sl0 sl1 sl2 sl3 sl4 sl5 sl6 sl7 sl8 sl9 sl10 sl11 sl12 sl13 sl14 sl15 sl16 sl17 sl18 sl19 sl20 sl21 sl22 sl23 sl24 sl25 sl26 sl27 sl28 sl29 sl30 : Array (Option Value)} {oc0 kV0 dc0 pm0 cd0 ct0 oc1 kV1 dc1 pm1 cd1 ct1 oc2 kV2 dc2 pm2 cd2 ct2 oc3 kV3 dc3 pm3 cd3 ct3 oc4 kV4 dc4 pm4 cd4 ct4 oc5 kV5 dc5 pm5 cd5 ct5 oc6 kV6 dc6 pm6 cd6 ct6 oc7 kV7 dc7 pm7 cd7 ct7 oc8 kV8 dc8 pm8 cd8 ct8 oc9 kV9 dc9 pm9 cd9 ct9 oc10 kV10 dc10 pm10 cd10 ct10 oc11 kV11 dc11 pm11 cd11 ct11 oc12 kV12 dc12 pm12 cd12 ct12 oc13 kV13 dc13 pm13 cd13 ct13 oc14 kV14 dc14 pm14 cd14 ct14 oc15 kV15 dc15 pm15 cd15 ct15 oc16 kV16 dc16 pm16 cd16 ct16 oc17 kV17 dc17 pm17 cd17 ct17 oc18 kV18 dc18 pm18 cd18 ct18 oc19 kV19 dc19 pm19 cd19 ct19 oc20 kV20 dc20 pm20 cd20 ct20 oc21 kV21 dc21 pm21 cd21 ct21 oc22 kV22 dc22 pm22 cd22 ct22 oc23 kV23 dc23 pm23 cd23 ct23 oc24 kV24 dc24 pm24 cd24 ct24 oc25 kV25 dc25 pm25 cd25 ct25 oc26 kV26 dc26 pm26 cd26 ct26 oc27 kV27 dc27 pm27 cd27 ct27 oc28 kV28 dc28 pm28 cd28 ct28 oc29 kV29 dc29 pm29 cd29 ct29 oc30 kV30 dc30 pm30 cd30 ct30 : Value}
 (y_ns : PySem.W.nsIn K mainGlobals "Album" = some (some (.ref CA))) (y_pg : PySem.W.plainGet K CA Str.empty = true) (y_hd : PySem.W.hasDictIn K CA = true) (y_po : PySem.W.plainOver K CA = true) (y_sa : PySem.W.findIn K (.ref CA) "__setattr__" = some (some (.builtin "object.__setattr__"))) (y_nv : PySem.W.findIn K (.ref CA) "_views" = some none) (y_nl : PySem.W.findIn K (.ref CA) "_links" = some none) (y_mk : PySem.W.makesIn K CA = true) (y_kp : PySem.W.keepIn K (.ref CA) = true) (w_ns : PySem.W.nsIn K mainGlobals "Builder" = some (some (.ref CB))) (w_pg : PySem.W.plainGet K CB Str.empty = true) (w_hd : PySem.W.hasDictIn K CB = true) (w_po : PySem.W.plainOver K CB = true) (w_sa : PySem.W.findIn K (.ref CB) "__setattr__" = some (some (.builtin "object.__setattr__"))) (w_na : PySem.W.findIn K (.ref CB) "album" = some none) (w_nn : PySem.W.findIn K (.ref CB) "name" = some none) (w_nr : PySem.W.findIn K (.ref CB) "rows" = some none) (w_mk : PySem.W.makesIn K CB = true) (w_kp : PySem.W.keepIn K (.ref CB) = true)
 (a0 : PySem.W.nsIn K mainGlobals "_law_pool" = some (some (.ref f0))) (l0 : K.lookup f0 = some ⟨oc0, od0, .func (PySem.W.fnOf "_law_pool" "_law_pool" (defArgs s__law_pool) (defBody s__law_pool) (defScope s__law_pool) .none kV0 dc0 pm0 an0 cd0 ct0), sl0⟩) (c0 : PySem.W.codeIn K cd0 "_law_pool" = true) (k0 : PySem.W.keepIn K (.ref f0) = true)
 (a1 : PySem.W.nsIn K mainGlobals "_law_wide" = some (some (.ref f1))) (l1 : K.lookup f1 = some ⟨oc1, od1, .func (PySem.W.fnOf "_law_wide" "_law_wide" (defArgs s__law_wide) (defBody s__law_wide) (defScope s__law_wide) .none kV1 dc1 pm1 an1 cd1 ct1), sl1⟩) (c1 : PySem.W.codeIn K cd1 "_law_wide" = true) (k1 : PySem.W.keepIn K (.ref f1) = true)
 (a2 : PySem.W.nsIn K mainGlobals "_law_take" = some (some (.ref f2))) (l2 : K.lookup f2 = some ⟨oc2, od2, .func (PySem.W.fnOf "_law_take" "_law_take" (defArgs s__law_take) (defBody s__law_take) (defScope s__law_take) .none kV2 dc2 pm2 an2 cd2 ct2), sl2⟩) (c2 : PySem.W.codeIn K cd2 "_law_take" = true) (k2 : PySem.W.keepIn K (.ref f2) = true)
 (a3 : PySem.W.nsIn K mainGlobals "_law_name" = some (some (.ref f3))) (l3 : K.lookup f3 = some ⟨oc3, od3, .func (PySem.W.fnOf "_law_name" "_law_name" (defArgs s__law_name) (defBody s__law_name) (defScope s__law_name) .none kV3 dc3 pm3 an3 cd3 ct3), sl3⟩) (c3 : PySem.W.codeIn K cd3 "_law_name" = true) (k3 : PySem.W.keepIn K (.ref f3) = true)
 (a4 : PySem.W.nsIn K mainGlobals "_law_names" = some (some (.ref f4))) (l4 : K.lookup f4 = some ⟨oc4, od4, .func (PySem.W.fnOf "_law_names" "_law_names" (defArgs s__law_names) (defBody s__law_names) (defScope s__law_names) .none kV4 dc4 pm4 an4 cd4 ct4), sl4⟩) (c4 : PySem.W.codeIn K cd4 "_law_names" = true) (k4 : PySem.W.keepIn K (.ref f4) = true)
 (a5 : PySem.W.nsIn K mainGlobals "_law_links" = some (some (.ref f5))) (l5 : K.lookup f5 = some ⟨oc5, od5, .func (PySem.W.fnOf "_law_links" "_law_links" (defArgs s__law_links) (defBody s__law_links) (defScope s__law_links) .none kV5 dc5 pm5 an5 cd5 ct5), sl5⟩) (c5 : PySem.W.codeIn K cd5 "_law_links" = true) (k5 : PySem.W.keepIn K (.ref f5) = true)
 (a6 : PySem.W.findIn K (.ref CA) "__init__" = some (some (.ref f6))) (i6 : PySem.W.isFn K (.ref f6) = true) (l6 : K.lookup f6 = some ⟨oc6, od6, .func (PySem.W.fnOf "__init__" "Album.__init__" (defArgs s_Album___init__) (defBody s_Album___init__) (defScope s_Album___init__) .none kV6 dc6 pm6 an6 cd6 ct6), sl6⟩) (c6 : PySem.W.codeIn K cd6 "Album.__init__" = true) (k6 : PySem.W.keepIn K (.ref f6) = true)
 (a7 : PySem.W.nsIn K mainGlobals "is_name" = some (some (.ref f7))) (l7 : K.lookup f7 = some ⟨oc7, od7, .func (PySem.W.fnOf "is_name" "is_name" (defArgs s_is_name) (defBody s_is_name) (defScope s_is_name) .none kV7 dc7 pm7 an7 cd7 ct7), sl7⟩) (c7 : PySem.W.codeIn K cd7 "is_name" = true) (k7 : PySem.W.keepIn K (.ref f7) = true)
 (a8 : PySem.W.nsIn K mainGlobals "is_whole" = some (some (.ref f8))) (l8 : K.lookup f8 = some ⟨oc8, od8, .func (PySem.W.fnOf "is_whole" "is_whole" (defArgs s_is_whole) (defBody s_is_whole) (defScope s_is_whole) .none kV8 dc8 pm8 an8 cd8 ct8), sl8⟩) (c8 : PySem.W.codeIn K cd8 "is_whole" = true) (k8 : PySem.W.keepIn K (.ref f8) = true)
 (a9 : PySem.W.nsIn K mainGlobals "is_reading" = some (some (.ref f9))) (l9 : K.lookup f9 = some ⟨oc9, od9, .func (PySem.W.fnOf "is_reading" "is_reading" (defArgs s_is_reading) (defBody s_is_reading) (defScope s_is_reading) .none kV9 dc9 pm9 an9 cd9 ct9), sl9⟩) (c9 : PySem.W.codeIn K cd9 "is_reading" = true) (k9 : PySem.W.keepIn K (.ref f9) = true)
 (a10 : PySem.W.nsIn K mainGlobals "is_view" = some (some (.ref f10))) (l10 : K.lookup f10 = some ⟨oc10, od10, .func (PySem.W.fnOf "is_view" "is_view" (defArgs s_is_view) (defBody s_is_view) (defScope s_is_view) .none kV10 dc10 pm10 an10 cd10 ct10), sl10⟩) (c10 : PySem.W.codeIn K cd10 "is_view" = true) (k10 : PySem.W.keepIn K (.ref f10) = true)
 (a11 : PySem.W.findIn K (.ref CA) "names" = some (some (.ref f11))) (i11 : PySem.W.isFn K (.ref f11) = true) (l11 : K.lookup f11 = some ⟨oc11, od11, .func (PySem.W.fnOf "names" "Album.names" (defArgs s_Album_names) (defBody s_Album_names) (defScope s_Album_names) .none kV11 dc11 pm11 an11 cd11 ct11), sl11⟩) (c11 : PySem.W.codeIn K cd11 "Album.names" = true) (k11 : PySem.W.keepIn K (.ref f11) = true)
 (a12 : PySem.W.findIn K (.ref CA) "add_view" = some (some (.ref f12))) (i12 : PySem.W.isFn K (.ref f12) = true) (l12 : K.lookup f12 = some ⟨oc12, od12, .func (PySem.W.fnOf "add_view" "Album.add_view" (defArgs s_Album_add_view) (defBody s_Album_add_view) (defScope s_Album_add_view) .none kV12 dc12 pm12 an12 cd12 ct12), sl12⟩) (c12 : PySem.W.codeIn K cd12 "Album.add_view" = true) (k12 : PySem.W.keepIn K (.ref f12) = true)
 (a13 : PySem.W.nsIn K mainGlobals "is_link" = some (some (.ref f13))) (l13 : K.lookup f13 = some ⟨oc13, od13, .func (PySem.W.fnOf "is_link" "is_link" (defArgs s_is_link) (defBody s_is_link) (defScope s_is_link) .none kV13 dc13 pm13 an13 cd13 ct13), sl13⟩) (c13 : PySem.W.codeIn K cd13 "is_link" = true) (k13 : PySem.W.keepIn K (.ref f13) = true)
 (a14 : PySem.W.findIn K (.ref CA) "add_link" = some (some (.ref f14))) (i14 : PySem.W.isFn K (.ref f14) = true) (l14 : K.lookup f14 = some ⟨oc14, od14, .func (PySem.W.fnOf "add_link" "Album.add_link" (defArgs s_Album_add_link) (defBody s_Album_add_link) (defScope s_Album_add_link) .none kV14 dc14 pm14 an14 cd14 ct14), sl14⟩) (c14 : PySem.W.codeIn K cd14 "Album.add_link" = true) (k14 : PySem.W.keepIn K (.ref f14) = true)
 (a15 : PySem.W.nsIn K mainGlobals "_law_album" = some (some (.ref f15))) (l15 : K.lookup f15 = some ⟨oc15, od15, .func (PySem.W.fnOf "_law_album" "_law_album" (defArgs s__law_album) (defBody s__law_album) (defScope s__law_album) .none kV15 dc15 pm15 an15 cd15 ct15), sl15⟩) (c15 : PySem.W.codeIn K cd15 "_law_album" = true) (k15 : PySem.W.keepIn K (.ref f15) = true)
 (a16 : PySem.W.findIn K (.ref CA) "views" = some (some (.ref f16))) (i16 : PySem.W.isFn K (.ref f16) = true) (l16 : K.lookup f16 = some ⟨oc16, od16, .func (PySem.W.fnOf "views" "Album.views" (defArgs s_Album_views) (defBody s_Album_views) (defScope s_Album_views) .none kV16 dc16 pm16 an16 cd16 ct16), sl16⟩) (c16 : PySem.W.codeIn K cd16 "Album.views" = true) (k16 : PySem.W.keepIn K (.ref f16) = true)
 (a17 : PySem.W.findIn K (.ref CA) "links" = some (some (.ref f17))) (i17 : PySem.W.isFn K (.ref f17) = true) (l17 : K.lookup f17 = some ⟨oc17, od17, .func (PySem.W.fnOf "links" "Album.links" (defArgs s_Album_links) (defBody s_Album_links) (defScope s_Album_links) .none kV17 dc17 pm17 an17 cd17 ct17), sl17⟩) (c17 : PySem.W.codeIn K cd17 "Album.links" = true) (k17 : PySem.W.keepIn K (.ref f17) = true)
 (a18 : PySem.W.nsIn K mainGlobals "show_row" = some (some (.ref f18))) (l18 : K.lookup f18 = some ⟨oc18, od18, .func (PySem.W.fnOf "show_row" "show_row" (defArgs s_show_row) (defBody s_show_row) (defScope s_show_row) .none kV18 dc18 pm18 an18 cd18 ct18), sl18⟩) (c18 : PySem.W.codeIn K cd18 "show_row" = true) (k18 : PySem.W.keepIn K (.ref f18) = true)
 (a19 : PySem.W.nsIn K mainGlobals "show_album" = some (some (.ref f19))) (l19 : K.lookup f19 = some ⟨oc19, od19, .func (PySem.W.fnOf "show_album" "show_album" (defArgs s_show_album) (defBody s_show_album) (defScope s_show_album) .none kV19 dc19 pm19 an19 cd19 ct19), sl19⟩) (c19 : PySem.W.codeIn K cd19 "show_album" = true) (k19 : PySem.W.keepIn K (.ref f19) = true)
 (a20 : PySem.W.findIn K (.ref CB) "__init__" = some (some (.ref f20))) (i20 : PySem.W.isFn K (.ref f20) = true) (l20 : K.lookup f20 = some ⟨oc20, od20, .func (PySem.W.fnOf "__init__" "Builder.__init__" (defArgs s_Builder___init__) (defBody s_Builder___init__) (defScope s_Builder___init__) .none kV20 dc20 pm20 an20 cd20 ct20), sl20⟩) (c20 : PySem.W.codeIn K cd20 "Builder.__init__" = true) (k20 : PySem.W.keepIn K (.ref f20) = true)
 (a21 : PySem.W.nsIn K mainGlobals "number_of" = some (some (.ref f21))) (l21 : K.lookup f21 = some ⟨oc21, od21, .func (PySem.W.fnOf "number_of" "number_of" (defArgs s_number_of) (defBody s_number_of) (defScope s_number_of) .none kV21 dc21 pm21 an21 cd21 ct21), sl21⟩) (c21 : PySem.W.codeIn K cd21 "number_of" = true) (k21 : PySem.W.keepIn K (.ref f21) = true)
 (a22 : PySem.W.nsIn K mainGlobals "row_of" = some (some (.ref f22))) (l22 : K.lookup f22 = some ⟨oc22, od22, .func (PySem.W.fnOf "row_of" "row_of" (defArgs s_row_of) (defBody s_row_of) (defScope s_row_of) .none kV22 dc22 pm22 an22 cd22 ct22), sl22⟩) (c22 : PySem.W.codeIn K cd22 "row_of" = true) (k22 : PySem.W.keepIn K (.ref f22) = true)
 (a23 : PySem.W.nsIn K mainGlobals "link_of_parts" = some (some (.ref f23))) (l23 : K.lookup f23 = some ⟨oc23, od23, .func (PySem.W.fnOf "link_of_parts" "link_of_parts" (defArgs s_link_of_parts) (defBody s_link_of_parts) (defScope s_link_of_parts) .none kV23 dc23 pm23 an23 cd23 ct23), sl23⟩) (c23 : PySem.W.codeIn K cd23 "link_of_parts" = true) (k23 : PySem.W.keepIn K (.ref f23) = true)
 (a24 : PySem.W.findIn K (.ref CB) "take" = some (some (.ref f24))) (i24 : PySem.W.isFn K (.ref f24) = true) (l24 : K.lookup f24 = some ⟨oc24, od24, .func (PySem.W.fnOf "take" "Builder.take" (defArgs s_Builder_take) (defBody s_Builder_take) (defScope s_Builder_take) .none kV24 dc24 pm24 an24 cd24 ct24), sl24⟩) (c24 : PySem.W.codeIn K cd24 "Builder.take" = true) (k24 : PySem.W.keepIn K (.ref f24) = true)
 (a25 : PySem.W.nsIn K mainGlobals "album_of" = some (some (.ref f25))) (l25 : K.lookup f25 = some ⟨oc25, od25, .func (PySem.W.fnOf "album_of" "album_of" (defArgs s_album_of) (defBody s_album_of) (defScope s_album_of) .none kV25 dc25 pm25 an25 cd25 ct25), sl25⟩) (c25 : PySem.W.codeIn K cd25 "album_of" = true) (k25 : PySem.W.keepIn K (.ref f25) = true)
 (a26 : PySem.W.nsIn K mainGlobals "_law_reading" = some (some (.ref f26))) (l26 : K.lookup f26 = some ⟨oc26, od26, .func (PySem.W.fnOf "_law_reading" "_law_reading" (defArgs s__law_reading) (defBody s__law_reading) (defScope s__law_reading) .none kV26 dc26 pm26 an26 cd26 ct26), sl26⟩) (c26 : PySem.W.codeIn K cd26 "_law_reading" = true) (k26 : PySem.W.keepIn K (.ref f26) = true)
 (a27 : PySem.W.nsIn K mainGlobals "_law_rows" = some (some (.ref f27))) (l27 : K.lookup f27 = some ⟨oc27, od27, .func (PySem.W.fnOf "_law_rows" "_law_rows" (defArgs s__law_rows) (defBody s__law_rows) (defScope s__law_rows) .none kV27 dc27 pm27 an27 cd27 ct27), sl27⟩) (c27 : PySem.W.codeIn K cd27 "_law_rows" = true) (k27 : PySem.W.keepIn K (.ref f27) = true)
 (a28 : PySem.W.nsIn K mainGlobals "_law_view_lines" = some (some (.ref f28))) (l28 : K.lookup f28 = some ⟨oc28, od28, .func (PySem.W.fnOf "_law_view_lines" "_law_view_lines" (defArgs s__law_view_lines) (defBody s__law_view_lines) (defScope s__law_view_lines) .none kV28 dc28 pm28 an28 cd28 ct28), sl28⟩) (c28 : PySem.W.codeIn K cd28 "_law_view_lines" = true) (k28 : PySem.W.keepIn K (.ref f28) = true)
 (a29 : PySem.W.nsIn K mainGlobals "_law_link_line" = some (some (.ref f29))) (l29 : K.lookup f29 = some ⟨oc29, od29, .func (PySem.W.fnOf "_law_link_line" "_law_link_line" (defArgs s__law_link_line) (defBody s__law_link_line) (defScope s__law_link_line) .none kV29 dc29 pm29 an29 cd29 ct29), sl29⟩) (c29 : PySem.W.codeIn K cd29 "_law_link_line" = true) (k29 : PySem.W.keepIn K (.ref f29) = true)
 (a30 : PySem.W.nsIn K mainGlobals "law" = some (some (.ref f30))) (l30 : K.lookup f30 = some ⟨oc30, od30, .func (PySem.W.fnOf "law" "law" (defArgs s_law) (defBody s_law) (defScope s_law) .none kV30 dc30 pm30 an30 cd30 ct30), sl30⟩) (c30 : PySem.W.codeIn K cd30 "law" = true) (k30 : PySem.W.keepIn K (.ref f30) = true)
 (z_abs : PySem.W.nsIn K mainGlobals "abs" = some none) (z_all : PySem.W.nsIn K mainGlobals "all" = some none) (z_bool : PySem.W.nsIn K mainGlobals "bool" = some none) (z_int : PySem.W.nsIn K mainGlobals "int" = some none) (z_isinstance : PySem.W.nsIn K mainGlobals "isinstance" = some none) (z_len : PySem.W.nsIn K mainGlobals "len" = some none) (z_list : PySem.W.nsIn K mainGlobals "list" = some none) (z_range : PySem.W.nsIn K mainGlobals "range" = some none) (z_str : PySem.W.nsIn K mainGlobals "str" = some none) (z_tuple : PySem.W.nsIn K mainGlobals "tuple" = some none) (q_MAX_NAME : PySem.W.nsIn K mainGlobals "MAX_NAME" = some (some (.int 8 tq_MAX_NAME))) (q_MOST : PySem.W.nsIn K mainGlobals "MOST" = some (some (.int 999 tq_MOST))) (q_MAX_SIDE : PySem.W.nsIn K mainGlobals "MAX_SIDE" = some (some (.int 12 tq_MAX_SIDE))) (q_MAX_VIEWS : PySem.W.nsIn K mainGlobals "MAX_VIEWS" = some (some (.int 30 tq_MAX_VIEWS))) (q_MAX_SHIFT : PySem.W.nsIn K mainGlobals "MAX_SHIFT" = some (some (.int 99 tq_MAX_SHIFT))) (q_MAX_LIGHT : PySem.W.nsIn K mainGlobals "MAX_LIGHT" = some (some (.int 999 tq_MAX_LIGHT))) (q_MAX_LINKS : PySem.W.nsIn K mainGlobals "MAX_LINKS" = some (some (.int 60 tq_MAX_LINKS))) (q_MAX_DIGITS : PySem.W.nsIn K mainGlobals "MAX_DIGITS" = some (some (.int 9 tq_MAX_DIGITS))) :
 ∃ fd : FuncData, (∀ (s : Shared) (v : Value), BindsTo s fd ⟨[v], []⟩ [("_law_script", v)]) ∧ ∀ base : Heap, K.In base → base.Ns mainGlobals mg → FnOk l.prog w K mg base CX0 7 fa fd ["_law_script"] (spM Wn K 1 false m_law) := by
  have e := hfa.symm.trans (PySem.W.mg_of X G a30)
  cases e
  have T : Bi mg := ⟨⟨_, PySem.W.mg_of X G q_MAX_NAME⟩, ⟨_, PySem.W.mg_of X G q_MOST⟩, ⟨_, PySem.W.mg_of X G q_MAX_SIDE⟩, ⟨_, PySem.W.mg_of X G q_MAX_VIEWS⟩, ⟨_, PySem.W.mg_of X G q_MAX_SHIFT⟩, ⟨_, PySem.W.mg_of X G q_MAX_LIGHT⟩, ⟨_, PySem.W.mg_of X G q_MAX_LINKS⟩, ⟨_, PySem.W.mg_of X G q_MAX_DIGITS⟩, PySem.W.mg_none_of X G z_abs, PySem.W.mg_none_of X G z_all, PySem.W.mg_none_of X G z_bool, PySem.W.mg_none_of X G z_int, PySem.W.mg_none_of X G z_isinstance, PySem.W.mg_none_of X G z_len, PySem.W.mg_none_of X G z_list, PySem.W.mg_none_of X G z_range, PySem.W.mg_none_of X G z_str, PySem.W.mg_none_of X G z_tuple⟩
  have TA : AlbK K CA := ⟨y_ns, ⟨y_pg, y_hd, y_po, y_sa⟩, y_nv, y_nl⟩
  have TB : BldK K CB := ⟨w_ns, ⟨w_pg, w_hd, w_po, w_sa⟩, w_na, w_nn, w_nr⟩
  have F0 := fun_mk (st := s__law_pool) l0 c0 k0
  have b0 := F0.binds (ps := ["_law_script"]) fun _ _ _ _ _ _ us hl => match us, hl with | [_], _ => rfl
  have F1 := fun_mk (st := s__law_wide) l1 c1 k1
  have b1 := F1.binds (ps := ["_law_script", "_law_k"]) fun _ _ _ _ _ _ us hl => match us, hl with | [_, _], _ => rfl
  have F2 := fun_mk (st := s__law_take) l2 c2 k2
  have b2 := F2.binds (ps := ["_law_pool_here", "_law_most"]) fun _ _ _ _ _ _ us hl => match us, hl with | [_, _], _ => rfl
  have F3 := fun_mk (st := s__law_name) l3 c3 k3
  have b3 := F3.binds (ps := ["_law_pool_here"]) fun _ _ _ _ _ _ us hl => match us, hl with | [_], _ => rfl
  have F4 := fun_mk (st := s__law_names) l4 c4 k4
  have b4 := F4.binds (ps := ["_law_pool_here", "_law_count"]) fun _ _ _ _ _ _ us hl => match us, hl with | [_, _], _ => rfl
  have F5 := fun_mk (st := s__law_links) l5 c5 k5
  have b5 := F5.binds (ps := ["_law_pool_here", "_law_names_here", "_law_many"]) fun _ _ _ _ _ _ us hl => match us, hl with | [_, _, _], _ => rfl
  have F6 := fun_mk (st := s_Album___init__) l6 c6 k6
  have b6 := F6.binds (ps := ["self"]) fun _ _ _ _ _ _ us hl => match us, hl with | [_], _ => rfl
  have F7 := fun_mk (st := s_is_name) l7 c7 k7
  have b7 := F7.binds (ps := ["value"]) fun _ _ _ _ _ _ us hl => match us, hl with | [_], _ => rfl
  have F8 := fun_mk (st := s_is_whole) l8 c8 k8
  have b8 := F8.binds (ps := ["value"]) fun _ _ _ _ _ _ us hl => match us, hl with | [_], _ => rfl
  have F9 := fun_mk (st := s_is_reading) l9 c9 k9
  have b9 := F9.binds (ps := ["value"]) fun _ _ _ _ _ _ us hl => match us, hl with | [_], _ => rfl
  have F10 := fun_mk (st := s_is_view) l10 c10 k10
  have b10 := F10.binds (ps := ["value"]) fun _ _ _ _ _ _ us hl => match us, hl with | [_], _ => rfl
  have F11 := fun_mk (st := s_Album_names) l11 c11 k11
  have b11 := F11.binds (ps := ["self"]) fun _ _ _ _ _ _ us hl => match us, hl with | [_], _ => rfl
  have F12 := fun_mk (st := s_Album_add_view) l12 c12 k12
  have b12 := F12.binds (ps := ["self", "view"]) fun _ _ _ _ _ _ us hl => match us, hl with | [_, _], _ => rfl
  have F13 := fun_mk (st := s_is_link) l13 c13 k13
  have b13 := F13.binds (ps := ["value"]) fun _ _ _ _ _ _ us hl => match us, hl with | [_], _ => rfl
  have F14 := fun_mk (st := s_Album_add_link) l14 c14 k14
  have b14 := F14.binds (ps := ["self", "link"]) fun _ _ _ _ _ _ us hl => match us, hl with | [_, _], _ => rfl
  have F15 := fun_mk (st := s__law_album) l15 c15 k15
  have b15 := F15.binds (ps := ["_law_names_here", "_law_rows_here", "_law_links_here"]) fun _ _ _ _ _ _ us hl => match us, hl with | [_, _, _], _ => rfl
  have F16 := fun_mk (st := s_Album_views) l16 c16 k16
  have b16 := F16.binds (ps := ["self"]) fun _ _ _ _ _ _ us hl => match us, hl with | [_], _ => rfl
  have F17 := fun_mk (st := s_Album_links) l17 c17 k17
  have b17 := F17.binds (ps := ["self"]) fun _ _ _ _ _ _ us hl => match us, hl with | [_], _ => rfl
  have F18 := fun_mk (st := s_show_row) l18 c18 k18
  have b18 := F18.binds (ps := ["row"]) fun _ _ _ _ _ _ us hl => match us, hl with | [_], _ => rfl
  have F19 := fun_mk (st := s_show_album) l19 c19 k19
  have b19 := F19.binds (ps := ["album"]) fun _ _ _ _ _ _ us hl => match us, hl with | [_], _ => rfl
  have F20 := fun_mk (st := s_Builder___init__) l20 c20 k20
  have b20 := F20.binds (ps := ["self"]) fun _ _ _ _ _ _ us hl => match us, hl with | [_], _ => rfl
  have F21 := fun_mk (st := s_number_of) l21 c21 k21
  have b21 := F21.binds (ps := ["part", "line"]) fun _ _ _ _ _ _ us hl => match us, hl with | [_, _], _ => rfl
  have F22 := fun_mk (st := s_row_of) l22 c22 k22
  have b22 := F22.binds (ps := ["text", "line"]) fun _ _ _ _ _ _ us hl => match us, hl with | [_, _], _ => rfl
  have F23 := fun_mk (st := s_link_of_parts) l23 c23 k23
  have b23 := F23.binds (ps := ["parts", "line"]) fun _ _ _ _ _ _ us hl => match us, hl with | [_, _], _ => rfl
  have F24 := fun_mk (st := s_Builder_take) l24 c24 k24
  have b24 := F24.binds (ps := ["self", "text", "line"]) fun _ _ _ _ _ _ us hl => match us, hl with | [_, _, _], _ => rfl
  have F25 := fun_mk (st := s_album_of) l25 c25 k25
  have b25 := F25.binds (ps := ["text"]) fun _ _ _ _ _ _ us hl => match us, hl with | [_], _ => rfl
  have F26 := fun_mk (st := s__law_reading) l26 c26 k26
  have b26 := F26.binds (ps := ["_law_pool_here"]) fun _ _ _ _ _ _ us hl => match us, hl with | [_], _ => rfl
  have F27 := fun_mk (st := s__law_rows) l27 c27 k27
  have b27 := F27.binds (ps := ["_law_pool_here", "_law_most"]) fun _ _ _ _ _ _ us hl => match us, hl with | [_, _], _ => rfl
  have F28 := fun_mk (st := s__law_view_lines) l28 c28 k28
  have b28 := F28.binds (ps := ["_law_name_here", "_law_rows_here"]) fun _ _ _ _ _ _ us hl => match us, hl with | [_, _], _ => rfl
  have F29 := fun_mk (st := s__law_link_line) l29 c29 k29
  have b29 := F29.binds (ps := ["_law_link"]) fun _ _ _ _ _ _ us hl => match us, hl with | [_], _ => rfl
  have F30 := fun_mk (st := s_law) l30 c30 k30
  refine ⟨PySem.W.fnOf "law" "law" (defArgs s_law) (defBody s_law) (defScope s_law) .none kV30 dc30 pm30 an30 cd30 ct30, fun s v => .of_eq rfl, fun base _ _ => ?_⟩
  have C__law_pool : CalM l.prog w K mg base 1 "_law_pool" 1 true m__law_pool := ⟨_, _, _, ok__law_pool F0 T , PySem.W.mg_of X G a0, k0, b0⟩
  have C__law_wide : CalM l.prog w K mg base 1 "_law_wide" 2 false m__law_wide := ⟨_, _, _, ok__law_wide F1 T , PySem.W.mg_of X G a1, k1, b1⟩
  have C__law_take : CalM l.prog w K mg base 2 "_law_take" 2 false m__law_take := ⟨_, _, _, ok__law_take F2 T C__law_wide, PySem.W.mg_of X G a2, k2, b2⟩
  have C__law_name : CalM l.prog w K mg base 3 "_law_name" 1 false m__law_name := ⟨_, _, _, ok__law_name F3 T C__law_take, PySem.W.mg_of X G a3, k3, b3⟩
  have C__law_names : CalM l.prog w K mg base 4 "_law_names" 2 false m__law_names := ⟨_, _, _, ok__law_names F4 T C__law_name, PySem.W.mg_of X G a4, k4, b4⟩
  have C__law_links : CalM l.prog w K mg base 3 "_law_links" 3 false m__law_links := ⟨_, _, _, ok__law_links F5 T C__law_take, PySem.W.mg_of X G a5, k5, b5⟩
  have AM : AlbM l.prog w K mg base CA 1 := ⟨_, _, ⟨y_mk, a6, i6, y_kp⟩, ok_Album___init__ F6 TA, b6, PySem.W.mg_of X G y_ns⟩
  have C_is_name : CalM l.prog w K mg base 1 "is_name" 1 false m_is_name := ⟨_, _, _, ok_is_name F7 T , PySem.W.mg_of X G a7, k7, b7⟩
  have C_is_whole : CalM l.prog w K mg base 1 "is_whole" 1 false m_is_whole := ⟨_, _, _, ok_is_whole F8 T , PySem.W.mg_of X G a8, k8, b8⟩
  have C_is_reading : CalM l.prog w K mg base 2 "is_reading" 1 false m_is_reading := ⟨_, _, _, ok_is_reading F9 T C_is_whole, PySem.W.mg_of X G a9, k9, b9⟩
  have C_is_view : CalM l.prog w K mg base 3 "is_view" 1 false m_is_view := ⟨_, _, _, ok_is_view F10 T C_is_name C_is_reading, PySem.W.mg_of X G a10, k10, b10⟩
  have C_Album_names : CalS l.prog w K mg base CA 1 "names" 1 false m_Album_names := ⟨_, _, _, ok_Album_names F11 T TA , ⟨a11, i11, k11⟩, b11⟩
  have C_Album_add_view : CalD l.prog w K mg base CA 4 "add_view" true b_Album_add_view 0 := ⟨_, _, _, ok_Album_add_view F12 T TA C_Album_names C_is_view, ⟨a12, i12, k12⟩, b12⟩
  have C_is_link : CalM l.prog w K mg base 2 "is_link" 1 false m_is_link := ⟨_, _, _, ok_is_link F13 T C_is_name C_is_whole, PySem.W.mg_of X G a13, k13, b13⟩
  have C_Album_add_link : CalD l.prog w K mg base CA 3 "add_link" false b_Album_add_link 1 := ⟨_, _, _, ok_Album_add_link F14 T TA C_Album_names C_is_link, ⟨a14, i14, k14⟩, b14⟩
  have C__law_album : CalM l.prog w K mg base 5 "_law_album" 3 false m__law_album := ⟨_, _, _, ok__law_album F15 T TA AM C_Album_add_view C_Album_add_link, PySem.W.mg_of X G a15, k15, b15⟩
  have C_Album_views : CalS l.prog w K mg base CA 1 "views" 1 false m_Album_views := ⟨_, _, _, ok_Album_views F16 T TA , ⟨a16, i16, k16⟩, b16⟩
  have C_Album_links : CalS l.prog w K mg base CA 1 "links" 1 false m_Album_links := ⟨_, _, _, ok_Album_links F17 T TA , ⟨a17, i17, k17⟩, b17⟩
  have C_show_row : CalM l.prog w K mg base 1 "show_row" 1 false m_show_row := ⟨_, _, _, ok_show_row F18 T , PySem.W.mg_of X G a18, k18, b18⟩
  have C_show_album : CalM l.prog w K mg base 2 "show_album" 1 false m_show_album := ⟨_, _, _, ok_show_album F19 T TA C_Album_views C_show_row C_Album_links, PySem.W.mg_of X G a19, k19, b19⟩
  have BM : BldM l.prog w K mg base CB CA 3 := ⟨_, _, ⟨w_mk, a20, i20, w_kp⟩, ok_Builder___init__ F20 TA TB AM , b20, PySem.W.mg_of X G w_ns⟩
  have C_number_of : CalM l.prog w K mg base 1 "number_of" 2 false m_number_of := ⟨_, _, _, ok_number_of F21 T , PySem.W.mg_of X G a21, k21, b21⟩
  have C_row_of : CalM l.prog w K mg base 2 "row_of" 2 false m_row_of := ⟨_, _, _, ok_row_of F22 T C_number_of, PySem.W.mg_of X G a22, k22, b22⟩
  have C_link_of_parts : CalM l.prog w K mg base 2 "link_of_parts" 2 false m_link_of_parts := ⟨_, _, _, ok_link_of_parts F23 T C_number_of, PySem.W.mg_of X G a23, k23, b23⟩
  have C_Builder_take : CalT l.prog w K mg base CB 5 "take" b_Builder_take 1 := ⟨_, _, _, ok_Builder_take F24 T TA TB C_Album_add_view C_row_of C_is_name C_Album_add_link C_link_of_parts, ⟨a24, i24, k24⟩, b24⟩
  have C_album_of : CalM l.prog w K mg base 6 "album_of" 1 false m_album_of := ⟨_, _, _, ok_album_of F25 T TA TB BM C_Builder_take, PySem.W.mg_of X G a25, k25, b25⟩
  have C__law_reading : CalM l.prog w K mg base 3 "_law_reading" 1 false m__law_reading := ⟨_, _, _, ok__law_reading F26 T C__law_take, PySem.W.mg_of X G a26, k26, b26⟩
  have C__law_rows : CalM l.prog w K mg base 4 "_law_rows" 2 false m__law_rows := ⟨_, _, _, ok__law_rows F27 T C__law_take C__law_reading, PySem.W.mg_of X G a27, k27, b27⟩
  have C__law_view_lines : CalM l.prog w K mg base 1 "_law_view_lines" 2 false m__law_view_lines := ⟨_, _, _, ok__law_view_lines F28 T , PySem.W.mg_of X G a28, k28, b28⟩
  have C__law_link_line : CalM l.prog w K mg base 1 "_law_link_line" 1 false m__law_link_line := ⟨_, _, _, ok__law_link_line F29 T , PySem.W.mg_of X G a29, k29, b29⟩
  exact ok_law F30 T TA C__law_pool C__law_take C__law_names C__law_rows C__law_links C__law_album C__law_view_lines C__law_link_line C_show_album C_album_of C_Album_views C_Album_links
end M
set_option Elab.async false
set_option linter.all false
set_option maxRecDepth 100000
namespace M
open PySem L2
theorem dEq_int (a b : Int) : dEq (.int a) (.int b) = some (.bl (decide (a = b))) := by
  have h : ∀ i : Int, shp (.int i) = true := fun i => by unfold shp toPy; rfl
  unfold dEq
  rw [if_pos ⟨h a, h b⟩]
  unfold toPy PyData.eqv
  by_cases c : a = b
  · subst c; simp
  · simp [c]
theorem dNe_int (a b : Int) : dNe (.int a) (.int b) = some (.bl (!decide (a = b))) := by
  have h : ∀ i : Int, shp (.int i) = true := fun i => by unfold shp toPy; rfl
  unfold dNe
  rw [if_pos ⟨h a, h b⟩]
  unfold toPy PyData.eqv
  by_cases c : a = b
  · subst c; simp
  · simp [c]
theorem forM_inv {T : D → Mo Unit} {S : Mo Out} (Inv : Nat → Env → Prop) : ∀ (ds : List D) (k : Nat) (δ : Env), Inv k δ →
    (∀ i d δ, ds[i]? = some d → Inv (k + i) δ → ∃ δ1 δ2, T d δ = some (.ok (), δ1) ∧ (S δ1 = some (.ok .nx, δ2) ∨ S δ1 = some (.ok .ct, δ2)) ∧ Inv (k + i + 1) δ2) →
    ∃ δ', forM T S ds δ = some (.ok .nx, δ') ∧ Inv (k + ds.length) δ'
  | [], k, δ, h, _ => ⟨δ, rfl, h⟩
  | d :: ds, k, δ, h, st => by
    obtain ⟨δ1, δ2, h1, h2, h3⟩ := st 0 d δ rfl h
    obtain ⟨δ', h4, h5⟩ := forM_inv Inv ds (k + 1) δ2 (by simpa using h3) fun i d δ hd hi => by
      have := st (i + 1) d δ (by simpa using hd) (by rw [show k + (i + 1) = k + 1 + i by omega]; exact hi)
      rw [show k + (i + 1) = k + 1 + i by omega] at this
      exact this
    refine ⟨δ', ?_, by rw [List.length_cons, show k + (ds.length + 1) = k + 1 + ds.length by omega]; exact h5⟩
    unfold forM
    rw [bind_ok h1]
    rcases h2 with h2 | h2
    · simp only [h2]; exact h4
    · simp only [h2]; exact h4
theorem sFor_inv {I : Mo (List D)} {T : D → Mo Unit} {S : Mo Out} {ds : List D} {δ δ0 : Env} (Inv : Nat → Env → Prop) (hi : I δ = some (.ok ds, δ0)) (h0 : Inv 0 δ0)
    (st : ∀ i d δ, ds[i]? = some d → Inv i δ → ∃ δ1 δ2, T d δ = some (.ok (), δ1) ∧ (S δ1 = some (.ok .nx, δ2) ∨ S δ1 = some (.ok .ct, δ2)) ∧ Inv (i + 1) δ2) :
    ∃ δ', sFor I T S δ = some (.ok .nx, δ') ∧ Inv ds.length δ' := by
  obtain ⟨δ', h1, h2⟩ := forM_inv Inv ds 0 δ0 h0 fun i d δ hd h => by rw [Nat.zero_add] at h ⊢; exact st i d δ hd h
  rw [Nat.zero_add] at h2
  exact ⟨δ', by unfold sFor; rw [bind_ok hi]; exact h1, h2⟩
theorem sSeq_ok {a b : Mo Out} {δ δ1 : Env} (h : a δ = some (.ok .nx, δ1)) : sSeq a b δ = b δ1 := by unfold sSeq; rw [h]
end M
set_option Elab.async false
set_option linter.all false
set_option maxRecDepth 100000
namespace M
open PySem L2
abbrev Re (α : Type) := Option (Except Exn α × Env)
def bk {α β : Type} (k : α → Mo β) : Re α → Re β
  | none => none
  | some (.error x, δ) => some (.error x, δ)
  | some (.ok a, δ) => k a δ
def sk (k : Mo Out) : Re Out → Re Out
  | some (.ok .nx, δ) => k δ
  | r => r
def fk (n : Nat) : Re Out → Re D
  | some (.ok (.rt d), δ') => some (.ok d, ios n δ')
  | some (.ok (.rtO d), δ') => some (.ok d, ios n δ')
  | some (.ok .nx, δ') => some (.ok .non, ios n δ')
  | some (.error x, δ') => some (.error x, ios n δ')
  | _ => none
def lk {α : Type} (o : Option α) (δ : Env) : Re α := match o with
  | none => none
  | some a => some (.ok a, δ)
def vk (i : Nat) (δ : Env) : Option Sl → Re D
  | some (.imm d) => some (.ok d, δ)
  | some (.own d) => some (.ok d, δ.set i (.imm d))
  | some (.bor d) => if flatD d then some (.ok d, δ) else none
  | _ => none
def gk (i : Nat) (δ : Env) : Option Sl → Re D
  | some (.own d) => some (.ok d, δ.set i .no)
  | _ => none
section
variable {α β : Type} {a b : Mo D} {A B : Mo D} {δ : Env} {d : D} {i : Nat} {p q : Prop} [Decidable p]
theorem x_bind {m : Mo α} {k : α → Mo β} : Mo.bind m k δ = bk k (m δ) := by
  unfold Mo.bind bk
  cases m δ with
  | none => rfl
  | some z => obtain ⟨x, δ'⟩ := z; cases x <;> rfl
theorem bk_ok {k : α → Mo β} {a : α} : bk k (some (.ok a, δ)) = k a δ := rfl
theorem bk_ite {k : α → Mo β} {x y : Re α} : bk k (if p then x else y) = if p then bk k x else bk k y := by split <;> rfl
theorem x_ret {a : α} : Mo.ret a δ = some (.ok a, δ) := rfl
theorem x_lift {o : Option α} : Mo.lift o δ = lk o δ := by unfold Mo.lift lk; cases o <;> rfl
theorem lk_some {a : α} : lk (some a) δ = some (.ok a, δ) := rfl
theorem lk_ite {x y : Option α} : lk (if p then x else y) δ = if p then lk x δ else lk y δ := by split <;> rfl
theorem app_ite {x y : Mo α} : (if p then x else y) δ = if p then x δ else y δ := by split <;> rfl
theorem x_eC : eC d δ = some (.ok d, δ) := rfl
theorem x_eV : eV i δ = vk i δ δ[i]? := by unfold eV vk; split <;> simp_all
theorem vk_imm : vk i δ (some (.imm d)) = some (.ok d, δ) := rfl
theorem vk_own : vk i δ (some (.own d)) = some (.ok d, δ.set i (.imm d)) := rfl
theorem vk_bor : vk i δ (some (.bor d)) = if flatD d then some (.ok d, δ) else none := rfl
theorem x_give : eGive i δ = gk i δ δ[i]? := by unfold eGive gk; split <;> simp_all
theorem gk_own : gk i δ (some (.own d)) = some (.ok d, δ.set i .no) := rfl
theorem x_bin {f : D → D → Option D} : eBin f A B δ = bk (fun x => B.bind fun y => Mo.lift (f x y)) (A δ) := x_bind
theorem x_un {f : D → Option D} : eUn f A δ = bk (fun x => Mo.lift (f x)) (A δ) := x_bind
theorem x_ix : eIx A B δ = bk (fun x => B.bind fun y => Mo.lift (dIx x y)) (A δ) := x_bind
theorem x_tru : eTru A δ = bk (fun d => Mo.lift (dTru d)) (A δ) := x_bind
theorem x_eB : eB A δ = bk (fun d => Mo.lift (dBl d)) (A δ) := x_bind
theorem dBl_bl {b : Bool} : dBl (.bl b) = some b := rfl
theorem dTru_bl {b : Bool} : dTru (.bl b) = some b := rfl
theorem dTru_int {j : Int} : dTru (.int j) = some (j != 0) := rfl
theorem dTru_lst {l : List D} : dTru (.lst l) = some (!l.isEmpty) := rfl
theorem x_and {S T : Mo Bool} : tAndM S T δ = bk (fun a => if a = true then T else Mo.ret false) (S δ) := x_bind
theorem x_or {S T : Mo Bool} : tOrM S T δ = bk (fun a => if a = true then Mo.ret true else T) (S δ) := x_bind
theorem x_not {S : Mo Bool} : tNotM S δ = bk (fun a => Mo.ret (!a)) (S δ) := x_bind
theorem x_eAnd : eAnd A B δ = bk (fun x => (Mo.lift (dBl x)).bind fun b => if b = true then B else Mo.ret (.bl false)) (A δ) := x_bind
theorem x_eOr : eOr A B δ = bk (fun x => (Mo.lift (dBl x)).bind fun b => if b = true then Mo.ret (.bl true) else B) (A δ) := x_bind
theorem x_eNot : eNot A δ = bk (fun x => (Mo.lift (dBl x)).bind fun b => Mo.ret (.bl (!b))) (A δ) := x_bind
theorem x_eIf {T : Mo Bool} : eIf T A B δ = bk (fun b => if b = true then A else B) (T δ) := x_bind
theorem x_chain {f g : D → D → Option D} {C : Mo D} : eChain f g A B C δ = bk (fun x => B.bind fun y => (Mo.lift ((f x y).bind dBl)).bind fun k => if k = true then C.bind fun z => Mo.lift (g y z) else Mo.ret (.bl false)) (A δ) := x_bind
theorem x_aNil : aNil δ = some (.ok [], δ) := rfl
theorem x_aCons {E : Mo D} {R : Mo (List Ag)} : aCons E R δ = bk (fun d => R.bind fun as => Mo.ret (.im d :: as)) (E δ) := x_bind
def rk (i : Nat) (R : Mo (List Ag)) (δ : Env) : Option Sl → Re (List Ag)
  | some (.own _) => (R.bind fun as => Mo.ret (.vr i :: as)) δ
  | some (.io _) => (R.bind fun as => Mo.ret (.vr i :: as)) δ
  | _ => none
theorem x_aVr {R : Mo (List Ag)} : aVr i R δ = rk i R δ δ[i]? := by unfold aVr rk; split <;> simp_all
theorem rk_own {R : Mo (List Ag)} : rk i R δ (some (.own d)) = (R.bind fun as => Mo.ret (.vr i :: as)) δ := rfl
theorem rk_io {R : Mo (List Ag)} : rk i R δ (some (.io d)) = (R.bind fun as => Mo.ret (.vr i :: as)) δ := rfl
def tk (i : Nat) (R : Mo (List Ag)) (δ : Env) : Option Sl → Re (List Ag)
  | some .no => none
  | some _ => (R.bind fun as => Mo.ret (.vb i :: as)) δ
  | none => none
theorem x_aVb {R : Mo (List Ag)} : aVb i R δ = tk i R δ δ[i]? := by
  unfold aVb tk
  cases h : δ[i]? with
  | none => rfl
  | some s => cases s <;> rfl
theorem tk_own {R : Mo (List Ag)} : tk i R δ (some (.own d)) = (R.bind fun as => Mo.ret (.vb i :: as)) δ := rfl
theorem tk_io {R : Mo (List Ag)} : tk i R δ (some (.io d)) = (R.bind fun as => Mo.ret (.vb i :: as)) δ := rfl
theorem tk_imm {R : Mo (List Ag)} : tk i R δ (some (.imm d)) = (R.bind fun as => Mo.ret (.vb i :: as)) δ := rfl
theorem tk_bor {R : Mo (List Ag)} : tk i R δ (some (.bor d)) = (R.bind fun as => Mo.ret (.vb i :: as)) δ := rfl
theorem x_eTup {R : Mo (List Ag)} : eTup R δ = bk (fun as => Mo.lift ((imms as).bind fun ds => if ds.length ≤ 1000 then some (.tup ds) else none)) (R δ) := x_bind
theorem x_eLst {R : Mo (List Ag)} : eLst R δ = bk (fun as => Mo.lift ((imms as).bind fun ds => if ds.length ≤ 1000 then some (.lst ds) else none)) (R δ) := x_bind
theorem imms_nil : imms [] = some [] := rfl
theorem imms_im {as : List Ag} : imms (.im d :: as) = (imms as).map (d :: ·) := rfl
theorem x_eF {f : List D → Option D} {R : Mo (List Ag)} : eF f R δ = bk (fun as => Mo.lift ((imms as).bind f)) (R δ) := x_bind
theorem x_call {m : Mo D} {R : Mo (List Ag)} : eCall m R δ = bk (fun as => callM m as) (R δ) := x_bind
/-- x[e], the slot's kind apart -/
def ik (d : D) (B : Mo D) (bor : Bool) (δ : Env) : Re D := bk (fun y => fun δ' => match dIx d y with
  | some z => if bor = true then (if flatD z = true then some (.ok z, δ') else none) else some (.ok z, δ')
  | none => none) (B δ)
theorem ixV_of {s : Sl} (hs : δ[i]? = some s) (hd : slD s = some d) (hB : ∀ y δ', B δ = some (y, δ') → δ'[i]? = some s) : eIxV i B δ = ik d B (isBor s) δ := by
  have h1 : slotDct δ i = some (isDct d) := by unfold slotDct; rw [hs]; simp [hd]
  unfold eIxV ik
  rw [h1]
  simp only []
  rw [x_bind]
  cases q : B δ with
  | none => rfl
  | some z =>
    obtain ⟨y, δ'⟩ := z
    cases y with
    | error _ => rfl
    | ok y =>
      have h2 := hB _ _ q
      show ixSl i (isDct d) y δ' = _
      unfold ixSl
      rw [h2]
      cases s with
      | no => cases hd
      | imm d' => cases hd; simp only [if_true, x_lift, bk, isBor] <;> cases dIx d y <;> rfl
      | own d' => cases hd; simp only [if_true, x_lift, bk, isBor] <;> cases dIx d y <;> rfl
      | io d' => cases hd; simp only [if_true, x_lift, bk, isBor] <;> cases dIx d y <;> rfl
      | bor d' => cases hd; simp only [if_true, bk, isBor] <;> cases dIx d y <;> rfl
def jk (i : Nat) (B : Mo D) (δ : Env) : Option Sl → Re D
  | some s => match slD s with
    | some d => ik d B (isBor s) δ
    | none => none
  | none => none
theorem ixV_V {j : Nat} (hne : i ≠ j) : eIxV i (eV j) δ = jk i (eV j) δ δ[i]? := by
  cases h : δ[i]? with
  | none => unfold eIxV slotDct jk; rw [h]
  | some s =>
    cases h2 : slD s with
    | none => unfold eIxV slotDct jk; rw [h]; simp [h2]
    | some d =>
      rw [ixV_of h h2 fun y δ' q => ?_]
      · unfold jk; simp [h2]
      · rw [x_eV] at q
        unfold vk at q
        split at q
        · cases q; exact h
        · cases q; rw [List.getElem?_set_ne hne.symm]; exact h
        · split at q
          · cases q; exact h
          · cases q
        · cases q
theorem ixV_C {c : D} : eIxV i (eC c) δ = jk i (eC c) δ δ[i]? := by
  cases h : δ[i]? with
  | none => unfold eIxV slotDct jk; rw [h]
  | some s =>
    cases h2 : slD s with
    | none => unfold eIxV slotDct jk; rw [h]; simp [h2]
    | some d =>
      rw [ixV_of h h2 fun y δ' q => by cases q; exact h]
      unfold jk; simp [h2]
theorem jk_imm : jk i B δ (some (.imm d)) = bk (fun y => Mo.lift (dIx d y)) (B δ) := by
  show ik d B false δ = _
  unfold ik
  congr 1; funext y δ'; rw [x_lift]; unfold lk; cases dIx d y <;> rfl
theorem jk_own : jk i B δ (some (.own d)) = bk (fun y => Mo.lift (dIx d y)) (B δ) := jk_imm (i := i)
theorem jk_io : jk i B δ (some (.io d)) = bk (fun y => Mo.lift (dIx d y)) (B δ) := jk_imm (i := i)
def flk (o : Option D) : Option D := match o with
  | some z => if flatD z = true then some z else none
  | none => none
theorem jk_bor : jk i B δ (some (.bor d)) = bk (fun y => Mo.lift (flk (dIx d y))) (B δ) := by
  show ik d B true δ = _
  unfold ik
  congr 1; funext y δ'; rw [x_lift]; unfold lk flk
  cases h : dIx d y with
  | none => rfl
  | some z =>
    simp only [if_true]
    by_cases c : flatD z = true <;> simp [c]
theorem flk_int {j : Int} : flk (some (.int j)) = some (.int j) := rfl
def nk (δ : Env) : Option Sl → Re D
  | some s => (slD s).bind dLen |>.map fun d => (.ok d, δ)
  | none => none
theorem x_lenV : eLenV i δ = nk δ δ[i]? := by unfold eLenV nk; split <;> simp_all
theorem nk_imm : nk δ (some (.imm d)) = (dLen d).map fun d => (.ok d, δ) := rfl
theorem nk_own : nk δ (some (.own d)) = (dLen d).map fun d => (.ok d, δ) := rfl
theorem nk_io : nk δ (some (.io d)) = (dLen d).map fun d => (.ok d, δ) := rfl
theorem nk_bor : nk δ (some (.bor d)) = (dLen d).map fun d => (.ok d, δ) := rfl
def hk (neg : Bool) (x : D) (δ : Env) : Option Sl → Re D
  | some s => ((slD s).bind fun c => dIn neg x c).map fun d => (.ok d, δ)
  | none => none
theorem x_inV {neg : Bool} : eInV neg A i δ = bk (fun x δ => hk neg x δ δ[i]?) (A δ) := by
  unfold eInV; rw [x_bind]; congr 1
theorem hk_imm {neg : Bool} {x : D} : hk neg x δ (some (.imm d)) = (dIn neg x d).map fun d => (.ok d, δ) := rfl
theorem hk_own {neg : Bool} {x : D} : hk neg x δ (some (.own d)) = (dIn neg x d).map fun d => (.ok d, δ) := rfl
theorem hk_io {neg : Bool} {x : D} : hk neg x δ (some (.io d)) = (dIn neg x d).map fun d => (.ok d, δ) := rfl
theorem hk_bor {neg : Bool} {x : D} : hk neg x δ (some (.bor d)) = (dIn neg x d).map fun d => (.ok d, δ) := rfl
theorem x_sNx : sNx δ = some (.ok .nx, δ) := rfl
theorem x_pass : sPass δ = some (.ok .nx, δ) := rfl
theorem x_cont : sCont δ = some (.ok .ct, δ) := rfl
theorem x_brk : sBreak δ = some (.ok .bk, δ) := rfl
theorem x_seq {s t : Mo Out} : sSeq s t δ = sk t (s δ) := by
  unfold sSeq sk
  split <;> simp_all
theorem sk_nx {t : Mo Out} : sk t (some (.ok .nx, δ)) = t δ := rfl
theorem sk_rt {t : Mo Out} : sk t (some (.ok (.rt d), δ)) = some (.ok (.rt d), δ) := rfl
theorem sk_rtO {t : Mo Out} : sk t (some (.ok (.rtO d), δ)) = some (.ok (.rtO d), δ) := rfl
theorem sk_ct {t : Mo Out} : sk t (some (.ok .ct, δ)) = some (.ok .ct, δ) := rfl
theorem sk_bk {t : Mo Out} : sk t (some (.ok .bk, δ)) = some (.ok .bk, δ) := rfl
theorem sk_ite {t : Mo Out} {x y : Re Out} : sk t (if p then x else y) = if p then sk t x else sk t y := by split <;> rfl
theorem x_drop : sDrop A δ = bk (fun _ => Mo.ret .nx) (A δ) := x_bind
theorem x_sRet : sRet A δ = bk (fun d => Mo.ret (.rt d)) (A δ) := x_bind
theorem x_sRetO : sRetO A δ = bk (fun d => Mo.ret (.rtO d)) (A δ) := x_bind
theorem x_sIf {T : Mo Bool} {s t : Mo Out} : sIf T s t δ = bk (fun k => if k = true then s else t) (T δ) := x_bind
theorem x_asg {T : D → Mo Unit} : sAsg T A δ = bk (fun d => (T d).bind fun _ => Mo.ret .nx) (A δ) := x_bind
theorem x_asgO : sAsgO i A δ = bk (fun d => (gO i d).bind fun _ => Mo.ret .nx) (A δ) := x_bind
theorem x_gN : gN i d δ = if i < δ.length then some (.ok (), δ.set i (.imm d)) else none := rfl
theorem x_gO : gO i d δ = if i < δ.length then some (.ok (), δ.set i (.own d)) else none := rfl
theorem x_gNil : gNil [] δ = some (.ok (), δ) := rfl
theorem x_gCons {T : D → Mo Unit} {Ts : List D → Mo Unit} {ds : List D} : gCons T Ts (d :: ds) δ = bk (fun _ => Ts ds) (T d δ) := x_bind
theorem x_gTt {n : Nat} {Ts : List D → Mo Unit} {ds : List D} : gT n Ts (.tup ds) δ = if ds.length = n then Ts ds δ else none := by
  show (if ds.length = n then Ts ds else fun _ => none) δ = _
  split <;> rfl
theorem x_gTl {n : Nat} {Ts : List D → Mo Unit} {ds : List D} : gT n Ts (.lst ds) δ = if ds.length = n then Ts ds δ else none := by
  show (if ds.length = n then Ts ds else fun _ => none) δ = _
  split <;> rfl
theorem x_sApp : sApp i A δ = if isLst δ i = true then bk (fun x => (chM i (dAppend x)).bind fun _ => Mo.ret .nx) (A δ) else none := by
  unfold sApp; split <;> first | rfl | exact x_bind
theorem x_sSet : sSet i A B δ = bk (fun v => fun δ => if isSet δ i = true then (A.bind fun k => (chM i (dSet k v)).bind fun _ => Mo.ret .nx) δ else none) (B δ) := x_bind
def ck (i : Nat) (f : D → Option D) (δ : Env) : Option Sl → Re Unit
  | some (.own d) => (f d).map fun d' => (.ok (), δ.set i (.own d'))
  | some (.io d) => (f d).map fun d' => (.ok (), δ.set i (.io d'))
  | _ => none
theorem x_chM {f : D → Option D} : chM i f δ = ck i f δ δ[i]? := by unfold chM ck; split <;> simp_all
theorem ck_own {f : D → Option D} : ck i f δ (some (.own d)) = (f d).map fun d' => (.ok (), δ.set i (.own d')) := rfl
theorem ck_io {f : D → Option D} : ck i f δ (some (.io d)) = (f d).map fun d' => (.ok (), δ.set i (.io d')) := rfl
theorem x_iOf : iOf A δ = bk (fun d => Mo.lift (itD d)) (A δ) := x_bind
theorem x_iRg {f : List D → Option (List D)} {R : Mo (List Ag)} : iRg f R δ = bk (fun as => Mo.lift ((imms as).bind f)) (R δ) := x_bind
theorem x_fn {N n : Nat} {body : Mo Out} : fnM N n body δ = fk n (body (δ ++ List.replicate (N - n) .no)) := by
  unfold fnM fk; split <;> simp_all
theorem fk_rt {n : Nat} : fk n (some (.ok (.rt d), δ)) = some (.ok d, ios n δ) := rfl
theorem fk_nx {n : Nat} : fk n (some (.ok .nx, δ)) = some (.ok .non, ios n δ) := rfl
theorem fk_ite {n : Nat} {x y : Re Out} : fk n (if p then x else y) = if p then fk n x else fk n y := by split <;> rfl
theorem ios_z : ios 0 δ = [] := by cases δ <;> rfl
theorem ios_s {n : Nat} {s : Sl} : ios (n + 1) (s :: δ) = keepIo s :: ios n δ := rfl
theorem keep_io : keepIo (.io d) = .io d := rfl
theorem keep_imm : keepIo (.imm d) = .no := rfl
theorem keep_own : keepIo (.own d) = .no := rfl
theorem keep_bor : keepIo (.bor d) = .no := rfl
theorem keep_no : keepIo .no = .no := rfl
theorem dSub_i {x y : Int} : dSub (.int x) (.int y) = some (.int (x - y)) := rfl
theorem dAdd_i {x y : Int} : dAdd (.int x) (.int y) = some (.int (x + y)) := rfl
theorem dLt_i {x y : Int} : dLt (.int x) (.int y) = some (.bl (decide (x < y))) := rfl
theorem dLe_i {x y : Int} : dLe (.int x) (.int y) = some (.bl (decide (x ≤ y))) := rfl
theorem dGt_i {x y : Int} : dGt (.int x) (.int y) = some (.bl (decide (y < x))) := rfl
theorem dGe_i {x y : Int} : dGe (.int x) (.int y) = some (.bl (decide (y ≤ x))) := rfl
theorem dMod_i {x y : Int} (h : 0 < y) : dMod (.int x) (.int y) = some (.int (x % y)) := by
  show (if cMod x y = true then some (D.int (x % y)) else none) = _
  rw [if_pos (by unfold cMod; exact decide_eq_true h)]
theorem dDiv_i {x y : Int} (h : 0 < y) (h2 : y < 1073741824) : dDiv (.int x) (.int y) = some (.int (x / y)) := by
  show (if cDiv x y = true then some (D.int (x / y)) else none) = _
  rw [if_pos (by unfold cDiv; simp [h, h2])]
theorem dMul_r {x y : Int} (h : -18446744073709551616 < y) (h2 : y < 18446744073709551616) : dMul (.int x) (.int y) = some (.int (x * y)) := by
  show (if cMul x y = true then some (D.int (x * y)) else none) = _
  rw [if_pos (by unfold cMul; simp [h, h2])]
theorem ix_lst {l : List D} {j : Int} : dIx (.lst l) (.int j) = atI l j := rfl
theorem ix_scr {l : List D} {j : Int} : dIx (.scr l) (.int j) = atI l j := rfl
theorem ix_tup {l : List D} {j : Int} : dIx (.tup l) (.int j) = atI l j := rfl
theorem atI_0 {α : Type} {x : α} {l : List α} : atI (x :: l) 0 = some x := atI_nat (n := 0) rfl
theorem atI_1 {α : Type} {x y : α} {l : List α} : atI (x :: y :: l) 1 = some y := atI_nat (n := 1) rfl
theorem atI_2 {α : Type} {x y z : α} {l : List α} : atI (x :: y :: z :: l) 2 = some z := atI_nat (n := 2) rfl
theorem atI_3 {α : Type} {x y z u : α} {l : List α} : atI (x :: y :: z :: u :: l) 3 = some u := atI_nat (n := 3) rfl
end
end M
set_option Elab.async false
set_option linter.all false
set_option maxRecDepth 100000
set_option Elab.async false
set_option linter.all false
set_option maxRecDepth 100000
set_option maxHeartbeats 1000000
namespace M
open PySem L2
def dkM (as : List Ag) (δ : Env) : Re D → Re D
  | none => none
  | some (r, δc') => match backs as δc' δ with
    | none => none
    | some δ' => some (r, δ')
theorem x_call2 {m : Mo D} {a b : D} {δ : Env} : callM m [.im a, .im b] δ = dkM [.im a, .im b] δ (m [.imm a, .imm b]) := by
  unfold callM dkM argSls argSl
  simp only [argSls, argSl, vrs, vbs, List.nodup_nil, true_and]
  rw [if_pos (fun i h => by simp at h)]
  cases m [.imm a, .imm b] <;> rfl
theorem x_call3 {m : Mo D} {a b c : D} {δ : Env} : callM m [.im a, .im b, .im c] δ = dkM [.im a, .im b, .im c] δ (m [.imm a, .imm b, .imm c]) := by
  unfold callM dkM argSls argSl
  simp only [argSls, argSl, vrs, vbs, List.nodup_nil, true_and]
  rw [if_pos (fun i h => by simp at h)]
  cases m [.imm a, .imm b, .imm c] <;> rfl
theorem dk2 {a b d : D} {s t : Sl} {δ : Env} : dkM [.im a, .im b] δ (some (.ok d, [s, t])) = some (.ok d, δ) := rfl
theorem dk3 {a b c d : D} {s t u : Sl} {δ : Env} : dkM [.im a, .im b, .im c] δ (some (.ok d, [s, t, u])) = some (.ok d, δ) := rfl
def iLk : Option Sl → Bool
  | some (.own (.lst _)) => true
  | some (.io (.lst _)) => true
  | _ => false
def iSk : Option Sl → Bool
  | some (.own _) => true
  | some (.io _) => true
  | _ => false
theorem x_isLst {δ : Env} {i : Nat} : isLst δ i = iLk δ[i]? := rfl
theorem x_isSet {δ : Env} {i : Nat} : isSet δ i = iSk δ[i]? := rfl
theorem iSk_io {d : D} : iSk (some (.io d)) = true := rfl
theorem at_map {α : Type} {f : α → D} {l : List α} {i : Nat} {x : α} (h : l[i]? = some x) : atI (l.map f) (i : Int) = some (f x) := atI_nat (by rw [List.getElem?_map, h]; rfl)
theorem dApp_l {x : D} {l : List D} (hl : l.length ≤ 1000) : dAppend x (.lst l) = some (.lst (l ++ [x])) := by
  show (if l.length < sizeLine then _ else none) = _
  rw [if_pos (small1000 hl)]
theorem call_of {m : Mo D} {as : List Ag} {δ δc δc' δ' : Env} {r : D} (h1 : argSls δ as = some δc) (h2 : (vrs as).Nodup ∧ ∀ i ∈ vbs as, i ∉ vrs as) (h3 : m δc = some (.ok r, δc')) (h4 : backs as δc' δ = some δ') : callM m as δ = some (.ok r, δ') := by
  unfold callM
  rw [h1]
  simp only []
  rw [if_pos h2, h3]
  simp only [h4]
theorem fInt_i {x : Int} : fInt [.int x] = some (.int x) := rfl
theorem fAbs_i {x : Int} : fAbs [.int x] = some (.int (if x < 0 then -x else x)) := rfl
theorem fLen_lst {l : List D} : fLen [.lst l] = some (.int (l.length : Nat)) := rfl
theorem ssq {a b : Mo Out} {δ δ1 : Env} {r : Re Out} (h : a δ = some (.ok .nx, δ1)) (h2 : b δ1 = r) : sSeq a b δ = r := by rw [sSeq_ok h]; exact h2
theorem sIf_t {T : Mo Bool} {a b : Mo Out} {δ δ1 : Env} (h : T δ = some (.ok true, δ1)) : sIf T a b δ = a δ1 := by rw [x_sIf, h]; rfl
theorem sIf_f {T : Mo Bool} {a b : Mo Out} {δ δ1 : Env} (h : T δ = some (.ok false, δ1)) : sIf T a b δ = b δ1 := by rw [x_sIf, h]; rfl
theorem call_v1 {m : Mo D} {a d d' r : D} {s : Sl} {δ : Env} (hm : m [.io d, .imm a] = some (.ok r, [.io d', s])) : callM m [.vr 0, .im a] (.io d :: δ) = some (.ok r, .io d' :: δ) :=
  call_of (by simp only [argSls, argSl, List.getElem?_cons_zero]) ⟨by simp [vrs], by simp [vbs]⟩ hm (by simp only [backs, List.getElem?_cons_zero, List.set_cons_zero])
theorem lay_all : ∀ {l : List D}, (∀ d ∈ l, (toPy d).canLay0 = true) → PyData.canLayAll0 (toPys l) = true
  | [], _ => rfl
  | d :: l, h => by
    unfold toPys PyData.canLayAll0
    rw [h d List.mem_cons_self, lay_all fun e m => h e (List.mem_cons_of_mem _ m)]; rfl
theorem dep_all {k : Nat} : ∀ {l : List D}, (∀ d ∈ l, (toPy d).depth ≤ k) → PyData.depthAll (toPys l) ≤ k
  | [], _ => Nat.zero_le _
  | d :: l, h => by
    unfold toPys PyData.depthAll
    have h1 := h d List.mem_cons_self
    have h2 := dep_all fun e m => h e (List.mem_cons_of_mem _ m)
    omega
theorem eqv_all : ∀ {l : List D}, (∀ d ∈ l, PyData.eqv (toPy d) (toPy d) = true) → PyData.eqvAll (toPys l) (toPys l) = true
  | [], _ => by unfold toPys PyData.eqvAll; rfl
  | d :: l, h => by
    unfold toPys PyData.eqvAll
    rw [h d List.mem_cons_self, eqv_all fun e m => h e (List.mem_cons_of_mem _ m)]; rfl
structure Fine (d : D) : Prop where
  lay : (toPy d).canLay0 = true
  dep : (toPy d).depth ≤ 20
  rfl : PyData.eqv (toPy d) (toPy d) = true
theorem fine_int (i : Int) : Fine (.int i) := ⟨rfl, by unfold toPy PyData.depth; omega, by unfold toPy PyData.eqv; simp⟩
theorem fine_shp {d : D} (h : Fine d) : shp d = true := by
  unfold shp SeqAt.shaped
  rw [Bool.and_eq_true]
  exact ⟨h.lay, decide_eq_true (by have := h.dep; omega)⟩
theorem fine_lst {k : Nat} {l : List D} (hk : k < 20) (h : ∀ d ∈ l, Fine d ∧ (toPy d).depth ≤ k) : Fine (.lst l) ∧ (toPy (.lst l)).depth ≤ k + 1 := by
  have h1 : (toPy (.lst l)).depth ≤ k + 1 := by
    have := dep_all fun d m => (h d m).2
    unfold toPy PyData.depth; omega
  exact ⟨⟨lay_all fun d m => (h d m).1.lay, by omega, by unfold toPy PyData.eqv; exact eqv_all fun d m => (h d m).1.rfl⟩, h1⟩
theorem fine_tup {k : Nat} {l : List D} (hk : k < 20) (h : ∀ d ∈ l, Fine d ∧ (toPy d).depth ≤ k) : Fine (.tup l) ∧ (toPy (.tup l)).depth ≤ k + 1 := by
  have h1 : (toPy (.tup l)).depth ≤ k + 1 := by
    have := dep_all fun d m => (h d m).2
    unfold toPy PyData.depth; omega
  exact ⟨⟨lay_all fun d m => (h d m).1.lay, by omega, by unfold toPy PyData.eqv; exact eqv_all fun d m => (h d m).1.rfl⟩, h1⟩
theorem fine_int' (i : Int) : Fine (.int i) ∧ (toPy (.int i)).depth ≤ 0 := ⟨fine_int i, by unfold toPy PyData.depth; omega⟩
theorem rgD_get {n k : Nat} {d : D} (h : (rgD 0 n)[k]? = some d) : k < n ∧ d = .int (k : Int) := by
  unfold rgD at h
  rw [List.getElem?_map] at h
  by_cases c : k < n
  · rw [List.getElem?_range c] at h; cases h; exact ⟨c, by simp⟩
  · rw [List.getElem?_eq_none (by rw [List.length_range]; omega)] at h; cases h
theorem rgD_len {lo : Int} {n : Nat} : (rgD lo n).length = n := by unfold rgD; rw [List.length_map, List.length_range]
theorem rg1_n {n : Nat} (h : n ≤ 1000) : rg1 [.int (n : Int)] = some (rgD 0 n) := by
  show (if (n : Int) ≤ 16777216 ∧ -16777216 ≤ (n : Int) then some (rgD 0 ((n : Int)).toNat) else none) = _
  rw [if_pos ⟨by omega, by omega⟩, Int.toNat_natCast]
theorem x_call1 {m : Mo D} {a : D} {δ : Env} : callM m [.im a] δ = dkM [.im a] δ (m [.imm a]) := by
  unfold callM dkM argSls argSl
  simp only [argSls, argSl, vrs, vbs, List.nodup_nil, true_and]
  rw [if_pos (fun i h => by simp at h)]
  cases m [.imm a] <;> rfl
theorem x_call4 {m : Mo D} {a b c d : D} {δ : Env} : callM m [.im a, .im b, .im c, .im d] δ = dkM [.im a, .im b, .im c, .im d] δ (m [.imm a, .imm b, .imm c, .imm d]) := by
  unfold callM dkM argSls argSl
  simp only [argSls, argSl, vrs, vbs, List.nodup_nil, true_and]
  rw [if_pos (fun i h => by simp at h)]
  cases m [.imm a, .imm b, .imm c, .imm d] <;> rfl
theorem dk1 {a d : D} {s : Sl} {δ : Env} : dkM [.im a] δ (some (.ok d, [s])) = some (.ok d, δ) := rfl
theorem dk4 {a b c e d : D} {s t u v : Sl} {δ : Env} : dkM [.im a, .im b, .im c, .im e] δ (some (.ok d, [s, t, u, v])) = some (.ok d, δ) := rfl
section
variable {α : Type} {I : Mo (List D)} {T : D → Mo Unit} {C : Mo Bool} {E Ek Ev : Mo D} {vs : List Nat} {δ δ0 : Env} {l : List α} {g : α → D} {p : α → Bool} {f : α → D} {fi : α → Int} {kk : α → List Key}
def TurnOk (T : D → Mo Unit) (C : Mo Bool) (E : Mo D) (vs : List Nat) (δ : Env) (x : D) (p : Bool) (y : D) : Prop :=
  ∃ δ1 δ2, T x δ = some (.ok (), δ1) ∧ C δ1 = some (.ok p, δ2) ∧ (p = false → wipeE δ2 vs = δ) ∧ (p = true → ∃ δ3, E δ2 = some (.ok y, δ3) ∧ wipeE δ3 vs = δ)
theorem lcM_a : ∀ (l : List α) (acc : List D), (∀ a ∈ l, TurnOk T C E vs δ (g a) (p a) (f a)) → lcM T C E vs (l.map g) acc δ = some (.ok (.lst (acc ++ (l.filter p).map f)), δ)
  | [], acc, _ => by unfold lcM; simp
  | a :: l, acc, h => by
    obtain ⟨δ1, δ2, h1, h2, h3, h4⟩ := h a List.mem_cons_self
    rw [List.map_cons]
    unfold lcM
    simp only [h1, h2]
    cases hp : p a with
    | false =>
      simp only [hp]
      rw [h3 hp, lcM_a l acc fun d' m => h d' (List.mem_cons_of_mem _ m), List.filter_cons_of_neg (by rw [hp]; simp)]
    | true =>
      obtain ⟨δ3, h5, h6⟩ := h4 hp
      simp only [hp, h5]
      rw [h6, lcM_a l (acc ++ [f a]) fun d' m => h d' (List.mem_cons_of_mem _ m), List.filter_cons_of_pos hp, List.map_cons, List.append_assoc]; rfl
theorem eLc_map (hi : I δ = some (.ok (l.map g), δ0)) (hl : l.length ≤ 1000) (h : ∀ a ∈ l, TurnOk T C E vs (wipeE δ0 vs) (g a) (p a) (f a)) : eLc I T C E vs δ = some (.ok (.lst ((l.filter p).map f)), wipeE δ0 vs) := by
  unfold eLc
  rw [bind_ok hi, if_pos (by rw [List.length_map]; exact small_line hl), lcM_a l [] h]; rfl
end
def oI : Option Int → D
  | none => .non
  | some i => .int i
theorem forM_ret {T : D → Mo Unit} {S : Mo Out} {F : Nat → Env} {z : D} {dm : D} {δ2 : Env} : ∀ (ds : List D) (k m : Nat), ds[m]? = some dm →
    (∀ i d, i < m → ds[i]? = some d → ∃ δ1, T d (F (k + i)) = some (.ok (), δ1) ∧ (S δ1 = some (.ok .nx, F (k + i + 1)) ∨ S δ1 = some (.ok .ct, F (k + i + 1)))) →
    (∃ δ1, T dm (F (k + m)) = some (.ok (), δ1) ∧ S δ1 = some (.ok (.rt z), δ2)) → forM T S ds (F k) = some (.ok (.rt z), δ2)
  | [], k, m, h, _, _ => by simp at h
  | d :: ds, k, 0, h, _, hr => by
    simp at h; subst h
    obtain ⟨δ1, a, b⟩ := hr
    unfold forM
    rw [bind_ok (by simpa using a)]
    simp only [b]
  | d :: ds, k, m + 1, h, st, hr => by
    obtain ⟨δ1, a, b⟩ := st 0 d (by omega) rfl
    have ih := forM_ret (F := F) ds (k + 1) m (by simpa using h) (fun i d' hi hd => by
      have := st (i + 1) d' (by omega) (by simpa using hd)
      rw [show k + (i + 1) = k + 1 + i by omega] at this
      exact this) (by rw [show k + 1 + m = k + (m + 1) by omega]; exact hr)
    unfold forM
    rw [bind_ok (by simpa using a)]
    rcases b with b | b
    · rw [show k + 0 + 1 = k + 1 by omega] at b
      simp only [b]; exact ih
    · rw [show k + 0 + 1 = k + 1 by omega] at b
      simp only [b]; exact ih
theorem sFor_ret {I : Mo (List D)} {T : D → Mo Unit} {S : Mo Out} {δ δ0 δ2 : Env} {ds : List D} {F : Nat → Env} {m : Nat} {dm z : D} (hi : I δ = some (.ok ds, δ0)) (h0 : δ0 = F 0) (hm : ds[m]? = some dm)
    (st : ∀ i d, i < m → ds[i]? = some d → ∃ δ1, T d (F i) = some (.ok (), δ1) ∧ (S δ1 = some (.ok .nx, F (i + 1)) ∨ S δ1 = some (.ok .ct, F (i + 1))))
    (rt : ∃ δ1, T dm (F m) = some (.ok (), δ1) ∧ S δ1 = some (.ok (.rt z), δ2)) : sFor I T S δ = some (.ok (.rt z), δ2) := by
  unfold sFor
  rw [bind_ok hi, h0]
  refine forM_ret ds 0 m hm (fun i d hi hd => ?_) (by rw [Nat.zero_add]; exact rt)
  rw [Nat.zero_add]; exact st i d hi hd
theorem getmap {α : Type} {g : α → D} {l : List α} {i : Nat} {d : D} (h : (l.map g)[i]? = some d) : ∃ v, l[i]? = some v ∧ d = g v := by
  rw [List.getElem?_map] at h
  cases q : l[i]? with
  | none => rw [q] at h; cases h
  | some v => rw [q] at h; cases h; exact ⟨v, rfl, rfl⟩
end M
set_option Elab.async false
set_option linter.all false
set_option maxRecDepth 100000
namespace M
open PySem L2
section
variable {δ δ1 δ2 : Env} {a b c : Mo Out} {T : Mo Bool} {r : Re Out} {d : D} {N n : Nat} {body : Mo Out}
theorem fn_rt (h : body (δ ++ List.replicate (N - n) .no) = some (.ok (.rt d), δ1)) : fnM N n body δ = some (.ok d, ios n δ1) := by rw [x_fn, h]; rfl
theorem sf {a b : Mo Out} (h : T δ = some (.ok false, δ1)) (h2 : b δ1 = r) : sIf T a b δ = r := by rw [sIf_f h]; exact h2
theorem st {a b : Mo Out} (h : T δ = some (.ok true, δ1)) (h2 : a δ1 = r) : sIf T a b δ = r := by rw [sIf_t h]; exact h2
/-- a test that does not hold, nothing else -/
theorem ssq_f (h : T δ = some (.ok false, δ1)) (h2 : c δ1 = r) : sSeq (sIf T a sNx) c δ = r := ssq (sf h rfl) h2
theorem s1f (h : T δ = some (.ok false, δ1)) : sIf T a sNx δ = some (.ok .nx, δ1) := sf h rfl
theorem ssq_rt (h : a δ = some (.ok (.rt d), δ1)) : sSeq a b δ = some (.ok (.rt d), δ1) := by rw [x_seq, h]; rfl
end
theorem x_eSl {f : D → Option Int → Option Int → Option D} {E : Mo D} {L U : Mo (Option Int)} {δ : Env} : eSl f E L U δ = bk (fun d => L.bind fun l => U.bind fun u => Mo.lift (f d l u)) (E δ) := x_bind
theorem x_eP0 {δ : Env} : eP0 δ = some (.ok none, δ) := rfl
theorem x_eP1 {E : Mo D} {δ : Env} : eP1 E δ = bk (fun d => Mo.lift (dPart d)) (E δ) := x_bind
theorem part_i {i : Int} : dPart (.int i) = some (some i) := rfl
theorem cut_tail {α : Type} {l : List α} {x : α} : cutD (x :: l) (some 1) none = l := by
  unfold cutD
  have e : HT.sIx (x :: l).length 0 (some 1) = 1 := by
    show (if (1 : Int) < 0 then ((1 : Int) + ((x :: l).length : Nat)).toNat else min (1 : Int).toNat (x :: l).length) = _
    rw [if_neg (by decide), List.length_cons]
    show min 1 (l.length + 1) = 1
    omega
  rw [e, HT.sIx_none, List.drop_one, List.tail_cons, List.length_cons, Nat.add_sub_cancel, List.take_length]
end M
namespace M
open PySem L2
theorem lcM_acc {T : D → Mo Unit} {E : Mo D} {vs : List Nat} (Inv : List D → Env → Prop) : ∀ (ds acc : List D) (δ : Env), Inv acc δ →
    (∀ i x acc' δ, ds[i]? = some x → acc'.length = acc.length + i → Inv acc' δ → ∃ δ1 y δ3, T x δ = some (.ok (), δ1) ∧ E δ1 = some (.ok y, δ3) ∧ Inv (acc' ++ [y]) (wipeE δ3 vs)) →
    ∃ ys δ', lcM T tYesM E vs ds acc δ = some (.ok (.lst (acc ++ ys)), δ') ∧ Inv (acc ++ ys) δ' ∧ ys.length = ds.length
  | [], acc, δ, h, _ => ⟨[], δ, by unfold lcM; rw [List.append_nil], by rw [List.append_nil]; exact h, rfl⟩
  | x :: ds, acc, δ, h, st => by
    obtain ⟨δ1, y, δ3, h1, h2, h3⟩ := st 0 x acc δ rfl rfl h
    have hy : ∀ δ, tYesM δ = some (.ok true, δ) := fun _ => rfl
    obtain ⟨ys, δ', e, i, l⟩ := lcM_acc Inv ds (acc ++ [y]) (wipeE δ3 vs) h3 fun i x' acc' δ hd hl hi => st (i + 1) x' acc' δ (by simpa using hd) (by rw [hl, List.length_append, List.length_singleton]; omega) hi
    refine ⟨y :: ys, δ', ?_, by rw [List.append_assoc] at i; exact i, by rw [List.length_cons, List.length_cons, l]⟩
    unfold lcM
    simp only [h1, hy, h2]
    rw [e, List.append_assoc]; rfl
theorem eLc_acc {I : Mo (List D)} {T : D → Mo Unit} {E : Mo D} {vs : List Nat} {δ δ0 : Env} {ds : List D} (Inv : List D → Env → Prop) (hi : I δ = some (.ok ds, δ0)) (hl : ds.length ≤ 1000) (h0 : Inv [] (wipeE δ0 vs))
    (st : ∀ i x acc δ, ds[i]? = some x → acc.length = i → Inv acc δ → ∃ δ1 y δ3, T x δ = some (.ok (), δ1) ∧ E δ1 = some (.ok y, δ3) ∧ Inv (acc ++ [y]) (wipeE δ3 vs)) :
    ∃ ys δ', eLc I T tYesM E vs δ = some (.ok (.lst ys), δ') ∧ Inv ys δ' ∧ ys.length = ds.length := by
  obtain ⟨ys, δ', e, i, l⟩ := lcM_acc Inv ds [] (wipeE δ0 vs) h0 fun i x acc δ h1 h2 h3 => st i x acc δ h1 (by simpa using h2) h3
  refine ⟨ys, δ', ?_, by simpa using i, l⟩
  unfold eLc
  rw [bind_ok hi, if_pos (small_line hl), e]; rfl
end M
set_option Elab.async false
set_option linter.all false
set_option maxRecDepth 100000
set_option maxHeartbeats 1000000
namespace M
open PySem L2
def plD (ns : List Int) (x p : Int) : D := .lst [.int x, .lst (ns.map D.int), .int p]
def IsPl (ns : List Int) (d : D) : Prop := ∃ x p : Int, -1 ≤ p ∧ d = plD ns x p
theorem dSet3_0 {a b c v : D} : dSet (.int 0) v (.lst [a, b, c]) = some (.lst [v, b, c]) := rfl
theorem dSet3_2 {a b c v : D} : dSet (.int 2) v (.lst [a, b, c]) = some (.lst [a, b, v]) := rfl
theorem wide_tail {KL KA KB KM KC KQ : Int} (k2 : ∀ x : Int, dMul (.int x) (.int KA) = some (.int (x * KA))) (k3 : ∀ x : Int, dMul (.int x) (.int KB) = some (.int (x * KB))) (k4 : ∀ x : Int, dMul (.int x) (.int KC) = some (.int (x * KC))) (m1 : ∀ x : Int, dMod (.int x) (.int KM) = some (.int (x % KM))) (q1 : ∀ x : Int, dDiv (.int x) (.int KQ) = some (.int (x / KQ))) {a b : Sl} {p c : Int} : ∃ t : Int,
    fk 2 (sSeq (sIf (eB (eBin dGe (eV 2) (eC (.int KL))))
 (sRet (eV 2))
 sNx)
 (sSeq (sAsg (gN 3) (eBin dMod (eF fInt (aCons (eBin dAdd (eBin dMul (eBin dAdd (eV 2) (eC (.int 1))) (eC (.int KA))) (eBin dMul (eBin dAdd (eV 1) (eC (.int 1))) (eC (.int KB)))) aNil)) (eC (.int KM))))
 (sRet (eBin dMod (eF fInt (aCons (eBin dAdd (eBin dMul (eV 3) (eC (.int KC))) (eBin dDiv (eV 3) (eC (.int KQ)))) aNil)) (eC (.int KM))))) [.imm (.lst (List.map D.int b')), .imm (.int p), .imm (.int c), .no]) = some (.ok (.int t), [.no, .no]) := by
  have hc : (eB (eBin dGe (eV 2) (eC (.int KL)))) [.imm (.lst (List.map D.int b')), .imm (.int p), .imm (.int c), .no] = some (.ok (decide (KL ≤ c)), [.imm (.lst (List.map D.int b')), .imm (.int p), .imm (.int c), .no]) := by
    simp only [x_bind, bk_ok, bk_ite, x_ret, x_lift, lk_some, lk_ite, app_ite, x_eC, x_eV, vk_imm, vk_own, vk_bor, x_give, gk_own, x_bin, x_un, x_ix, x_tru, x_eB, dBl_bl, dTru_bl, dTru_int, dTru_lst, x_and, x_or, x_not, x_eAnd, x_eOr, x_eNot, x_eIf, x_chain, x_aNil, x_aCons, x_aVr, rk_own, rk_io, x_aVb, tk_own, tk_io, tk_imm, tk_bor, x_eTup, x_eLst, imms_nil, imms_im, x_eF, x_call, ixV_C, jk_imm, jk_own, jk_io, jk_bor, flk_int, x_lenV, nk_imm, nk_own, nk_io, nk_bor, x_inV, hk_imm, hk_own, hk_io, hk_bor, x_sNx, x_pass, x_cont, x_brk, x_seq, sk_nx, sk_rt, sk_rtO, sk_ct, sk_bk, sk_ite, x_drop, x_sRet, x_sRetO, x_sIf, x_asg, x_asgO, x_gN, x_gO, x_gNil, x_gCons, x_gTt, x_gTl, x_sApp, x_sSet, x_chM, ck_own, ck_io, x_iOf, x_iRg, x_fn, fk_rt, fk_nx, fk_ite, ios_z, ios_s, keep_io, keep_imm, keep_own, keep_bor, keep_no, dSub_i, dAdd_i, dLt_i, dLe_i, dGt_i, dGe_i, dEq_int, dNe_int, ix_lst, ix_scr, ix_tup, atI_0, atI_1, atI_2, atI_3, List.getElem?_cons_zero, List.getElem?_cons_succ, List.set_cons_zero, List.set_cons_succ, List.length_cons, List.length_nil, List.cons_append, List.nil_append, List.replicate_succ, List.replicate_zero, Option.map_some, Option.bind_some, Nat.reduceAdd, Nat.reduceSub, Nat.reduceLT, Nat.reduceLeDiff, if_true, if_false, Bool.false_eq_true, decide_eq_true_eq, reduceIte, ne_eq, not_false_eq_true, Nat.lt_add_left_iff_pos, Nat.zero_lt_succ, x_call1, x_call2, x_call3, x_call4, dk1, dk2, dk3, dk4, ixV_V, Nat.reduceEqDiff, not_false_eq_true, x_isLst, x_isSet, List.map_cons, List.map_nil, Option.map_none, Option.bind_none]
  by_cases h : KL ≤ c
  · rw [decide_eq_true h] at hc
    refine ⟨c, ?_⟩
    rw [x_seq, sIf_t hc]
    simp only [x_bind, bk_ok, bk_ite, x_ret, x_lift, lk_some, lk_ite, app_ite, x_eC, x_eV, vk_imm, vk_own, vk_bor, x_give, gk_own, x_bin, x_un, x_ix, x_tru, x_eB, dBl_bl, dTru_bl, dTru_int, dTru_lst, x_and, x_or, x_not, x_eAnd, x_eOr, x_eNot, x_eIf, x_chain, x_aNil, x_aCons, x_aVr, rk_own, rk_io, x_aVb, tk_own, tk_io, tk_imm, tk_bor, x_eTup, x_eLst, imms_nil, imms_im, x_eF, x_call, ixV_C, jk_imm, jk_own, jk_io, jk_bor, flk_int, x_lenV, nk_imm, nk_own, nk_io, nk_bor, x_inV, hk_imm, hk_own, hk_io, hk_bor, x_sNx, x_pass, x_cont, x_brk, x_seq, sk_nx, sk_rt, sk_rtO, sk_ct, sk_bk, sk_ite, x_drop, x_sRet, x_sRetO, x_sIf, x_asg, x_asgO, x_gN, x_gO, x_gNil, x_gCons, x_gTt, x_gTl, x_sApp, x_sSet, x_chM, ck_own, ck_io, x_iOf, x_iRg, x_fn, fk_rt, fk_nx, fk_ite, ios_z, ios_s, keep_io, keep_imm, keep_own, keep_bor, keep_no, dSub_i, dAdd_i, dLt_i, dLe_i, dGt_i, dGe_i, dEq_int, dNe_int, ix_lst, ix_scr, ix_tup, atI_0, atI_1, atI_2, atI_3, List.getElem?_cons_zero, List.getElem?_cons_succ, List.set_cons_zero, List.set_cons_succ, List.length_cons, List.length_nil, List.cons_append, List.nil_append, List.replicate_succ, List.replicate_zero, Option.map_some, Option.bind_some, Nat.reduceAdd, Nat.reduceSub, Nat.reduceLT, Nat.reduceLeDiff, if_true, if_false, Bool.false_eq_true, decide_eq_true_eq, reduceIte, ne_eq, not_false_eq_true, Nat.lt_add_left_iff_pos, Nat.zero_lt_succ, x_call1, x_call2, x_call3, x_call4, dk1, dk2, dk3, dk4, ixV_V, Nat.reduceEqDiff, not_false_eq_true, x_isLst, x_isSet, List.map_cons, List.map_nil, Option.map_none, Option.bind_none]
  · rw [decide_eq_false h] at hc
    refine ⟨(((c + 1) * KA + (p + 1) * KB) % KM * KC + ((c + 1) * KA + (p + 1) * KB) % KM / KQ) % KM, ?_⟩
    rw [x_seq, sIf_f hc, x_sNx, sk_nx]
    simp only [x_bind, bk_ok, bk_ite, x_ret, x_lift, lk_some, lk_ite, app_ite, x_eC, x_eV, vk_imm, vk_own, vk_bor, x_give, gk_own, x_bin, x_un, x_ix, x_tru, x_eB, dBl_bl, dTru_bl, dTru_int, dTru_lst, x_and, x_or, x_not, x_eAnd, x_eOr, x_eNot, x_eIf, x_chain, x_aNil, x_aCons, x_aVr, rk_own, rk_io, x_aVb, tk_own, tk_io, tk_imm, tk_bor, x_eTup, x_eLst, imms_nil, imms_im, x_eF, x_call, ixV_C, jk_imm, jk_own, jk_io, jk_bor, flk_int, x_lenV, nk_imm, nk_own, nk_io, nk_bor, x_inV, hk_imm, hk_own, hk_io, hk_bor, x_sNx, x_pass, x_cont, x_brk, x_seq, sk_nx, sk_rt, sk_rtO, sk_ct, sk_bk, sk_ite, x_drop, x_sRet, x_sRetO, x_sIf, x_asg, x_asgO, x_gN, x_gO, x_gNil, x_gCons, x_gTt, x_gTl, x_sApp, x_sSet, x_chM, ck_own, ck_io, x_iOf, x_iRg, x_fn, fk_rt, fk_nx, fk_ite, ios_z, ios_s, keep_io, keep_imm, keep_own, keep_bor, keep_no, dSub_i, dAdd_i, dLt_i, dLe_i, dGt_i, dGe_i, dEq_int, dNe_int, ix_lst, ix_scr, ix_tup, atI_0, atI_1, atI_2, atI_3, List.getElem?_cons_zero, List.getElem?_cons_succ, List.set_cons_zero, List.set_cons_succ, List.length_cons, List.length_nil, List.cons_append, List.nil_append, List.replicate_succ, List.replicate_zero, Option.map_some, Option.bind_some, Nat.reduceAdd, Nat.reduceSub, Nat.reduceLT, Nat.reduceLeDiff, if_true, if_false, Bool.false_eq_true, decide_eq_true_eq, reduceIte, ne_eq, not_false_eq_true, Nat.lt_add_left_iff_pos, Nat.zero_lt_succ, x_call1, x_call2, x_call3, x_call4, dk1, dk2, dk3, dk4, ixV_V, Nat.reduceEqDiff, not_false_eq_true, x_isLst, x_isSet, List.map_cons, List.map_nil, Option.map_none, Option.bind_none, k2, k3, k4, m1, q1, fInt_i]
theorem ev_wide {ns : List Int} {p : Int} (h0 : 0 ≤ p) : ∃ t : Int, m__law_wide [.imm (.lst (ns.map D.int)), .imm (.int p)] = some (.ok (.int t), [.no, .no]) := by
  have h1 : ∃ c : Int, (sIf (eB (eBin dLt (eV 1) (eF fLen (aCons (eV 0) aNil))))
 (sAsg (gN 2) (eF fAbs (aCons (eIxV 0 (eV 1)) aNil)))
 sNx) [.imm (.lst (ns.map D.int)), .imm (.int p), .imm (.int 0), .no] = some (.ok .nx, [.imm (.lst (ns.map D.int)), .imm (.int p), .imm (.int c), .no]) := by
    by_cases c : p < ((ns.map D.int).length : Nat)
    · have hp : p.toNat < ns.length := by rw [List.length_map] at c; omega
      have a1 : atI (ns.map D.int) p = some (.int ns[p.toNat]) := by
        have := at_map (f := D.int) (List.getElem?_eq_getElem hp)
        rw [Int.toNat_of_nonneg h0] at this; exact this
      refine ⟨if ns[p.toNat] < 0 then -ns[p.toNat] else ns[p.toNat], ?_⟩
      rw [sIf_t (δ1 := [.imm (.lst (ns.map D.int)), .imm (.int p), .imm (.int 0), .no])]
      · simp only [x_bind, bk_ok, bk_ite, x_ret, x_lift, lk_some, lk_ite, app_ite, x_eC, x_eV, vk_imm, vk_own, vk_bor, x_give, gk_own, x_bin, x_un, x_ix, x_tru, x_eB, dBl_bl, dTru_bl, dTru_int, dTru_lst, x_and, x_or, x_not, x_eAnd, x_eOr, x_eNot, x_eIf, x_chain, x_aNil, x_aCons, x_aVr, rk_own, rk_io, x_aVb, tk_own, tk_io, tk_imm, tk_bor, x_eTup, x_eLst, imms_nil, imms_im, x_eF, x_call, ixV_C, jk_imm, jk_own, jk_io, jk_bor, flk_int, x_lenV, nk_imm, nk_own, nk_io, nk_bor, x_inV, hk_imm, hk_own, hk_io, hk_bor, x_sNx, x_pass, x_cont, x_brk, x_seq, sk_nx, sk_rt, sk_rtO, sk_ct, sk_bk, sk_ite, x_drop, x_sRet, x_sRetO, x_sIf, x_asg, x_asgO, x_gN, x_gO, x_gNil, x_gCons, x_gTt, x_gTl, x_sApp, x_sSet, x_chM, ck_own, ck_io, x_iOf, x_iRg, x_fn, fk_rt, fk_nx, fk_ite, ios_z, ios_s, keep_io, keep_imm, keep_own, keep_bor, keep_no, dSub_i, dAdd_i, dLt_i, dLe_i, dGt_i, dGe_i, dEq_int, dNe_int, ix_lst, ix_scr, ix_tup, atI_0, atI_1, atI_2, atI_3, List.getElem?_cons_zero, List.getElem?_cons_succ, List.set_cons_zero, List.set_cons_succ, List.length_cons, List.length_nil, List.cons_append, List.nil_append, List.replicate_succ, List.replicate_zero, Option.map_some, Option.bind_some, Nat.reduceAdd, Nat.reduceSub, Nat.reduceLT, Nat.reduceLeDiff, if_true, if_false, Bool.false_eq_true, decide_eq_true_eq, reduceIte, ne_eq, not_false_eq_true, Nat.lt_add_left_iff_pos, Nat.zero_lt_succ, x_call1, x_call2, x_call3, x_call4, dk1, dk2, dk3, dk4, ixV_V, Nat.reduceEqDiff, not_false_eq_true, x_isLst, x_isSet, List.map_cons, List.map_nil, Option.map_none, Option.bind_none, a1, fAbs_i]
      · simp only [x_bind, bk_ok, bk_ite, x_ret, x_lift, lk_some, lk_ite, app_ite, x_eC, x_eV, vk_imm, vk_own, vk_bor, x_give, gk_own, x_bin, x_un, x_ix, x_tru, x_eB, dBl_bl, dTru_bl, dTru_int, dTru_lst, x_and, x_or, x_not, x_eAnd, x_eOr, x_eNot, x_eIf, x_chain, x_aNil, x_aCons, x_aVr, rk_own, rk_io, x_aVb, tk_own, tk_io, tk_imm, tk_bor, x_eTup, x_eLst, imms_nil, imms_im, x_eF, x_call, ixV_C, jk_imm, jk_own, jk_io, jk_bor, flk_int, x_lenV, nk_imm, nk_own, nk_io, nk_bor, x_inV, hk_imm, hk_own, hk_io, hk_bor, x_sNx, x_pass, x_cont, x_brk, x_seq, sk_nx, sk_rt, sk_rtO, sk_ct, sk_bk, sk_ite, x_drop, x_sRet, x_sRetO, x_sIf, x_asg, x_asgO, x_gN, x_gO, x_gNil, x_gCons, x_gTt, x_gTl, x_sApp, x_sSet, x_chM, ck_own, ck_io, x_iOf, x_iRg, x_fn, fk_rt, fk_nx, fk_ite, ios_z, ios_s, keep_io, keep_imm, keep_own, keep_bor, keep_no, dSub_i, dAdd_i, dLt_i, dLe_i, dGt_i, dGe_i, dEq_int, dNe_int, ix_lst, ix_scr, ix_tup, atI_0, atI_1, atI_2, atI_3, List.getElem?_cons_zero, List.getElem?_cons_succ, List.set_cons_zero, List.set_cons_succ, List.length_cons, List.length_nil, List.cons_append, List.nil_append, List.replicate_succ, List.replicate_zero, Option.map_some, Option.bind_some, Nat.reduceAdd, Nat.reduceSub, Nat.reduceLT, Nat.reduceLeDiff, if_true, if_false, Bool.false_eq_true, decide_eq_true_eq, reduceIte, ne_eq, not_false_eq_true, Nat.lt_add_left_iff_pos, Nat.zero_lt_succ, x_call1, x_call2, x_call3, x_call4, dk1, dk2, dk3, dk4, ixV_V, Nat.reduceEqDiff, not_false_eq_true, x_isLst, x_isSet, List.map_cons, List.map_nil, Option.map_none, Option.bind_none, fLen_lst, c, decide_true]
    · refine ⟨0, ?_⟩
      rw [sIf_f (δ1 := [.imm (.lst (ns.map D.int)), .imm (.int p), .imm (.int 0), .no])]
      · rfl
      · simp only [x_bind, bk_ok, bk_ite, x_ret, x_lift, lk_some, lk_ite, app_ite, x_eC, x_eV, vk_imm, vk_own, vk_bor, x_give, gk_own, x_bin, x_un, x_ix, x_tru, x_eB, dBl_bl, dTru_bl, dTru_int, dTru_lst, x_and, x_or, x_not, x_eAnd, x_eOr, x_eNot, x_eIf, x_chain, x_aNil, x_aCons, x_aVr, rk_own, rk_io, x_aVb, tk_own, tk_io, tk_imm, tk_bor, x_eTup, x_eLst, imms_nil, imms_im, x_eF, x_call, ixV_C, jk_imm, jk_own, jk_io, jk_bor, flk_int, x_lenV, nk_imm, nk_own, nk_io, nk_bor, x_inV, hk_imm, hk_own, hk_io, hk_bor, x_sNx, x_pass, x_cont, x_brk, x_seq, sk_nx, sk_rt, sk_rtO, sk_ct, sk_bk, sk_ite, x_drop, x_sRet, x_sRetO, x_sIf, x_asg, x_asgO, x_gN, x_gO, x_gNil, x_gCons, x_gTt, x_gTl, x_sApp, x_sSet, x_chM, ck_own, ck_io, x_iOf, x_iRg, x_fn, fk_rt, fk_nx, fk_ite, ios_z, ios_s, keep_io, keep_imm, keep_own, keep_bor, keep_no, dSub_i, dAdd_i, dLt_i, dLe_i, dGt_i, dGe_i, dEq_int, dNe_int, ix_lst, ix_scr, ix_tup, atI_0, atI_1, atI_2, atI_3, List.getElem?_cons_zero, List.getElem?_cons_succ, List.set_cons_zero, List.set_cons_succ, List.length_cons, List.length_nil, List.cons_append, List.nil_append, List.replicate_succ, List.replicate_zero, Option.map_some, Option.bind_some, Nat.reduceAdd, Nat.reduceSub, Nat.reduceLT, Nat.reduceLeDiff, if_true, if_false, Bool.false_eq_true, decide_eq_true_eq, reduceIte, ne_eq, not_false_eq_true, Nat.lt_add_left_iff_pos, Nat.zero_lt_succ, x_call1, x_call2, x_call3, x_call4, dk1, dk2, dk3, dk4, ixV_V, Nat.reduceEqDiff, not_false_eq_true, x_isLst, x_isSet, List.map_cons, List.map_nil, Option.map_none, Option.bind_none, fLen_lst, c, decide_false]
  obtain ⟨c, h1⟩ := h1
  obtain ⟨t, h2⟩ := wide_tail (b' := ns) (KL := 1000000000000000000) (KA := 6364136223846793005) (KB := 1442695040888963407) (KM := 2305843009213693951) (KC := 3202034522624059733) (KQ := 1000003) (fun x => dMul_r (by decide) (by decide)) (fun x => dMul_r (by decide) (by decide)) (fun x => dMul_r (by decide) (by decide)) (fun x => dMod_i (by decide)) (fun x => dDiv_i (by decide) (by decide)) (a := .no) (b := .no) (p := p) (c := c)
  refine ⟨t, ?_⟩
  unfold m__law_wide b__law_wide
  rw [x_fn]
  have e0 : ([.imm (.lst (ns.map D.int)), .imm (.int p)] ++ List.replicate (4 - 2) Sl.no : Env) = [.imm (.lst (ns.map D.int)), .imm (.int p), .no, .no] := rfl
  rw [e0]
  refine Eq.trans (congrArg (fk 2) (ssq (δ1 := [.imm (.lst (ns.map D.int)), .imm (.int p), .imm (.int 0), .no]) ?_ (ssq h1 rfl))) h2
  simp only [x_bind, bk_ok, bk_ite, x_ret, x_lift, lk_some, lk_ite, app_ite, x_eC, x_eV, vk_imm, vk_own, vk_bor, x_give, gk_own, x_bin, x_un, x_ix, x_tru, x_eB, dBl_bl, dTru_bl, dTru_int, dTru_lst, x_and, x_or, x_not, x_eAnd, x_eOr, x_eNot, x_eIf, x_chain, x_aNil, x_aCons, x_aVr, rk_own, rk_io, x_aVb, tk_own, tk_io, tk_imm, tk_bor, x_eTup, x_eLst, imms_nil, imms_im, x_eF, x_call, ixV_C, jk_imm, jk_own, jk_io, jk_bor, flk_int, x_lenV, nk_imm, nk_own, nk_io, nk_bor, x_inV, hk_imm, hk_own, hk_io, hk_bor, x_sNx, x_pass, x_cont, x_brk, x_seq, sk_nx, sk_rt, sk_rtO, sk_ct, sk_bk, sk_ite, x_drop, x_sRet, x_sRetO, x_sIf, x_asg, x_asgO, x_gN, x_gO, x_gNil, x_gCons, x_gTt, x_gTl, x_sApp, x_sSet, x_chM, ck_own, ck_io, x_iOf, x_iRg, x_fn, fk_rt, fk_nx, fk_ite, ios_z, ios_s, keep_io, keep_imm, keep_own, keep_bor, keep_no, dSub_i, dAdd_i, dLt_i, dLe_i, dGt_i, dGe_i, dEq_int, dNe_int, ix_lst, ix_scr, ix_tup, atI_0, atI_1, atI_2, atI_3, List.getElem?_cons_zero, List.getElem?_cons_succ, List.set_cons_zero, List.set_cons_succ, List.length_cons, List.length_nil, List.cons_append, List.nil_append, List.replicate_succ, List.replicate_zero, Option.map_some, Option.bind_some, Nat.reduceAdd, Nat.reduceSub, Nat.reduceLT, Nat.reduceLeDiff, if_true, if_false, Bool.false_eq_true, decide_eq_true_eq, reduceIte, ne_eq, not_false_eq_true, Nat.lt_add_left_iff_pos, Nat.zero_lt_succ, x_call1, x_call2, x_call3, x_call4, dk1, dk2, dk3, dk4, ixV_V, Nat.reduceEqDiff, not_false_eq_true, x_isLst, x_isSet, List.map_cons, List.map_nil, Option.map_none, Option.bind_none]
theorem call_w {ns : List Int} {p : Int} (h0 : 0 ≤ p) : ∃ t : Int, ∀ δ, callM m__law_wide [.im (.lst (ns.map D.int)), .im (.int p)] δ = some (.ok (.int t), δ) := by
  obtain ⟨t, h⟩ := ev_wide (ns := ns) h0
  exact ⟨t, fun δ => by rw [x_call2, h, dk2]⟩
theorem take_tail {ns : List Int} {x p m : Int} (h : 0 < m) (h2 : m ≤ 1000000) :
    fk 2 ((sSeq (sAsg (gN 2) (eBin dMod (eF fInt (aCons (eIxV 0 (eC (.int 0))) aNil)) (eV 1)))
 (sSeq (sSet 0 (eC (.int 0)) (eBin dDiv (eIxV 0 (eC (.int 0))) (eV 1)))
 (sRet (eV 2)))) [.io (plD ns x p), .imm (.int m), .no]) = some (.ok (.int (x % m)), [.io (plD ns (x / m) p), .no]) := by
  unfold plD
  simp only [x_bind, bk_ok, bk_ite, x_ret, x_lift, lk_some, lk_ite, app_ite, x_eC, x_eV, vk_imm, vk_own, vk_bor, x_give, gk_own, x_bin, x_un, x_ix, x_tru, x_eB, dBl_bl, dTru_bl, dTru_int, dTru_lst, x_and, x_or, x_not, x_eAnd, x_eOr, x_eNot, x_eIf, x_chain, x_aNil, x_aCons, x_aVr, rk_own, rk_io, x_aVb, tk_own, tk_io, tk_imm, tk_bor, x_eTup, x_eLst, imms_nil, imms_im, x_eF, x_call, ixV_C, jk_imm, jk_own, jk_io, jk_bor, flk_int, x_lenV, nk_imm, nk_own, nk_io, nk_bor, x_inV, hk_imm, hk_own, hk_io, hk_bor, x_sNx, x_pass, x_cont, x_brk, x_seq, sk_nx, sk_rt, sk_rtO, sk_ct, sk_bk, sk_ite, x_drop, x_sRet, x_sRetO, x_sIf, x_asg, x_asgO, x_gN, x_gO, x_gNil, x_gCons, x_gTt, x_gTl, x_sApp, x_sSet, x_chM, ck_own, ck_io, x_iOf, x_iRg, x_fn, fk_rt, fk_nx, fk_ite, ios_z, ios_s, keep_io, keep_imm, keep_own, keep_bor, keep_no, dSub_i, dAdd_i, dLt_i, dLe_i, dGt_i, dGe_i, dEq_int, dNe_int, ix_lst, ix_scr, ix_tup, atI_0, atI_1, atI_2, atI_3, List.getElem?_cons_zero, List.getElem?_cons_succ, List.set_cons_zero, List.set_cons_succ, List.length_cons, List.length_nil, List.cons_append, List.nil_append, List.replicate_succ, List.replicate_zero, Option.map_some, Option.bind_some, Nat.reduceAdd, Nat.reduceSub, Nat.reduceLT, Nat.reduceLeDiff, if_true, if_false, Bool.false_eq_true, decide_eq_true_eq, reduceIte, ne_eq, not_false_eq_true, Nat.lt_add_left_iff_pos, Nat.zero_lt_succ, x_call1, x_call2, x_call3, x_call4, dk1, dk2, dk3, dk4, ixV_V, Nat.reduceEqDiff, not_false_eq_true, x_isLst, x_isSet, List.map_cons, List.map_nil, Option.map_none, Option.bind_none, fInt_i, dMod_i h, dDiv_i h (show m < 1073741824 by omega), dSet3_0, iSk_io]
theorem ev_take {ns : List Int} {x p m : Int} (hp : -1 ≤ p) (h : 0 < m) (h2 : m ≤ 1000000) : ∃ (t x' p' : Int), m__law_take [.io (plD ns x p), .imm (.int m)] = some (.ok (.int t), [.io (plD ns x' p'), .no]) ∧ -1 ≤ p' ∧ 0 ≤ t ∧ t < m := by
  have h1 : ∃ x' p' : Int, -1 ≤ p' ∧ (sIf (eB (eBin dLt (eIxV 0 (eC (.int 0))) (eC (.int 1000))))
 (sSeq (sSet 0 (eC (.int 2)) (eBin dAdd (eIxV 0 (eC (.int 2))) (eC (.int 1))))
 (sSet 0 (eC (.int 0)) (eCall m__law_wide (aCons (eIxV 0 (eC (.int 1))) (aCons (eIxV 0 (eC (.int 2))) aNil)))))
 sNx) [.io (plD ns x p), .imm (.int m), .no] = some (.ok .nx, [.io (plD ns x' p'), .imm (.int m), .no]) := by
    have hc : (eB (eBin dLt (eIxV 0 (eC (.int 0))) (eC (.int 1000)))) [.io (plD ns x p), .imm (.int m), .no] = some (.ok (decide (x < 1000)), [.io (plD ns x p), .imm (.int m), .no]) := by
      unfold plD
      simp only [x_bind, bk_ok, bk_ite, x_ret, x_lift, lk_some, lk_ite, app_ite, x_eC, x_eV, vk_imm, vk_own, vk_bor, x_give, gk_own, x_bin, x_un, x_ix, x_tru, x_eB, dBl_bl, dTru_bl, dTru_int, dTru_lst, x_and, x_or, x_not, x_eAnd, x_eOr, x_eNot, x_eIf, x_chain, x_aNil, x_aCons, x_aVr, rk_own, rk_io, x_aVb, tk_own, tk_io, tk_imm, tk_bor, x_eTup, x_eLst, imms_nil, imms_im, x_eF, x_call, ixV_C, jk_imm, jk_own, jk_io, jk_bor, flk_int, x_lenV, nk_imm, nk_own, nk_io, nk_bor, x_inV, hk_imm, hk_own, hk_io, hk_bor, x_sNx, x_pass, x_cont, x_brk, x_seq, sk_nx, sk_rt, sk_rtO, sk_ct, sk_bk, sk_ite, x_drop, x_sRet, x_sRetO, x_sIf, x_asg, x_asgO, x_gN, x_gO, x_gNil, x_gCons, x_gTt, x_gTl, x_sApp, x_sSet, x_chM, ck_own, ck_io, x_iOf, x_iRg, x_fn, fk_rt, fk_nx, fk_ite, ios_z, ios_s, keep_io, keep_imm, keep_own, keep_bor, keep_no, dSub_i, dAdd_i, dLt_i, dLe_i, dGt_i, dGe_i, dEq_int, dNe_int, ix_lst, ix_scr, ix_tup, atI_0, atI_1, atI_2, atI_3, List.getElem?_cons_zero, List.getElem?_cons_succ, List.set_cons_zero, List.set_cons_succ, List.length_cons, List.length_nil, List.cons_append, List.nil_append, List.replicate_succ, List.replicate_zero, Option.map_some, Option.bind_some, Nat.reduceAdd, Nat.reduceSub, Nat.reduceLT, Nat.reduceLeDiff, if_true, if_false, Bool.false_eq_true, decide_eq_true_eq, reduceIte, ne_eq, not_false_eq_true, Nat.lt_add_left_iff_pos, Nat.zero_lt_succ, x_call1, x_call2, x_call3, x_call4, dk1, dk2, dk3, dk4, ixV_V, Nat.reduceEqDiff, not_false_eq_true, x_isLst, x_isSet, List.map_cons, List.map_nil, Option.map_none, Option.bind_none]
    by_cases c : x < 1000
    · rw [decide_eq_true c] at hc
      obtain ⟨t, ht⟩ := call_w (ns := ns) (p := p + 1) (by omega)
      refine ⟨t, p + 1, by omega, ?_⟩
      rw [sIf_t hc]
      refine ssq (δ1 := [.io (plD ns x (p + 1)), .imm (.int m), .no]) ?_ ?_
      · unfold plD
        simp only [x_bind, bk_ok, bk_ite, x_ret, x_lift, lk_some, lk_ite, app_ite, x_eC, x_eV, vk_imm, vk_own, vk_bor, x_give, gk_own, x_bin, x_un, x_ix, x_tru, x_eB, dBl_bl, dTru_bl, dTru_int, dTru_lst, x_and, x_or, x_not, x_eAnd, x_eOr, x_eNot, x_eIf, x_chain, x_aNil, x_aCons, x_aVr, rk_own, rk_io, x_aVb, tk_own, tk_io, tk_imm, tk_bor, x_eTup, x_eLst, imms_nil, imms_im, x_eF, x_call, ixV_C, jk_imm, jk_own, jk_io, jk_bor, flk_int, x_lenV, nk_imm, nk_own, nk_io, nk_bor, x_inV, hk_imm, hk_own, hk_io, hk_bor, x_sNx, x_pass, x_cont, x_brk, x_seq, sk_nx, sk_rt, sk_rtO, sk_ct, sk_bk, sk_ite, x_drop, x_sRet, x_sRetO, x_sIf, x_asg, x_asgO, x_gN, x_gO, x_gNil, x_gCons, x_gTt, x_gTl, x_sApp, x_sSet, x_chM, ck_own, ck_io, x_iOf, x_iRg, x_fn, fk_rt, fk_nx, fk_ite, ios_z, ios_s, keep_io, keep_imm, keep_own, keep_bor, keep_no, dSub_i, dAdd_i, dLt_i, dLe_i, dGt_i, dGe_i, dEq_int, dNe_int, ix_lst, ix_scr, ix_tup, atI_0, atI_1, atI_2, atI_3, List.getElem?_cons_zero, List.getElem?_cons_succ, List.set_cons_zero, List.set_cons_succ, List.length_cons, List.length_nil, List.cons_append, List.nil_append, List.replicate_succ, List.replicate_zero, Option.map_some, Option.bind_some, Nat.reduceAdd, Nat.reduceSub, Nat.reduceLT, Nat.reduceLeDiff, if_true, if_false, Bool.false_eq_true, decide_eq_true_eq, reduceIte, ne_eq, not_false_eq_true, Nat.lt_add_left_iff_pos, Nat.zero_lt_succ, x_call1, x_call2, x_call3, x_call4, dk1, dk2, dk3, dk4, ixV_V, Nat.reduceEqDiff, not_false_eq_true, x_isLst, x_isSet, List.map_cons, List.map_nil, Option.map_none, Option.bind_none, dSet3_2, iSk_io]
      · unfold plD
        simp only [x_bind, bk_ok, bk_ite, x_ret, x_lift, lk_some, lk_ite, app_ite, x_eC, x_eV, vk_imm, vk_own, vk_bor, x_give, gk_own, x_bin, x_un, x_ix, x_tru, x_eB, dBl_bl, dTru_bl, dTru_int, dTru_lst, x_and, x_or, x_not, x_eAnd, x_eOr, x_eNot, x_eIf, x_chain, x_aNil, x_aCons, x_aVr, rk_own, rk_io, x_aVb, tk_own, tk_io, tk_imm, tk_bor, x_eTup, x_eLst, imms_nil, imms_im, x_eF, x_call, ixV_C, jk_imm, jk_own, jk_io, jk_bor, flk_int, x_lenV, nk_imm, nk_own, nk_io, nk_bor, x_inV, hk_imm, hk_own, hk_io, hk_bor, x_sNx, x_pass, x_cont, x_brk, x_seq, sk_nx, sk_rt, sk_rtO, sk_ct, sk_bk, sk_ite, x_drop, x_sRet, x_sRetO, x_sIf, x_asg, x_asgO, x_gN, x_gO, x_gNil, x_gCons, x_gTt, x_gTl, x_sApp, x_sSet, x_chM, ck_own, ck_io, x_iOf, x_iRg, x_fn, fk_rt, fk_nx, fk_ite, ios_z, ios_s, keep_io, keep_imm, keep_own, keep_bor, keep_no, dSub_i, dAdd_i, dLt_i, dLe_i, dGt_i, dGe_i, dEq_int, dNe_int, ix_lst, ix_scr, ix_tup, atI_0, atI_1, atI_2, atI_3, List.getElem?_cons_zero, List.getElem?_cons_succ, List.set_cons_zero, List.set_cons_succ, List.length_cons, List.length_nil, List.cons_append, List.nil_append, List.replicate_succ, List.replicate_zero, Option.map_some, Option.bind_some, Nat.reduceAdd, Nat.reduceSub, Nat.reduceLT, Nat.reduceLeDiff, if_true, if_false, Bool.false_eq_true, decide_eq_true_eq, reduceIte, ne_eq, not_false_eq_true, Nat.lt_add_left_iff_pos, Nat.zero_lt_succ, x_call1, x_call2, x_call3, x_call4, dk1, dk2, dk3, dk4, ixV_V, Nat.reduceEqDiff, not_false_eq_true, x_isLst, x_isSet, List.map_cons, List.map_nil, Option.map_none, Option.bind_none, dSet3_0, iSk_io, ht]
    · rw [decide_eq_false c] at hc
      exact ⟨x, p, hp, by rw [sIf_f hc]; rfl⟩
  obtain ⟨x', p', hp', h1⟩ := h1
  refine ⟨x' % m, x' / m, p', ?_, hp', Int.emod_nonneg _ (by omega), Int.emod_lt_of_pos _ h⟩
  unfold m__law_take b__law_take
  rw [x_fn]
  have e0 : ([.io (plD ns x p), .imm (.int m)] ++ List.replicate (3 - 2) Sl.no : Env) = [.io (plD ns x p), .imm (.int m), .no] := rfl
  rw [e0]
  exact (congrArg (fk 2) (ssq h1 rfl)).trans (take_tail h h2)
theorem ev_tk {ns : List Int} {d : D} {m : Int} (hd : IsPl ns d) (h : 0 < m) (h2 : m ≤ 1000000) : ∃ t d', (∀ δ, callM m__law_take [.vr 0, .im (.int m)] (.io d :: δ) = some (.ok (.int t), .io d' :: δ)) ∧ IsPl ns d' ∧ 0 ≤ t ∧ t < m := by
  obtain ⟨x, p, hp, rfl⟩ := hd
  obtain ⟨t, x', p', h1, h3, h4, h5⟩ := ev_take (ns := ns) (x := x) hp h h2
  exact ⟨t, _, fun δ => call_v1 h1, ⟨x', p', h3, rfl⟩, h4, h5⟩
end M
set_option Elab.async false
set_option linter.all false
set_option maxRecDepth 100000
set_option maxHeartbeats 2000000
namespace M
open PySem L2
local macro_rules
  | `(tactic| simp! only [$as,*]) => `(tactic| simp only [x_bind, bk_ok, bk_ite, x_ret, x_lift, lk_some, lk_ite, app_ite, x_eC, x_eV, vk_imm, vk_own, vk_bor, x_give, gk_own, x_bin, x_un, x_ix, x_tru, x_eB, dBl_bl, dTru_bl, dTru_int, dTru_lst, x_and, x_or, x_not, x_eAnd, x_eOr, x_eNot, x_eIf, x_chain, x_aNil, x_aCons, x_aVr, rk_own, rk_io, x_aVb, tk_own, tk_io, tk_imm, tk_bor, x_eTup, x_eLst, imms_nil, imms_im, x_eF, x_call, ixV_C, jk_imm, jk_own, jk_io, jk_bor, flk_int, x_lenV, nk_imm, nk_own, nk_io, nk_bor, x_inV, hk_imm, hk_own, hk_io, hk_bor, x_sNx, x_pass, x_cont, x_brk, x_seq, sk_nx, sk_rt, sk_rtO, sk_ct, sk_bk, sk_ite, x_drop, x_sRet, x_sRetO, x_sIf, x_asg, x_asgO, x_gN, x_gO, x_gNil, x_gCons, x_gTt, x_gTl, x_sApp, x_sSet, x_chM, ck_own, ck_io, x_iOf, x_iRg, x_fn, fk_rt, fk_nx, fk_ite, ios_z, ios_s, keep_io, keep_imm, keep_own, keep_bor, keep_no, dSub_i, dAdd_i, dLt_i, dLe_i, dGt_i, dGe_i, dEq_int, dNe_int, ix_lst, ix_scr, ix_tup, atI_0, atI_1, atI_2, atI_3, List.getElem?_cons_zero, List.getElem?_cons_succ, List.set_cons_zero, List.set_cons_succ, List.length_cons, List.length_nil, List.cons_append, List.nil_append, List.replicate_succ, List.replicate_zero, Option.map_some, Option.bind_some, Nat.reduceAdd, Nat.reduceSub, Nat.reduceLT, Nat.reduceLeDiff, if_true, if_false, Bool.false_eq_true, decide_eq_true_eq, reduceIte, ne_eq, not_false_eq_true, Nat.lt_add_left_iff_pos, Nat.zero_lt_succ, x_call1, x_call2, x_call3, x_call4, dk1, dk2, dk3, dk4, ixV_V, Nat.reduceEqDiff, not_false_eq_true, x_isLst, x_isSet, List.map_cons, List.map_nil, Option.map_none, Option.bind_none, x_eSl, x_eP0, x_eP1, part_i, $as,*])
def mkS (l : List Nat) : Str := ⟨l.toArray⟩
theorem mkS_l {s : Str} : mkS s.cps.toList = s := rfl
theorem mkS_cps {l : List Nat} : (mkS l).cps.toList = l := by unfold mkS; simp
theorem mkS_len {l : List Nat} : (mkS l).length = l.length := by unfold mkS Str.length; simp
theorem len_cps {s : Str} : s.length = s.cps.toList.length := by unfold Str.length; simp
theorem mkS_add {l m : List Nat} : mkS l ++ mkS m = mkS (l ++ m) := by
  show Str.append (mkS l) (mkS m) = _
  unfold Str.append mkS
  simp
theorem mkS_inj {l m : List Nat} (h : mkS l = mkS m) : l = m := by
  have := congrArg (fun s : Str => s.cps.toList) h
  simpa [mkS_cps] using this
def lowB (c : Nat) : Bool := decide (97 ≤ c) && decide (c ≤ 122)
def namB (c : Nat) : Bool := lowB c || (decide (48 ≤ c) && decide (c ≤ 57))
/-- the form of a name -/
def nmL (l : List Nat) : Bool := decide (l.length ≤ 8) && (match l with | [] => false | c :: _ => lowB c) && l.all namB
def nmB (s : Str) : Bool := nmL s.cps.toList
theorem nmB_mk {l : List Nat} : nmB (mkS l) = nmL l := by unfold nmB; rw [mkS_cps]
theorem namB_le {c : Nat} (h : namB c = true) : c ≤ 122 := by
  unfold namB lowB at h
  simp at h
  omega
theorem nmB_ok {s : Str} (h : nmB s = true) : (toPy (.str s)).canLay0 = true := by
  unfold nmB nmL at h
  simp only [Bool.and_eq_true, List.all_eq_true] at h
  show (s.cps.all fun x => decide (x < 0x110000)) = true
  rw [Array.all_eq_true_iff_forall_mem]
  intro c hc
  have := namB_le (h.2 c (by simpa using hc))
  exact decide_eq_true (by omega)
theorem nmB_len {s : Str} (h : nmB s = true) : s.length ≤ 8 := by
  unfold nmB nmL at h
  simp only [Bool.and_eq_true, decide_eq_true_eq] at h
  rw [len_cps]; exact h.1.1
theorem fine_s {s : Str} (h : (toPy (.str s)).canLay0 = true) : Fine (.str s) ∧ (toPy (.str s)).depth ≤ 0 := ⟨⟨h, by unfold toPy PyData.depth; omega, by unfold toPy PyData.eqv; simp⟩, by unfold toPy PyData.depth; omega⟩
theorem fine_nm {s : Str} (h : nmB s = true) : Fine (.str s) ∧ (toPy (.str s)).depth ≤ 0 := fine_s (nmB_ok h)
def strsD (l : List Str) : D := .lst (l.map D.str)
theorem fine_strs {l : List Str} (h : ∀ s ∈ l, nmB s = true) : Fine (strsD l) := (fine_lst (k := 0) (by omega) fun d m => by
  obtain ⟨s, hs, rfl⟩ := List.mem_map.mp m
  exact fine_nm (h s hs)).1
theorem has_str {v : Str} : ∀ {l : List Str}, hasPy (.str v) (l.map D.str) = decide (v ∈ l)
  | [] => rfl
  | x :: l => by
    have ih := has_str (v := v) (l := l)
    unfold hasPy at ih ⊢
    rw [List.map_cons, toPys, List.any_cons, ih]
    show (PyData.eqv (toPy (.str x)) (toPy (.str v)) || _) = _
    unfold toPy PyData.eqv
    by_cases c : x = v
    · subst c; simp
    · simp [c, Ne.symm c]
theorem dIn_strs {neg : Bool} {v : Str} {l : List Str} (hv : nmB v = true) (h : ∀ s ∈ l, nmB s = true) : dIn neg (.str v) (strsD l) = some (.bl (if neg then !decide (v ∈ l) else decide (v ∈ l))) := by
  show (if shp (.str v) = true ∧ shp (.lst (l.map D.str)) = true then some (D.bl (if neg then !hasPy (.str v) (l.map D.str) else hasPy (.str v) (l.map D.str))) else none) = _
  rw [if_pos ⟨fine_shp (fine_nm hv).1, fine_shp (fine_strs h)⟩, has_str]
theorem small_len {n : Nat} (h : n ≤ 1000) : n ≤ sizeLine := by rw [sizeLine_eq]; omega
theorem add_str {l m : List Nat} (h : l.length ≤ 100) (h2 : m.length ≤ 100) : dAdd (.str (mkS l)) (.str (mkS m)) = some (.str (mkS (l ++ m))) := by
  show (if (mkS l).length + (mkS m).length ≤ sizeLine then some (D.str (mkS l ++ mkS m)) else none) = _
  rw [mkS_len, mkS_len, if_pos (small_len (by omega)), mkS_add]
theorem ix_str {l : List Nat} {t : Int} {c : Nat} (hl : l.length ≤ 100) (h : atI l t = some c) : dIx (.str (mkS l)) (.int t) = some (.str (mkS [c])) := by
  show (if (mkS l).length ≤ sizeLine then (atI (mkS l).cps.toList t).map fun c => D.str ⟨#[c]⟩ else none) = _
  rw [mkS_len, if_pos (small_len (by omega)), mkS_cps, h]; rfl
def abc : List Nat := (List.range 26).map (97 + ·)
def digs : List Nat := (List.range 10).map (48 + ·)
theorem abc_eq : ("abcdefghijklmnopqrstuvwxyz" : Str) = mkS abc := by decide +kernel
theorem digs_eq : ("0123456789" : Str) = mkS digs := by decide +kernel
theorem at_abc {t : Int} (h0 : 0 ≤ t) (h : t < 26) : ∃ c, atI abc t = some c ∧ lowB c = true := by
  obtain ⟨n, rfl⟩ : ∃ n : Nat, t = (n : Int) := ⟨t.toNat, by omega⟩
  refine ⟨97 + n, atI_nat ?_, ?_⟩
  · unfold abc; rw [List.getElem?_map, List.getElem?_range (by omega)]; rfl
  · unfold lowB; simp; omega
theorem at_both {t : Int} (h0 : 0 ≤ t) (h : t < 36) : ∃ c, atI (abc ++ digs) t = some c ∧ namB c = true := by
  obtain ⟨n, rfl⟩ : ∃ n : Nat, t = (n : Int) := ⟨t.toNat, by omega⟩
  by_cases c : n < 26
  · refine ⟨97 + n, atI_nat ?_, ?_⟩
    · rw [List.getElem?_append_left (by unfold abc; simp; omega)]
      unfold abc; rw [List.getElem?_map, List.getElem?_range (by omega)]; rfl
    · unfold namB lowB; simp; omega
  · refine ⟨48 + (n - 26), atI_nat ?_, ?_⟩
    · rw [List.getElem?_append_right (by unfold abc; simp; omega)]
      unfold abc digs
      rw [List.getElem?_map, List.length_map, List.length_range, List.getElem?_range (by omega)]; rfl
    · unfold namB lowB; simp; omega
/-- what is drawn: a name of 1, 2, 4 or 8 signs, or `end` -/
def DrL (l : List Nat) : Prop := nmL l = true ∧ (l.length ≠ 3 ∨ l = [101, 110, 100])
theorem six_nm {t : Int} (h0 : 0 ≤ t) (h : t < 6) : ∃ l, atI [D.str "a", .str "b", .str "view", .str "end", .str "link", .str "c"] t = some (.str (mkS l)) ∧ DrL l := by
  have : t = 0 ∨ t = 1 ∨ t = 2 ∨ t = 3 ∨ t = 4 ∨ t = 5 := by omega
  rcases this with e | e | e | e | e | e <;> rw [e]
  · exact ⟨[97], atI_0, by decide +kernel, .inl (by decide)⟩
  · exact ⟨[98], atI_1, by decide +kernel, .inl (by decide)⟩
  · exact ⟨("view" : Str).cps.toList, atI_2, by decide +kernel, .inl (by decide +kernel)⟩
  · exact ⟨("end" : Str).cps.toList, atI_3, by decide +kernel, .inr (by decide +kernel)⟩
  · exact ⟨("link" : Str).cps.toList, rfl, by decide +kernel, .inl (by decide +kernel)⟩
  · exact ⟨[99], rfl, by decide +kernel, .inl (by decide)⟩
theorem four_at {t : Int} (h0 : 0 ≤ t) (h : t < 4) : ∃ m : Nat, atI [D.int 0, .int 1, .int 3, .int 7] t = some (.int (m : Nat)) ∧ m ≤ 7 ∧ m ≠ 2 := by
  have : t = 0 ∨ t = 1 ∨ t = 2 ∨ t = 3 := by omega
  rcases this with e | e | e | e <;> rw [e]
  · exact ⟨0, atI_0, by omega, by omega⟩
  · exact ⟨1, atI_1, by omega, by omega⟩
  · exact ⟨3, atI_2, by omega, by omega⟩
  · exact ⟨7, atI_3, by omega, by omega⟩
theorem nmL_snoc {l : List Nat} {c : Nat} (h : nmL l = true) (hl : l.length < 8) (hc : namB c = true) : nmL (l ++ [c]) = true := by
  unfold nmL at *
  simp only [Bool.and_eq_true, decide_eq_true_eq] at *
  refine ⟨⟨by rw [List.length_append, List.length_singleton]; omega, ?_⟩, ?_⟩
  · cases l with
    | nil => exact absurd h.1.2 Bool.false_ne_true
    | cons x l => exact h.1.2
  · rw [List.all_append, h.2]; simp [hc]
/-- x[e], where e leaves the slot -/
theorem ixV_E {i : Nat} {B : Mo D} {δ δ' : Env} {d y : D} (h1 : δ[i]? = some (.imm d)) (h2 : B δ = some (.ok y, δ')) (h3 : δ'[i]? = some (.imm d)) : eIxV i B δ = lk (dIx d y) δ' := by
  rw [ixV_of h1 rfl (fun y' δ'' q => by rw [h2] at q; cases q; exact h3)]
  unfold ik
  rw [h2]
  show (match dIx d y with
    | some z => if isBor (Sl.imm d) = true then (if flatD z = true then some (Except.ok z, δ') else none) else some (Except.ok z, δ')
    | none => none) = _
  unfold lk
  cases dIx d y with
  | none => rfl
  | some z => rfl
theorem ev_name {ns : List Int} {d : D} (hd : IsPl ns d) : ∃ l d', m__law_name [.io d] = some (.ok (.str (mkS l)), [.io d']) ∧ IsPl ns d' ∧ DrL l := by
  obtain ⟨t1, d1, c1, i1, a1, b1⟩ := ev_tk hd (m := 6) (by omega) (by omega)
  obtain ⟨l1, e1, D1⟩ := six_nm a1 b1
  obtain ⟨t2, d2, c2, i2, a2, b2⟩ := ev_tk i1 (m := 3) (by omega) (by omega)
  by_cases h2 : t2 = 0
  · obtain ⟨t3, d3, c3, i3, a3, b3⟩ := ev_tk i2 (m := 26) (by omega) (by omega)
    obtain ⟨ch, e3, lo⟩ := at_abc a3 b3
    obtain ⟨t4, d4, c4, i4, a4, b4⟩ := ev_tk i3 (m := 4) (by omega) (by omega)
    obtain ⟨m, e4, m7, m2⟩ := four_at a4 b4
    have x3 := ix_str (by decide +kernel : abc.length ≤ 100) e3
    have x5 := add_str (by decide +kernel : abc.length ≤ 100) (by decide +kernel : digs.length ≤ 100)
    rw [← abc_eq] at x3
    rw [← abc_eq, ← digs_eq] at x5
    obtain ⟨δ', f1, d5, l, y3, rfl, i5, ll, nl⟩ := sFor_inv (I := (iRg rg1 (aCons (eIx (eLst (aCons (eC (.int 0)) (aCons (eC (.int 1)) (aCons (eC (.int 3)) (aCons (eC (.int 7)) aNil))))) (eCall m__law_take (aVr 0 (aCons (eC (.int 4)) aNil)))) aNil))) (T := gN 3)
      (S := (sAsg (gN 2) (eBin dAdd (eV 2) (eIx (eBin dAdd (eV 1) (eC (.str "0123456789"))) (eCall m__law_take (aVr 0 (aCons (eC (.int 36)) aNil))))))) (ds := rgD 0 m)
      (δ := [.io d3, .imm (.str "abcdefghijklmnopqrstuvwxyz"), .imm (.str (mkS [ch])), .no]) (δ0 := [.io d4, .imm (.str "abcdefghijklmnopqrstuvwxyz"), .imm (.str (mkS [ch])), .no])
      (fun k δ => ∃ (d5 : D) (l : List Nat) (y3 : Sl), δ = [.io d5, .imm (.str "abcdefghijklmnopqrstuvwxyz"), .imm (.str (mkS l)), y3] ∧ IsPl ns d5 ∧ l.length = 1 + k ∧ nmL l = true)
      (by
        have e4 : dIx (.lst [D.int 0, .int 1, .int 3, .int 7]) (.int t4) = some (.int (m : Nat)) := e4
        simp only [ix_lst] at e4
        simp! only [c4, e4, rg1_n (show m ≤ 1000 by omega)]) ⟨d4, [ch], .no, rfl, i4, rfl, by unfold nmL namB; simp [lo]⟩ (fun k d δ hk hδ => by
        obtain ⟨d5, l, y3, rfl, i5, ll, nl⟩ := hδ
        obtain ⟨hk, rfl⟩ := rgD_get hk
        obtain ⟨t6, d6, c6, i6, a6, b6⟩ := ev_tk i5 (m := 36) (by omega) (by omega)
        obtain ⟨c, e6, nc⟩ := at_both a6 b6
        have x6 := ix_str (by decide +kernel : (abc ++ digs).length ≤ 100) e6
        have x7 := add_str (l := l) (m := [c]) (by omega) (by simp)
        generalize (mkS (abc ++ digs)) = AB at *
        generalize (k : Int) = kk at *
        exact ⟨[.io d5, .imm (.str "abcdefghijklmnopqrstuvwxyz"), .imm (.str (mkS l)), .imm (.int kk)], [.io d6, .imm (.str "abcdefghijklmnopqrstuvwxyz"), .imm (.str (mkS (l ++ [c]))), .imm (.int kk)], by simp! only [], .inl (by simp! only [x5, c6, x6, x7]), d6, l ++ [c], _, rfl, i6, by rw [List.length_append, ll]; rfl, nmL_snoc nl (by omega) nc⟩)
    rw [rgD_len] at ll
    refine ⟨l, d5, (fn_rt (δ1 := [.io d5, .imm (.str "abcdefghijklmnopqrstuvwxyz"), .imm (.str (mkS l)), y3]) ?_).trans rfl, i5, nl, .inl (by omega)⟩
    unfold b__law_name
    refine ssq (by simp! only [] <;> rfl) ?_
    refine ssq (by simp! only [c1, e1] <;> rfl) ?_
    refine ssq (δ1 := [.io d5, .imm (.str "abcdefghijklmnopqrstuvwxyz"), .imm (.str (mkS l)), y3]) (st (by simp! only [c2, h2, decide_true]; rfl) ?_) (by simp! only [])
    have e5 : eIxV 1 (eCall m__law_take (aVr 0 (aCons (eC (.int 26)) aNil))) [.io d2, .imm (.str "abcdefghijklmnopqrstuvwxyz"), .imm (.str (mkS l1)), .no] = lk (some (.str (mkS [ch]))) [.io d3, .imm (.str "abcdefghijklmnopqrstuvwxyz"), .imm (.str (mkS l1)), .no] := by
      rw [ixV_E (d := .str "abcdefghijklmnopqrstuvwxyz") (y := .int t3) (δ' := [.io d3, .imm (.str "abcdefghijklmnopqrstuvwxyz"), .imm (.str (mkS l1)), .no]) rfl (by simp! only [c3]) rfl, x3]
    refine ssq (by simp! only [e5] <;> rfl) ?_
    exact f1
  · refine ⟨l1, d2, (fn_rt (δ1 := [.io d2, .imm (.str "abcdefghijklmnopqrstuvwxyz"), .imm (.str (mkS l1)), .no]) ?_).trans rfl, i2, D1⟩
    unfold b__law_name
    refine ssq (by simp! only [] <;> rfl) ?_
    refine ssq (by simp! only [c1, e1] <;> rfl) ?_
    refine ssq_f (by simp! only [c2, h2, decide_false] <;> rfl) ?_
    simp! only []
def zq (k : Nat) : List Nat := [122, 48 + k, 113]
def KdL (j : Nat) (l : List Nat) : Prop := nmL l = true ∧ (l.length ≠ 3 ∨ l = [101, 110, 100] ∨ (∃ c, l.getLast? = some c ∧ c ≤ 48 + j) ∨ l = zq j)
theorem str_dig : ∀ k : Nat, k < 10 → ((toString ((k : Nat) : Int) : String) : Str) = mkS [48 + k] ∧ ((k : Nat) : Int).natAbs.log2 < 1920 := by decide +kernel
theorem fStr_dig {k : Nat} (h : k < 10) : fStr [.int (k : Nat)] = some (.str (mkS [48 + k])) := by
  obtain ⟨h1, h2⟩ := str_dig k h
  show (if ((k : Nat) : Int).natAbs.log2 < 1920 then some (D.str ((toString ((k : Nat) : Int) : String) : Str)) else none) = _
  rw [if_pos h2, h1]
theorem cut6 {l : List Nat} : cutS (mkS l) none (some 6) = mkS (l.take 6) := by
  unfold cutS
  rw [mkS_cps, mkS_len, HT.sIx_none, List.drop_zero, Nat.sub_zero]
  have e : HT.sIx l.length l.length (some 6) = min 6 l.length := HT.sIx_nat _ _ 6
  rw [e]
  show mkS (l.take (min 6 l.length)) = _
  congr 1
  by_cases c : 6 ≤ l.length
  · rw [Nat.min_eq_left c]
  · rw [Nat.min_eq_right (by omega), List.take_length, List.take_of_length_le (by omega)]
theorem sl_s {l : List Nat} {a b : Option Int} (h : l.length ≤ 100) : dSl (.str (mkS l)) a b = some (.str (cutS (mkS l) a b)) := by
  show (if (mkS l).length ≤ sizeLine then some (D.str (cutS (mkS l) a b)) else none) = _
  rw [mkS_len, if_pos (small_len (by omega))]
theorem nmL_take {l : List Nat} (h : nmL l = true) : nmL (l.take 6) = true := by
  unfold nmL at *
  simp only [Bool.and_eq_true, decide_eq_true_eq, List.all_eq_true] at *
  refine ⟨⟨by rw [List.length_take]; omega, ?_⟩, fun x hx => h.2 x (List.mem_of_mem_take hx)⟩
  cases l with
  | nil => exact absurd h.1.2 Bool.false_ne_true
  | cons x l => exact h.1.2
theorem dig_nam {k : Nat} (h : k < 10) : namB (48 + k) = true := by unfold namB; simp; omega
theorem zq_nm {k : Nat} (h : k < 10) : nmL (zq k) = true := by
  have := dig_nam h
  unfold nmL zq
  simp [namB, lowB]
  omega
/-- the third try is new -/
theorem zq_new {k : Nat} {names : List (List Nat)} (hk : k < 10) (hl : names.length = k) (h : ∀ j l, names[j]? = some l → KdL j l) : zq k ∉ names := fun c => by
  obtain ⟨j, hj, e⟩ := List.getElem_of_mem c
  have := (h j _ (List.getElem?_eq_getElem hj)).2
  rw [e] at this
  rcases this with z | z | ⟨x, z, z2⟩ | z
  · exact z rfl
  · unfold zq at z; simp at z
  · unfold zq at z; simp at z; omega
  · unfold zq at z; simp at z; omega
theorem mem_mk {l : List Nat} {names : List (List Nat)} : (mkS l ∈ names.map mkS) ↔ l ∈ names := by
  constructor
  · intro h
    obtain ⟨m, hm, e⟩ := List.mem_map.mp h
    rw [← mkS_inj e]; exact hm
  · exact fun h => List.mem_map.mpr ⟨l, h, rfl⟩
end M
set_option Elab.async false
set_option linter.all false
set_option maxRecDepth 100000
set_option maxHeartbeats 2000000
namespace M
open PySem L2
local macro_rules
  | `(tactic| simp! only [$as,*]) => `(tactic| simp only [x_bind, bk_ok, bk_ite, x_ret, x_lift, lk_some, lk_ite, app_ite, x_eC, x_eV, vk_imm, vk_own, vk_bor, x_give, gk_own, x_bin, x_un, x_ix, x_tru, x_eB, dBl_bl, dTru_bl, dTru_int, dTru_lst, x_and, x_or, x_not, x_eAnd, x_eOr, x_eNot, x_eIf, x_chain, x_aNil, x_aCons, x_aVr, rk_own, rk_io, x_aVb, tk_own, tk_io, tk_imm, tk_bor, x_eTup, x_eLst, imms_nil, imms_im, x_eF, x_call, ixV_C, jk_imm, jk_own, jk_io, jk_bor, flk_int, x_lenV, nk_imm, nk_own, nk_io, nk_bor, x_inV, hk_imm, hk_own, hk_io, hk_bor, x_sNx, x_pass, x_cont, x_brk, x_seq, sk_nx, sk_rt, sk_rtO, sk_ct, sk_bk, sk_ite, x_drop, x_sRet, x_sRetO, x_sIf, x_asg, x_asgO, x_gN, x_gO, x_gNil, x_gCons, x_gTt, x_gTl, x_sApp, x_sSet, x_chM, ck_own, ck_io, x_iOf, x_iRg, x_fn, fk_rt, fk_nx, fk_ite, ios_z, ios_s, keep_io, keep_imm, keep_own, keep_bor, keep_no, dSub_i, dAdd_i, dLt_i, dLe_i, dGt_i, dGe_i, dEq_int, dNe_int, ix_lst, ix_scr, ix_tup, atI_0, atI_1, atI_2, atI_3, List.getElem?_cons_zero, List.getElem?_cons_succ, List.set_cons_zero, List.set_cons_succ, List.length_cons, List.length_nil, List.cons_append, List.nil_append, List.replicate_succ, List.replicate_zero, Option.map_some, Option.bind_some, Nat.reduceAdd, Nat.reduceSub, Nat.reduceLT, Nat.reduceLeDiff, if_true, if_false, Bool.false_eq_true, decide_eq_true_eq, reduceIte, ne_eq, not_false_eq_true, Nat.lt_add_left_iff_pos, Nat.zero_lt_succ, x_call1, x_call2, x_call3, x_call4, dk1, dk2, dk3, dk4, ixV_V, Nat.reduceEqDiff, not_false_eq_true, x_isLst, x_isSet, List.map_cons, List.map_nil, Option.map_none, Option.bind_none, x_eSl, x_eP0, x_eP1, part_i, $as,*])
theorem ev_namesK {ns : List Int} {d : D} {n : Nat} (hd : IsPl ns d) (hn : n ≤ 10) : ∃ (names : List (List Nat)) (d' : D), m__law_names [.io d, .imm (.int (n : Nat))] = some (.ok (strsD (names.map mkS)), [.io d', .no]) ∧ IsPl ns d' ∧ names.length = n ∧ names.Nodup ∧ (∀ l ∈ names, nmL l = true) ∧ ∀ j l, names[j]? = some l → KdL j l := by
  obtain ⟨δ', f1, d1, names, y3, y4, rfl, i1, ln, nd, kd⟩ := sFor_inv (I := (iRg rg1 (aCons (eV 1) aNil))) (T := gN 3)
    (S := (sSeq (sAsg (gN 4) (eCall m__law_name (aVr 0 aNil)))
 (sSeq (sIf (eB (eInV false (eV 4) 2))
 (sAsg (gN 4) (eBin dAdd (eSl dSl (eV 4) eP0 (eP1 (eC (.int 6)))) (eF fStr (aCons (eV 3) aNil))))
 sNx)
 (sSeq (sIf (eB (eInV false (eV 4) 2))
 (sAsg (gN 4) (eBin dAdd (eBin dAdd (eC (.str "z")) (eF fStr (aCons (eV 3) aNil))) (eC (.str "q"))))
 sNx)
 (sApp 2 (eV 4)))))) (ds := rgD 0 n)
    (δ := [.io d, .imm (.int (n : Nat)), .own (strsD []), .no, .no]) (δ0 := [.io d, .imm (.int (n : Nat)), .own (strsD []), .no, .no])
    (fun k δ => ∃ (d1 : D) (names : List (List Nat)) (y3 y4 : Sl), δ = [.io d1, .imm (.int (n : Nat)), .own (strsD (names.map mkS)), y3, y4] ∧ IsPl ns d1 ∧ names.length = k ∧ names.Nodup ∧ ∀ j l, names[j]? = some l → KdL j l)
    (by simp! only [rg1_n (show n ≤ 1000 by omega)]) ⟨d, [], .no, .no, rfl, hd, rfl, List.nodup_nil, fun j l h => by simp at h⟩ (fun k x δ hk hδ => by
      obtain ⟨d1, names, y3, y4, rfl, i1, ln, nd, kd⟩ := hδ
      obtain ⟨hk, rfl⟩ := rgD_get hk
      obtain ⟨l0, d2, e1, i2, dr⟩ := ev_name i1
      have hk10 : k < 10 := by omega
      have nms : ∀ s ∈ names.map mkS, nmB s = true := fun s hs => by
        obtain ⟨l, hl, rfl⟩ := List.mem_map.mp hs
        obtain ⟨j, hj, e⟩ := List.getElem_of_mem hl
        rw [nmB_mk, ← e]
        exact (kd j _ (List.getElem?_eq_getElem hj)).1
      have isin : ∀ l, nmL l = true → dIn false (.str (mkS l)) (strsD (names.map mkS)) = some (.bl (decide (l ∈ names))) := fun l hl => by
        rw [dIn_strs (by rw [nmB_mk]; exact hl) nms, if_neg Bool.false_ne_true]
        congr 2
        exact decide_eq_decide.mpr mem_mk
      have app : ∀ l, dAppend (.str (mkS l)) (strsD (names.map mkS)) = some (strsD ((names ++ [l]).map mkS)) := fun l => by
        unfold strsD
        rw [dApp_l (by rw [List.length_map, List.length_map]; omega), List.map_append, List.map_append]; rfl
      have il : iLk (some (.own (strsD (names.map mkS)))) = true := rfl
      have fs := fStr_dig hk10
      have call1 : callM m__law_name [.vr 0] [.io d1, .imm (.int (n : Nat)), .own (strsD (names.map mkS)), .imm (.int ((k : Nat) : Int)), y4] = some (.ok (.str (mkS l0)), [.io d2, .imm (.int (n : Nat)), .own (strsD (names.map mkS)), .imm (.int ((k : Nat) : Int)), y4]) :=
        call_of (by simp only [argSls, argSl, List.getElem?_cons_zero]) ⟨by simp [vrs], by simp [vbs]⟩ e1 (by simp only [backs, List.getElem?_cons_zero, List.set_cons_zero])
      have fin : ∀ l y, nmL l = true → l ∉ names → KdL k l → ∃ (d' : D) (names' : List (List Nat)) (y3 y4 : Sl), [Sl.io d2, .imm (.int (n : Nat)), .own (strsD ((names ++ [l]).map mkS)), .imm (.int ((k : Nat) : Int)), y] = [.io d', .imm (.int (n : Nat)), .own (strsD (names'.map mkS)), y3, y4] ∧ IsPl ns d' ∧ names'.length = k + 1 ∧ names'.Nodup ∧ ∀ j l, names'[j]? = some l → KdL j l := fun l y h1 h2 h3 => by
        refine ⟨d2, names ++ [l], _, _, rfl, i2, by rw [List.length_append, ln]; rfl, ?_, fun j l' hj => ?_⟩
        · rw [List.nodup_append]
          exact ⟨nd, by simp, fun a ha b hb e => by rw [List.mem_singleton.mp hb] at e; exact h2 (e ▸ ha)⟩
        · by_cases c : j < names.length
          · rw [List.getElem?_append_left c] at hj; exact kd j l' hj
          · rw [List.getElem?_append_right (by omega)] at hj
            have : j - names.length = 0 := by
              refine Classical.byContradiction fun z => ?_
              rw [List.getElem?_eq_none (by rw [List.length_singleton]; omega)] at hj; cases hj
            rw [this] at hj
            cases hj
            have : j = k := by omega
            rw [this]; exact h3
      by_cases in1 : l0 ∈ names
      · have l0len : l0.length ≤ 100 := by
          have := dr.1
          unfold nmL at this
          simp only [Bool.and_eq_true, decide_eq_true_eq] at this
          omega
        have nl1 : nmL (l0.take 6 ++ [48 + k]) = true := nmL_snoc (nmL_take dr.1) (by rw [List.length_take]; omega) (dig_nam hk10)
        have x1 := add_str (l := l0.take 6) (m := [48 + k]) (by rw [List.length_take]; omega) (by simp)
        have s6 := sl_s (l := l0) (a := none) (b := some 6) l0len
        rw [cut6] at s6
        by_cases in2 : (l0.take 6 ++ [48 + k]) ∈ names
        · have zn := zq_new hk10 ln kd
          have x2 : dAdd (.str "z") (.str (mkS [48 + k])) = some (.str (mkS [122, 48 + k])) := add_str (l := [122]) (m := [48 + k]) (by simp) (by simp)
          have x3 : dAdd (.str (mkS [122, 48 + k])) (.str "q") = some (.str (mkS (zq k))) := add_str (l := [122, 48 + k]) (m := [113]) (by simp) (by simp)
          have i0 := isin l0 dr.1
          have i3 := isin _ nl1
          have a3 := app (zq k)
          have fi := fin (zq k) (.imm (.str (mkS (zq k)))) (zq_nm hk10) zn ⟨zq_nm hk10, .inr (.inr (.inr rfl))⟩
          generalize strsD (names.map mkS) = NM at *
          generalize strsD ((names ++ [zq k]).map mkS) = NM' at *
          generalize ((k : Nat) : Int) = kk at *
          refine ⟨[.io d1, .imm (.int (n : Nat)), .own NM, .imm (.int kk), y4], _, by simp! only [], .inl ?_, fi⟩
          refine ssq (by simp! only [call1] <;> rfl) ?_
          refine ssq (st (by simp! only [i0, in1, decide_true]; rfl) (by simp! only [s6, fs, x1]; rfl)) ?_
          refine ssq (st (by simp! only [i3, in2, decide_true]; rfl) (by simp! only [fs, x2, x3]; rfl)) ?_
          simp! only [il, a3]
        · have i0 := isin l0 dr.1
          have i3 := isin _ nl1
          have a3 := app (l0.take 6 ++ [48 + k])
          have fi := fin (l0.take 6 ++ [48 + k]) (.imm (.str (mkS (l0.take 6 ++ [48 + k])))) nl1 in2 ⟨nl1, .inr (.inr (.inl ⟨48 + k, by simp, by omega⟩))⟩
          generalize strsD (names.map mkS) = NM at *
          generalize strsD ((names ++ [l0.take 6 ++ [48 + k]]).map mkS) = NM' at *
          generalize ((k : Nat) : Int) = kk at *
          refine ⟨[.io d1, .imm (.int (n : Nat)), .own NM, .imm (.int kk), y4], _, by simp! only [], .inl ?_, fi⟩
          refine ssq (by simp! only [call1] <;> rfl) ?_
          refine ssq (st (by simp! only [i0, in1, decide_true]; rfl) (by simp! only [s6, fs, x1]; rfl)) ?_
          refine ssq_f (by simp! only [i3, in2, decide_false] <;> rfl) ?_
          simp! only [il, a3]
      · have i0 := isin l0 dr.1
        have a3 := app l0
        have fi := fin l0 (.imm (.str (mkS l0))) dr.1 in1 ⟨dr.1, dr.2.elim .inl fun z => .inr (.inl z)⟩
        generalize strsD (names.map mkS) = NM at *
        generalize strsD ((names ++ [l0]).map mkS) = NM' at *
        generalize ((k : Nat) : Int) = kk at *
        refine ⟨[.io d1, .imm (.int (n : Nat)), .own NM, .imm (.int kk), y4], _, by simp! only [], .inl ?_, fi⟩
        refine ssq (by simp! only [call1] <;> rfl) ?_
        refine ssq_f (by simp! only [i0, in1, decide_false] <;> rfl) ?_
        refine ssq_f (by simp! only [i0, in1, decide_false] <;> rfl) ?_
        simp! only [il, a3])
  rw [rgD_len] at ln
  refine ⟨names, d1, (fn_rt (δ1 := [.io d1, .imm (.int (n : Nat)), .imm (strsD (names.map mkS)), y3, y4]) ?_).trans rfl, i1, ln, nd, fun l hl => ?_, kd⟩
  · unfold b__law_names
    refine ssq (δ1 := [.io d, .imm (.int (n : Nat)), .own (strsD []), .no, .no]) rfl ?_
    refine ssq f1 ?_
    simp! only []
  · obtain ⟨j, hj, e⟩ := List.getElem_of_mem hl
    rw [← e]
    exact (kd j _ (List.getElem?_eq_getElem hj)).1
theorem ev_names {ns : List Int} {d : D} {n : Nat} (hd : IsPl ns d) (hn : n ≤ 10) : ∃ (names : List (List Nat)) (d' : D), m__law_names [.io d, .imm (.int (n : Nat))] = some (.ok (strsD (names.map mkS)), [.io d', .no]) ∧ IsPl ns d' ∧ names.length = n ∧ names.Nodup ∧ ∀ l ∈ names, nmL l = true := by
  obtain ⟨names, d', e, i, ln, nd, nok, _⟩ := ev_namesK hd hn
  exact ⟨names, d', e, i, ln, nd, nok⟩
end M
set_option Elab.async false
set_option linter.all false
set_option maxRecDepth 100000
set_option maxHeartbeats 2000000
namespace M
open PySem L2
local macro_rules
  | `(tactic| simp! only [$as,*]) => `(tactic| simp only [x_bind, bk_ok, bk_ite, x_ret, x_lift, lk_some, lk_ite, app_ite, x_eC, x_eV, vk_imm, vk_own, vk_bor, x_give, gk_own, x_bin, x_un, x_ix, x_tru, x_eB, dBl_bl, dTru_bl, dTru_int, dTru_lst, x_and, x_or, x_not, x_eAnd, x_eOr, x_eNot, x_eIf, x_chain, x_aNil, x_aCons, x_aVr, rk_own, rk_io, x_aVb, tk_own, tk_io, tk_imm, tk_bor, x_eTup, x_eLst, imms_nil, imms_im, x_eF, x_call, ixV_C, jk_imm, jk_own, jk_io, jk_bor, flk_int, x_lenV, nk_imm, nk_own, nk_io, nk_bor, x_inV, hk_imm, hk_own, hk_io, hk_bor, x_sNx, x_pass, x_cont, x_brk, x_seq, sk_nx, sk_rt, sk_rtO, sk_ct, sk_bk, sk_ite, x_drop, x_sRet, x_sRetO, x_sIf, x_asg, x_asgO, x_gN, x_gO, x_gNil, x_gCons, x_gTt, x_gTl, x_sApp, x_sSet, x_chM, ck_own, ck_io, x_iOf, x_iRg, x_fn, fk_rt, fk_nx, fk_ite, ios_z, ios_s, keep_io, keep_imm, keep_own, keep_bor, keep_no, dSub_i, dAdd_i, dLt_i, dLe_i, dGt_i, dGe_i, dEq_int, dNe_int, ix_lst, ix_scr, ix_tup, atI_0, atI_1, atI_2, atI_3, List.getElem?_cons_zero, List.getElem?_cons_succ, List.set_cons_zero, List.set_cons_succ, List.length_cons, List.length_nil, List.cons_append, List.nil_append, List.replicate_succ, List.replicate_zero, Option.map_some, Option.bind_some, Nat.reduceAdd, Nat.reduceSub, Nat.reduceLT, Nat.reduceLeDiff, if_true, if_false, Bool.false_eq_true, decide_eq_true_eq, reduceIte, ne_eq, not_false_eq_true, Nat.lt_add_left_iff_pos, Nat.zero_lt_succ, x_call1, x_call2, x_call3, x_call4, dk1, dk2, dk3, dk4, ixV_V, Nat.reduceEqDiff, not_false_eq_true, x_isLst, x_isSet, List.map_cons, List.map_nil, Option.map_none, Option.bind_none, x_eSl, x_eP0, x_eP1, part_i, $as,*])
abbrev Row := List (Option Int)
def rowT (r : Row) : D := .tup (r.map oI)
def rowsT (rs : List Row) : D := .tup (rs.map rowT)
def RdOk (o : Option Int) : Prop := ∀ v, o = some v → 0 ≤ v ∧ v ≤ 999
structure Rect (w h : Nat) (rs : List Row) : Prop where
  len : rs.length = h
  wid : ∀ r ∈ rs, r.length = w
  rd : ∀ r ∈ rs, ∀ o ∈ r, RdOk o
theorem fine_oI (o : Option Int) : Fine (oI o) ∧ (toPy (oI o)).depth ≤ 0 := by
  cases o with
  | none => exact ⟨⟨rfl, by unfold oI toPy PyData.depth; omega, by unfold oI toPy PyData.eqv; rfl⟩, by unfold oI toPy PyData.depth; omega⟩
  | some v => exact fine_int' v
theorem fine_row' (r : Row) : Fine (rowT r) ∧ (toPy (rowT r)).depth ≤ 1 := fine_tup (k := 0) (by omega) fun d m => by
  obtain ⟨o, _, rfl⟩ := List.mem_map.mp m; exact fine_oI o
theorem fine_rowsT (rs : List Row) : Fine (rowsT rs) ∧ (toPy (rowsT rs)).depth ≤ 2 := fine_tup (k := 1) (by omega) fun d m => by
  obtain ⟨r, _, rfl⟩ := List.mem_map.mp m; exact fine_row' r
theorem eight_at {t v : Int} (h0 : 0 ≤ t) (h : t < 8) (v0 : 0 ≤ v) (v1 : v < 1000) : ∃ o, atI [D.non, .int 0, .int 999, .int 7, .int 8, .int 9, .int v, .int 10] t = some (oI o) ∧ RdOk o := by
  have : t = 0 ∨ t = 1 ∨ t = 2 ∨ t = 3 ∨ t = 4 ∨ t = 5 ∨ t = 6 ∨ t = 7 := by omega
  have ok : ∀ x : Int, 0 ≤ x → x ≤ 999 → RdOk (some x) := fun x a b y e => by cases e; exact ⟨a, b⟩
  rcases this with e | e | e | e | e | e | e | e <;> rw [e]
  · exact ⟨none, atI_0, fun y e => by cases e⟩
  · exact ⟨some 0, atI_1, ok 0 (by omega) (by omega)⟩
  · exact ⟨some 999, atI_2, ok 999 (by omega) (by omega)⟩
  · exact ⟨some 7, atI_3, ok 7 (by omega) (by omega)⟩
  · exact ⟨some 8, rfl, ok 8 (by omega) (by omega)⟩
  · exact ⟨some 9, rfl, ok 9 (by omega) (by omega)⟩
  · exact ⟨some v, rfl, ok v v0 (by omega)⟩
  · exact ⟨some 10, rfl, ok 10 (by omega) (by omega)⟩
theorem ev_reading {ns : List Int} {d : D} (hd : IsPl ns d) : ∃ o d', m__law_reading [.io d] = some (.ok (oI o), [.io d']) ∧ IsPl ns d' ∧ RdOk o := by
  obtain ⟨t1, d1, c1, i1, a1, b1⟩ := ev_tk hd (m := 1000) (by omega) (by omega)
  obtain ⟨t2, d2, c2, i2, a2, b2⟩ := ev_tk i1 (m := 8) (by omega) (by omega)
  obtain ⟨o, e, r⟩ := eight_at a2 b2 a1 b1
  refine ⟨o, d2, (fn_rt (δ1 := [.io d2]) ?_).trans rfl, i2, r⟩
  unfold b__law_reading
  simp! only [c1, c2, e]
theorem ev_rd {ns : List Int} {d : D} (hd : IsPl ns d) : ∃ o d', (∀ δ, callM m__law_reading [.vr 0] (.io d :: δ) = some (.ok (oI o), .io d' :: δ)) ∧ IsPl ns d' ∧ RdOk o := by
  obtain ⟨o, d', e, i, r⟩ := ev_reading hd
  exact ⟨o, d', fun δ => call_of (by simp only [argSls, argSl, List.getElem?_cons_zero]) ⟨by simp [vrs], by simp [vbs]⟩ e (by simp only [backs, List.getElem?_cons_zero, List.set_cons_zero]), i, r⟩
theorem ev_rows {ns : List Int} {d : D} {most : Nat} (hd : IsPl ns d) (h1 : 1 ≤ most) (h2 : most ≤ 12) : ∃ (w h : Nat) (rs : List Row) (d' : D), m__law_rows [.io d, .imm (.int (most : Nat))] = some (.ok (rowsT rs), [.io d', .no]) ∧ IsPl ns d' ∧ Rect w h rs ∧ 1 ≤ w ∧ w ≤ most ∧ 1 ≤ h ∧ h ≤ most := by
  obtain ⟨t1, d1, c1, i1, a1, b1⟩ := ev_tk hd (m := (most : Nat)) (by omega) (by omega)
  obtain ⟨t2, d2, c2, i2, a2, b2⟩ := ev_tk i1 (m := (most : Nat)) (by omega) (by omega)
  obtain ⟨w, hw⟩ : ∃ w : Nat, 1 + t1 = (w : Int) := ⟨(1 + t1).toNat, by omega⟩
  obtain ⟨h, hh⟩ : ∃ h : Nat, 1 + t2 = (h : Int) := ⟨(1 + t2).toNat, by omega⟩
  obtain ⟨ys, δ', e, ⟨rs, d3, erow, rfl, i3, ok⟩, ly⟩ := eLc_acc (I := (iRg rg1 (aCons (eV 3) aNil))) (T := gN 5) (E := (eF fTuple (aCons (eLc (iRg rg1 (aCons (eV 2) aNil)) (gN 4) tYesM (eCall m__law_reading (aVr 0 aNil)) [4]) aNil))) (vs := [5]) (ds := rgD 0 h)
    (δ := [.io d2, .imm (.int (most : Nat)), .imm (.int (w : Nat)), .imm (.int (h : Nat)), .no, .no]) (δ0 := [.io d2, .imm (.int (most : Nat)), .imm (.int (w : Nat)), .imm (.int (h : Nat)), .no, .no])
    (fun acc δ => ∃ (rs : List Row) (d3 : D), acc = rs.map rowT ∧ δ = [.io d3, .imm (.int (most : Nat)), .imm (.int (w : Nat)), .imm (.int (h : Nat)), .no, .no] ∧ IsPl ns d3 ∧ ∀ r ∈ rs, r.length = w ∧ ∀ o ∈ r, RdOk o)
    (by simp! only [rg1_n (show h ≤ 1000 by omega)]) (by rw [rgD_len]; omega) ⟨[], d2, rfl, rfl, i2, fun r hr => by simp at hr⟩ (fun i x acc δ hx hl hI => by
      obtain ⟨rs, d3, rfl, rfl, i3, ok⟩ := hI
      obtain ⟨ys, δ', e, ⟨r, d4, erow, rfl, i4, ok4⟩, ly⟩ := eLc_acc (I := (iRg rg1 (aCons (eV 2) aNil))) (T := gN 4) (E := eCall m__law_reading (aVr 0 aNil)) (vs := [4]) (ds := rgD 0 w)
        (δ := [.io d3, .imm (.int (most : Nat)), .imm (.int (w : Nat)), .imm (.int (h : Nat)), .no, .imm x]) (δ0 := [.io d3, .imm (.int (most : Nat)), .imm (.int (w : Nat)), .imm (.int (h : Nat)), .no, .imm x])
        (fun acc δ => ∃ (r : Row) (d4 : D), acc = r.map oI ∧ δ = [.io d4, .imm (.int (most : Nat)), .imm (.int (w : Nat)), .imm (.int (h : Nat)), .no, .imm x] ∧ IsPl ns d4 ∧ ∀ o ∈ r, RdOk o)
        (by simp! only [rg1_n (show w ≤ 1000 by omega)]) (by rw [rgD_len]; omega) ⟨[], d3, rfl, rfl, i3, fun r hr => by simp at hr⟩ (fun i y acc δ hy hl hI => by
          obtain ⟨r, d4, rfl, rfl, i4, ok4⟩ := hI
          obtain ⟨o, d5, c5, i5, r5⟩ := ev_rd i4
          refine ⟨[.io d4, .imm (.int (most : Nat)), .imm (.int (w : Nat)), .imm (.int (h : Nat)), .imm y, .imm x], oI o, [.io d5, .imm (.int (most : Nat)), .imm (.int (w : Nat)), .imm (.int (h : Nat)), .imm y, .imm x], by simp! only [], by simp! only [c5], r ++ [o], d5, by rw [List.map_append]; rfl, rfl, i5, fun z hz => ?_⟩
          rcases List.mem_append.mp hz with hz | hz
          · exact ok4 z hz
          · rw [List.mem_singleton.mp hz]; exact r5)
      subst erow
      rw [List.length_map, rgD_len] at ly
      have ft : fTuple [.lst (r.map oI)] = some (rowT r) := rfl
      refine ⟨[.io d3, .imm (.int (most : Nat)), .imm (.int (w : Nat)), .imm (.int (h : Nat)), .no, .imm x], rowT r, [.io d4, .imm (.int (most : Nat)), .imm (.int (w : Nat)), .imm (.int (h : Nat)), .no, .imm x], by simp! only [], by simp! only [e, ft], rs ++ [r], d4, by rw [List.map_append]; rfl, rfl, i4, fun z hz => ?_⟩
      rcases List.mem_append.mp hz with hz | hz
      · exact ok z hz
      · rw [List.mem_singleton.mp hz]; exact ⟨ly, ok4⟩)
  subst erow
  rw [List.length_map, rgD_len] at ly
  have ft : fTuple [.lst (rs.map rowT)] = some (rowsT rs) := rfl
  refine ⟨w, h, rs, d3, (fn_rt (δ1 := [.io d3, .imm (.int (most : Nat)), .imm (.int (w : Nat)), .imm (.int (h : Nat)), .no, .no]) ?_).trans rfl, i3, ⟨ly, fun r hr => (ok r hr).1, fun r hr => (ok r hr).2⟩, by omega, by omega, by omega, by omega⟩
  unfold b__law_rows
  refine ssq (by simp! only [c1, hw] <;> rfl) ?_
  refine ssq (by simp! only [c2, hh] <;> rfl) ?_
  simp! only [e, ft]
end M
set_option Elab.async false
set_option linter.all false
set_option maxRecDepth 100000
set_option maxHeartbeats 2000000
namespace M
open PySem L2
local macro_rules
  | `(tactic| simp! only [$as,*]) => `(tactic| simp only [x_bind, bk_ok, bk_ite, x_ret, x_lift, lk_some, lk_ite, app_ite, x_eC, x_eV, vk_imm, vk_own, vk_bor, x_give, gk_own, x_bin, x_un, x_ix, x_tru, x_eB, dBl_bl, dTru_bl, dTru_int, dTru_lst, x_and, x_or, x_not, x_eAnd, x_eOr, x_eNot, x_eIf, x_chain, x_aNil, x_aCons, x_aVr, rk_own, rk_io, x_aVb, tk_own, tk_io, tk_imm, tk_bor, x_eTup, x_eLst, imms_nil, imms_im, x_eF, x_call, ixV_C, jk_imm, jk_own, jk_io, jk_bor, flk_int, x_lenV, nk_imm, nk_own, nk_io, nk_bor, x_inV, hk_imm, hk_own, hk_io, hk_bor, x_sNx, x_pass, x_cont, x_brk, x_seq, sk_nx, sk_rt, sk_rtO, sk_ct, sk_bk, sk_ite, x_drop, x_sRet, x_sRetO, x_sIf, x_asg, x_asgO, x_gN, x_gO, x_gNil, x_gCons, x_gTt, x_gTl, x_sApp, x_sSet, x_chM, ck_own, ck_io, x_iOf, x_iRg, x_fn, fk_rt, fk_nx, fk_ite, ios_z, ios_s, keep_io, keep_imm, keep_own, keep_bor, keep_no, dSub_i, dAdd_i, dLt_i, dLe_i, dGt_i, dGe_i, dEq_int, dNe_int, ix_lst, ix_scr, ix_tup, atI_0, atI_1, atI_2, atI_3, List.getElem?_cons_zero, List.getElem?_cons_succ, List.set_cons_zero, List.set_cons_succ, List.length_cons, List.length_nil, List.cons_append, List.nil_append, List.replicate_succ, List.replicate_zero, Option.map_some, Option.bind_some, Nat.reduceAdd, Nat.reduceSub, Nat.reduceLT, Nat.reduceLeDiff, if_true, if_false, Bool.false_eq_true, decide_eq_true_eq, reduceIte, ne_eq, not_false_eq_true, Nat.lt_add_left_iff_pos, Nat.zero_lt_succ, x_call1, x_call2, x_call3, x_call4, dk1, dk2, dk3, dk4, ixV_V, Nat.reduceEqDiff, not_false_eq_true, x_isLst, x_isSet, List.map_cons, List.map_nil, Option.map_none, Option.bind_none, x_eSl, x_eP0, x_eP1, part_i, $as,*])
def isiV' (T : String) (d : D) : Option D := if notScr d = true then (kitB (tyN d) T).map D.bl else none
theorem x_isi2' {T : String} {E : Mo D} {δ : Env} : eIsi2 T E δ = bk (fun d => Mo.lift (isiV' T d)) (E δ) := x_bind
/-- neither a dict nor the script -/
def plain : D → Bool
  | .scr _ => false | .dK _ => false | .dT _ => false | .alb _ _ => false | .bld _ _ _ _ => false | _ => true
def isStr : D → Bool | .str _ => true | _ => false
def isTup : D → Bool | .tup _ => true | _ => false
def isWh : D → Bool | .int _ => true | _ => false
def isBl : D → Bool | .bl _ => true | _ => false
theorem kbs : (kitB "NoneType" "int" = some false ∧ kitB "bool" "int" = some true ∧ kitB "int" "int" = some true ∧ kitB "str" "int" = some false ∧ kitB "tuple" "int" = some false ∧ kitB "list" "int" = some false)
  ∧ (kitB "NoneType" "bool" = some false ∧ kitB "bool" "bool" = some true ∧ kitB "int" "bool" = some false ∧ kitB "str" "bool" = some false ∧ kitB "tuple" "bool" = some false ∧ kitB "list" "bool" = some false)
  ∧ (kitB "NoneType" "str" = some false ∧ kitB "bool" "str" = some false ∧ kitB "int" "str" = some false ∧ kitB "str" "str" = some true ∧ kitB "tuple" "str" = some false ∧ kitB "list" "str" = some false)
  ∧ (kitB "NoneType" "tuple" = some false ∧ kitB "bool" "tuple" = some false ∧ kitB "int" "tuple" = some false ∧ kitB "str" "tuple" = some false ∧ kitB "tuple" "tuple" = some true ∧ kitB "list" "tuple" = some false) := by decide +kernel
theorem isi_int {d : D} (h : plain d = true) : isiV' "int" d = some (.bl (isWh d || isBl d)) := by
  obtain ⟨⟨a, b, c, e, f, g⟩, _⟩ := kbs
  cases d with
  | scr _ => cases h
  | dK _ => cases h
  | dT _ => cases h
  | alb _ _ => cases h
  | bld _ _ _ _ => cases h
  | non => show (kitB "NoneType" "int").map D.bl = _; rw [a]; rfl
  | bl _ => show (kitB "bool" "int").map D.bl = _; rw [b]; rfl
  | int _ => show (kitB "int" "int").map D.bl = _; rw [c]; rfl
  | str _ => show (kitB "str" "int").map D.bl = _; rw [e]; rfl
  | tup _ => show (kitB "tuple" "int").map D.bl = _; rw [f]; rfl
  | lst _ => show (kitB "list" "int").map D.bl = _; rw [g]; rfl
theorem isi_bool {d : D} (h : plain d = true) : isiV' "bool" d = some (.bl (isBl d)) := by
  obtain ⟨_, ⟨a, b, c, e, f, g⟩, _⟩ := kbs
  cases d with
  | scr _ => cases h
  | dK _ => cases h
  | dT _ => cases h
  | alb _ _ => cases h
  | bld _ _ _ _ => cases h
  | non => show (kitB "NoneType" "bool").map D.bl = _; rw [a]; rfl
  | bl _ => show (kitB "bool" "bool").map D.bl = _; rw [b]; rfl
  | int _ => show (kitB "int" "bool").map D.bl = _; rw [c]; rfl
  | str _ => show (kitB "str" "bool").map D.bl = _; rw [e]; rfl
  | tup _ => show (kitB "tuple" "bool").map D.bl = _; rw [f]; rfl
  | lst _ => show (kitB "list" "bool").map D.bl = _; rw [g]; rfl
theorem isi_str {d : D} (h : plain d = true) : isiV' "str" d = some (.bl (isStr d)) := by
  obtain ⟨_, _, ⟨a, b, c, e, f, g⟩, _⟩ := kbs
  cases d with
  | scr _ => cases h
  | dK _ => cases h
  | dT _ => cases h
  | alb _ _ => cases h
  | bld _ _ _ _ => cases h
  | non => show (kitB "NoneType" "str").map D.bl = _; rw [a]; rfl
  | bl _ => show (kitB "bool" "str").map D.bl = _; rw [b]; rfl
  | int _ => show (kitB "int" "str").map D.bl = _; rw [c]; rfl
  | str _ => show (kitB "str" "str").map D.bl = _; rw [e]; rfl
  | tup _ => show (kitB "tuple" "str").map D.bl = _; rw [f]; rfl
  | lst _ => show (kitB "list" "str").map D.bl = _; rw [g]; rfl
theorem isi_tup {d : D} (h : plain d = true) : isiV' "tuple" d = some (.bl (isTup d)) := by
  obtain ⟨_, _, _, ⟨a, b, c, e, f, g⟩⟩ := kbs
  cases d with
  | scr _ => cases h
  | dK _ => cases h
  | dT _ => cases h
  | alb _ _ => cases h
  | bld _ _ _ _ => cases h
  | non => show (kitB "NoneType" "tuple").map D.bl = _; rw [a]; rfl
  | bl _ => show (kitB "bool" "tuple").map D.bl = _; rw [b]; rfl
  | int _ => show (kitB "int" "tuple").map D.bl = _; rw [c]; rfl
  | str _ => show (kitB "str" "tuple").map D.bl = _; rw [e]; rfl
  | tup _ => show (kitB "tuple" "tuple").map D.bl = _; rw [f]; rfl
  | lst _ => show (kitB "list" "tuple").map D.bl = _; rw [g]; rfl
theorem ev_wh {d : D} (h : plain d = true) : m_is_whole [.imm d] = some (.ok (.bl (isWh d)), [.no]) := by
  have e1 := isi_int h
  have e2 := isi_bool h
  refine (fn_rt (δ1 := [.imm d]) ?_).trans rfl
  unfold b_is_whole
  cases a : isWh d <;> cases b : isBl d
  · rw [a, b] at e1; rw [b] at e2; simp! only [x_isi2', e1, e2, Bool.or_self, Bool.not_false, Bool.not_true, Bool.true_or, Bool.or_true]
  · rw [a, b] at e1; rw [b] at e2; simp! only [x_isi2', e1, e2, Bool.or_self, Bool.not_false, Bool.not_true, Bool.true_or, Bool.or_true]
  · rw [a, b] at e1; rw [b] at e2; simp! only [x_isi2', e1, e2, Bool.or_self, Bool.not_false, Bool.not_true, Bool.true_or, Bool.or_true, Bool.or_false]
  · cases d <;> cases a <;> cases b
def rdB : D → Bool
  | .non => true
  | .int i => decide (0 ≤ i) && decide (i ≤ 999)
  | _ => false
theorem dIs_plain {d : D} (h : d ≠ .non) : dIs false d .non = some (.bl false) := by cases d <;> first | rfl | exact absurd rfl h
theorem ev_isrd {d : D} (h : plain d = true) : m_is_reading [.imm d] = some (.ok (.bl (rdB d)), [.no]) := by
  refine (fn_rt (δ1 := [.imm d]) ?_).trans rfl
  unfold b_is_reading
  have e1 := ev_wh h
  by_cases hn : d = .non
  · subst hn
    have : dIs false .non .non = some (.bl true) := rfl
    simp! only [this]
    rfl
  · have e2 := dIs_plain hn
    cases d with
    | non => exact absurd rfl hn
    | int i =>
      have e1 : m_is_whole [.imm (.int i)] = some (.ok (.bl true), [.no]) := e1
      by_cases c : 0 ≤ i
      · simp! only [e1, e2, c, decide_true]
        rw [show rdB (.int i) = (decide (0 ≤ i) && decide (i ≤ 999)) from rfl, decide_eq_true c]; rfl
      · simp! only [e1, e2, c, decide_false]
        rw [show rdB (.int i) = (decide (0 ≤ i) && decide (i ≤ 999)) from rfl, decide_eq_false c]; rfl
    | scr _ => cases h
    | dK _ => cases h
    | dT _ => cases h
    | alb _ _ => cases h
    | bld _ _ _ _ => cases h
    | bl _ => simp! only [e1, e2]; rfl
    | str _ => simp! only [e1, e2]; rfl
    | tup _ => simp! only [e1, e2]; rfl
    | lst _ => simp! only [e1, e2]; rfl
end M
set_option Elab.async false
set_option linter.all false
set_option maxRecDepth 100000
set_option maxHeartbeats 2000000
namespace M
open PySem L2
local macro_rules
  | `(tactic| simp! only [$as,*]) => `(tactic| simp only [x_bind, bk_ok, bk_ite, x_ret, x_lift, lk_some, lk_ite, app_ite, x_eC, x_eV, vk_imm, vk_own, vk_bor, x_give, gk_own, x_bin, x_un, x_ix, x_tru, x_eB, dBl_bl, dTru_bl, dTru_int, dTru_lst, x_and, x_or, x_not, x_eAnd, x_eOr, x_eNot, x_eIf, x_chain, x_aNil, x_aCons, x_aVr, rk_own, rk_io, x_aVb, tk_own, tk_io, tk_imm, tk_bor, x_eTup, x_eLst, imms_nil, imms_im, x_eF, x_call, ixV_C, jk_imm, jk_own, jk_io, jk_bor, flk_int, x_lenV, nk_imm, nk_own, nk_io, nk_bor, x_inV, hk_imm, hk_own, hk_io, hk_bor, x_sNx, x_pass, x_cont, x_brk, x_seq, sk_nx, sk_rt, sk_rtO, sk_ct, sk_bk, sk_ite, x_drop, x_sRet, x_sRetO, x_sIf, x_asg, x_asgO, x_gN, x_gO, x_gNil, x_gCons, x_gTt, x_gTl, x_sApp, x_sSet, x_chM, ck_own, ck_io, x_iOf, x_iRg, x_fn, fk_rt, fk_nx, fk_ite, ios_z, ios_s, keep_io, keep_imm, keep_own, keep_bor, keep_no, dSub_i, dAdd_i, dLt_i, dLe_i, dGt_i, dGe_i, dEq_int, dNe_int, ix_lst, ix_scr, ix_tup, atI_0, atI_1, atI_2, atI_3, List.getElem?_cons_zero, List.getElem?_cons_succ, List.set_cons_zero, List.set_cons_succ, List.length_cons, List.length_nil, List.cons_append, List.nil_append, List.replicate_succ, List.replicate_zero, Option.map_some, Option.bind_some, Nat.reduceAdd, Nat.reduceSub, Nat.reduceLT, Nat.reduceLeDiff, if_true, if_false, Bool.false_eq_true, decide_eq_true_eq, reduceIte, ne_eq, not_false_eq_true, Nat.lt_add_left_iff_pos, Nat.zero_lt_succ, x_call1, x_call2, x_call3, x_call4, dk1, dk2, dk3, dk4, ixV_V, Nat.reduceEqDiff, not_false_eq_true, x_isLst, x_isSet, List.map_cons, List.map_nil, Option.map_none, Option.bind_none, x_eSl, x_eP0, x_eP1, part_i, $as,*])
theorem lt_one {a c : Nat} : ([c] < [a]) ↔ c < a := by
  rw [List.cons_lt_cons_iff]
  constructor
  · rintro (h | ⟨rfl, h⟩)
    · exact h
    · exact absurd h (List.not_lt_nil _)
  · exact fun h => .inl h
theorem dLe_ch {a c : Nat} : dLe (.str (mkS [a])) (.str (mkS [c])) = some (.bl (decide (a ≤ c))) := by
  show some (D.bl (!decide ((mkS [c]).cps.toList < (mkS [a]).cps.toList))) = _
  rw [mkS_cps, mkS_cps]
  congr 2
  by_cases h : a ≤ c
  · rw [decide_eq_false (fun z => by have := lt_one.mp z; omega), decide_eq_true h]; rfl
  · rw [decide_eq_true (lt_one.mpr (by omega)), decide_eq_false h]; rfl
theorem chs : ("a" : Str) = mkS [97] ∧ ("z" : Str) = mkS [122] ∧ ("0" : Str) = mkS [48] ∧ ("9" : Str) = mkS [57] := by decide +kernel
theorem dEq_strs {a b : Str} (ha : (toPy (.str a)).canLay0 = true) (hb : (toPy (.str b)).canLay0 = true) : dEq (.str a) (.str b) = some (.bl (decide (a = b))) := by
  show (if shp (.str a) = true ∧ shp (.str b) = true then some (D.bl (PyData.eqv (toPy (.str a)) (toPy (.str b)))) else none) = _
  rw [if_pos ⟨fine_shp (fine_s ha).1, fine_shp (fine_s hb).1⟩]
  unfold toPy PyData.eqv
  by_cases c : a = b <;> simp [c]
theorem fLen_str {s : Str} (h : s.length ≤ 1000) : fLen [.str s] = some (.int (s.length : Nat)) := if_pos (small_len h)
def nameB : D → Bool
  | .str s => nmB s
  | _ => false
/-- the strs among the values are of real signs -/
def strOk : D → Prop
  | .str s => (toPy (.str s)).canLay0 = true ∧ s.length ≤ 1000
  | _ => True
theorem stD_map {s : Str} : stD s = s.cps.toList.map fun c => D.str (mkS [c]) := by
  unfold stD; rfl
theorem all_bl {α : Type} {p : α → Bool} : ∀ {l : List α}, blsD (l.map fun x => D.bl (p x)) = some (l.map p)
  | [] => rfl
  | x :: l => by
    rw [List.map_cons, List.map_cons]
    unfold blsD
    rw [all_bl (l := l)]; rfl
theorem fAll_map {α : Type} {p : α → Bool} {l : List α} : fAll [.lst (l.map fun x => D.bl (p x))] = some (.bl (l.all p)) := by
  show (match blsD (l.map fun x => D.bl (p x)) with | some bs => some (D.bl (bs.all id)) | none => none) = _
  rw [all_bl]
  simp [List.all_map]
theorem ev_isnm {d : D} (h : plain d = true) (hs : strOk d) : m_is_name [.imm d] = some (.ok (.bl (nameB d)), [.no]) := by
  have e1 := isi_str h
  cases d with
  | str s =>
    have e1 : isiV' "str" (.str s) = some (.bl true) := e1
    have e2 := dEq_strs (b := "") hs.1 (by decide +kernel)
    obtain ⟨q1, q2, q3, q4⟩ := chs
    by_cases c1 : s = ""
    · rw [decide_eq_true c1] at e2
      refine (fn_rt (δ1 := [.imm (.str s), .no]) ?_).trans rfl
      unfold b_is_name
      refine ssq_rt (st (by simp! only [x_isi2', e1, e2]; rfl) ?_)
      subst c1
      rfl
    · rw [decide_eq_false c1] at e2
      by_cases c2 : s.length > 8
      · refine (fn_rt (δ1 := [.imm (.str s), .no]) ?_).trans rfl
        unfold b_is_name
        have c3 : ((s.length : Nat) : Int) > 8 := by omega
        refine ssq_rt (st (by simp! only [x_isi2', e1, e2, fLen_str hs.2, c3, decide_true]; rfl) ?_)
        show some (Except.ok (Out.rt (D.bl false)), _) = _
        have : nameB (.str s) = false := by
          show nmB s = false
          unfold nmB nmL
          rw [len_cps] at c2
          rw [decide_eq_false (by omega)]; rfl
        rw [this]
      · have c3 : ¬ ((s.length : Nat) : Int) > 8 := by omega
        have hl : s.cps.toList.length ≤ 8 := by rw [← len_cps]; omega
        have el : (eLc (iOf (eV 0)) (gN 1) tYesM (eOr (eChain dLe dLe (eC (.str "a")) (eV 1) (eC (.str "z"))) (eChain dLe dLe (eC (.str "0")) (eV 1) (eC (.str "9")))) [1]) [.imm (.str s), .no] = some (.ok (.lst (s.cps.toList.map fun c => .bl (namB c))), [.imm (.str s), .no]) := by
          rw [eLc_map (l := s.cps.toList) (g := fun c => D.str (mkS [c])) (p := fun _ => true) (f := fun c => D.bl (namB c)) (δ0 := [.imm (.str s), .no])]
          · rw [List.filter_eq_self.mpr (fun _ _ => rfl)]; rfl
          · simp! only [itD, stD_map]
          · omega
          · intro c hc
            refine ⟨[.imm (.str s), .imm (.str (mkS [c]))], [.imm (.str s), .imm (.str (mkS [c]))], by simp! only [wipeE], rfl, (fun z => by cases z), fun _ => ⟨[.imm (.str s), .imm (.str (mkS [c]))], ?_, rfl⟩⟩
            rw [q1, q2, q3, q4]
            unfold namB lowB
            by_cases d1 : 97 ≤ c
            · by_cases d2 : c ≤ 122
              · simp! only [dLe_ch, d1, d2, decide_true, Bool.and_true, Bool.true_or]
              · by_cases d3 : 48 ≤ c <;> by_cases d4 : c ≤ 57 <;> simp! only [dLe_ch, d1, d2, d3, d4, decide_true, decide_false, Bool.and_true, Bool.and_false, Bool.false_and, Bool.false_or]
            · by_cases d3 : 48 ≤ c <;> by_cases d4 : c ≤ 57 <;> simp! only [dLe_ch, d1, d3, d4, decide_true, decide_false, Bool.and_true, Bool.and_false, Bool.false_and, Bool.false_or]
        refine (fn_rt (δ1 := [.imm (.str s), .no]) ?_).trans rfl
        unfold b_is_name
        generalize hn : ((s.length : Nat) : Int) = n at c3
        refine ssq_f (by simp! only [x_isi2', e1, e2, fLen_str hs.2, hn, c3, decide_false] <;> rfl) ?_
        have hne : s.cps.toList ≠ [] := fun z => c1 (by
          have : s = mkS s.cps.toList := rfl
          rw [this, z]; decide +kernel)
        have em : nameB (.str s) = ((match s.cps.toList with | [] => false | c :: _ => lowB c) && s.cps.toList.all namB) := by
          show nmL s.cps.toList = _
          unfold nmL
          rw [decide_eq_true hl, Bool.true_and]
          try rfl
        cases ha : s.cps.toList.all namB with
        | false =>
          rw [em, ha, Bool.and_false]
          refine ssq_rt (st (by simp! only [el, fAll_map, ha]; rfl) rfl)
        | true =>
          rw [em, ha, Bool.and_true]
          refine ssq_f (by simp! only [el, fAll_map, ha] <;> rfl) ?_
          cases hc : s.cps.toList with
          | nil => exact absurd hc hne
          | cons c l =>
            have hx : dIx (.str s) (.int 0) = some (.str (mkS [c])) := by
              show (if s.length ≤ sizeLine then (atI s.cps.toList 0).map fun c => D.str ⟨#[c]⟩ else none) = _
              rw [if_pos (small_len (by omega)), hc, atI_0]; rfl
            rw [q1, q2]
            show _ = some (Except.ok (Out.rt (.bl (lowB c))), _)
            unfold lowB
            by_cases d1 : 97 ≤ c
            · simp! only [hx, dLe_ch, d1, decide_true, Bool.true_and]
            · simp! only [hx, dLe_ch, d1, decide_false, Bool.false_and]
  | scr _ => cases h
  | dK _ => cases h
  | dT _ => cases h
  | alb _ _ => cases h
  | bld _ _ _ _ => cases h
  | non => exact (fn_rt (δ1 := [.imm .non, .no]) (ssq_rt (st (by have e1 : isiV' "str" .non = some (.bl false) := e1; simp! only [x_isi2', e1]; rfl) rfl))).trans rfl
  | bl b => exact (fn_rt (δ1 := [.imm (.bl b), .no]) (ssq_rt (st (by have e1 : isiV' "str" (.bl b) = some (.bl false) := e1; simp! only [x_isi2', e1]; rfl) rfl))).trans rfl
  | int b => exact (fn_rt (δ1 := [.imm (.int b), .no]) (ssq_rt (st (by have e1 : isiV' "str" (.int b) = some (.bl false) := e1; simp! only [x_isi2', e1]; rfl) rfl))).trans rfl
  | tup b => exact (fn_rt (δ1 := [.imm (.tup b), .no]) (ssq_rt (st (by have e1 : isiV' "str" (.tup b) = some (.bl false) := e1; simp! only [x_isi2', e1]; rfl) rfl))).trans rfl
  | lst b => exact (fn_rt (δ1 := [.imm (.lst b), .no]) (ssq_rt (st (by have e1 : isiV' "str" (.lst b) = some (.bl false) := e1; simp! only [x_isi2', e1]; rfl) rfl))).trans rfl
end M
set_option Elab.async false
set_option linter.all false
set_option maxRecDepth 100000
set_option maxHeartbeats 2000000
namespace M
open PySem L2
local macro_rules
  | `(tactic| simp! only [$as,*]) => `(tactic| simp only [x_bind, bk_ok, bk_ite, x_ret, x_lift, lk_some, lk_ite, app_ite, x_eC, x_eV, vk_imm, vk_own, vk_bor, x_give, gk_own, x_bin, x_un, x_ix, x_tru, x_eB, dBl_bl, dTru_bl, dTru_int, dTru_lst, x_and, x_or, x_not, x_eAnd, x_eOr, x_eNot, x_eIf, x_chain, x_aNil, x_aCons, x_aVr, rk_own, rk_io, x_aVb, tk_own, tk_io, tk_imm, tk_bor, x_eTup, x_eLst, imms_nil, imms_im, x_eF, x_call, ixV_C, jk_imm, jk_own, jk_io, jk_bor, flk_int, x_lenV, nk_imm, nk_own, nk_io, nk_bor, x_inV, hk_imm, hk_own, hk_io, hk_bor, x_sNx, x_pass, x_cont, x_brk, x_seq, sk_nx, sk_rt, sk_rtO, sk_ct, sk_bk, sk_ite, x_drop, x_sRet, x_sRetO, x_sIf, x_asg, x_asgO, x_gN, x_gO, x_gNil, x_gCons, x_gTt, x_gTl, x_sApp, x_sSet, x_chM, ck_own, ck_io, x_iOf, x_iRg, x_fn, fk_rt, fk_nx, fk_ite, ios_z, ios_s, keep_io, keep_imm, keep_own, keep_bor, keep_no, dSub_i, dAdd_i, dLt_i, dLe_i, dGt_i, dGe_i, dEq_int, dNe_int, ix_lst, ix_scr, ix_tup, atI_0, atI_1, atI_2, atI_3, List.getElem?_cons_zero, List.getElem?_cons_succ, List.set_cons_zero, List.set_cons_succ, List.length_cons, List.length_nil, List.cons_append, List.nil_append, List.replicate_succ, List.replicate_zero, Option.map_some, Option.bind_some, Nat.reduceAdd, Nat.reduceSub, Nat.reduceLT, Nat.reduceLeDiff, if_true, if_false, Bool.false_eq_true, decide_eq_true_eq, reduceIte, ne_eq, not_false_eq_true, Nat.lt_add_left_iff_pos, Nat.zero_lt_succ, x_call1, x_call2, x_call3, x_call4, dk1, dk2, dk3, dk4, ixV_V, Nat.reduceEqDiff, not_false_eq_true, x_isLst, x_isSet, List.map_cons, List.map_nil, Option.map_none, Option.bind_none, x_eSl, x_eP0, x_eP1, part_i, $as,*])
theorem forM_all {T : D → Mo Unit} {S : Mo Out} {p : D → Bool} {z : D} (Inv : Env → Prop) : ∀ (ds : List D) (δ : Env), Inv δ →
    (∀ d ∈ ds, ∀ δ, Inv δ → ∃ δ1 δ2, T d δ = some (.ok (), δ1) ∧ S δ1 = some (.ok (if p d = true then .nx else .rt z), δ2) ∧ Inv δ2) →
    ∃ δ', forM T S ds δ = some (.ok (if ds.all p = true then .nx else .rt z), δ') ∧ Inv δ'
  | [], δ, h, _ => ⟨δ, by unfold forM; rfl, h⟩
  | d :: ds, δ, h, st => by
    obtain ⟨δ1, δ2, h1, h2, h3⟩ := st d List.mem_cons_self δ h
    rw [List.all_cons]
    unfold forM
    cases hp : p d with
    | false =>
      rw [hp] at h2
      rw [bind_ok h1]
      exact ⟨δ2, by simp only [h2, if_false, Bool.false_eq_true, Bool.false_and, reduceIte], h3⟩
    | true =>
      rw [hp] at h2
      obtain ⟨δ', e, i⟩ := forM_all Inv ds δ2 h3 fun d m => st d (List.mem_cons_of_mem _ m)
      rw [bind_ok h1]
      exact ⟨δ', by simp only [h2, if_true, Bool.true_and, reduceIte]; exact e, i⟩
theorem sFor_all {I : Mo (List D)} {T : D → Mo Unit} {S : Mo Out} {p : D → Bool} {z : D} {ds : List D} {δ δ0 : Env} (Inv : Env → Prop) (hi : I δ = some (.ok ds, δ0)) (h0 : Inv δ0)
    (st : ∀ d ∈ ds, ∀ δ, Inv δ → ∃ δ1 δ2, T d δ = some (.ok (), δ1) ∧ S δ1 = some (.ok (if p d = true then .nx else .rt z), δ2) ∧ Inv δ2) :
    ∃ δ', sFor I T S δ = some (.ok (if ds.all p = true then .nx else .rt z), δ') ∧ Inv δ' := by
  obtain ⟨δ', h1, h2⟩ := forM_all Inv ds δ0 h0 st
  exact ⟨δ', by unfold sFor; rw [bind_ok hi]; exact h1, h2⟩
def rowB (w : Nat) : D → Bool
  | .tup l => (decide (1 ≤ l.length ∧ l.length ≤ 12) && decide (l.length = w)) && l.all rdB
  | _ => false
def rowsB : D → Bool
  | .tup (.tup r0 :: rs) => decide (rs.length + 1 ≤ 12) && (D.tup r0 :: rs).all (rowB r0.length)
  | _ => false
def viewB : D → Bool
  | .tup [n, r] => nameB n && rowsB r
  | _ => false
def rowOk : D → Prop
  | .tup l => ∀ d ∈ l, plain d = true
  | _ => True
def rowsOk : D → Prop
  | .tup l => ∀ d ∈ l, plain d = true ∧ rowOk d
  | _ => True
def viewOk : D → Prop
  | .tup [n, r] => plain n = true ∧ strOk n ∧ plain r = true ∧ rowsOk r
  | _ => True
theorem len_t {l : List D} : fLen [.tup l] = some (.int (l.length : Nat)) := rfl
noncomputable def vBody : Mo Out := (sSeq (sIf (tOrM (tNotM (eTru (eIsi2 "tuple" (eV 2)))) (tOrM (tNotM (eB (eChain dLe dLe (eC (.int 1)) (eF fLen (aCons (eV 2) aNil)) (eC (.int 12))))) (eB (eBin dNe (eF fLen (aCons (eV 2) aNil)) (eF fLen (aCons (eIxV 1 (eC (.int 0))) aNil))))))
 (sRet (eC (.bl false)))
 sNx)
 (sIf (tNotM (eTru (eF fAll (aCons (eLc (iOf (eV 2)) (gN 3) tYesM (eCall m_is_reading (aCons (eV 3) aNil)) [3]) aNil))))
 (sRet (eC (.bl false)))
 sNx))
theorem not_tup {d : D} (h : isTup d = false) (w : Nat) : rowB w d = false := by cases d <;> first | rfl | cases h
def wid0 : D → Nat | .tup r0 => r0.length | _ => 0
theorem ev_vrow {v d0 d : D} {rs : List D} (hp : plain d = true) (ok : rowOk d) (h0 : isTup d = true → ∃ r0, d0 = .tup r0) :
    vBody [.imm v, .imm (.tup (d0 :: rs)), .imm d, .no] = some (.ok (if rowB (wid0 d0) d = true then .nx else .rt (.bl false)), [.imm v, .imm (.tup (d0 :: rs)), .imm d, .no]) := by
  have e1 := isi_tup hp
  unfold vBody
  cases ht : isTup d with
  | false =>
    rw [ht] at e1
    rw [not_tup ht]
    exact ssq_rt (st (by simp! only [x_isi2', e1] <;> rfl) rfl)
  | true =>
    rw [ht] at e1
    obtain ⟨r0, rfl⟩ := h0 ht
    cases d with
    | tup l =>
      have a0 : dIx (.tup (D.tup r0 :: rs)) (.int 0) = some (.tup r0) := atI_0
      have hw : rowB r0.length (.tup l) = ((decide (1 ≤ l.length ∧ l.length ≤ 12) && decide (l.length = r0.length)) && l.all rdB) := rfl
      show _ = some (Except.ok (if rowB r0.length (.tup l) = true then Out.nx else .rt (.bl false)), _)
      by_cases c1 : 1 ≤ l.length ∧ l.length ≤ 12
      · by_cases c2 : l.length = r0.length
        · have el : (eLc (iOf (eV 2)) (gN 3) tYesM (eCall m_is_reading (aCons (eV 3) aNil)) [3]) [.imm v, .imm (.tup (D.tup r0 :: rs)), .imm (.tup l), .no] = some (.ok (.lst (l.map fun d => .bl (rdB d))), [.imm v, .imm (.tup (D.tup r0 :: rs)), .imm (.tup l), .no]) := by
            rw [eLc_map (l := l) (g := id) (p := fun _ => true) (f := fun d => D.bl (rdB d)) (δ0 := [.imm v, .imm (.tup (D.tup r0 :: rs)), .imm (.tup l), .no])]
            · rw [List.filter_eq_self.mpr (fun _ _ => rfl)]; rfl
            · rw [List.map_id]; simp! only [itD]
            · omega
            · intro d hd
              have er := ev_isrd (ok d hd)
              refine ⟨[.imm v, .imm (.tup (D.tup r0 :: rs)), .imm (.tup l), .imm d], [.imm v, .imm (.tup (D.tup r0 :: rs)), .imm (.tup l), .imm d], by simp! only [wipeE, id], rfl, (fun z => by cases z), fun _ => ⟨[.imm v, .imm (.tup (D.tup r0 :: rs)), .imm (.tup l), .imm d], ?_, rfl⟩⟩
              simp! only [er]
          rw [hw, decide_eq_true c1, decide_eq_true c2, Bool.true_and, Bool.true_and]
          have c3 : (1 : Int) ≤ (l.length : Nat) := by omega
          have c4 : ((l.length : Nat) : Int) ≤ 12 := by omega
          have c5 : ((l.length : Nat) : Int) = (r0.length : Nat) := by omega
          have lt := @len_t l
          have lt0 := @len_t r0
          generalize ((l.length : Nat) : Int) = n at *
          generalize ((r0.length : Nat) : Int) = n0 at *
          subst c5
          have q : dNe (.int n) (.int n) = some (.bl false) := by rw [dNe_int]; simp
          refine ssq_f (by simp! only [x_isi2', e1, lt, lt0, c3, c4, decide_true, a0, q, Bool.not_true] <;> rfl) ?_
          cases ha : l.all rdB with
          | true => refine s1f (by simp! only [el, fAll_map, ha] <;> rfl)
          | false => exact st (by simp! only [el, fAll_map, ha] <;> rfl) rfl
        · rw [hw, decide_eq_false c2, Bool.and_false, Bool.false_and]
          have c3 : (1 : Int) ≤ (l.length : Nat) := by omega
          have c4 : ((l.length : Nat) : Int) ≤ 12 := by omega
          have c5 : ¬ ((l.length : Nat) : Int) = (r0.length : Nat) := by omega
          have lt := @len_t l
          have lt0 := @len_t r0
          generalize ((l.length : Nat) : Int) = n at *
          generalize ((r0.length : Nat) : Int) = n0 at *
          have q : dNe (.int n) (.int n0) = some (.bl true) := by rw [dNe_int]; simp [c5]
          exact ssq_rt (st (by simp! only [x_isi2', e1, lt, lt0, c3, c4, decide_true, a0, q, Bool.not_true] <;> rfl) rfl)
      · rw [hw, decide_eq_false c1, Bool.false_and, Bool.false_and]
        have lt := @len_t l
        by_cases c3 : (1 : Int) ≤ (l.length : Nat)
        · have c4 : ¬ ((l.length : Nat) : Int) ≤ 12 := by omega
          generalize ((l.length : Nat) : Int) = n at *
          exact ssq_rt (st (by simp! only [x_isi2', e1, lt, c3, c4, decide_true, decide_false, Bool.not_true] <;> rfl) rfl)
        · generalize ((l.length : Nat) : Int) = n at *
          exact ssq_rt (st (by simp! only [x_isi2', e1, lt, c3, decide_true, decide_false, Bool.not_true] <;> rfl) rfl)
    | _ => cases ht
theorem ev_isvw {d : D} (h : plain d = true) (ok : viewOk d) : m_is_view [.imm d] = some (.ok (.bl (viewB d)), [.no]) := by
  have e1 := isi_tup h
  cases ht : isTup d with
  | false =>
    rw [ht] at e1
    have : viewB d = false := by cases d <;> first | rfl | cases ht
    rw [this]
    exact (fn_rt (δ1 := [.imm d, .no, .no, .no]) (ssq_rt (st (by simp! only [x_isi2', e1] <;> rfl) rfl))).trans rfl
  | true =>
    rw [ht] at e1
    obtain ⟨l, rfl⟩ : ∃ l, d = .tup l := by cases d <;> first | exact ⟨_, rfl⟩ | cases ht
    have lt := @len_t l
    by_cases hl : l.length = 2
    · obtain ⟨n, r, rfl⟩ : ∃ n r, l = [n, r] := by
        match l, hl with
        | [n, r], _ => exact ⟨n, r, rfl⟩
      obtain ⟨pn, sn, pr, okr⟩ := ok
      have en := ev_isnm pn sn
      have a0 : dIx (.tup [n, r]) (.int 0) = some n := atI_0
      have a1 : dIx (.tup [n, r]) (.int 1) = some r := atI_1
      have lt : fLen [.tup [n, r]] = some (.int 2) := rfl
      have q : dNe (.int 2) (.int 2) = some (.bl false) := by rw [dNe_int]; simp
      show _ = some (Except.ok (D.bl (nameB n && rowsB r)), _)
      cases hn : nameB n with
      | false =>
        rw [hn] at en
        exact (fn_rt (δ1 := [.imm (.tup [n, r]), .no, .no, .no]) (ssq_rt (st (by simp! only [x_isi2', e1, lt, q, a0, en, dTru_bl, Bool.not_false, Bool.not_true] <;> rfl) rfl))).trans rfl
      | true =>
        rw [hn] at en
        rw [Bool.true_and]
        have e2 := isi_tup pr
        have first : ∀ {δ' : Env} {b : Bool}, (sSeq (sIf (tOrM (tNotM (eTru (eIsi2 "tuple" (eV 1)))) (tNotM (eB (eChain dLe dLe (eC (.int 1)) (eF fLen (aCons (eV 1) aNil)) (eC (.int 12)))))) (sRet (eC (.bl false))) sNx) (sSeq (sFor (iOf (eV 1)) (gN 2) vBody) (sRet (eC (.bl true))))) [.imm (.tup [n, r]), .imm r, .no, .no] = some (.ok (.rt (.bl b)), δ') → δ'.length = 4 → m_is_view [.imm (.tup [n, r])] = some (.ok (.bl b), ios 1 δ') := fun {δ' b} e hl => by
          refine (fn_rt (δ1 := δ') ?_)
          unfold b_is_view
          refine ssq_f (by simp! only [x_isi2', e1, lt, q, a0, en, dTru_bl, Bool.not_false, Bool.not_true] <;> rfl) ?_
          refine ssq (by simp! only [a1] <;> rfl) ?_
          exact e
        cases ht2 : isTup r with
        | false =>
          rw [ht2] at e2
          have : rowsB r = false := by cases r <;> first | rfl | cases ht2
          rw [this]
          exact first (δ' := [.imm (.tup [n, r]), .imm r, .no, .no]) (ssq_rt (st (by simp! only [x_isi2', e2] <;> rfl) rfl)) rfl
        | true =>
          rw [ht2] at e2
          obtain ⟨rows, rfl⟩ : ∃ l, r = .tup l := by cases r <;> first | exact ⟨_, rfl⟩ | cases ht2
          have ltr := @len_t rows
          by_cases c1 : 1 ≤ rows.length ∧ rows.length ≤ 12
          · obtain ⟨d0, rs, rfl⟩ : ∃ d0 rs, rows = d0 :: rs := by
              cases rows with
              | nil => simp at c1
              | cons a b => exact ⟨a, b, rfl⟩
            have hrow : rowsB (.tup (d0 :: rs)) = (d0 :: rs).all (rowB (wid0 d0)) := by
              by_cases t0 : isTup d0 = true
              · obtain ⟨r0, rfl⟩ : ∃ l, d0 = .tup l := by cases d0 <;> first | exact ⟨_, rfl⟩ | cases t0
                show (decide (rs.length + 1 ≤ 12) && _) = _
                rw [decide_eq_true (by have := c1.2; rw [List.length_cons] at this; exact this), Bool.true_and]; rfl
              · have t0 : isTup d0 = false := by simpa using t0
                rw [List.all_cons, not_tup t0, Bool.false_and]
                cases d0 <;> first | rfl | cases t0
            have loop : ∃ y2, sFor (iOf (eV 1)) (gN 2) vBody [.imm (.tup [n, .tup (d0 :: rs)]), .imm (.tup (d0 :: rs)), .no, .no] = some (.ok (if (d0 :: rs).all (rowB (wid0 d0)) = true then .nx else .rt (.bl false)), [.imm (.tup [n, .tup (d0 :: rs)]), .imm (.tup (d0 :: rs)), y2, .no]) := by
              by_cases t0 : isTup d0 = true
              · obtain ⟨r0, h0⟩ : ∃ l, d0 = .tup l := by cases d0 <;> first | exact ⟨_, rfl⟩ | cases t0
                obtain ⟨δ', f1, y2, rfl⟩ := sFor_all (I := iOf (eV 1)) (T := gN 2) (S := vBody) (p := rowB (wid0 d0)) (z := .bl false) (ds := d0 :: rs) (δ := [.imm (.tup [n, .tup (d0 :: rs)]), .imm (.tup (d0 :: rs)), .no, .no]) (δ0 := [.imm (.tup [n, .tup (d0 :: rs)]), .imm (.tup (d0 :: rs)), .no, .no])
                  (fun δ => ∃ y2, δ = [.imm (.tup [n, .tup (d0 :: rs)]), .imm (.tup (d0 :: rs)), y2, .no]) (by simp! only [itD]) ⟨_, rfl⟩ (fun d hd δ hδ => by
                    obtain ⟨y2, rfl⟩ := hδ
                    obtain ⟨pd, okd⟩ := okr d hd
                    exact ⟨[.imm (.tup [n, .tup (d0 :: rs)]), .imm (.tup (d0 :: rs)), .imm d, .no], [.imm (.tup [n, .tup (d0 :: rs)]), .imm (.tup (d0 :: rs)), .imm d, .no], by simp! only [], ev_vrow pd okd (fun _ => ⟨r0, h0⟩), _, rfl⟩)
                exact ⟨y2, f1⟩
              · have t0 : isTup d0 = false := by simpa using t0
                obtain ⟨pd, okd⟩ := okr d0 List.mem_cons_self
                refine ⟨.imm d0, ?_⟩
                rw [List.all_cons, not_tup t0, Bool.false_and]
                have hv := ev_vrow (v := .tup [n, .tup (d0 :: rs)]) (rs := rs) (d0 := d0) pd okd (fun z => by rw [t0] at z; cases z)
                rw [not_tup t0] at hv
                exact sFor_ret (F := fun _ => [.imm (.tup [n, .tup (d0 :: rs)]), .imm (.tup (d0 :: rs)), .no, .no]) (m := 0) (dm := d0) (ds := d0 :: rs) (by simp! only [itD]) rfl rfl (fun i d hi => absurd hi (Nat.not_lt_zero _)) ⟨[.imm (.tup [n, .tup (d0 :: rs)]), .imm (.tup (d0 :: rs)), .imm d0, .no], by simp! only [], hv⟩
            obtain ⟨y2, f1⟩ := loop
            rw [hrow]
            have c3 : (1 : Int) ≤ ((d0 :: rs).length : Nat) := by omega
            have c4 : (((d0 :: rs).length : Nat) : Int) ≤ 12 := by omega
            generalize (((d0 :: rs).length : Nat) : Int) = nn at *
            cases ha : (d0 :: rs).all (rowB (wid0 d0)) with
            | true =>
              rw [ha] at f1
              refine first (δ' := [.imm (.tup [n, .tup (d0 :: rs)]), .imm (.tup (d0 :: rs)), y2, .no]) ?_ rfl
              refine ssq_f (by simp! only [x_isi2', e2, ltr, c3, c4, decide_true, Bool.not_true] <;> rfl) ?_
              exact ssq f1 (by simp! only [])
            | false =>
              rw [ha] at f1
              refine first (δ' := [.imm (.tup [n, .tup (d0 :: rs)]), .imm (.tup (d0 :: rs)), y2, .no]) ?_ rfl
              refine ssq_f (by simp! only [x_isi2', e2, ltr, c3, c4, decide_true, Bool.not_true] <;> rfl) ?_
              exact ssq_rt f1
          · have : rowsB (.tup rows) = false := by
              cases rows with
              | nil => rfl
              | cons a b =>
                cases a <;> try rfl
                show (decide (b.length + 1 ≤ 12) && _) = _
                rw [decide_eq_false (by rw [List.length_cons] at c1; omega), Bool.false_and]
            rw [this]
            by_cases c3 : (1 : Int) ≤ (rows.length : Nat)
            · have c4 : ¬ ((rows.length : Nat) : Int) ≤ 12 := by omega
              generalize ((rows.length : Nat) : Int) = nn at *
              exact first (δ' := [.imm (.tup [n, .tup rows]), .imm (.tup rows), .no, .no]) (ssq_rt (st (by simp! only [x_isi2', e2, ltr, c3, c4, decide_true, decide_false, Bool.not_true, Bool.not_false] <;> rfl) rfl)) rfl
            · generalize ((rows.length : Nat) : Int) = nn at *
              exact first (δ' := [.imm (.tup [n, .tup rows]), .imm (.tup rows), .no, .no]) (ssq_rt (st (by simp! only [x_isi2', e2, ltr, c3, decide_true, decide_false, Bool.not_true, Bool.not_false] <;> rfl) rfl)) rfl
    · have : viewB (.tup l) = false := by
        match l, hl with
        | [], _ => rfl
        | [_], _ => rfl
        | [_, _], h => exact absurd rfl h
        | _ :: _ :: _ :: _, _ => rfl
      rw [this]
      have c : ¬ ((l.length : Nat) : Int) = 2 := by omega
      generalize ((l.length : Nat) : Int) = n at *
      have q : dNe (.int n) (.int 2) = some (.bl true) := by rw [dNe_int]; simp [c]
      exact (fn_rt (δ1 := [.imm (.tup l), .no, .no, .no]) (ssq_rt (st (by simp! only [x_isi2', e1, lt, q, Bool.not_true] <;> rfl) rfl))).trans rfl
end M
set_option Elab.async false
set_option linter.all false
set_option maxRecDepth 100000
set_option maxHeartbeats 2000000
namespace M
open PySem L2
/-- a link: its ends by number, its shift and light -/
structure Lk where
  a : Nat
  b : Nat
  x : Int
  y : Int
  l : Int
  deriving Inhabited
/-- what links of n views are -/
def LkOk (n : Nat) (ls : List Lk) : Prop := ∀ k ∈ ls, k.a < n ∧ k.b < n ∧ k.a ≠ k.b
/-- joined by a walk -/
inductive Cn (ls : List Lk) : Nat → Nat → Prop
  | refl (u : Nat) : Cn ls u u
  | fwd {u v : Nat} {k : Lk} : Cn ls u v → k ∈ ls → v = k.a → Cn ls u k.b
  | bwd {u v : Nat} {k : Lk} : Cn ls u v → k ∈ ls → v = k.b → Cn ls u k.a
theorem Cn.trans {ls : List Lk} {u v w : Nat} (h : Cn ls u v) (h2 : Cn ls v w) : Cn ls u w := by
  induction h2 with
  | refl => exact h
  | fwd _ m e ih => exact .fwd ih m e
  | bwd _ m e ih => exact .bwd ih m e
theorem Cn.symm {ls : List Lk} {u v : Nat} (h : Cn ls u v) : Cn ls v u := by
  induction h with
  | refl => exact .refl _
  | fwd _ m e ih => exact (Cn.bwd (.refl _) m rfl).trans (e ▸ ih)
  | bwd _ m e ih => exact (Cn.fwd (.refl _) m rfl).trans (e ▸ ih)
theorem Cn.lt {ls : List Lk} {n u v : Nat} (ok : LkOk n ls) (hu : u < n) (h : Cn ls u v) : v < n := by
  cases h with
  | refl => exact hu
  | fwd _ m _ => exact (ok _ m).2.1
  | bwd _ m _ => exact (ok _ m).1
/-- the least view that is joined to v -/
theorem least_ex (P : Nat → Prop) : ∀ n, P n → ∃ m, P m ∧ ∀ k, P k → m ≤ k := fun n => by
  induction n using Nat.strongRecOn with
  | ind n ih =>
    intro h
    by_cases c : ∃ k, k < n ∧ P k
    · obtain ⟨k, hk, pk⟩ := c; exact ih k hk pk
    · exact ⟨n, h, fun k pk => Classical.byContradiction fun z => c ⟨k, by omega, pk⟩⟩
noncomputable def lst (ls : List Lk) (v : Nat) : Nat := Classical.choose (least_ex (Cn ls v) v (.refl v))
end M
set_option Elab.async false
set_option linter.all false
set_option maxRecDepth 100000
set_option maxHeartbeats 2000000
namespace M
open PySem L2
local macro_rules
  | `(tactic| simp! only [$as,*]) => `(tactic| simp only [x_bind, bk_ok, bk_ite, x_ret, x_lift, lk_some, lk_ite, app_ite, x_eC, x_eV, vk_imm, vk_own, vk_bor, x_give, gk_own, x_bin, x_un, x_ix, x_tru, x_eB, dBl_bl, dTru_bl, dTru_int, dTru_lst, x_and, x_or, x_not, x_eAnd, x_eOr, x_eNot, x_eIf, x_chain, x_aNil, x_aCons, x_aVr, rk_own, rk_io, x_aVb, tk_own, tk_io, tk_imm, tk_bor, x_eTup, x_eLst, imms_nil, imms_im, x_eF, x_call, ixV_C, jk_imm, jk_own, jk_io, jk_bor, flk_int, x_lenV, nk_imm, nk_own, nk_io, nk_bor, x_inV, hk_imm, hk_own, hk_io, hk_bor, x_sNx, x_pass, x_cont, x_brk, x_seq, sk_nx, sk_rt, sk_rtO, sk_ct, sk_bk, sk_ite, x_drop, x_sRet, x_sRetO, x_sIf, x_asg, x_asgO, x_gN, x_gO, x_gNil, x_gCons, x_gTt, x_gTl, x_sApp, x_sSet, x_chM, ck_own, ck_io, x_iOf, x_iRg, x_fn, fk_rt, fk_nx, fk_ite, ios_z, ios_s, keep_io, keep_imm, keep_own, keep_bor, keep_no, dSub_i, dAdd_i, dLt_i, dLe_i, dGt_i, dGe_i, dEq_int, dNe_int, ix_lst, ix_scr, ix_tup, atI_0, atI_1, atI_2, atI_3, List.getElem?_cons_zero, List.getElem?_cons_succ, List.set_cons_zero, List.set_cons_succ, List.length_cons, List.length_nil, List.cons_append, List.nil_append, List.replicate_succ, List.replicate_zero, Option.map_some, Option.bind_some, Nat.reduceAdd, Nat.reduceSub, Nat.reduceLT, Nat.reduceLeDiff, if_true, if_false, Bool.false_eq_true, decide_eq_true_eq, reduceIte, ne_eq, not_false_eq_true, Nat.lt_add_left_iff_pos, Nat.zero_lt_succ, x_call1, x_call2, x_call3, x_call4, dk1, dk2, dk3, dk4, ixV_V, Nat.reduceEqDiff, not_false_eq_true, x_isLst, x_isSet, List.map_cons, List.map_nil, Option.map_none, Option.bind_none, x_eSl, x_eP0, x_eP1, part_i, $as,*])
abbrev Vw1 := List Nat × D
def vwD1 (p : Vw1) : D := .tup [.str (mkS p.1), p.2]
def nmOf (names : List (List Nat)) (v : Nat) : Str := mkS (names.getD v [])
def nmD (names : List (List Nat)) (v : Nat) : D := .str (nmOf names v)
def lkD (names : List (List Nat)) (k : Lk) : D := .tup [nmD names k.a, nmD names k.b, .int k.x, .int k.y, .int k.l]
theorem nm_inj {names : List (List Nat)} (nd : names.Nodup) {u v : Nat} (hu : u < names.length) (hv : v < names.length) (h : nmOf names u = nmOf names v) : u = v := by
  have h := mkS_inj h
  rw [List.getD_eq_getElem?_getD, List.getElem?_eq_getElem hu, List.getD_eq_getElem?_getD, List.getElem?_eq_getElem hv] at h
  exact (List.getElem_inj nd).mp h
theorem nm_nm {names : List (List Nat)} (h : ∀ l ∈ names, nmL l = true) {v : Nat} (hv : v < names.length) : nmB (nmOf names v) = true := by
  unfold nmOf
  rw [List.getD_eq_getElem?_getD, List.getElem?_eq_getElem hv, Option.getD_some, nmB_mk]
  exact h _ (List.getElem_mem hv)
theorem names_map {names : List (List Nat)} : names.map mkS = (List.range names.length).map (nmOf names) := by
  apply List.ext_getElem
  · simp
  · intro i h1 h2
    simp only [List.length_map] at h1
    rw [List.getElem_map, List.getElem_map, List.getElem_range]
    unfold nmOf
    rw [List.getD_eq_getElem?_getD, List.getElem?_eq_getElem h1, Option.getD_some]
/-- the data that an album stands for -/
structure AlbOk (views : List Vw1) (names : List (List Nat)) (ls : List Lk) : Prop where
  nm : views.map (·.1) = names
  nd : names.Nodup
  ok : ∀ l ∈ names, nmL l = true
  pv : ∀ p ∈ views, pureD p.2 = true
  lk : LkOk names.length ls
  len : names.length ≤ 30
  lln : ls.length ≤ 60
def albD (views : List Vw1) (names : List (List Nat)) (ls : List Lk) : D := .alb (views.map vwD1) (ls.map (lkD names))
theorem pure_views : ∀ {views : List Vw1}, (∀ p ∈ views, pureD p.2 = true) → pureDs (views.map vwD1) = true
  | [], _ => by unfold pureDs; rfl
  | p :: views, h => by
    rw [List.map_cons]
    unfold pureDs
    rw [pure_views fun q m => h q (List.mem_cons_of_mem _ m)]
    have : pureD (vwD1 p) = true := by
      show pureDs [.str (mkS p.1), p.2] = true
      unfold pureDs
      show (true && pureDs [p.2]) = true
      unfold pureDs
      rw [h p List.mem_cons_self]
      unfold pureDs; rfl
    rw [this]; rfl
theorem pure_links {names : List (List Nat)} : ∀ {ls : List Lk}, pureDs (ls.map (lkD names)) = true
  | [] => by unfold pureDs; rfl
  | k :: ls => by
    rw [List.map_cons]
    unfold pureDs
    rw [pure_links]
    unfold lkD nmD
    simp only [pureD, pureDs]
    rfl
theorem meth0 {m : Mo D} {δ : Env} {i : Nat} {vs ls : List D} {r : D} {s : Sl} (h : δ[i]? = some (.bor (.alb vs ls)) ∨ δ[i]? = some (.imm (.alb vs ls))) (hm : m [.bor (.alb vs ls)] = some (.ok r, [s])) : eMeth m i aNil δ = some (.ok r, δ) := by
  have ha : isAlb δ i = true := by
    unfold isAlb
    rcases h with h | h <;> rw [h]
  unfold eMeth
  rw [if_pos ha]
  show (Mo.bind aNil fun as => callM m (.vb i :: as)) δ = _
  rw [bind_ok (a := []) (δ1 := δ) rfl]
  unfold callM
  have hs : argSls δ [.vb i] = some [.bor (.alb vs ls)] := by
    simp only [argSls, argSl]
    rcases h with h | h <;> rw [h]
  rw [hs]
  simp only []
  rw [if_pos ⟨by simp [vrs], by simp [vbs, vrs]⟩, hm]
  rfl
theorem iFld_of {δ : Env} {i : Nat} {b : Bool} {vs ls : List D} (h : δ[i]? = some (.bor (.alb vs ls))) (hp : pureDs (fldL b vs ls) = true) : iFld i b δ = some (.ok (fldL b vs ls), δ) := by
  unfold iFld albSl
  rw [h]
  simp only []
  rw [if_pos hp]
section
variable {views : List Vw1} {names : List (List Nat)} {ls : List Lk}
theorem AlbOk.vlen (A : AlbOk views names ls) : views.length = names.length := by rw [← A.nm, List.length_map]
theorem ev_a_names (A : AlbOk views names ls) : m_Album_names [.bor (albD views names ls)] = some (.ok (strsD (names.map mkS)), [.no]) := by
  have hp := pure_views A.pv
  have hv := A.vlen
  have hn := A.len
  have e : (eLc (iFld 0 true) (gN 1) tYesM (eIxV 1 (eC (.int 0))) [1]) [.bor (albD views names ls), .no] = some (.ok (strsD (names.map mkS)), [.bor (albD views names ls), .no]) := by
    rw [eLc_map (l := views) (g := vwD1) (p := fun _ => true) (f := fun p => D.str (mkS p.1)) (δ0 := [.bor (albD views names ls), .no])]
    · rw [List.filter_eq_self.mpr (fun _ _ => rfl)]
      unfold strsD
      rw [← A.nm, List.map_map, List.map_map]; rfl
    · exact iFld_of (vs := views.map vwD1) (ls := ls.map (lkD names)) rfl hp
    · omega
    · intro p hp
      refine ⟨[.bor (albD views names ls), .imm (vwD1 p)], [.bor (albD views names ls), .imm (vwD1 p)], by simp! only [wipeE], rfl, (fun z => by cases z), fun _ => ⟨[.bor (albD views names ls), .imm (vwD1 p)], ?_, rfl⟩⟩
      have e0 : dIx (vwD1 p) (.int 0) = some (.str (mkS p.1)) := atI_0
      simp! only [e0]
  refine (fn_rt (δ1 := [.bor (albD views names ls), .no]) ?_).trans rfl
  unfold b_Album_names
  simp! only [e]
theorem ev_a_links (A : AlbOk views names ls) : m_Album_links [.bor (albD views names ls)] = some (.ok (.lst (ls.map (lkD names))), [.no]) := by
  have e : eLstF 0 false [.bor (albD views names ls)] = some (.ok (.lst (ls.map (lkD names))), [.bor (albD views names ls)]) := by
    unfold eLstF
    rw [bind_ok (iFld_of (b := false) (vs := views.map vwD1) (ls := ls.map (lkD names)) rfl pure_links)]; rfl
  refine (fn_rt (δ1 := [.bor (albD views names ls)]) ?_).trans rfl
  unfold b_Album_links
  simp! only [e]
end
end M
set_option Elab.async false
set_option linter.all false
set_option maxRecDepth 100000
set_option maxHeartbeats 2000000
namespace M
open PySem L2
def strsN (names : List (List Nat)) (R : List Nat) : D := .lst (R.map (nmD names))
theorem strsN_eq {names : List (List Nat)} {R : List Nat} : strsN names R = strsD (R.map (nmOf names)) := by unfold strsN strsD; rw [List.map_map]; rfl
theorem dIn_nm {names : List (List Nat)} (nd : names.Nodup) (ok : ∀ l ∈ names, nmL l = true) {neg : Bool} {v : Nat} {R : List Nat} (hv : v < names.length) (hR : ∀ u ∈ R, u < names.length) : dIn neg (nmD names v) (strsN names R) = some (.bl (if neg then !decide (v ∈ R) else decide (v ∈ R))) := by
  rw [strsN_eq]
  have := dIn_strs (neg := neg) (v := nmOf names v) (l := R.map (nmOf names)) (nm_nm ok hv) (fun s m => by
    obtain ⟨u, hu, rfl⟩ := List.mem_map.mp m
    exact nm_nm ok (hR u hu))
  have e : decide (nmOf names v ∈ R.map (nmOf names)) = decide (v ∈ R) := by
    apply decide_eq_decide.mpr
    constructor
    · intro m
      obtain ⟨u, hu, e⟩ := List.mem_map.mp m
      have := nm_inj nd (hR u hu) hv e
      exact this ▸ hu
    · exact fun m => List.mem_map.mpr ⟨v, m, rfl⟩
  rw [e] at this
  exact this
/-- the reached list behind some goals -/
theorem strsN_names {names : List (List Nat)} : strsD (names.map mkS) = strsN names (List.range names.length) := by rw [names_map, strsN_eq]
end M
set_option Elab.async false
set_option linter.all false
set_option maxRecDepth 100000
set_option maxHeartbeats 2000000
namespace M
open PySem L2
local macro_rules
  | `(tactic| simp! only [$as,*]) => `(tactic| simp only [x_bind, bk_ok, bk_ite, x_ret, x_lift, lk_some, lk_ite, app_ite, x_eC, x_eV, vk_imm, vk_own, vk_bor, x_give, gk_own, x_bin, x_un, x_ix, x_tru, x_eB, dBl_bl, dTru_bl, dTru_int, dTru_lst, x_and, x_or, x_not, x_eAnd, x_eOr, x_eNot, x_eIf, x_chain, x_aNil, x_aCons, x_aVr, rk_own, rk_io, x_aVb, tk_own, tk_io, tk_imm, tk_bor, x_eTup, x_eLst, imms_nil, imms_im, x_eF, x_call, ixV_C, jk_imm, jk_own, jk_io, jk_bor, flk_int, x_lenV, nk_imm, nk_own, nk_io, nk_bor, x_inV, hk_imm, hk_own, hk_io, hk_bor, x_sNx, x_pass, x_cont, x_brk, x_seq, sk_nx, sk_rt, sk_rtO, sk_ct, sk_bk, sk_ite, x_drop, x_sRet, x_sRetO, x_sIf, x_asg, x_asgO, x_gN, x_gO, x_gNil, x_gCons, x_gTt, x_gTl, x_sApp, x_sSet, x_chM, ck_own, ck_io, x_iOf, x_iRg, x_fn, fk_rt, fk_nx, fk_ite, ios_z, ios_s, keep_io, keep_imm, keep_own, keep_bor, keep_no, dSub_i, dAdd_i, dLt_i, dLe_i, dGt_i, dGe_i, dEq_int, dNe_int, ix_lst, ix_scr, ix_tup, atI_0, atI_1, atI_2, atI_3, List.getElem?_cons_zero, List.getElem?_cons_succ, List.set_cons_zero, List.set_cons_succ, List.length_cons, List.length_nil, List.cons_append, List.nil_append, List.replicate_succ, List.replicate_zero, Option.map_some, Option.bind_some, Nat.reduceAdd, Nat.reduceSub, Nat.reduceLT, Nat.reduceLeDiff, if_true, if_false, Bool.false_eq_true, decide_eq_true_eq, reduceIte, ne_eq, not_false_eq_true, Nat.lt_add_left_iff_pos, Nat.zero_lt_succ, x_call1, x_call2, x_call3, x_call4, dk1, dk2, dk3, dk4, ixV_V, Nat.reduceEqDiff, not_false_eq_true, x_isLst, x_isSet, List.map_cons, List.map_nil, Option.map_none, Option.bind_none, x_eSl, x_eP0, x_eP1, part_i, $as,*])
def LkSm (k : Lk) : Prop := k.x.natAbs ≤ 99 ∧ k.y.natAbs ≤ 99 ∧ k.l.natAbs ≤ 999
theorem fAbs_n {i : Int} : fAbs [.int i] = some (.int (i.natAbs : Nat)) := by
  show some (D.int (if i < 0 then -i else i)) = _
  congr 2
  split <;> omega
theorem strOk_nm {s : Str} (h : nmB s = true) : strOk (.str s) := ⟨nmB_ok h, by have := nmB_len h; omega⟩
theorem ev_islink {names : List (List Nat)} (nd : names.Nodup) (ok : ∀ l ∈ names, nmL l = true) {k : Lk} (ha : k.a < names.length) (hb : k.b < names.length) (hne : k.a ≠ k.b) (sm : LkSm k) : m_is_link [.imm (lkD names k)] = some (.ok (.bl true), [.no]) := by
  have na := nm_nm ok ha
  have nb := nm_nm ok hb
  have e1 := ev_isnm (d := nmD names k.a) rfl (strOk_nm na)
  have e2 := ev_isnm (d := nmD names k.b) rfl (strOk_nm nb)
  have b1 : nameB (nmD names k.a) = true := na
  have b2 : nameB (nmD names k.b) = true := nb
  rw [b1] at e1; rw [b2] at e2
  have e3 := dEq_strs (nmB_ok na) (nmB_ok nb)
  rw [decide_eq_false (fun z => hne (nm_inj nd ha hb z))] at e3
  have e3 : dEq (nmD names k.a) (nmD names k.b) = some (.bl false) := e3
  have w1 := ev_wh (d := .int k.x) rfl
  have w2 := ev_wh (d := .int k.y) rfl
  have w3 := ev_wh (d := .int k.l) rfl
  have ww : ∀ i, isWh (.int i) = true := fun _ => rfl
  rw [ww] at w1 w2 w3
  have it := isi_tup (d := lkD names k) rfl
  have it1 : isTup (lkD names k) = true := rfl
  rw [it1] at it
  obtain ⟨a, b, x, y, l⟩ := k
  obtain ⟨s1, s2, s3⟩ := sm
  simp only at s1 s2 s3
  have c1 : ((x.natAbs : Nat) : Int) ≤ 99 := by omega
  have c2 : ((y.natAbs : Nat) : Int) ≤ 99 := by omega
  have c3 : ((l.natAbs : Nat) : Int) ≤ 999 := by omega
  have f1 := @fAbs_n x
  have f2 := @fAbs_n y
  have f3 := @fAbs_n l
  generalize ((x.natAbs : Nat) : Int) = X at *
  generalize ((y.natAbs : Nat) : Int) = Y at *
  generalize ((l.natAbs : Nat) : Int) = L at *
  have hd : lkD names ⟨a, b, x, y, l⟩ = .tup [nmD names a, nmD names b, .int x, .int y, .int l] := rfl
  rw [hd] at it ⊢
  simp only at e1 e2 e3 w1 w2 w3
  generalize nmD names a = A at *
  generalize nmD names b = B at *
  have lt : fLen [.tup [A, B, .int x, .int y, .int l]] = some (.int 5) := rfl
  have q : dNe (.int 5) (.int 5) = some (.bl false) := by rw [dNe_int]; simp
  refine (fn_rt (δ1 := [.imm (.tup [A, B, .int x, .int y, .int l]), .imm A, .imm B, .imm (.int x), .imm (.int y), .imm (.int l)]) ?_).trans rfl
  unfold b_is_link
  refine ssq_f (by simp! only [x_isi2', it, lt, q, Bool.not_true, dTru_bl] <;> rfl) ?_
  refine ssq (δ1 := [.imm (.tup [A, B, .int x, .int y, .int l]), .imm A, .imm B, .imm (.int x), .imm (.int y), .imm (.int l)]) (by simp! only []) ?_
  refine ssq_f (by simp! only [e1, e2, e3, Bool.not_true, dTru_bl] <;> rfl) ?_
  refine ssq_f (by simp! only [w1, w2, w3, Bool.not_true, dTru_bl] <;> rfl) ?_
  simp! only [f1, f2, f3, c1, c2, c3, decide_true]
theorem sAdd_ok {i n : Nat} {b : Bool} {Pm : Mo Out} {E : Mo D} {δ : Env} {vs ls : List D} {d : D} {tl : Env} (h : δ[i]? = some (.bor (.alb vs ls))) (hE : E δ = some (.ok d, δ)) (p1 : pureDs vs = true) (p2 : pureDs ls = true) (hP : Pm ([.bor (.alb vs ls), .imm d] ++ List.replicate n .no) = some (.ok .nx, .bor (.alb vs ls) :: .imm d :: tl)) (pd : pureD d = true) (hl : (fldL b vs ls).length ≤ 1000) : sAdd i b Pm n E δ = some (.ok .nx, δ.set i (.bor (albAdd b vs ls d))) := by
  unfold sAdd
  rw [if_pos (by unfold isAlb; rw [h]), bind_ok hE]
  have ha : albSl δ i = some (vs, ls) := by unfold albSl; rw [h]
  simp only [ha]
  rw [if_pos (by rw [p1, p2]; rfl), hP]
  simp only []
  have : (fldL b vs ls).length < sizeLine := by rw [sizeLine_eq]; omega
  rw [if_pos (by rw [pd, decide_eq_true this]; rfl)]
section
variable {views : List Vw1} {names : List (List Nat)} {ls : List Lk}
theorem nmsM {δ : Env} {i : Nat} {vs ls : List D} {r : D} (h : δ[i]? = some (.bor (.alb vs ls))) (hm : m_Album_names [.bor (.alb vs ls)] = some (.ok r, [.no])) : eMeth m_Album_names i aNil δ = some (.ok r, δ) := meth0 (.inl h) hm
theorem ev_addv (A : AlbOk views names ls) {p : Vw1} (hnew : p.1 ∉ names) (hn : nmL p.1 = true) (hv : viewB (vwD1 p) = true) (vo : viewOk (vwD1 p)) (hl : names.length < 30) : b_Album_add_view ([.bor (albD views names ls), .imm (vwD1 p)] ++ List.replicate 0 .no) = some (.ok .nx, [.bor (albD views names ls), .imm (vwD1 p)]) := by
  have e1 := ev_isvw (d := vwD1 p) rfl vo
  rw [hv] at e1
  have en := nmsM (δ := [.bor (albD views names ls), .imm (vwD1 p)]) (i := 0) rfl (ev_a_names A)
  have i0 : dIx (vwD1 p) (.int 0) = some (.str (mkS p.1)) := atI_0
  have hb : nmB (mkS p.1) = true := by rw [nmB_mk]; exact hn
  have din := dIn_strs (neg := false) (v := mkS p.1) (l := names.map mkS) hb (fun s m => by
    obtain ⟨l, hl, rfl⟩ := List.mem_map.mp m
    rw [nmB_mk]; exact A.ok l hl)
  have din : dIn false (.str (mkS p.1)) (strsD (names.map mkS)) = some (.bl false) := by
    rw [din, decide_eq_false (fun m => hnew (mem_mk.mp m))]; rfl
  have eln : eLenF 0 true [.bor (albD views names ls), .imm (vwD1 p)] = some (.ok (.int (names.length : Nat)), [.bor (albD views names ls), .imm (vwD1 p)]) := by
    show some (Except.ok (D.int ((views.map vwD1).length : Nat)), _) = _
    rw [List.length_map, A.vlen]
  have c : ¬ ((names.length : Nat) : Int) ≥ 30 := by omega
  unfold b_Album_add_view
  refine ssq_f (δ1 := [.bor (albD views names ls), .imm (vwD1 p)]) (by simp! only [e1, dTru_bl, Bool.not_true]) ?_
  refine ssq_f (δ1 := [.bor (albD views names ls), .imm (vwD1 p)]) (by simp! only [i0, en, din]) ?_
  generalize ((names.length : Nat) : Int) = N at *
  refine ssq_f (δ1 := [.bor (albD views names ls), .imm (vwD1 p)]) (by simp! only [eln, c, decide_false]) ?_
  rfl
theorem ev_addl (A : AlbOk views names ls) {k : Lk} (ha : k.a < names.length) (hb : k.b < names.length) (hne : k.a ≠ k.b) (sm : LkSm k) (hl : ls.length < 60) : b_Album_add_link ([.bor (albD views names ls), .imm (lkD names k)] ++ List.replicate 1 .no) = some (.ok .nx, [.bor (albD views names ls), .imm (lkD names k), .imm (nmD names k.b)]) := by
  have e1 := ev_islink A.nd A.ok ha hb hne sm
  have c : ¬ ((ls.length : Nat) : Int) ≥ 60 := by omega
  have eln : ∀ s, eLenF 0 false [.bor (albD views names ls), .imm (lkD names k), s] = some (.ok (.int (ls.length : Nat)), [.bor (albD views names ls), .imm (lkD names k), s]) := fun s => by
    show some (Except.ok (D.int ((ls.map (lkD names)).length : Nat)), _) = _
    rw [List.length_map]
  have din : ∀ v, v < names.length → dIn true (nmD names v) (strsN names (List.range names.length)) = some (.bl false) := fun v hv => by
    rw [dIn_nm A.nd A.ok (neg := true) hv (fun u m => List.mem_range.mp m)]
    simp [List.mem_range.mpr hv]
  have en : ∀ s, eMeth m_Album_names 0 aNil [.bor (albD views names ls), .imm (lkD names k), s] = some (.ok (strsN names (List.range names.length)), [.bor (albD views names ls), .imm (lkD names k), s]) := fun s => by
    rw [← strsN_names]
    exact nmsM (i := 0) rfl (ev_a_names A)
  have dsl : dSl (lkD names k) none (some 2) = some (.tup [nmD names k.a, nmD names k.b]) := rfl
  have d1 := din _ ha
  have d2 := din _ hb
  unfold b_Album_add_link
  refine ssq_f (δ1 := [.bor (albD views names ls), .imm (lkD names k), .no]) (by simp! only [e1, dTru_bl, Bool.not_true]) ?_
  refine ssq (δ1 := [.bor (albD views names ls), .imm (lkD names k), .imm (nmD names k.b)]) ?_ ?_
  · unfold sFor
    rw [bind_ok (a := [nmD names k.a, nmD names k.b]) (δ1 := [.bor (albD views names ls), .imm (lkD names k), .no]) (by simp! only [dsl, itD])]
    unfold forM
    rw [bind_ok (a := ()) (δ1 := [.bor (albD views names ls), .imm (lkD names k), .imm (nmD names k.a)]) (by simp! only [])]
    have s1 : (sIf (eB (eBin (dIn true) (eV 2) (eMeth m_Album_names 0 aNil))) sNever sNx) [.bor (albD views names ls), .imm (lkD names k), .imm (nmD names k.a)] = some (.ok .nx, [.bor (albD views names ls), .imm (lkD names k), .imm (nmD names k.a)]) := s1f (by simp! only [en, d1])
    have s2 : (sIf (eB (eBin (dIn true) (eV 2) (eMeth m_Album_names 0 aNil))) sNever sNx) [.bor (albD views names ls), .imm (lkD names k), .imm (nmD names k.b)] = some (.ok .nx, [.bor (albD views names ls), .imm (lkD names k), .imm (nmD names k.b)]) := s1f (by simp! only [en, d2])
    simp only [s1]
    unfold forM
    rw [bind_ok (a := ()) (δ1 := [.bor (albD views names ls), .imm (lkD names k), .imm (nmD names k.b)]) (by simp! only [])]
    simp only [s2]
    rfl
  · generalize ((ls.length : Nat) : Int) = N at *
    refine ssq_f (δ1 := [.bor (albD views names ls), .imm (lkD names k), .imm (nmD names k.b)]) (by simp! only [eln, c, decide_false]) ?_
    rfl
end
end M
set_option Elab.async false
set_option linter.all false
set_option maxRecDepth 100000
set_option maxHeartbeats 2000000
namespace M
open PySem L2
local macro_rules
  | `(tactic| simp! only [$as,*]) => `(tactic| simp only [x_bind, bk_ok, bk_ite, x_ret, x_lift, lk_some, lk_ite, app_ite, x_eC, x_eV, vk_imm, vk_own, vk_bor, x_give, gk_own, x_bin, x_un, x_ix, x_tru, x_eB, dBl_bl, dTru_bl, dTru_int, dTru_lst, x_and, x_or, x_not, x_eAnd, x_eOr, x_eNot, x_eIf, x_chain, x_aNil, x_aCons, x_aVr, rk_own, rk_io, x_aVb, tk_own, tk_io, tk_imm, tk_bor, x_eTup, x_eLst, imms_nil, imms_im, x_eF, x_call, ixV_C, jk_imm, jk_own, jk_io, jk_bor, flk_int, x_lenV, nk_imm, nk_own, nk_io, nk_bor, x_inV, hk_imm, hk_own, hk_io, hk_bor, x_sNx, x_pass, x_cont, x_brk, x_seq, sk_nx, sk_rt, sk_rtO, sk_ct, sk_bk, sk_ite, x_drop, x_sRet, x_sRetO, x_sIf, x_asg, x_asgO, x_gN, x_gO, x_gNil, x_gCons, x_gTt, x_gTl, x_sApp, x_sSet, x_chM, ck_own, ck_io, x_iOf, x_iRg, x_fn, fk_rt, fk_nx, fk_ite, ios_z, ios_s, keep_io, keep_imm, keep_own, keep_bor, keep_no, dSub_i, dAdd_i, dLt_i, dLe_i, dGt_i, dGe_i, dEq_int, dNe_int, ix_lst, ix_scr, ix_tup, atI_0, atI_1, atI_2, atI_3, List.getElem?_cons_zero, List.getElem?_cons_succ, List.set_cons_zero, List.set_cons_succ, List.length_cons, List.length_nil, List.cons_append, List.nil_append, List.replicate_succ, List.replicate_zero, Option.map_some, Option.bind_some, Nat.reduceAdd, Nat.reduceSub, Nat.reduceLT, Nat.reduceLeDiff, if_true, if_false, Bool.false_eq_true, decide_eq_true_eq, reduceIte, ne_eq, not_false_eq_true, Nat.lt_add_left_iff_pos, Nat.zero_lt_succ, x_call1, x_call2, x_call3, x_call4, dk1, dk2, dk3, dk4, ixV_V, Nat.reduceEqDiff, not_false_eq_true, x_isLst, x_isSet, List.map_cons, List.map_nil, Option.map_none, Option.bind_none, x_eSl, x_eP0, x_eP1, part_i, $as,*])
theorem sAlb_ok {i : Nat} {S : Mo Out} {δ δ' : Env} {o : Out} (hi : i < δ.length) (h : S (δ.set i (.bor (.alb [] []))) = some (.ok o, δ')) : sAlb i S δ = some (.ok o, δ'.set i .no) := by
  unfold sAlb
  rw [if_pos hi, h]
theorem sRetAlb_ok {i : Nat} {δ : Env} {vs ls : List D} (h : δ[i]? = some (.bor (.alb vs ls))) (p1 : pureDs vs = true) (p2 : pureDs ls = true) : sRetAlb i δ = some (.ok (.rt (.alb vs ls)), δ) := by
  have ha : albSl δ i = some (vs, ls) := by unfold albSl; rw [h]
  unfold sRetAlb
  rw [ha]
  simp only []
  rw [if_pos (by rw [p1, p2]; rfl)]
theorem AlbOk.takeV {views : List Vw1} {names : List (List Nat)} {ls : List Lk} (A : AlbOk views names ls) (j : Nat) : AlbOk (views.take j) (names.take j) [] :=
  ⟨by rw [List.map_take, A.nm], A.nd.sublist (List.take_sublist _ _), fun l m => A.ok l (List.mem_of_mem_take m), fun p m => A.pv p (List.mem_of_mem_take m), fun k m => (by cases m), by rw [List.length_take]; have := A.len; omega, by simp⟩
theorem AlbOk.takeL {views : List Vw1} {names : List (List Nat)} {ls : List Lk} (A : AlbOk views names ls) (j : Nat) : AlbOk views names (ls.take j) :=
  ⟨A.nm, A.nd, A.ok, A.pv, fun k m => A.lk k (List.mem_of_mem_take m), A.len, by rw [List.length_take]; have := A.lln; omega⟩
section
variable {views : List Vw1} {names : List (List Nat)} {ls : List Lk}
abbrev laE (views : List Vw1) (names : List (List Nat)) (ls : List Lk) (a : D) (s4 s5 : Sl) : Env := [.imm (strsN names (List.range names.length)), .imm (.lst (views.map (·.2))), .imm (.lst (ls.map (lkD names))), .bor a, s4, s5]
theorem ev_album (A : AlbOk views names ls) (hv : ∀ p ∈ views, viewB (vwD1 p) = true ∧ viewOk (vwD1 p)) (sm : ∀ k ∈ ls, LkSm k) : m__law_album [.imm (strsN names (List.range names.length)), .imm (.lst (views.map (·.2))), .imm (.lst (ls.map (lkD names)))] = some (.ok (albD views names ls), [.no, .no, .no]) := by
  have hn := A.len
  have hln := A.lln
  have hvl := A.vlen
  obtain ⟨δ1, f1, y4, rfl⟩ := sFor_inv (I := (iRg rg1 (aCons (eF fLen (aCons (eV 0) aNil)) aNil))) (T := gN 4) (S := (sAdd 3 true b_Album_add_view 0 (eTup (aCons (eIxV 0 (eV 4)) (aCons (eIxV 1 (eV 4)) aNil))))) (ds := rgD 0 names.length)
    (δ := laE views names ls (.alb [] []) .no .no) (δ0 := laE views names ls (.alb [] []) .no .no)
    (fun j δ => ∃ y4, δ = laE views names ls (albD (views.take j) (names.take j) []) y4 .no)
    (by
      have lt : fLen [strsN names (List.range names.length)] = some (.int (names.length : Nat)) := by
        show some (D.int (((List.range names.length).map (nmD names)).length : Nat)) = _
        rw [List.length_map, List.length_range]
      simp! only [lt, rg1_n (show names.length ≤ 1000 by omega)]) ⟨_, rfl⟩ (fun j d δ hj hδ => by
      obtain ⟨y4, rfl⟩ := hδ
      obtain ⟨hj', rfl⟩ := rgD_get hj
      clear hj
      have hjv : j < views.length := by omega
      have mv : views[j] ∈ views := List.getElem_mem hjv
      have e0 : dIx (strsN names (List.range names.length)) (.int (j : Nat)) = some (nmD names j) := at_map (f := nmD names) (List.getElem?_range hj')
      have e1 : dIx (.lst (views.map (·.2))) (.int (j : Nat)) = some views[j].2 := at_map (f := fun p : Vw1 => p.2) (List.getElem?_eq_getElem hjv)
      have enm : nmD names j = .str (mkS views[j].1) := by
        have : names[j]? = some views[j].1 := by rw [← A.nm, List.getElem?_map, List.getElem?_eq_getElem hjv]; rfl
        unfold nmD nmOf
        rw [List.getD_eq_getElem?_getD, this]; rfl
      have hnew : views[j].1 ∉ names.take j := fun m => by
        obtain ⟨i, hi, e⟩ := List.getElem_of_mem m
        rw [List.length_take] at hi
        rw [List.getElem_take] at e
        have hj2 : names[j] = views[j].1 := by
          have : names[j]? = some views[j].1 := by rw [← A.nm, List.getElem?_map, List.getElem?_eq_getElem hjv]; rfl
          rw [List.getElem?_eq_getElem hj'] at this
          exact Option.some.inj this
        rw [← hj2] at e
        have := (List.getElem_inj A.nd).mp e
        omega
      have hnm : nmL views[j].1 = true := A.ok _ (by rw [← A.nm]; exact List.mem_map.mpr ⟨_, mv, rfl⟩)
      have hadd := ev_addv (A.takeV j) (p := views[j]) hnew hnm (hv _ mv).1 (hv _ mv).2 (by rw [List.length_take]; omega)
      have p1 := pure_views (A.takeV j).pv
      have eadd : albAdd true ((views.take j).map vwD1) (([] : List Lk).map (lkD (names.take j))) (vwD1 views[j]) = albD (views.take (j + 1)) (names.take (j + 1)) [] := by
        have : views.take (j + 1) = views.take j ++ [views[j]] := by rw [List.take_succ, List.getElem?_eq_getElem hjv]; rfl
        unfold albD
        rw [this, List.map_append]; rfl
      have pd : pureD (vwD1 views[j]) = true := by
        have := pure_views (views := [views[j]]) (fun p m => by simp at m; subst m; exact A.pv _ mv)
        simp only [List.map_cons, List.map_nil] at this
        unfold pureDs at this
        rw [Bool.and_eq_true] at this
        exact this.1
      refine ⟨laE views names ls (albD (views.take j) (names.take j) []) (.imm (.int (j : Nat))) .no, laE views names ls (albD (views.take (j + 1)) (names.take (j + 1)) []) (.imm (.int (j : Nat))) .no, by simp! only [], .inl ?_, _, rfl⟩
      have hE : (eTup (aCons (eIxV 0 (eV 4)) (aCons (eIxV 1 (eV 4)) aNil))) (laE views names ls (albD (views.take j) (names.take j) []) (.imm (.int (j : Nat))) .no) = some (.ok (vwD1 views[j]), laE views names ls (albD (views.take j) (names.take j) []) (.imm (.int (j : Nat))) .no) := by
        unfold vwD1
        rw [enm] at e0
        generalize ((j : Nat) : Int) = J at *
        simp! only [e0, e1]
      have := sAdd_ok (i := 3) (n := 0) (b := true) (Pm := b_Album_add_view) (vs := (views.take j).map vwD1) (ls := ([] : List Lk).map (lkD (names.take j))) (d := vwD1 views[j]) (tl := []) rfl hE p1 (by show pureDs [] = true; unfold pureDs; rfl) hadd pd (by show ((views.take j).map vwD1).length ≤ 1000; rw [List.length_map, List.length_take]; omega)
      rw [eadd] at this
      exact this)
  rw [rgD_len] at f1
  obtain ⟨δ2, f2, y5, rfl⟩ := sFor_inv (I := (iOf (eV 2))) (T := gN 5) (S := (sAdd 3 false b_Album_add_link 1 (eV 5))) (ds := ls.map (lkD names))
    (δ := laE views names ls (albD views names []) y4 .no) (δ0 := laE views names ls (albD views names []) y4 .no)
    (fun j δ => ∃ y5, δ = laE views names ls (albD views names (ls.take j)) y4 y5)
    (by simp! only [itD]) ⟨_, rfl⟩ (fun j d δ hj hδ => by
      obtain ⟨y5, rfl⟩ := hδ
      obtain ⟨k, hk, rfl⟩ := getmap hj
      have hjl := (List.getElem?_eq_some_iff.mp hk).1
      have mk := List.mem_of_getElem? hk
      obtain ⟨ka, kb, kne⟩ := A.lk k mk
      have hadd := ev_addl (A.takeL j) ka kb kne (sm k mk) (by rw [List.length_take]; omega)
      have eadd : albAdd false (views.map vwD1) ((ls.take j).map (lkD names)) (lkD names k) = albD views names (ls.take (j + 1)) := by
        have : ls.take (j + 1) = ls.take j ++ [k] := by rw [List.take_succ, hk]; rfl
        unfold albD
        rw [this, List.map_append]; rfl
      have pd : pureD (lkD names k) = true := by unfold lkD nmD; simp only [pureD, pureDs]; rfl
      refine ⟨laE views names ls (albD views names (ls.take j)) y4 (.imm (lkD names k)), laE views names ls (albD views names (ls.take (j + 1))) y4 (.imm (lkD names k)), by simp! only [], .inl ?_, _, rfl⟩
      have := sAdd_ok (i := 3) (n := 1) (b := false) (E := eV 5) (Pm := b_Album_add_link) (δ := laE views names ls (albD views names (ls.take j)) y4 (.imm (lkD names k))) (vs := views.map vwD1) (ls := (ls.take j).map (lkD names)) (d := lkD names k) (tl := [.imm (nmD names k.b)]) rfl (by simp! only []) (pure_views A.pv) pure_links hadd pd (by show ((ls.take j).map (lkD names)).length ≤ 1000; rw [List.length_map, List.length_take]; omega)
      rw [eadd] at this
      exact this)
  rw [List.length_map, List.take_of_length_le (Nat.le_refl _)] at f2
  have t1 : views.take names.length = views := List.take_of_length_le (by omega)
  have t2 : names.take names.length = names := List.take_of_length_le (Nat.le_refl _)
  rw [t1, t2] at f1
  refine (fn_rt (δ1 := (laE views names ls (albD views names ls) y4 y5).set 3 .no) ?_).trans rfl
  unfold b__law_album
  refine sAlb_ok (by simp) ?_
  refine ssq f1 ?_
  refine ssq f2 ?_
  exact sRetAlb_ok (i := 3) rfl (pure_views A.pv) pure_links
end
end M
set_option Elab.async false
set_option linter.all false
set_option maxRecDepth 100000
set_option maxHeartbeats 4000000
namespace M
open PySem L2
local macro_rules
  | `(tactic| simp! only [$as,*]) => `(tactic| simp only [x_bind, bk_ok, bk_ite, x_ret, x_lift, lk_some, lk_ite, app_ite, x_eC, x_eV, vk_imm, vk_own, vk_bor, x_give, gk_own, x_bin, x_un, x_ix, x_tru, x_eB, dBl_bl, dTru_bl, dTru_int, dTru_lst, x_and, x_or, x_not, x_eAnd, x_eOr, x_eNot, x_eIf, x_chain, x_aNil, x_aCons, x_aVr, rk_own, rk_io, x_aVb, tk_own, tk_io, tk_imm, tk_bor, x_eTup, x_eLst, imms_nil, imms_im, x_eF, x_call, ixV_C, jk_imm, jk_own, jk_io, jk_bor, flk_int, x_lenV, nk_imm, nk_own, nk_io, nk_bor, x_inV, hk_imm, hk_own, hk_io, hk_bor, x_sNx, x_pass, x_cont, x_brk, x_seq, sk_nx, sk_rt, sk_rtO, sk_ct, sk_bk, sk_ite, x_drop, x_sRet, x_sRetO, x_sIf, x_asg, x_asgO, x_gN, x_gO, x_gNil, x_gCons, x_gTt, x_gTl, x_sApp, x_sSet, x_chM, ck_own, ck_io, x_iOf, x_iRg, x_fn, fk_rt, fk_nx, fk_ite, ios_z, ios_s, keep_io, keep_imm, keep_own, keep_bor, keep_no, dSub_i, dAdd_i, dLt_i, dLe_i, dGt_i, dGe_i, dEq_int, dNe_int, ix_lst, ix_scr, ix_tup, atI_0, atI_1, atI_2, atI_3, List.getElem?_cons_zero, List.getElem?_cons_succ, List.set_cons_zero, List.set_cons_succ, List.length_cons, List.length_nil, List.cons_append, List.nil_append, List.replicate_succ, List.replicate_zero, Option.map_some, Option.bind_some, Nat.reduceAdd, Nat.reduceSub, Nat.reduceLT, Nat.reduceLeDiff, if_true, if_false, Bool.false_eq_true, decide_eq_true_eq, reduceIte, ne_eq, not_false_eq_true, Nat.lt_add_left_iff_pos, Nat.zero_lt_succ, x_call1, x_call2, x_call3, x_call4, dk1, dk2, dk3, dk4, ixV_V, Nat.reduceEqDiff, not_false_eq_true, x_isLst, x_isSet, List.map_cons, List.map_nil, Option.map_none, Option.bind_none, x_eSl, x_eP0, x_eP1, part_i, $as,*])
abbrev P3 := Int × Int × Int
def p3D (p : P3) : D := .tup [.int p.1, .int p.2.1, .int p.2.2]
def PSm (p : P3) : Prop := p.1.natAbs ≤ 3 ∧ p.2.1.natAbs ≤ 2 ∧ p.2.2.natAbs ≤ 4
def plcD (names : List (List Nat)) (P : List P3) : D := .dK ((List.range P.length).map fun v => (.inr (nmOf names v), p3D (P.getD v (0, 0, 0))))
theorem plc_put {names : List (List Nat)} (nd : names.Nodup) {P : List P3} {p : P3} (h : P.length < names.length) : putA ((List.range P.length).map fun v => ((.inr (nmOf names v) : Key), p3D (P.getD v (0, 0, 0)))) (.inr (nmOf names P.length)) (p3D p) = (List.range (P ++ [p]).length).map fun v => ((.inr (nmOf names v) : Key), p3D ((P ++ [p]).getD v (0, 0, 0))) := by
  unfold putA
  rw [if_neg]
  · rw [List.length_append, List.length_singleton, List.range_succ, List.map_append]
    congr 1
    · apply List.map_congr_left
      intro v hv
      have hv := List.mem_range.mp hv
      rw [List.getD_eq_getElem?_getD, List.getD_eq_getElem?_getD, List.getElem?_append_left hv]
    · rw [List.map_cons, List.map_nil, List.getD_eq_getElem?_getD, List.getElem?_append_right (Nat.le_refl _), Nat.sub_self]; rfl
  · intro c
    rw [List.any_eq_true] at c
    obtain ⟨x, hx, e⟩ := c
    obtain ⟨v, hv, rfl⟩ := List.mem_map.mp hx
    have hv := List.mem_range.mp hv
    have e := of_decide_eq_true e
    have := nm_inj nd (by omega) h (Sum.inr.inj e)
    omega
theorem plc_ix {names : List (List Nat)} (nd : names.Nodup) {P : List P3} (h : P.length ≤ names.length) {v : Nat} (hv : v < P.length) : dIx (plcD names P) (nmD names v) = some (p3D (P.getD v (0, 0, 0))) := by
  have key : ∀ (vs : List Nat), (∀ w ∈ vs, w < names.length) → v ∈ vs → lookA (vs.map fun v => ((.inr (nmOf names v) : Key), p3D (P.getD v (0, 0, 0)))) (.inr (nmOf names v)) = some (p3D (P.getD v (0, 0, 0))) := fun vs => by
    induction vs with
    | nil => intro _ m; cases m
    | cons w vs ih =>
      intro hw m
      unfold lookA
      rw [List.map_cons]
      by_cases c : w = v
      · subst c; rw [List.find?_cons_of_pos (by simp)]; rfl
      · rw [List.find?_cons_of_neg (by simp only [decide_eq_true_eq]; exact fun z => c (nm_inj nd (hw w List.mem_cons_self) (by omega) (Sum.inr.inj z)))]
        exact ih (fun x m => hw x (List.mem_cons_of_mem _ m)) ((List.mem_cons.mp m).resolve_left (Ne.symm c))
  have := key (List.range P.length) (fun w m => by have := List.mem_range.mp m; omega) (List.mem_range.mpr hv)
  show ((some (lookA _ _) : Option (Option D))).bind id = _
  rw [this]; rfl
theorem p_0 {p : P3} : dIx (p3D p) (.int 0) = some (.int p.1) := atI_0
theorem p_1 {p : P3} : dIx (p3D p) (.int 1) = some (.int p.2.1) := atI_1
theorem p_2 {p : P3} : dIx (p3D p) (.int 2) = some (.int p.2.2) := atI_2
def cp (p : P3) : Nat → Int
  | 0 => p.1
  | 1 => p.2.1
  | _ => p.2.2
theorem p_i {p : P3} {i : Nat} (h : i < 3) : dIx (p3D p) (.int (i : Nat)) = some (.int (cp p i)) := by
  match i, h with
  | 0, _ => exact p_0
  | 1, _ => exact p_1
  | 2, _ => exact p_2
section
variable {names : List (List Nat)}
abbrev lE2 (p : D) (names : List (List Nat)) (P : List P3) (s4 : Sl) (ls : List Lk) (s6 s7 s8 s9 s10 : Sl) : Env := [.io p, .imm (strsN names (List.range names.length)), .imm (.int 8), .own (plcD names P), s4, .own (.lst (ls.map (lkD names))), s6, s7, s8, s9, s10]
noncomputable def moveB : Mo Out := (sSeq (sAsgO 9 (eLc (iRg rg1 (aCons (eC (.int 3)) aNil)) (gN 10) tYesM (eBin dSub (eIx (eIxV 3 (eV 8)) (eV 10)) (eIx (eIxV 3 (eV 7)) (eV 10))) [10]))
 (sSeq (sIf (eB (eBin dEq (eCall m__law_take (aVr 0 (aCons (eC (.int 7)) aNil))) (eC (.int 0))))
 (sSeq (sAsg (gN 10) (eCall m__law_take (aVr 0 (aCons (eC (.int 3)) aNil))))
 (sSet 9 (eV 10) (eBin dAdd (eIxV 9 (eV 10)) (eIx (eLst (aCons (eC (.int 1)) (aCons (eUn dNeg (eC (.int 1))) (aCons (eC (.int 5)) aNil)))) (eCall m__law_take (aVr 0 (aCons (eC (.int 3)) aNil)))))))
 sNx)
 (sApp 5 (eTup (aCons (eV 7) (aCons (eV 8) (aCons (eIxV 9 (eC (.int 0))) (aCons (eIxV 9 (eC (.int 1))) (aCons (eIxV 9 (eC (.int 2))) aNil)))))))))
theorem rgD0' {n : Nat} : rgD 0 n = (List.range n).map fun i : Nat => D.int (i : Int) := by
  unfold rgD
  apply List.map_congr_left
  intro i _
  rw [Int.zero_add]
theorem three_at {t : Int} (h0 : 0 ≤ t) (h : t < 3) : ∃ z, atI [D.int 1, .int (-1), .int 5] t = some (.int z) ∧ z.natAbs ≤ 5 := by
  have : t = 0 ∨ t = 1 ∨ t = 2 := by omega
  rcases this with e | e | e <;> rw [e]
  · exact ⟨1, atI_0, by omega⟩
  · exact ⟨-1, atI_1, by omega⟩
  · exact ⟨5, atI_2, by omega⟩
theorem ev_move {ns : List Int} {p : D} (ip : IsPl ns p) (nd : names.Nodup) {P : List P3} (hP : P.length = names.length) (sP : ∀ q ∈ P, PSm q) {ls : List Lk} (hl : ls.length ≤ 50) {a b : Nat} (ha : a < names.length) (hb : b < names.length) {s4 s6 s9 s10 : Sl} :
    ∃ p' k y9 y10, moveB (lE2 p names P s4 ls s6 (.imm (nmD names a)) (.imm (nmD names b)) s9 s10) = some (.ok .nx, lE2 p' names P s4 (ls ++ [k]) s6 (.imm (nmD names a)) (.imm (nmD names b)) y9 y10) ∧ IsPl ns p' ∧ k.a = a ∧ k.b = b ∧ LkSm k := by
  have ea := plc_ix nd (P := P) (by omega) (v := a) (by omega)
  have eb := plc_ix nd (P := P) (by omega) (v := b) (by omega)
  have gm : ∀ v, v < names.length → P.getD v (0, 0, 0) ∈ P := fun v hv => by
    rw [List.getD_eq_getElem?_getD, List.getElem?_eq_getElem (by omega)]; exact List.getElem_mem _
  have sa := sP _ (gm a ha)
  have sb := sP _ (gm b hb)
  generalize P.getD a (0, 0, 0) = pa at *
  generalize P.getD b (0, 0, 0) = pb at *
  obtain ⟨m0, hm0⟩ : ∃ m, m = pb.1 - pa.1 := ⟨_, rfl⟩
  obtain ⟨m1, hm1⟩ : ∃ m, m = pb.2.1 - pa.2.1 := ⟨_, rfl⟩
  obtain ⟨m2, hm2⟩ : ∃ m, m = pb.2.2 - pa.2.2 := ⟨_, rfl⟩
  have el : (eLc (iRg rg1 (aCons (eC (.int 3)) aNil)) (gN 10) tYesM (eBin dSub (eIx (eIxV 3 (eV 8)) (eV 10)) (eIx (eIxV 3 (eV 7)) (eV 10))) [10]) (lE2 p names P s4 ls s6 (.imm (nmD names a)) (.imm (nmD names b)) s9 s10) = some (.ok (.lst [.int m0, .int m1, .int m2]), lE2 p names P s4 ls s6 (.imm (nmD names a)) (.imm (nmD names b)) s9 .no) := by
    rw [eLc_map (l := List.range 3) (g := fun i : Nat => D.int (i : Int)) (p := fun _ => true) (f := fun i => D.int (cp pb i - cp pa i)) (δ0 := lE2 p names P s4 ls s6 (.imm (nmD names a)) (.imm (nmD names b)) s9 s10)]
    · rw [List.filter_eq_self.mpr (fun _ _ => rfl), hm0, hm1, hm2]; rfl
    · have := rg1_n (n := 3) (by omega)
      rw [← rgD0']
      have e3 : ((3 : Nat) : Int) = 3 := rfl
      rw [e3] at this
      simp! only [this]
    · simp
    · intro i hi
      have hi := List.mem_range.mp hi
      have ia := p_i (p := pa) hi
      have ib := p_i (p := pb) hi
      generalize ((i : Nat) : Int) = I at *
      refine ⟨lE2 p names P s4 ls s6 (.imm (nmD names a)) (.imm (nmD names b)) s9 (.imm (.int I)), lE2 p names P s4 ls s6 (.imm (nmD names a)) (.imm (nmD names b)) s9 (.imm (.int I)), by simp! only [wipeE], rfl, (fun z => by cases z), fun _ => ⟨lE2 p names P s4 ls s6 (.imm (nmD names a)) (.imm (nmD names b)) s9 (.imm (.int I)), ?_, rfl⟩⟩
      simp! only [ea, eb, ia, ib]
  -- the link at the end
  have fin : ∀ (p' : D) (z0 z1 z2 : Int) (y10 : Sl), (sApp 5 (eTup (aCons (eV 7) (aCons (eV 8) (aCons (eIxV 9 (eC (.int 0))) (aCons (eIxV 9 (eC (.int 1))) (aCons (eIxV 9 (eC (.int 2))) aNil))))))) (lE2 p' names P s4 ls s6 (.imm (nmD names a)) (.imm (nmD names b)) (.own (.lst [.int z0, .int z1, .int z2])) y10) = some (.ok .nx, lE2 p' names P s4 (ls ++ [(⟨a, b, z0, z1, z2⟩ : Lk)]) s6 (.imm (nmD names a)) (.imm (nmD names b)) (.own (.lst [.int z0, .int z1, .int z2])) y10) := fun p' z0 z1 z2 y10 => by
    have ap : dAppend (.tup [nmD names a, nmD names b, .int z0, .int z1, .int z2]) (.lst (ls.map (lkD names))) = some (.lst ((ls ++ [(⟨a, b, z0, z1, z2⟩ : Lk)]).map (lkD names))) := by
      show (if (ls.map (lkD names)).length < sizeLine then some (D.lst (ls.map (lkD names) ++ [_])) else none) = _
      rw [if_pos (by rw [List.length_map, sizeLine_eq]; omega), List.map_append]; rfl
    unfold sApp
    rw [if_pos (by unfold isLst; rfl)]
    simp! only [ap]
  obtain ⟨t1, d1, c1, i1, a1, b1⟩ := ev_tk ip (m := 7) (by omega) (by omega)
  obtain ⟨q1, q2, q3⟩ := sa
  obtain ⟨r1, r2, r3⟩ := sb
  by_cases h1 : t1 = 0
  · obtain ⟨t2, d2, c2, i2, a2, b2⟩ := ev_tk i1 (m := 3) (by omega) (by omega)
    obtain ⟨t3, d3, c3, i3, a3, b3⟩ := ev_tk i2 (m := 3) (by omega) (by omega)
    obtain ⟨z, ez, bz⟩ := three_at a3 b3
    have neg1 : dNeg (.int 1) = some (.int (-1)) := rfl
    have key : ∃ z0 z1 z2 : Int, (z0.natAbs ≤ 99 ∧ z1.natAbs ≤ 99 ∧ z2.natAbs ≤ 999) ∧ ∃ m, atI [D.int m0, .int m1, .int m2] t2 = some (.int m) ∧ dSet (.int t2) (.int (m + z)) (.lst [.int m0, .int m1, .int m2]) = some (.lst [.int z0, .int z1, .int z2]) := by
      have : t2 = 0 ∨ t2 = 1 ∨ t2 = 2 := by omega
      rcases this with e | e | e <;> rw [e]
      · exact ⟨m0 + z, m1, m2, by omega, m0, atI_0, rfl⟩
      · exact ⟨m0, m1 + z, m2, by omega, m1, atI_1, rfl⟩
      · exact ⟨m0, m1, m2 + z, by omega, m2, atI_2, rfl⟩
    obtain ⟨z0, z1, z2, hz, m, e1, e2⟩ := key
    refine ⟨d3, ⟨a, b, z0, z1, z2⟩, .own (.lst [.int z0, .int z1, .int z2]), .imm (.int t2), ?_, i3, rfl, rfl, hz⟩
    unfold moveB
    refine ssq (δ1 := lE2 p names P s4 ls s6 (.imm (nmD names a)) (.imm (nmD names b)) (.own (.lst [.int m0, .int m1, .int m2])) .no) (by simp! only [el, x_gO]) ?_
    refine ssq (δ1 := lE2 d3 names P s4 ls s6 (.imm (nmD names a)) (.imm (nmD names b)) (.own (.lst [.int z0, .int z1, .int z2])) (.imm (.int t2))) ?_ (fin d3 z0 z1 z2 _)
    refine st (δ1 := lE2 d1 names P s4 ls s6 (.imm (nmD names a)) (.imm (nmD names b)) (.own (.lst [.int m0, .int m1, .int m2])) .no) (by simp! only [c1, h1, decide_true]) ?_
    refine ssq (δ1 := lE2 d2 names P s4 ls s6 (.imm (nmD names a)) (.imm (nmD names b)) (.own (.lst [.int m0, .int m1, .int m2])) (.imm (.int t2))) (by simp! only [c2]) ?_
    simp! only [c3, neg1, ez, e1, e2] <;> rfl
  · refine ⟨d1, ⟨a, b, m0, m1, m2⟩, .own (.lst [.int m0, .int m1, .int m2]), .no, ?_, i1, rfl, rfl, ⟨by show m0.natAbs ≤ 99; omega, by show m1.natAbs ≤ 99; omega, by show m2.natAbs ≤ 999; omega⟩⟩
    unfold moveB
    refine ssq (δ1 := lE2 p names P s4 ls s6 (.imm (nmD names a)) (.imm (nmD names b)) (.own (.lst [.int m0, .int m1, .int m2])) .no) (by simp! only [el, x_gO]) ?_
    refine ssq (δ1 := lE2 d1 names P s4 ls s6 (.imm (nmD names a)) (.imm (nmD names b)) (.own (.lst [.int m0, .int m1, .int m2])) .no) (s1f (by simp! only [c1, h1, decide_false])) (fin d1 m0 m1 m2 _)
theorem ev_links {ns : List Int} {d : D} (hd : IsPl ns d) (nd : names.Nodup) (ok : ∀ l ∈ names, nmL l = true) (h1 : 1 ≤ names.length) (h2 : names.length ≤ 30) : ∃ (ls : List Lk) (d' : D), m__law_links [.io d, .imm (strsN names (List.range names.length)), .imm (.int 8)] = some (.ok (.lst (ls.map (lkD names))), [.io d', .no, .no]) ∧ IsPl ns d' ∧ LkOk names.length ls ∧ ls.length ≤ 8 ∧ ∀ k ∈ ls, LkSm k := by
  obtain ⟨δ1, f1, d1, P, y4, rfl, i1, lP, sP⟩ := sFor_inv (I := (iOf (eV 1))) (T := gN 4)
    (S := (sSet 3 (eV 4) (eTup (aCons (eBin dSub (eCall m__law_take (aVr 0 (aCons (eC (.int 7)) aNil))) (eC (.int 3))) (aCons (eBin dSub (eCall m__law_take (aVr 0 (aCons (eC (.int 5)) aNil))) (eC (.int 2))) (aCons (eBin dSub (eCall m__law_take (aVr 0 (aCons (eC (.int 9)) aNil))) (eC (.int 4))) aNil)))))) (ds := (List.range names.length).map (nmD names))
    (δ := [.io d, .imm (strsN names (List.range names.length)), .imm (.int 8), .own (plcD names []), .no, .no, .no, .no, .no, .no, .no]) (δ0 := [.io d, .imm (strsN names (List.range names.length)), .imm (.int 8), .own (plcD names []), .no, .no, .no, .no, .no, .no, .no])
    (fun j δ => ∃ (d1 : D) (P : List P3) (y4 : Sl), δ = [.io d1, .imm (strsN names (List.range names.length)), .imm (.int 8), .own (plcD names P), y4, .no, .no, .no, .no, .no, .no] ∧ IsPl ns d1 ∧ P.length = j ∧ ∀ q ∈ P, PSm q)
    (by unfold strsN; simp! only [itD]) ⟨d, [], .no, rfl, hd, rfl, fun q m => (by cases m)⟩ (fun j x δ hj hδ => by
      obtain ⟨d1, P, y4, rfl, i1, lP, sP⟩ := hδ
      obtain ⟨v, hv, rfl⟩ := getmap hj
      have hjl := (List.getElem?_eq_some_iff.mp hv).1
      rw [List.length_range] at hjl
      rw [List.getElem?_range hjl] at hv
      cases hv
      obtain ⟨t1, e1, c1, k1, a1, b1⟩ := ev_tk i1 (m := 7) (by omega) (by omega)
      obtain ⟨t2, e2, c2, k2, a2, b2⟩ := ev_tk k1 (m := 5) (by omega) (by omega)
      obtain ⟨t3, e3, c3, k3, a3, b3⟩ := ev_tk k2 (m := 9) (by omega) (by omega)
      have hput := plc_put nd (P := P) (p := (t1 - 3, t2 - 2, t3 - 4)) (by omega)
      have es : dSet (nmD names P.length) (.tup [.int (t1 - 3), .int (t2 - 2), .int (t3 - 4)]) (plcD names P) = some (plcD names (P ++ [(t1 - 3, t2 - 2, t3 - 4)])) := by
        have hl : ((List.range P.length).map fun v => ((.inr (nmOf names v) : Key), p3D (P.getD v (0, 0, 0)))).length < sizeLine := by
          rw [List.length_map, List.length_range, sizeLine_eq]; omega
        show (if ((List.range P.length).map fun v => ((.inr (nmOf names v) : Key), p3D (P.getD v (0, 0, 0)))).length < sizeLine then some (D.dK (putA ((List.range P.length).map fun v => ((.inr (nmOf names v) : Key), p3D (P.getD v (0, 0, 0)))) (.inr (nmOf names P.length)) (p3D (t1 - 3, t2 - 2, t3 - 4)))) else none) = _
        rw [if_pos hl, hput]; rfl
      rw [lP] at es
      refine ⟨[.io d1, .imm (strsN names (List.range names.length)), .imm (.int 8), .own (plcD names P), .imm (nmD names j), .no, .no, .no, .no, .no, .no], [.io e3, .imm (strsN names (List.range names.length)), .imm (.int 8), .own (plcD names (P ++ [(t1 - 3, t2 - 2, t3 - 4)])), .imm (nmD names j), .no, .no, .no, .no, .no, .no], by simp! only [], .inl (by simp! only [c1, c2, c3, es] <;> rfl), e3, P ++ [(t1 - 3, t2 - 2, t3 - 4)], _, rfl, k3, by rw [List.length_append, lP]; rfl, fun q m => ?_⟩
      rcases List.mem_append.mp m with m | m
      · exact sP q m
      · simp at m; subst m
        exact ⟨by show (t1 - 3).natAbs ≤ 3; omega, by show (t2 - 2).natAbs ≤ 2; omega, by show (t3 - 4).natAbs ≤ 4; omega⟩)
  rw [List.length_map, List.length_range] at lP
  obtain ⟨t0, d2, c0, i2, a0, b0⟩ := ev_tk i1 (m := 9) (by omega) (by omega)
  obtain ⟨n0, rfl⟩ : ∃ n : Nat, t0 = (n : Int) := ⟨t0.toNat, by omega⟩
  have lnm : fLen [strsN names (List.range names.length)] = some (.int (names.length : Nat)) := by
    show some (D.int (((List.range names.length).map (nmD names)).length : Nat)) = _
    rw [List.length_map, List.length_range]
  have ixn : ∀ t : Int, 0 ≤ t → t < (names.length : Nat) → ∃ v, v < names.length ∧ dIx (strsN names (List.range names.length)) (.int t) = some (nmD names v) := fun t h0 h => by
    obtain ⟨v, rfl⟩ : ∃ v : Nat, t = (v : Int) := ⟨t.toNat, by omega⟩
    exact ⟨v, by omega, at_map (f := nmD names) (List.getElem?_range (by omega))⟩
  obtain ⟨δ2, f2, d3, ls, y6, y7, y8, y9, y10, rfl, i3, lk, ln, sm⟩ := sFor_inv (I := (iRg rg1 (aCons (eCall m__law_take (aVr 0 (aCons (eBin dAdd (eV 2) (eC (.int 1))) aNil))) aNil))) (T := gN 6)
    (S := (sSeq (sAsg (gN 7) (eIxV 1 (eCall m__law_take (aVr 0 (aCons (eF fLen (aCons (eV 1) aNil)) aNil)))))
 (sSeq (sAsg (gN 8) (eIxV 1 (eCall m__law_take (aVr 0 (aCons (eF fLen (aCons (eV 1) aNil)) aNil)))))
 (sIf (eB (eBin dNe (eV 7) (eV 8))) moveB sNx)))) (ds := rgD 0 n0)
    (δ := lE2 d1 names P y4 [] .no .no .no .no .no) (δ0 := lE2 d2 names P y4 [] .no .no .no .no .no)
    (fun j δ => ∃ (d3 : D) (ls : List Lk) (y6 y7 y8 y9 y10 : Sl), δ = lE2 d3 names P y4 ls y6 y7 y8 y9 y10 ∧ IsPl ns d3 ∧ LkOk names.length ls ∧ ls.length ≤ j ∧ ∀ k ∈ ls, LkSm k)
    (by
      have r := rg1_n (show n0 ≤ 1000 by omega)
      have n9 : (8 : Int) + 1 = 9 := rfl
      generalize ((n0 : Nat) : Int) = N at *
      simp! only [n9, c0, r] <;> rfl) ⟨d2, [], _, _, _, _, _, rfl, i2, fun k m => (by cases m), Nat.zero_le _, fun k m => (by cases m)⟩ (fun j x δ hj hδ => by
      obtain ⟨d3, ls, y6, y7, y8, y9, y10, rfl, i3, lk, ln, sm⟩ := hδ
      obtain ⟨hj', rfl⟩ := rgD_get hj
      obtain ⟨t1, e1, c1, k1, a1, b1⟩ := ev_tk i3 (m := (names.length : Nat)) (by omega) (by omega)
      obtain ⟨t2, e2, c2, k2, a2, b2⟩ := ev_tk k1 (m := (names.length : Nat)) (by omega) (by omega)
      obtain ⟨a, ha, xa⟩ := ixn t1 a1 b1
      obtain ⟨b, hb, xb⟩ := ixn t2 a2 b2
      have hdx : ∀ {dd dd' : D} {t : Int} {v : Nat} {s6 s7 s8 s9 s10 : Sl} (c : ∀ δ, callM m__law_take [.vr 0, .im (.int (names.length : Nat))] (.io dd :: δ) = some (.ok (.int t), .io dd' :: δ)), dIx (strsN names (List.range names.length)) (.int t) = some (nmD names v) → eIxV 1 (eCall m__law_take (aVr 0 (aCons (eF fLen (aCons (eV 1) aNil)) aNil))) (lE2 dd names P y4 ls s6 s7 s8 s9 s10) = some (.ok (nmD names v), lE2 dd' names P y4 ls s6 s7 s8 s9 s10) := fun {dd dd' t v s6 s7 s8 s9 s10} c xx => by
        rw [ixV_E (d := strsN names (List.range names.length)) (y := .int t) (δ' := lE2 dd' names P y4 ls s6 s7 s8 s9 s10) rfl ?_ rfl, xx]; rfl
        generalize ((names.length : Nat) : Int) = N at *
        simp! only [lnm, c]
      have nea := nmB_ok (nm_nm ok ha)
      have neb := nmB_ok (nm_nm ok hb)
      have dne : dNe (nmD names a) (nmD names b) = some (.bl (!decide (nmOf names a = nmOf names b))) := by
        show (if shp (.str (nmOf names a)) = true ∧ shp (.str (nmOf names b)) = true then some (D.bl (!PyData.eqv (toPy (.str (nmOf names a))) (toPy (.str (nmOf names b))))) else none) = _
        rw [if_pos ⟨fine_shp (fine_s nea).1, fine_shp (fine_s neb).1⟩]
        unfold toPy PyData.eqv
        by_cases c : nmOf names a = nmOf names b <;> simp [c]
      have w1 := hdx (s6 := .imm (.int (j : Nat))) (s7 := y7) (s8 := y8) (s9 := y9) (s10 := y10) c1 xa
      have w2 := hdx (s6 := .imm (.int (j : Nat))) (s7 := .imm (nmD names a)) (s8 := y8) (s9 := y9) (s10 := y10) c2 xb
      by_cases c : a = b
      · subst c
        have dne : dNe (nmD names a) (nmD names a) = some (.bl false) := by rw [dne]; simp
        refine ⟨lE2 d3 names P y4 ls (.imm (.int (j : Nat))) y7 y8 y9 y10, lE2 e2 names P y4 ls (.imm (.int (j : Nat))) (.imm (nmD names a)) (.imm (nmD names a)) y9 y10, by simp! only [], .inl ?_, e2, ls, _, _, _, _, _, rfl, k2, lk, by omega, sm⟩
        refine ssq (δ1 := lE2 e1 names P y4 ls (.imm (.int (j : Nat))) (.imm (nmD names a)) y8 y9 y10) (by simp! only [w1]) ?_
        refine ssq (δ1 := lE2 e2 names P y4 ls (.imm (.int (j : Nat))) (.imm (nmD names a)) (.imm (nmD names a)) y9 y10) (by simp! only [w2]) ?_
        exact s1f (by simp! only [dne])
      · have hnab : ¬ nmOf names a = nmOf names b := fun z => c (nm_inj nd ha hb z)
        have dne : dNe (nmD names a) (nmD names b) = some (.bl true) := by rw [dne]; simp [hnab]
        obtain ⟨p', k, z9, z10, em, k3, ka, kb, ks⟩ := ev_move k2 nd lP sP (ls := ls) (by omega) ha hb (s4 := y4) (s6 := .imm (.int (j : Nat))) (s9 := y9) (s10 := y10)
        refine ⟨lE2 d3 names P y4 ls (.imm (.int (j : Nat))) y7 y8 y9 y10, lE2 p' names P y4 (ls ++ [k]) (.imm (.int (j : Nat))) (.imm (nmD names a)) (.imm (nmD names b)) z9 z10, by simp! only [], .inl ?_, p', ls ++ [k], _, _, _, _, _, rfl, k3, fun q m => ?_, by rw [List.length_append, List.length_singleton]; omega, fun q m => ?_⟩
        · refine ssq (δ1 := lE2 e1 names P y4 ls (.imm (.int (j : Nat))) (.imm (nmD names a)) y8 y9 y10) (by simp! only [w1]) ?_
          refine ssq (δ1 := lE2 e2 names P y4 ls (.imm (.int (j : Nat))) (.imm (nmD names a)) (.imm (nmD names b)) y9 y10) (by simp! only [w2]) ?_
          exact st (δ1 := lE2 e2 names P y4 ls (.imm (.int (j : Nat))) (.imm (nmD names a)) (.imm (nmD names b)) y9 y10) (by simp! only [dne]) em
        · rcases List.mem_append.mp m with m | m
          · exact lk q m
          · simp at m; subst m; rw [ka, kb]; exact ⟨ha, hb, c⟩
        · rcases List.mem_append.mp m with m | m
          · exact sm q m
          · simp at m; subst m; exact ks)
  rw [rgD_len] at ln
  refine ⟨ls, d3, (fn_rt (δ1 := [.io d3, .imm (strsN names (List.range names.length)), .imm (.int 8), .own (plcD names P), y4, .imm (.lst (ls.map (lkD names))), y6, y7, y8, y9, y10]) ?_).trans rfl, i3, lk, by omega, sm⟩
  unfold b__law_links
  refine ssq (δ1 := [.io d, .imm (strsN names (List.range names.length)), .imm (.int 8), .own (plcD names []), .no, .no, .no, .no, .no, .no, .no]) (by
    have : eD0 (.dK []) = eD0 (plcD names []) := rfl
    simp! only [eD0, x_gO]; rfl) ?_
  refine ssq f1 ?_
  refine ssq (δ1 := lE2 d1 names P y4 [] .no .no .no .no .no) (by simp! only [x_gO]; rfl) ?_
  refine ssq f2 ?_
  simp! only []
end
end M
set_option Elab.async false
set_option linter.all false
set_option maxRecDepth 100000
set_option maxHeartbeats 4000000
namespace M
open PySem L2
theorem call_w1 {m : Mo D} {a d d' r : D} {s s0 : Sl} {δ : Env} (hm : m [.io d, .imm a] = some (.ok r, [.io d', s])) : callM m [.vr 1, .im a] (s0 :: .own d :: δ) = some (.ok r, s0 :: .own d' :: δ) :=
  call_of (by simp only [argSls, argSl, List.getElem?_cons_zero, List.getElem?_cons_succ]) ⟨by simp [vrs], by simp [vbs]⟩ hm (by simp only [backs, List.getElem?_cons_zero, List.getElem?_cons_succ, List.set_cons_zero, List.set_cons_succ])
theorem call_w2 {m : Mo D} {a b d d' r : D} {s t s0 : Sl} {δ : Env} (hm : m [.io d, .imm a, .imm b] = some (.ok r, [.io d', s, t])) : callM m [.vr 1, .im a, .im b] (s0 :: .own d :: δ) = some (.ok r, s0 :: .own d' :: δ) :=
  call_of (by simp only [argSls, argSl, List.getElem?_cons_zero, List.getElem?_cons_succ]) ⟨by simp [vrs], by simp [vbs]⟩ hm (by simp only [backs, List.getElem?_cons_zero, List.getElem?_cons_succ, List.set_cons_zero, List.set_cons_succ])
theorem ev_tk1 {ns : List Int} {d : D} {m : Int} (hd : IsPl ns d) (h : 0 < m) (h2 : m ≤ 1000000) : ∃ t d', (∀ s0 δ, callM m__law_take [.vr 1, .im (.int m)] (s0 :: .own d :: δ) = some (.ok (.int t), s0 :: .own d' :: δ)) ∧ IsPl ns d' ∧ 0 ≤ t ∧ t < m := by
  obtain ⟨x, p, hp, rfl⟩ := hd
  obtain ⟨t, x', p', h1, h3, h4, h5⟩ := ev_take (ns := ns) (x := x) hp h h2
  exact ⟨t, _, fun s0 δ => call_w1 h1, ⟨x', p', h3, rfl⟩, h4, h5⟩
theorem ev_pool {ns : List Int} : ∃ d, m__law_pool [.imm (.scr (ns.map D.int))] = some (.ok d, [.no]) ∧ IsPl ns d := by
  refine ⟨plD ns 0 (-1), ?_, 0, -1, by omega, rfl⟩
  rfl
section
variable {names : List (List Nat)} {ls : List Lk}
theorem fine_lks (ok : ∀ l ∈ names, nmL l = true) (lk : LkOk names.length ls) : Fine (.lst (ls.map (lkD names))) := (fine_lst (k := 1) (by omega) fun d m => by
  obtain ⟨k, hk, rfl⟩ := List.mem_map.mp m
  obtain ⟨ka, kb, _⟩ := lk k hk
  exact fine_tup (k := 0) (by omega) fun d m => by
    simp only [List.mem_cons, List.not_mem_nil, or_false] at m
    rcases m with rfl | rfl | rfl | rfl | rfl
    · exact fine_nm (nm_nm ok ka)
    · exact fine_nm (nm_nm ok kb)
    · exact fine_int' _
    · exact fine_int' _
    · exact fine_int' _).1
theorem len_nms : fLen [strsN names (List.range names.length)] = some (.int (names.length : Nat)) := by
  show some (D.int (((List.range names.length).map (nmD names)).length : Nat)) = _
  rw [List.length_map, List.length_range]
theorem ix_nms {j : Nat} (h : j < names.length) : dIx (strsN names (List.range names.length)) (.int (j : Nat)) = some (nmD names j) := at_map (f := nmD names) (List.getElem?_range h)
end
end M
set_option Elab.async false
set_option linter.all false
set_option maxRecDepth 100000
set_option maxHeartbeats 4000000
namespace M
open PySem L2 PySem.Builtin PySem.Builtin.Str PySem.W PySem.NumText PyProof.Rows
def joinL (sep : List Nat) : List (List Nat) → List Nat
  | [] => []
  | [x] => x
  | x :: y :: r => x ++ sep ++ joinL sep (y :: r)
theorem join_mk {sep : List Nat} : ∀ {ls : List (List Nat)}, Txt.join (mkS sep) (ls.map mkS) = mkS (joinL sep ls) := fun {ls} => by
  show glued _ _ = _
  rw [StrLaws.glued_eq_join]
  induction ls with
  | nil => rfl
  | cons x r ih =>
    cases r with
    | nil => rfl
    | cons y r =>
      show mkS x ++ mkS sep ++ Str.join (mkS sep) ((y :: r).map mkS) = _
      rw [ih, mkS_add, mkS_add]; rfl
theorem app_inj {c : Nat} : ∀ {x y R S : List Nat}, c ∉ x → c ∉ y → x ++ [c] ++ R = y ++ [c] ++ S → x = y ∧ R = S
  | [], [], R, S, _, _, h => by simpa using h
  | [], b :: y, R, S, _, hy, h => by
    simp only [List.nil_append, List.cons_append, List.cons.injEq] at h
    exact absurd (by rw [h.1]; exact List.mem_cons_self) hy
  | a :: x, [], R, S, hx, _, h => by
    simp only [List.nil_append, List.cons_append, List.cons.injEq] at h
    exact absurd (by rw [← h.1]; exact List.mem_cons_self) hx
  | a :: x, b :: y, R, S, hx, hy, h => by
    simp only [List.cons_append, List.cons.injEq] at h
    obtain ⟨h1, h2⟩ := app_inj (x := x) (y := y) (fun m => hx (List.mem_cons_of_mem _ m)) (fun m => hy (List.mem_cons_of_mem _ m)) h.2
    exact ⟨by rw [h.1, h1], h2⟩
theorem join_inj {c : Nat} : ∀ {l m : List (List Nat)}, l ≠ [] → m ≠ [] → (∀ p ∈ l, c ∉ p) → (∀ p ∈ m, c ∉ p) → joinL [c] l = joinL [c] m → l = m
  | [], _, h, _, _, _, _ => absurd rfl h
  | _ :: _, [], _, h, _, _, _ => absurd rfl h
  | [x], [y], _, _, _, _, h => by
    have h : x = y := h
    rw [h]
  | [x], y :: z :: r, _, _, hl, _, h => by
    have h : x = y ++ [c] ++ joinL [c] (z :: r) := h
    refine absurd ?_ (hl x List.mem_cons_self)
    rw [h]; simp
  | y :: z :: r, [x], _, _, _, hm, h => by
    have h : y ++ [c] ++ joinL [c] (z :: r) = x := h
    refine absurd ?_ (hm x List.mem_cons_self)
    rw [← h]; simp
  | x :: x2 :: l, y :: y2 :: m, _, _, hl, hm, h => by
    have h : x ++ [c] ++ joinL [c] (x2 :: l) = y ++ [c] ++ joinL [c] (y2 :: m) := h
    obtain ⟨h1, h2⟩ := app_inj (hl x List.mem_cons_self) (hm y List.mem_cons_self) h
    have := join_inj (c := c) (l := x2 :: l) (m := y2 :: m) (by simp) (by simp) (fun p q => hl p (List.mem_cons_of_mem _ q)) (fun p q => hm p (List.mem_cons_of_mem _ q)) h2
    rw [h1, this]
theorem mk_map {l : List Str} : (l.map fun p => p.cps.toList).map mkS = l := by
  rw [List.map_map]
  have : (mkS ∘ fun p : Str => p.cps.toList) = (fun p => p) := by funext p; exact mkS_l
  rw [this, List.map_id']
theorem split_join {c : Nat} {l : List (List Nat)} (h : l ≠ []) (hf : ∀ p ∈ l, c ∉ p) : Txt.split (mkS (joinL [c] l)) (mkS [c]) = l.map mkS := by
  have e1 := StrLaws.join_split (mkS (joinL [c] l)) (mkS [c])
  have e2 := StrLaws.split_free (mkS (joinL [c] l)) c
  have hne : Txt.split (mkS (joinL [c] l)) (mkS [c]) ≠ [] := fun z => by
    rw [z] at e1
    have e3 : mkS ([] : List Nat) = mkS (joinL [c] l) := e1
    have e3 := mkS_inj e3
    unfold Txt.split at z
    rw [← e3] at z
    rw [if_pos (by rw [Bool.or_eq_true]; exact .inl (by rw [mkS_len, mkS_len]; simp))] at z
    cases z
  generalize hM : Txt.split (mkS (joinL [c] l)) (mkS [c]) = M at *
  have e4 : Str.join (mkS [c]) M = mkS (joinL [c] (M.map fun p => p.cps.toList)) := by
    rw [← join_mk, mk_map]
    exact (StrLaws.glued_eq_join _ _).symm
  rw [e4] at e1
  have e5 := join_inj (c := c) (l := M.map fun p => p.cps.toList) (m := l) (by simpa using hne) h (fun p hp => by
    obtain ⟨q, hq, rfl⟩ := List.mem_map.mp hp
    exact e2 q (by
      have : Txt.split (mkS (joinL [c] l)) ⟨#[c]⟩ = M := hM
      rw [this]; exact hq)) hf (mkS_inj e1)
  rw [← e5, mk_map]
def dgs (n : Nat) : List Nat := (Nat.toDigits 10 n).map Char.toNat
def numL (i : Int) : List Nat := match i with
  | .ofNat n => dgs n
  | .negSucc n => 45 :: dgs (n + 1)
def digB (c : Nat) : Bool := decide (48 ≤ c) && decide (c ≤ 57)
theorem dgs_facts : ∀ n : Nat, n < 1000 → (1 ≤ (dgs n).length ∧ (dgs n).length ≤ 3 ∧ (dgs n).all digB = true ∧ ((dgs n).head? = some 48 → (dgs n).length = 1)) := by decide +kernel
theorem str_num {i : Int} : (Str.ofString (toString i)) = mkS (numL i) := by
  have : (Str.ofString (toString i)).cps.toList = numL i := by
    cases i with
    | ofNat n => exact KIN.signs_num n
    | negSucc n =>
      rw [signs_ofString]
      show ("-" ++ Nat.repr (n + 1)).toList.map Char.toNat = 45 :: dgs (n + 1)
      rw [String.toList_append, Nat.toList_repr]; rfl
  rw [← this]; rfl
def NSm (i : Int) : Prop := i.natAbs ≤ 999
theorem log_sm {i : Int} (h : NSm i) : i.natAbs.log2 < 1920 := by
  unfold NSm at h
  by_cases z : i.natAbs = 0
  · rw [z]; decide
  · have := (Nat.log2_lt z (k := 1920)).mpr (Nat.lt_of_lt_of_le (show i.natAbs < 2 ^ 10 by omega) (Nat.pow_le_pow_right (by decide) (by decide)))
    exact this
theorem fStr_num {i : Int} (h : NSm i) : fStr [.int i] = some (.str (mkS (numL i))) := by
  show (if i.natAbs.log2 < 1920 then some (D.str (toString i : String)) else none) = _
  rw [if_pos (log_sm h)]
  show some (D.str (Str.ofString (toString i))) = _
  rw [str_num]
theorem fStrA_num {i : Int} (h : NSm i) : fStrA [.int i] = some (.str (mkS (numL i))) := by
  show (if i.natAbs.log2 < 1920 then some (D.str (toString i : String)) else none) = _
  rw [if_pos (log_sm h)]
  show some (D.str (Str.ofString (toString i))) = _
  rw [str_num]
theorem numL_len {i : Int} (h : NSm i) : 1 ≤ (numL i).length ∧ (numL i).length ≤ 4 := by
  cases i with
  | ofNat n =>
    have := dgs_facts n (by have : n ≤ 999 := h; omega)
    show 1 ≤ (dgs n).length ∧ (dgs n).length ≤ 4
    omega
  | negSucc n =>
    have := dgs_facts (n + 1) (by have : n + 1 ≤ 999 := h; omega)
    show 1 ≤ (45 :: dgs (n + 1)).length ∧ (45 :: dgs (n + 1)).length ≤ 4
    rw [List.length_cons]; omega
theorem numL_ch {i : Int} (h : NSm i) : ∀ c ∈ numL i, 45 ≤ c ∧ c ≤ 57 ∧ c ≠ 46 := by
  have key : ∀ n, n < 1000 → ∀ c ∈ dgs n, 45 ≤ c ∧ c ≤ 57 ∧ c ≠ 46 := fun n hn c m => by
    have := List.all_eq_true.mp (dgs_facts n hn).2.2.1 c m
    unfold digB at this
    rw [Bool.and_eq_true, decide_eq_true_eq, decide_eq_true_eq] at this
    omega
  cases i with
  | ofNat n => exact key n (by have : n ≤ 999 := h; omega)
  | negSucc n =>
    intro c m
    rcases List.mem_cons.mp m with rfl | m
    · omega
    · exact key (n + 1) (by have : n + 1 ≤ 999 := h; omega) c m
theorem dgs_all {n : Nat} (h : n < 1000) : AllDigits (dgs n) := fun c m => by
  have := List.all_eq_true.mp (dgs_facts n h).2.2.1 c m
  unfold digB at this
  rw [Bool.and_eq_true, decide_eq_true_eq, decide_eq_true_eq] at this
  exact this
theorem int_num {i : Int} (h : NSm i) : fIntS [.str (mkS (numL i))] = some (.int i) := by
  have hl := numL_len h
  have key : PySem.intText? (mkS (numL i)) = some i := by
    cases i with
    | ofNat n =>
      have hn : n < 1000 := by have : n ≤ 999 := h; omega
      have f := dgs_facts n hn
      have := intText_digits (x := mkS (dgs n)) (by rw [mkS_cps]; exact dgs_all hn) (by rw [mkS_cps]; intro z; rw [z] at f; simp at f) (by rw [mkS_len]; omega)
      rw [mkS_cps] at this
      rw [show numL (Int.ofNat n) = dgs n from rfl, this]
      unfold dgs
      rw [KIN.val_back]; rfl
    | negSucc n =>
      have hn : n + 1 < 1000 := by have : n + 1 ≤ 999 := h; omega
      have f := dgs_facts (n + 1) hn
      have := intText_neg (x := mkS (45 :: dgs (n + 1))) (cs := dgs (n + 1)) mkS_cps (dgs_all hn) (by intro z; rw [z] at f; simp at f) (by rw [mkS_len, List.length_cons]; omega)
      rw [show numL (Int.negSucc n) = 45 :: dgs (n + 1) from rfl, this]
      unfold dgs
      rw [KIN.val_back]; rfl
  show (PySem.intText? (mkS (numL i))).bind _ = _
  rw [key, Option.bind_some, if_pos (by rw [mkS_len]; omega)]
theorem KIN_val (n : Nat) : digitsVal (dgs n) = n := KIN.val_back n
end M
set_option Elab.async false
set_option linter.all false
set_option maxRecDepth 100000
set_option maxHeartbeats 4000000
namespace M
open PySem L2
local macro_rules
  | `(tactic| simp! only [$as,*]) => `(tactic| simp only [x_bind, bk_ok, bk_ite, x_ret, x_lift, lk_some, lk_ite, app_ite, x_eC, x_eV, vk_imm, vk_own, vk_bor, x_give, gk_own, x_bin, x_un, x_ix, x_tru, x_eB, dBl_bl, dTru_bl, dTru_int, dTru_lst, x_and, x_or, x_not, x_eAnd, x_eOr, x_eNot, x_eIf, x_chain, x_aNil, x_aCons, x_aVr, rk_own, rk_io, x_aVb, tk_own, tk_io, tk_imm, tk_bor, x_eTup, x_eLst, imms_nil, imms_im, x_eF, x_call, ixV_C, jk_imm, jk_own, jk_io, jk_bor, flk_int, x_lenV, nk_imm, nk_own, nk_io, nk_bor, x_inV, hk_imm, hk_own, hk_io, hk_bor, x_sNx, x_pass, x_cont, x_brk, x_seq, sk_nx, sk_rt, sk_rtO, sk_ct, sk_bk, sk_ite, x_drop, x_sRet, x_sRetO, x_sIf, x_asg, x_asgO, x_gN, x_gO, x_gNil, x_gCons, x_gTt, x_gTl, x_sApp, x_sSet, x_chM, ck_own, ck_io, x_iOf, x_iRg, x_fn, fk_rt, fk_nx, fk_ite, ios_z, ios_s, keep_io, keep_imm, keep_own, keep_bor, keep_no, dSub_i, dAdd_i, dLt_i, dLe_i, dGt_i, dGe_i, dEq_int, dNe_int, ix_lst, ix_scr, ix_tup, atI_0, atI_1, atI_2, atI_3, List.getElem?_cons_zero, List.getElem?_cons_succ, List.set_cons_zero, List.set_cons_succ, List.length_cons, List.length_nil, List.cons_append, List.nil_append, List.replicate_succ, List.replicate_zero, Option.map_some, Option.bind_some, Nat.reduceAdd, Nat.reduceSub, Nat.reduceLT, Nat.reduceLeDiff, if_true, if_false, Bool.false_eq_true, decide_eq_true_eq, reduceIte, ne_eq, not_false_eq_true, Nat.lt_add_left_iff_pos, Nat.zero_lt_succ, x_call1, x_call2, x_call3, x_call4, dk1, dk2, dk3, dk4, ixV_V, Nat.reduceEqDiff, not_false_eq_true, x_isLst, x_isSet, List.map_cons, List.map_nil, Option.map_none, Option.bind_none, x_eSl, x_eP0, x_eP1, part_i, $as,*])
def mk1 (f : D → D → Option D) (E : Mo D) (d : D) : Mo D := fun δ => if isStrD d = true then (E.bind fun k => Mo.lift (f d k)) δ else none
theorem x_M1 {f : D → D → Option D} {A E : Mo D} {δ : Env} : eM1 f A E δ = bk (mk1 f E) (A δ) := x_bind
theorem mk1_s {f : D → D → Option D} {E : Mo D} {a : Str} {δ : Env} : mk1 f E (.str a) δ = bk (fun k => Mo.lift (f (.str a) k)) (E δ) := x_bind
theorem cl_mk {l : List Nat} (h : ∀ c ∈ l, c ≤ 122) : (toPy (.str (mkS l))).canLay0 = true := by
  show ((mkS l).cps.all fun x => decide (x < 0x110000)) = true
  rw [Array.all_eq_true_iff_forall_mem]
  intro c hc
  have := h c (by
    have h2 : c ∈ (mkS l).cps.toList := by simpa using hc
    rwa [mkS_cps] at h2)
  exact decide_eq_true (by omega)
theorem dNe_strs {a b : Str} (ha : (toPy (.str a)).canLay0 = true) (hb : (toPy (.str b)).canLay0 = true) : dNe (.str a) (.str b) = some (.bl (!decide (a = b))) := by
  show (if shp (.str a) = true ∧ shp (.str b) = true then some (D.bl (!PyData.eqv (toPy (.str a)) (toPy (.str b)))) else none) = _
  rw [if_pos ⟨fine_shp (fine_s ha).1, fine_shp (fine_s hb).1⟩]
  unfold toPy PyData.eqv
  by_cases c : a = b <;> simp [c]
theorem dEq_mk {l m : List Nat} (ha : ∀ c ∈ l, c ≤ 122) (hb : ∀ c ∈ m, c ≤ 122) : dEq (.str (mkS l)) (.str (mkS m)) = some (.bl (decide (l = m))) := by
  rw [dEq_strs (cl_mk ha) (cl_mk hb)]
  by_cases c : l = m
  · subst c; simp
  · rw [decide_eq_false c, decide_eq_false fun z => c (mkS_inj z)]
theorem dNe_mk {l m : List Nat} (ha : ∀ c ∈ l, c ≤ 122) (hb : ∀ c ∈ m, c ≤ 122) : dNe (.str (mkS l)) (.str (mkS m)) = some (.bl (!decide (l = m))) := by
  rw [dNe_strs (cl_mk ha) (cl_mk hb)]
  by_cases c : l = m
  · subst c; simp
  · rw [decide_eq_false c, decide_eq_false fun z => c (mkS_inj z)]
theorem len_mk {l : List Nat} (h : l.length ≤ 1000) : fLen [.str (mkS l)] = some (.int (l.length : Nat)) := by
  rw [fLen_str (by rw [mkS_len]; exact h), mkS_len]
theorem sts : ("" : Str) = mkS [] ∧ ("-" : Str) = mkS [45] ∧ (" " : Str) = mkS [32] ∧ ("\n" : Str) = mkS [10] ∧ ("." : Str) = mkS [46] ∧ ("end" : Str) = mkS [101, 110, 100] ∧ ("view" : Str) = mkS [118, 105, 101, 119] ∧ ("link" : Str) = mkS [108, 105, 110, 107] ∧ ("view " : Str) = mkS [118, 105, 101, 119, 32] := by decide +kernel
theorem starts_mk {l : List Nat} {c : Nat} : dStarts (.str (mkS l)) (.str (mkS [c])) = some (.bl (decide (l.head? = some c))) := by
  show some (D.bl (Txt.startswith (mkS l) ⟨#[c]⟩)) = _
  have h := StrLaws.subAt_one (mkS l) c 0
  rw [mkS_cps] at h
  have e : Txt.startswith (mkS l) ⟨#[c]⟩ = decide (l.head? = some c) := by
    have h2 : Txt.startswith (mkS l) ⟨#[c]⟩ = true ↔ l.head? = some c := by
      rw [List.head?_eq_getElem?, ← h]
      unfold Txt.startswith
      rw [Bool.and_eq_true, decide_eq_true_eq]
    by_cases c : l.head? = some c
    · rw [decide_eq_true c]; exact h2.mpr c
    · rw [decide_eq_false c]
      cases q : Txt.startswith (mkS l) ⟨#[_]⟩ with
      | false => rfl
      | true => exact absurd (h2.mp q) c
  rw [e]
theorem cut_1 {c : Nat} {l : List Nat} : cutS (mkS (c :: l)) (some 1) none = mkS l := by
  unfold cutS
  rw [mkS_cps, mkS_len, HT.sIx_none]
  have e : HT.sIx (c :: l).length 0 (some 1) = min 1 (c :: l).length := HT.sIx_nat _ _ 1
  rw [e, List.length_cons]
  have : min 1 (l.length + 1) = 1 := by omega
  rw [this]
  show mkS ((List.drop 1 (c :: l)).take (l.length + 1 - 1)) = mkS l
  rw [List.drop_one, List.tail_cons, Nat.add_sub_cancel, List.take_length]
theorem split_mk {c : Nat} {l : List (List Nat)} (h : l ≠ []) (hf : ∀ p ∈ l, c ∉ p) (hl : (joinL [c] l).length ≤ 1000000) : dSplit (.str (mkS (joinL [c] l))) (.str (mkS [c])) = some (.lst (l.map fun p => D.str (mkS p))) := by
  show (if ((mkS [c]).length == 0) = false ∧ (mkS (joinL [c] l)).length ≤ 1000000 then some (D.lst ((Txt.split (mkS (joinL [c] l)) (mkS [c])).map D.str)) else none) = _
  rw [if_pos ⟨by rw [mkS_len]; rfl, by rw [mkS_len]; exact hl⟩, split_join h hf, List.map_map]; rfl
theorem join_d {sep : List Nat} {ls : List (List Nat)} (h : (ls.map (·.length)).sum + ls.length * sep.length ≤ 1000000) : dJoin (.str (mkS sep)) (.lst (ls.map fun p => D.str (mkS p))) = some (.str (mkS (joinL sep ls))) := by
  have e : (ls.map fun p => D.str (mkS p)) = (ls.map mkS).map D.str := by rw [List.map_map]; rfl
  rw [e]
  show ((strsD' ((ls.map mkS).map D.str)).bind fun ys => if (ys.map (·.length)).sum + ys.length * (mkS sep).length ≤ 16777216 then some (D.str (Txt.join (mkS sep) ys)) else none) = _
  rw [strsD'_map, Option.bind_some, join_mk]
  have e2 : ((ls.map mkS).map (·.length)) = ls.map (·.length) := by
    rw [List.map_map]
    apply List.map_congr_left
    intro p _
    exact mkS_len
  rw [e2, List.length_map, mkS_len, if_pos (by omega)]
theorem ev_num {i : Int} (h : NSm i) {z : D} : m_number_of [.imm (.str (mkS (numL i))), .imm z] = some (.ok (.int i), [.no, .no]) := by
  have hn : i.natAbs < 1000 := by unfold NSm at h; omega
  obtain ⟨f1, f2, f3, f4⟩ := dgs_facts i.natAbs hn
  have hL := numL_len h
  have hint := int_num h
  have h0 : numL i = dgs i.natAbs ∨ numL i = 45 :: dgs i.natAbs := by
    cases i with
    | ofNat n => exact .inl rfl
    | negSucc n => exact .inr rfl
  generalize hg : dgs i.natAbs = G at *
  have gall : ∀ c ∈ G, 48 ≤ c ∧ c ≤ 57 := fun c m => by
    have := List.all_eq_true.mp f3 c m
    unfold digB at this
    rw [Bool.and_eq_true, decide_eq_true_eq, decide_eq_true_eq] at this
    exact this
  have hne : G ≠ [] := fun c => by rw [c] at f1; simp at f1
  obtain ⟨g0, gt, hG⟩ : ∃ g0 gt, G = g0 :: gt := by
    cases G with
    | nil => exact absurd rfl hne
    | cons a b => exact ⟨a, b, rfl⟩
  obtain ⟨q0, q1, q2, q3, q4, _⟩ := sts
  obtain ⟨_, _, r3, r4⟩ := chs
  refine (fn_rt (δ1 := [.imm (.str (mkS (numL i))), .imm z, .imm (.str (mkS G)), .imm (.bl true), .no]) ?_).trans rfl
  unfold b_number_of
  have hst := starts_mk (l := numL i) (c := 45)
  have e1 : sAsg (gN 2) (eIf (eTru (eM1 dStarts (eV 0) (eC (.str "-")))) (eSl dSl (eV 0) (eP1 (eC (.int 1))) eP0) (eV 0)) ([.imm (.str (mkS (numL i))), .imm z] ++ List.replicate (5 - 2) .no) = some (.ok .nx, [.imm (.str (mkS (numL i))), .imm z, .imm (.str (mkS G)), .no, .no]) := by
    rw [q1]
    rcases h0 with h0 | h0
    · have hh : (numL i).head? ≠ some 45 := fun z => by
        rw [h0] at z
        have z : G.head? = some 45 := z
        rw [hG] at z
        have := gall g0 (by rw [hG]; exact List.mem_cons_self)
        have : g0 = 45 := Option.some.inj z
        omega
      rw [decide_eq_false hh] at hst
      rw [h0] at hst ⊢
      simp! only [x_M1, mk1_s, hst]
    · have hh : (numL i).head? = some 45 := by rw [h0]; rfl
      rw [decide_eq_true hh] at hst
      rw [h0] at hst ⊢
      have hs : dSl (.str (mkS (45 :: G))) (some 1) none = some (.str (mkS G)) := by
        rw [sl_s (by rw [h0] at hL; omega), cut_1]
      simp! only [x_M1, mk1_s, hst, hs]
  refine ssq e1 ?_
  have e2 : dNe (.str (mkS G)) (.str "") = some (.bl true) := by
    rw [q0, dNe_mk (fun c m => by have := gall c m; omega) (fun c m => by cases m), decide_eq_false hne]; rfl
  have e3 := len_mk (l := G) (by omega)
  have e4 : (eLc (iOf (eV 2)) (gN 4) tYesM (eChain dLe dLe (eC (.str "0")) (eV 4) (eC (.str "9"))) [4]) [.imm (.str (mkS (numL i))), .imm z, .imm (.str (mkS G)), .no, .no] = some (.ok (.lst (G.map fun c => .bl (digB c))), [.imm (.str (mkS (numL i))), .imm z, .imm (.str (mkS G)), .no, .no]) := by
    rw [eLc_map (l := G) (g := fun c => D.str (mkS [c])) (p := fun _ => true) (f := fun c => D.bl (digB c)) (δ0 := [.imm (.str (mkS (numL i))), .imm z, .imm (.str (mkS G)), .no, .no])]
    · rw [List.filter_eq_self.mpr (fun _ _ => rfl)]; rfl
    · have := stD_map (s := mkS G)
      rw [mkS_cps] at this
      simp! only [itD, this]
    · omega
    · intro c hc
      refine ⟨[.imm (.str (mkS (numL i))), .imm z, .imm (.str (mkS G)), .no, .imm (.str (mkS [c]))], [.imm (.str (mkS (numL i))), .imm z, .imm (.str (mkS G)), .no, .imm (.str (mkS [c]))], by simp! only [wipeE], rfl, (fun z => by cases z), fun _ => ⟨[.imm (.str (mkS (numL i))), .imm z, .imm (.str (mkS G)), .no, .imm (.str (mkS [c]))], ?_, rfl⟩⟩
      obtain ⟨d1, d2⟩ := gall c hc
      rw [r3, r4]
      unfold digB
      simp! only [dLe_ch, d1, d2, decide_true, Bool.and_true]
  have e5 : fAll [.lst (G.map fun c => .bl (digB c))] = some (.bl true) := by rw [fAll_map, f3]
  have c9 : ((G.length : Nat) : Int) ≤ 9 := by omega
  generalize hlen : ((G.length : Nat) : Int) = n at e3 c9
  generalize hel : (eLc (iOf (eV 2)) (gN 4) tYesM (eChain dLe dLe (eC (.str "0")) (eV 4) (eC (.str "9"))) [4]) = EL at e4 ⊢
  refine ssq (by simp! only [e2, e3, e4, e5, c9, decide_true] <;> rfl) ?_
  have x0 : dIx (.str (mkS G)) (.int 0) = some (.str (mkS [g0])) := ix_str (by omega) (by rw [hG]; exact atI_0)
  have x1 := dEq_mk (l := [g0]) (m := [48]) (fun c m => by simp at m; rw [m]; have := gall g0 (by rw [hG]; exact List.mem_cons_self); omega) (fun c m => by simp at m; omega)
  have x2 := len_mk (l := numL i) (by omega)
  rw [r3]
  by_cases c : g0 = 48
  · have l1 : G.length = 1 := f4 (by rw [hG, c]; rfl)
    rw [decide_eq_true (by rw [c])] at x1
    rcases h0 with h0 | h0
    · rw [h0] at x2 ⊢
      rw [hlen] at x2
      have nn : ¬ n > 1 := by omega
      rw [h0] at hint
      refine ssq_f (by simp! only [x0, x1, x2, nn, decide_false, Bool.not_true]; rfl) ?_
      simp! only [hint]
    · exfalso
      -- -0 is no number
      have : i = 0 := by
        have : i.natAbs = 0 := by
          have gz : G = [48] := by
            rw [hG] at l1 ⊢
            cases gt with
            | nil => rw [c]
            | cons a b => simp at l1
          have vb := KIN_val i.natAbs
          rw [hg, gz] at vb
          have : NumText.digitsVal [48] = 0 := rfl
          omega
        omega
      subst this
      have : numL 0 = dgs 0 := rfl
      rw [this] at h0
      have : dgs (0 : Int).natAbs = G := hg
      have e : dgs 0 = G := this
      rw [e] at h0
      have := congrArg List.length h0
      rw [List.length_cons] at this
      omega
  · rw [decide_eq_false (fun z => c (by simpa using z))] at x1
    refine ssq_f (by simp! only [x0, x1, Bool.not_true]; rfl) ?_
    simp! only [hint]
end M
set_option Elab.async false
set_option linter.all false
set_option maxRecDepth 100000
set_option maxHeartbeats 4000000
namespace M
open PySem L2
local macro_rules
  | `(tactic| simp! only [$as,*]) => `(tactic| simp only [x_bind, bk_ok, bk_ite, x_ret, x_lift, lk_some, lk_ite, app_ite, x_eC, x_eV, vk_imm, vk_own, vk_bor, x_give, gk_own, x_bin, x_un, x_ix, x_tru, x_eB, dBl_bl, dTru_bl, dTru_int, dTru_lst, x_and, x_or, x_not, x_eAnd, x_eOr, x_eNot, x_eIf, x_chain, x_aNil, x_aCons, x_aVr, rk_own, rk_io, x_aVb, tk_own, tk_io, tk_imm, tk_bor, x_eTup, x_eLst, imms_nil, imms_im, x_eF, x_call, ixV_C, jk_imm, jk_own, jk_io, jk_bor, flk_int, x_lenV, nk_imm, nk_own, nk_io, nk_bor, x_inV, hk_imm, hk_own, hk_io, hk_bor, x_sNx, x_pass, x_cont, x_brk, x_seq, sk_nx, sk_rt, sk_rtO, sk_ct, sk_bk, sk_ite, x_drop, x_sRet, x_sRetO, x_sIf, x_asg, x_asgO, x_gN, x_gO, x_gNil, x_gCons, x_gTt, x_gTl, x_sApp, x_sSet, x_chM, ck_own, ck_io, x_iOf, x_iRg, x_fn, fk_rt, fk_nx, fk_ite, ios_z, ios_s, keep_io, keep_imm, keep_own, keep_bor, keep_no, dSub_i, dAdd_i, dLt_i, dLe_i, dGt_i, dGe_i, dEq_int, dNe_int, ix_lst, ix_scr, ix_tup, atI_0, atI_1, atI_2, atI_3, List.getElem?_cons_zero, List.getElem?_cons_succ, List.set_cons_zero, List.set_cons_succ, List.length_cons, List.length_nil, List.cons_append, List.nil_append, List.replicate_succ, List.replicate_zero, Option.map_some, Option.bind_some, Nat.reduceAdd, Nat.reduceSub, Nat.reduceLT, Nat.reduceLeDiff, if_true, if_false, Bool.false_eq_true, decide_eq_true_eq, reduceIte, ne_eq, not_false_eq_true, Nat.lt_add_left_iff_pos, Nat.zero_lt_succ, x_call1, x_call2, x_call3, x_call4, dk1, dk2, dk3, dk4, ixV_V, Nat.reduceEqDiff, not_false_eq_true, x_isLst, x_isSet, List.map_cons, List.map_nil, Option.map_none, Option.bind_none, x_eSl, x_eP0, x_eP1, part_i, $as,*])
def rdL : Option Int → List Nat
  | none => [46]
  | some i => numL i
def rowL (r : Row) : List Nat := joinL [32] (r.map rdL)
theorem rd_sm {o : Option Int} (h : RdOk o) {i : Int} (e : o = some i) : NSm i := by
  have := h i e
  unfold NSm; omega
theorem rdL_len {o : Option Int} (h : RdOk o) : (rdL o).length ≤ 4 := by
  cases o with
  | none => show 1 ≤ 4; omega
  | some i => exact (numL_len (rd_sm h rfl)).2
theorem rdL_ch {o : Option Int} (h : RdOk o) : ∀ c ∈ rdL o, 45 ≤ c ∧ c ≤ 57 := fun c m => by
  cases o with
  | none => have m : c ∈ [46] := m; simp at m; omega
  | some i => have := numL_ch (rd_sm h rfl) c m; omega
theorem joinL_len {s : List Nat} {m : Nat} : ∀ {ls : List (List Nat)}, (∀ p ∈ ls, p.length ≤ m) → (joinL s ls).length ≤ ls.length * (m + s.length)
  | [], _ => Nat.zero_le _
  | [x], h => by
    have := h x List.mem_cons_self
    show x.length ≤ _
    rw [List.length_singleton]; omega
  | x :: y :: r, h => by
    have h1 := h x List.mem_cons_self
    have h2 := joinL_len (s := s) (m := m) (ls := y :: r) fun p q => h p (List.mem_cons_of_mem _ q)
    show (x ++ s ++ joinL s (y :: r)).length ≤ _
    rw [List.length_append, List.length_append, List.length_cons, Nat.succ_mul]
    omega
theorem joinL_mem {c : Nat} {s : List Nat} : ∀ {ls : List (List Nat)}, c ∈ joinL s ls → c ∈ s ∨ ∃ p ∈ ls, c ∈ p
  | [], h => by cases h
  | [x], h => .inr ⟨x, List.mem_cons_self, h⟩
  | x :: y :: r, h => by
    have h : c ∈ x ++ s ++ joinL s (y :: r) := h
    rcases List.mem_append.mp h with h | h
    · rcases List.mem_append.mp h with h | h
      · exact .inr ⟨x, List.mem_cons_self, h⟩
      · exact .inl h
    · rcases joinL_mem h with h | ⟨p, m, h⟩
      · exact .inl h
      · exact .inr ⟨p, List.mem_cons_of_mem _ m, h⟩
theorem rowL_ch {r : Row} (ok : ∀ o ∈ r, RdOk o) : ∀ c ∈ rowL r, c ≤ 57 := fun c m => by
  rcases joinL_mem m with m | ⟨p, hp, m⟩
  · simp at m; omega
  · obtain ⟨o, ho, rfl⟩ := List.mem_map.mp hp
    have := rdL_ch (ok o ho) c m; omega
theorem rowL_len {r : Row} (ok : ∀ o ∈ r, RdOk o) (h : r.length ≤ 12) : (rowL r).length ≤ 60 := by
  have := joinL_len (s := [32]) (m := 4) (ls := r.map rdL) fun p hp => by
    obtain ⟨o, ho, rfl⟩ := List.mem_map.mp hp
    exact rdL_len (ok o ho)
  rw [List.length_map, List.length_singleton] at this
  show (joinL [32] (r.map rdL)).length ≤ 60
  omega
theorem row_parts {r : Row} (ok : ∀ o ∈ r, RdOk o) (h1 : r ≠ []) (h : r.length ≤ 12) : dSplit (.str (mkS (rowL r))) (.str (mkS [32])) = some (.lst ((r.map rdL).map fun p => D.str (mkS p))) :=
  split_mk (by simpa using h1) (fun p hp => by
    obtain ⟨o, ho, rfl⟩ := List.mem_map.mp hp
    intro m
    have := rdL_ch (ok o ho) _ m; omega) (by have := rowL_len ok h; unfold rowL at this; omega)
theorem ap_l {l : List D} {x : D} (h : l.length ≤ 1000) : dAppend x (.lst l) = some (.lst (l ++ [x])) := by
  show (if l.length < sizeLine then some (D.lst (l ++ [x])) else none) = _
  rw [if_pos (by rw [sizeLine_eq]; omega)]
theorem take_sn {α : Type} {l : List α} {j : Nat} {x : α} (h : l[j]? = some x) : l.take (j + 1) = l.take j ++ [x] := by rw [List.take_succ, h]; rfl
theorem ev_rowof {r : Row} (ok : ∀ o ∈ r, RdOk o) (h1 : r ≠ []) (h : r.length ≤ 12) {z : D} : m_row_of [.imm (.str (mkS (rowL r))), .imm z] = some (.ok (rowT r), [.no, .no]) := by
  have hp := row_parts ok h1 h
  obtain ⟨_, _, q2, _, q4, _⟩ := sts
  obtain ⟨δ1, f1, y3, rfl⟩ := sFor_inv (I := (iOf (eM1 dSplit (eV 0) (eC (.str " "))))) (T := gN 3) (S := (sIf (eB (eBin dEq (eV 3) (eC (.str "."))))
 (sApp 2 (eC .non))
 (sApp 2 (eCall m_number_of (aCons (eV 3) (aCons (eV 1) aNil)))))) (ds := (r.map rdL).map fun p => D.str (mkS p))
    (δ := [.imm (.str (mkS (rowL r))), .imm z, .own (.lst []), .no]) (δ0 := [.imm (.str (mkS (rowL r))), .imm z, .own (.lst []), .no])
    (fun j δ => ∃ y3, δ = [.imm (.str (mkS (rowL r))), .imm z, .own (.lst ((r.take j).map oI)), y3])
    (by rw [q2]; simp! only [x_M1, mk1_s, hp, itD]) ⟨_, rfl⟩ (fun j d δ hj hδ => by
      obtain ⟨y3, rfl⟩ := hδ
      obtain ⟨p, hp2, rfl⟩ := getmap hj
      rw [List.getElem?_map] at hp2
      cases ho : r[j]? with
      | none => rw [ho] at hp2; cases hp2
      | some o =>
        rw [ho] at hp2
        have hp2 : rdL o = p := Option.some.inj hp2
        subst hp2
        have mo := List.mem_of_getElem? ho
        have hl : ((r.take j).map oI).length ≤ 1000 := by rw [List.length_map, List.length_take]; omega
        have ht : (r.take (j + 1)).map oI = (r.take j).map oI ++ [oI o] := by rw [take_sn ho, List.map_append]; rfl
        rw [ht]
        have il : ∀ (δ : Env) (L : List D), δ[2]? = some (.own (.lst L)) → isLst δ 2 = true := fun δ L h => by unfold isLst; rw [h]
        have ec := dEq_mk (l := rdL o) (m := [46]) (fun c m => by have := rdL_ch (ok o mo) c m; omega) (fun c m => by simp at m; omega)
        generalize hL : (r.take j).map oI = L at *
        refine ⟨[.imm (.str (mkS (rowL r))), .imm z, .own (.lst L), .imm (.str (mkS (rdL o)))], [.imm (.str (mkS (rowL r))), .imm z, .own (.lst (L ++ [oI o])), .imm (.str (mkS (rdL o)))], by simp! only [], .inl ?_, _, rfl⟩
        rw [q4]
        cases o with
        | none =>
          rw [show decide (rdL none = [46]) = true from rfl] at ec
          refine st (δ1 := [.imm (.str (mkS (rowL r))), .imm z, .own (.lst L), .imm (.str (mkS (rdL none)))]) (by simp! only [ec]) ?_
          have ap := ap_l (x := D.non) hl
          unfold sApp
          rw [if_pos (il _ _ rfl)]
          simp! only [ap]; rfl
        | some i =>
          have sm := rd_sm (ok _ mo) rfl
          have hne : rdL (some i) ≠ [46] := fun z => by
            have := (numL_ch sm 46 (by show 46 ∈ rdL (some i); rw [z]; exact List.mem_cons_self)).2.2
            omega
          rw [decide_eq_false hne] at ec
          refine sf (δ1 := [.imm (.str (mkS (rowL r))), .imm z, .own (.lst L), .imm (.str (mkS (rdL (some i))))]) (by simp! only [ec]) ?_
          have en : m_number_of [.imm (.str (mkS (rdL (some i)))), .imm z] = some (.ok (.int i), [.no, .no]) := ev_num sm
          have ap := ap_l (x := D.int i) hl
          unfold sApp
          rw [if_pos (il _ _ rfl)]
          simp! only [en, ap]; rfl)
  rw [List.length_map, List.length_map, List.take_of_length_le (Nat.le_refl _)] at f1
  refine (fn_rt (δ1 := [.imm (.str (mkS (rowL r))), .imm z, .imm (.lst (r.map oI)), y3]) ?_).trans rfl
  unfold b_row_of
  refine ssq (δ1 := [.imm (.str (mkS (rowL r))), .imm z, .own (.lst []), .no]) (by simp! only []) ?_
  refine ssq f1 ?_
  simp! only []; rfl
def lkPs (names : List (List Nat)) (k : Lk) : List (List Nat) := [[108, 105, 110, 107], names.getD k.a [], names.getD k.b [], numL k.x, numL k.y, numL k.l]
def lkL (names : List (List Nat)) (k : Lk) : List Nat := joinL [32] (lkPs names k)
theorem LkSm.sm {k : Lk} (h : LkSm k) : NSm k.x ∧ NSm k.y ∧ NSm k.l := by
  obtain ⟨h1, h2, h3⟩ := h
  unfold NSm
  omega
theorem nmL_ch {l : List Nat} (h : nmL l = true) : l.length ≤ 8 ∧ l ≠ [] ∧ ∀ c ∈ l, 48 ≤ c ∧ c ≤ 122 := by
  unfold nmL at h
  rw [Bool.and_eq_true, Bool.and_eq_true, decide_eq_true_eq] at h
  refine ⟨h.1.1, fun z => ?_, fun c m => ?_⟩
  · rw [z] at h; simp at h
  · have := List.all_eq_true.mp h.2 c m
    unfold namB lowB at this
    simp at this
    omega
section
variable {names : List (List Nat)}
theorem nm_at (ok : ∀ l ∈ names, nmL l = true) {v : Nat} (h : v < names.length) : nmL (names.getD v []) = true := by
  rw [List.getD_eq_getElem?_getD, List.getElem?_eq_getElem h]
  exact ok _ (List.getElem_mem h)
theorem lkPs_ok (ok : ∀ l ∈ names, nmL l = true) {k : Lk} (ha : k.a < names.length) (hb : k.b < names.length) (sm : LkSm k) : ∀ p ∈ lkPs names k, p.length ≤ 8 ∧ ∀ c ∈ p, 45 ≤ c ∧ c ≤ 122 := fun p m => by
  obtain ⟨s1, s2, s3⟩ := sm.sm
  have key : ∀ v, v < names.length → (names.getD v []).length ≤ 8 ∧ ∀ c ∈ names.getD v [], 45 ≤ c ∧ c ≤ 122 := fun v hv => by
    obtain ⟨h1, _, h2⟩ := nmL_ch (nm_at ok hv)
    exact ⟨h1, fun c m => by have := h2 c m; omega⟩
  have key2 : ∀ i, NSm i → (numL i).length ≤ 8 ∧ ∀ c ∈ numL i, 45 ≤ c ∧ c ≤ 122 := fun i hi => ⟨by have := numL_len hi; omega, fun c m => by have := numL_ch hi c m; omega⟩
  unfold lkPs at m
  simp only [List.mem_cons, List.not_mem_nil, or_false] at m
  rcases m with rfl | rfl | rfl | rfl | rfl | rfl
  · exact ⟨by decide, by decide⟩
  · exact key _ ha
  · exact key _ hb
  · exact key2 _ s1
  · exact key2 _ s2
  · exact key2 _ s3
theorem lk_parts (ok : ∀ l ∈ names, nmL l = true) {k : Lk} (ha : k.a < names.length) (hb : k.b < names.length) (sm : LkSm k) : dSplit (.str (mkS (lkL names k))) (.str (mkS [32])) = some (.lst ((lkPs names k).map fun p => D.str (mkS p))) :=
  split_mk (by unfold lkPs; simp) (fun p hp m => by have := (lkPs_ok ok ha hb sm p hp).2 _ m; omega) (by
    have := joinL_len (s := [32]) (m := 8) (ls := lkPs names k) fun p hp => (lkPs_ok ok ha hb sm p hp).1
    have e : (lkPs names k).length = 6 := rfl
    rw [e, List.length_singleton] at this
    omega)
theorem ev_lkof {k : Lk} (sm : LkSm k) {z : D} : m_link_of_parts [.imm (.lst ((lkPs names k).map fun p => D.str (mkS p))), .imm z] = some (.ok (lkD names k), [.no, .no]) := by
  obtain ⟨s1, s2, s3⟩ := sm.sm
  obtain ⟨a, b, x, y, l⟩ := k
  have eps : ((lkPs names ⟨a, b, x, y, l⟩).map fun p => D.str (mkS p)) = [.str (mkS [108, 105, 110, 107]), nmD names a, nmD names b, .str (mkS (numL x)), .str (mkS (numL y)), .str (mkS (numL l))] := rfl
  rw [eps]
  have elk : lkD names ⟨a, b, x, y, l⟩ = .tup [nmD names a, nmD names b, .int x, .int y, .int l] := rfl
  rw [elk]
  have e1 := ev_num s1 (z := z)
  have e2 := ev_num s2 (z := z)
  have e3 := ev_num s3 (z := z)
  generalize nmD names a = A at *
  generalize nmD names b = B at *
  generalize D.str (mkS [108, 105, 110, 107]) = L0 at *
  have hcut : dSlL (.lst [L0, A, B, .str (mkS (numL x)), .str (mkS (numL y)), .str (mkS (numL l))]) (some 3) none = some (.lst [.str (mkS (numL x)), .str (mkS (numL y)), .str (mkS (numL l))]) := rfl
  have hlen : fLen [.lst [L0, A, B, .str (mkS (numL x)), .str (mkS (numL y)), .str (mkS (numL l))]] = some (.int 6) := rfl
  generalize hPS : D.lst [L0, A, B, .str (mkS (numL x)), .str (mkS (numL y)), .str (mkS (numL l))] = PS at *
  have elc : (eLc (iOf (eSl dSlL (eV 0) (eP1 (eC (.int 3))) eP0)) (gN 3) tYesM (eCall m_number_of (aCons (eV 3) (aCons (eV 1) aNil))) [3]) [.imm PS, .imm z, .no, .no] = some (.ok (.lst [.int x, .int y, .int l]), [.imm PS, .imm z, .no, .no]) := by
    rw [eLc_map (l := [x, y, l]) (g := fun i => D.str (mkS (numL i))) (p := fun _ => true) (f := fun i => D.int i) (δ0 := [.imm PS, .imm z, .no, .no])]
    · rfl
    · simp! only [itD, hcut]
    · show 3 ≤ 1000; omega
    · intro i hi
      have en : m_number_of [.imm (.str (mkS (numL i))), .imm z] = some (.ok (.int i), [.no, .no]) := by
        simp only [List.mem_cons, List.not_mem_nil, or_false] at hi
        rcases hi with rfl | rfl | rfl
        · exact e1
        · exact e2
        · exact e3
      refine ⟨[.imm PS, .imm z, .no, .imm (.str (mkS (numL i)))], [.imm PS, .imm z, .no, .imm (.str (mkS (numL i)))], by simp! only [wipeE], rfl, (fun z => by cases z), fun _ => ⟨[.imm PS, .imm z, .no, .imm (.str (mkS (numL i)))], ?_, rfl⟩⟩
      simp! only [en]
  have i1 : dIx PS (.int 1) = some A := by rw [← hPS]; exact atI_1
  have i2 : dIx PS (.int 2) = some B := by rw [← hPS]; exact atI_2
  refine (fn_rt (δ1 := [.imm PS, .imm z, .own (.lst [.int x, .int y, .int l]), .no]) ?_).trans rfl
  unfold b_link_of_parts
  generalize (eLc (iOf (eSl dSlL (eV 0) (eP1 (eC (.int 3))) eP0)) (gN 3) tYesM (eCall m_number_of (aCons (eV 3) (aCons (eV 1) aNil))) [3]) = EL at *
  refine ssq_f (δ1 := [.imm PS, .imm z, .no, .no]) (by simp! only [hlen]; rfl) ?_
  refine ssq (δ1 := [.imm PS, .imm z, .own (.lst [.int x, .int y, .int l]), .no]) (by simp! only [elc]) ?_
  simp! only [i1, i2]
end
end M
set_option Elab.async false
set_option linter.all false
set_option maxRecDepth 100000
set_option maxHeartbeats 4000000
namespace M
open PySem L2
local macro_rules
  | `(tactic| simp! only [$as,*]) => `(tactic| simp only [x_bind, bk_ok, bk_ite, x_ret, x_lift, lk_some, lk_ite, app_ite, x_eC, x_eV, vk_imm, vk_own, vk_bor, x_give, gk_own, x_bin, x_un, x_ix, x_tru, x_eB, dBl_bl, dTru_bl, dTru_int, dTru_lst, x_and, x_or, x_not, x_eAnd, x_eOr, x_eNot, x_eIf, x_chain, x_aNil, x_aCons, x_aVr, rk_own, rk_io, x_aVb, tk_own, tk_io, tk_imm, tk_bor, x_eTup, x_eLst, imms_nil, imms_im, x_eF, x_call, ixV_C, jk_imm, jk_own, jk_io, jk_bor, flk_int, x_lenV, nk_imm, nk_own, nk_io, nk_bor, x_inV, hk_imm, hk_own, hk_io, hk_bor, x_sNx, x_pass, x_cont, x_brk, x_seq, sk_nx, sk_rt, sk_rtO, sk_ct, sk_bk, sk_ite, x_drop, x_sRet, x_sRetO, x_sIf, x_asg, x_asgO, x_gN, x_gO, x_gNil, x_gCons, x_gTt, x_gTl, x_sApp, x_sSet, x_chM, ck_own, ck_io, x_iOf, x_iRg, x_fn, fk_rt, fk_nx, fk_ite, ios_z, ios_s, keep_io, keep_imm, keep_own, keep_bor, keep_no, dSub_i, dAdd_i, dLt_i, dLe_i, dGt_i, dGe_i, dEq_int, dNe_int, ix_lst, ix_scr, ix_tup, atI_0, atI_1, atI_2, atI_3, List.getElem?_cons_zero, List.getElem?_cons_succ, List.set_cons_zero, List.set_cons_succ, List.length_cons, List.length_nil, List.cons_append, List.nil_append, List.replicate_succ, List.replicate_zero, Option.map_some, Option.bind_some, Nat.reduceAdd, Nat.reduceSub, Nat.reduceLT, Nat.reduceLeDiff, if_true, if_false, Bool.false_eq_true, decide_eq_true_eq, reduceIte, ne_eq, not_false_eq_true, Nat.lt_add_left_iff_pos, Nat.zero_lt_succ, x_call1, x_call2, x_call3, x_call4, dk1, dk2, dk3, dk4, ixV_V, Nat.reduceEqDiff, not_false_eq_true, x_isLst, x_isSet, List.map_cons, List.map_nil, Option.map_none, Option.bind_none, x_eSl, x_eP0, x_eP1, part_i, $as,*])
theorem sqT {S : Mo Out} {P : Mo Tk} {δ δ1 : Env} {r : Re Tk} (h : S δ = some (.ok .nx, δ1)) (h2 : P δ1 = r) : sSeqT S P δ = r := by unfold sSeqT; rw [h]; exact h2
theorem ifT_t {T : Mo Bool} {a b : Mo Tk} {δ δ1 : Env} {r : Re Tk} (h : T δ = some (.ok true, δ1)) (h2 : a δ1 = r) : sIfT T a b δ = r := by
  unfold sIfT; rw [bind_ok h, if_pos rfl]; exact h2
theorem ifT_f {T : Mo Bool} {a b : Mo Tk} {δ δ1 : Env} {r : Re Tk} (h : T δ = some (.ok false, δ1)) (h2 : b δ1 = r) : sIfT T a b δ = r := by
  unfold sIfT; rw [bind_ok h, if_neg (by decide)]; exact h2
theorem bnm_of {δ : Env} {i : Nat} {vs ls rows : List D} {nm : D} (h : δ[i]? = some (.bor (.bld vs ls nm rows))) (f : flatD nm = true) : eBNm i δ = some (.ok nm, δ) := by
  have : bldSl δ i = some (vs, ls, nm, rows) := by unfold bldSl; rw [h]
  unfold eBNm; rw [this]
  simp only []
  rw [if_pos f]
theorem btup_of {δ : Env} {i : Nat} {vs ls rows : List D} {nm : D} (h : δ[i]? = some (.bor (.bld vs ls nm rows))) (f : pureDs rows = true) : eBTup i δ = some (.ok (.tup rows), δ) := by
  have : bldSl δ i = some (vs, ls, nm, rows) := by unfold bldSl; rw [h]
  unfold eBTup; rw [this]
  simp only []
  rw [if_pos f]
theorem bsl_of {δ : Env} {i : Nat} {vs ls rows : List D} {nm : D} (h : δ[i]? = some (.bor (.bld vs ls nm rows))) : bldSl δ i = some (vs, ls, nm, rows) := by unfold bldSl; rw [h]
section
variable {vs ls rows : List D} {nm z : D}
theorem tk_row {s : Str} {r : Row} (ok : ∀ o ∈ r, RdOk o) (h1 : r ≠ []) (h : r.length ≤ 12) (hl : rows.length ≤ 1000) : ∃ δt, b_Builder_take [.bor (.bld vs ls (.str s) rows), .imm (.str (mkS (rowL r))), .imm z, .no] = some (.ok (.row (rowT r)), δt) := by
  have hp := row_parts ok h1 h
  have er := ev_rowof ok h1 h (z := z)
  have ec := dEq_mk (l := rowL r) (m := [101, 110, 100]) (fun c m => by have := rowL_ch ok c m; omega) (by decide)
  have hne : rowL r ≠ [101, 110, 100] := fun q => by
    have := rowL_ch ok 101 (by rw [q]; exact List.mem_cons_self)
    omega
  rw [decide_eq_false hne] at ec
  obtain ⟨_, _, q2, _, _, q5, _⟩ := sts
  generalize hP : D.lst ((r.map rdL).map fun p => D.str (mkS p)) = P at *
  have bn := bnm_of (δ := [.bor (.bld vs ls (.str s) rows), .imm (.str (mkS (rowL r))), .imm z, .imm P]) (i := 0) rfl rfl
  have bs := bsl_of (δ := [.bor (.bld vs ls (.str s) rows), .imm (.str (mkS (rowL r))), .imm z, .imm P]) (i := 0) rfl
  generalize hB : D.bld vs ls (.str s) rows = Bd at *
  refine ⟨[.bor Bd, .imm (.str (mkS (rowL r))), .imm z, .imm P], ?_⟩
  unfold b_Builder_take
  rw [q2, q5]
  refine sqT (δ1 := [.bor Bd, .imm (.str (mkS (rowL r))), .imm z, .imm P]) (by simp! only [x_M1, mk1_s, hp]) ?_
  have di : dIs true (.str s) .non = some (.bl true) := rfl
  refine ifT_t (δ1 := [.bor Bd, .imm (.str (mkS (rowL r))), .imm z, .imm P]) (by simp! only [bn, di]) ?_
  refine ifT_f (δ1 := [.bor Bd, .imm (.str (mkS (rowL r))), .imm z, .imm P]) (by simp! only [ec]) ?_
  have ee : (eCall m_row_of (aCons (eV 1) (aCons (eV 2) aNil))) [.bor Bd, .imm (.str (mkS (rowL r))), .imm z, .imm P] = some (.ok (rowT r), [.bor Bd, .imm (.str (mkS (rowL r))), .imm z, .imm P]) := by simp! only [er]
  unfold pRow
  simp only [bs, ee]
  rw [if_pos (decide_eq_true (by rw [sizeLine_eq]; omega))]
theorem tk_open {l : List Nat} (hn : nmL l = true) : ∃ δt, b_Builder_take [.bor (.bld vs ls .non rows), .imm (.str (mkS (joinL [32] [[118, 105, 101, 119], l]))), .imm z, .no] = some (.ok (.opn (.str (mkS l))), δt) := by
  obtain ⟨l1, l2, l3⟩ := nmL_ch hn
  have hp := split_mk (c := 32) (l := [[118, 105, 101, 119], l]) (by simp) (fun p hp => by
    simp only [List.mem_cons, List.not_mem_nil, or_false] at hp
    rcases hp with rfl | rfl
    · decide
    · intro m; have := l3 _ m; omega) (by
    show ([118, 105, 101, 119] ++ [32] ++ l).length ≤ 1000000
    rw [List.length_append]; simp; omega)
  generalize joinL [32] [[118, 105, 101, 119], l] = T at *
  simp only [List.map_cons, List.map_nil] at hp
  obtain ⟨_, _, q2, _, _, _, q6, _⟩ := sts
  have en := ev_isnm (d := .str (mkS l)) rfl (strOk_nm (by rw [nmB_mk]; exact hn))
  have en2 : nameB (.str (mkS l)) = true := by show nmB (mkS l) = true; rw [nmB_mk]; exact hn
  rw [en2] at en
  have ev := dEq_mk (l := [118, 105, 101, 119]) (m := [118, 105, 101, 119]) (by decide) (by decide)
  rw [decide_eq_true rfl] at ev
  generalize hL : D.str (mkS l) = L at *
  generalize hV : D.str (mkS [118, 105, 101, 119]) = V at *
  have i0 : dIx (.lst [V, L]) (.int 0) = some V := atI_0
  have i1 : dIx (.lst [V, L]) (.int 1) = some L := atI_1
  have hl : fLen [.lst [V, L]] = some (.int 2) := rfl
  generalize D.lst [V, L] = P at *
  have bn := bnm_of (δ := [.bor (.bld vs ls .non rows), .imm (.str (mkS T)), .imm z, .imm P]) (i := 0) rfl rfl
  have bs := bsl_of (δ := [.bor (.bld vs ls .non rows), .imm (.str (mkS T)), .imm z, .imm P]) (i := 0) rfl
  generalize hB : D.bld vs ls .non rows = Bd at *
  refine ⟨[.bor Bd, .imm (.str (mkS T)), .imm z, .imm P], ?_⟩
  unfold b_Builder_take
  rw [q2, q6, hV]
  refine sqT (δ1 := [.bor Bd, .imm (.str (mkS T)), .imm z, .imm P]) (by simp! only [x_M1, mk1_s, hp]) ?_
  have di : dIs true .non .non = some (.bl false) := rfl
  refine ifT_f (δ1 := [.bor Bd, .imm (.str (mkS T)), .imm z, .imm P]) (by simp! only [bn, di]) ?_
  refine ifT_t (δ1 := [.bor Bd, .imm (.str (mkS T)), .imm z, .imm P]) (by simp! only [i0, i1, ev, hl, en, dTru_bl]) ?_
  have ee : (eIxV 3 (eC (.int 1))) [.bor Bd, .imm (.str (mkS T)), .imm z, .imm P] = some (.ok L, [.bor Bd, .imm (.str (mkS T)), .imm z, .imm P]) := by simp! only [i1]
  unfold pOpn
  simp only [bs, ee]
end
section
variable {views : List Vw1} {names : List (List Nat)} {ls : List Lk} {z : D}
theorem bAdd_of {b : Bool} {Pm : Mo Out} {n : Nat} {E : Mo D} {δ : Env} {vs ls rows : List D} {nm d : D} {tl : Env} (h : δ[0]? = some (.bor (.bld vs ls nm rows))) (hE : E δ = some (.ok d, δ)) (hP : Pm ([.bor (.alb vs ls), .imm d] ++ List.replicate n .no) = some (.ok .nx, .bor (.alb vs ls) :: .imm d :: tl)) (hl : (fldL b vs ls).length ≤ 1000) : bAdd b Pm n E δ = some (.ok d, δ) := by
  unfold bAdd
  simp only [bsl_of h, hE, hP]
  rw [if_pos (decide_eq_true (by rw [sizeLine_eq]; omega))]
theorem tk_end (A : AlbOk views names ls) {l : List Nat} {rs : List Row} (hnew : l ∉ names) (hn : nmL l = true) (hv : viewB (vwD1 (l, rowsT rs)) = true) (vo : viewOk (vwD1 (l, rowsT rs))) (hl : names.length < 30) (hp : pureDs (rs.map rowT) = true) :
    ∃ δt, b_Builder_take [.bor (.bld (views.map vwD1) (ls.map (lkD names)) (.str (mkS l)) (rs.map rowT)), .imm (.str (mkS [101, 110, 100])), .imm z, .no] = some (.ok (.fin (vwD1 (l, rowsT rs))), δt) := by
  have hs := split_mk (c := 32) (l := [[101, 110, 100]]) (by simp) (by decide) (by decide)
  have hs : dSplit (.str (mkS [101, 110, 100])) (.str (mkS [32])) = some (.lst [.str (mkS [101, 110, 100])]) := hs
  have ec := dEq_mk (l := [101, 110, 100]) (m := [101, 110, 100]) (by decide) (by decide)
  rw [decide_eq_true rfl] at ec
  obtain ⟨_, _, q2, _, _, q5, _⟩ := sts
  have hadd := ev_addv A (p := (l, rowsT rs)) hnew hn hv vo hl
  have hlv : (views.map vwD1).length ≤ 1000 := by rw [List.length_map, A.vlen]; omega
  unfold albD at hadd
  unfold b_Builder_take
  rw [q2, q5]
  generalize hT : D.str (mkS [101, 110, 100]) = T at *
  generalize hP : D.lst [T] = P at *
  have hd : vwD1 (l, rowsT rs) = .tup [.str (mkS l), .tup (rs.map rowT)] := rfl
  have ba := bAdd_of (b := true) (Pm := b_Album_add_view) (n := 0) (E := (eTup (aCons (eBNm 0) (aCons (eBTup 0) aNil)))) (δ := [.bor (.bld (views.map vwD1) (ls.map (lkD names)) (.str (mkS l)) (rs.map rowT)), .imm T, .imm z, .imm P]) (d := vwD1 (l, rowsT rs)) (tl := []) rfl (by
    have bn := bnm_of (δ := [.bor (.bld (views.map vwD1) (ls.map (lkD names)) (.str (mkS l)) (rs.map rowT)), .imm T, .imm z, .imm P]) (i := 0) rfl rfl
    have bt := btup_of (δ := [.bor (.bld (views.map vwD1) (ls.map (lkD names)) (.str (mkS l)) (rs.map rowT)), .imm T, .imm z, .imm P]) (i := 0) rfl hp
    rw [hd]
    simp! only [bn, bt]) hadd hlv
  have bn := bnm_of (δ := [.bor (.bld (views.map vwD1) (ls.map (lkD names)) (.str (mkS l)) (rs.map rowT)), .imm T, .imm z, .imm P]) (i := 0) rfl rfl
  generalize hB : D.bld (views.map vwD1) (ls.map (lkD names)) (.str (mkS l)) (rs.map rowT) = Bd at *
  refine ⟨[.bor Bd, .imm T, .imm z, .imm P], ?_⟩
  have hst : (eM1 dSplit (eV 1) (eC (.str (mkS [32])))) [.bor Bd, .imm T, .imm z, .no] = some (.ok P, [.bor Bd, .imm T, .imm z, .no]) := by
    rw [← hT] at hs ⊢
    simp! only [x_M1, mk1_s, hs]
  refine sqT (δ1 := [.bor Bd, .imm T, .imm z, .imm P]) (by simp! only [hst]) ?_
  have di : dIs true (.str (mkS l)) .non = some (.bl true) := rfl
  refine ifT_t (δ1 := [.bor Bd, .imm T, .imm z, .imm P]) (by simp! only [bn, di]) ?_
  refine ifT_t (δ1 := [.bor Bd, .imm T, .imm z, .imm P]) (by simp! only [ec]) ?_
  unfold pFin
  simp only [ba]
theorem tk_link (A : AlbOk views names ls) {k : Lk} (ha : k.a < names.length) (hb : k.b < names.length) (hne : k.a ≠ k.b) (sm : LkSm k) (hl : ls.length < 60) {rows : List D} :
    ∃ δt, b_Builder_take [.bor (.bld (views.map vwD1) (ls.map (lkD names)) .non rows), .imm (.str (mkS (lkL names k))), .imm z, .no] = some (.ok (.lnk (lkD names k)), δt) := by
  have hs := lk_parts A.ok ha hb sm
  have ev1 := dEq_mk (l := [108, 105, 110, 107]) (m := [118, 105, 101, 119]) (by decide) (by decide)
  have ev2 := dEq_mk (l := [108, 105, 110, 107]) (m := [108, 105, 110, 107]) (by decide) (by decide)
  rw [decide_eq_true rfl] at ev2
  rw [decide_eq_false (by decide)] at ev1
  obtain ⟨_, _, q2, _, _, _, q6, q7, _⟩ := sts
  have hadd := ev_addl A ha hb hne sm hl
  have hlv : (ls.map (lkD names)).length ≤ 1000 := by rw [List.length_map]; omega
  have el := ev_lkof (names := names) sm (z := z)
  have i0 : dIx (.lst ((lkPs names k).map fun p => D.str (mkS p))) (.int 0) = some (.str (mkS [108, 105, 110, 107])) := atI_0
  unfold albD at hadd
  unfold b_Builder_take
  rw [q2, q6, q7]
  generalize hV : D.str (mkS [108, 105, 110, 107]) = V at *
  generalize hP : D.lst ((lkPs names k).map fun p => D.str (mkS p)) = P at *
  generalize hT : lkL names k = T at *
  have ba := bAdd_of (b := false) (Pm := b_Album_add_link) (n := 1) (E := (eCall m_link_of_parts (aCons (eV 3) (aCons (eV 2) aNil)))) (δ := [.bor (.bld (views.map vwD1) (ls.map (lkD names)) .non rows), .imm (.str (mkS T)), .imm z, .imm P]) (d := lkD names k) (tl := [.imm (nmD names k.b)]) rfl (by
    generalize lkD names k = LD at *
    simp! only [el]) hadd hlv
  have bn := bnm_of (δ := [.bor (.bld (views.map vwD1) (ls.map (lkD names)) .non rows), .imm (.str (mkS T)), .imm z, .imm P]) (i := 0) rfl rfl
  generalize hB : D.bld (views.map vwD1) (ls.map (lkD names)) .non rows = Bd at *
  refine ⟨[.bor Bd, .imm (.str (mkS T)), .imm z, .imm P], ?_⟩
  refine sqT (δ1 := [.bor Bd, .imm (.str (mkS T)), .imm z, .imm P]) (by simp! only [x_M1, mk1_s, hs]) ?_
  have di : dIs true .non .non = some (.bl false) := rfl
  refine ifT_f (δ1 := [.bor Bd, .imm (.str (mkS T)), .imm z, .imm P]) (by simp! only [bn, di]) ?_
  refine ifT_f (δ1 := [.bor Bd, .imm (.str (mkS T)), .imm z, .imm P]) (by simp! only [i0, ev1]) ?_
  refine ifT_t (δ1 := [.bor Bd, .imm (.str (mkS T)), .imm z, .imm P]) (by simp! only [i0, ev2]) ?_
  unfold pLnk
  simp only [ba]
end
theorem sTk_ok {i n : Nat} {Pm : Mo Tk} {E1 E2 : Mo D} {δ δt : Env} {vs ls rows : List D} {nm d1 d2 d' : D} {t : Tk} (h : δ[i]? = some (.bor (.bld vs ls nm rows))) (h1 : E1 δ = some (.ok d1, δ)) (h2 : E2 δ = some (.ok d2, δ)) (hp : bPure vs ls rows nm = true) (hP : Pm ([.bor (.bld vs ls nm rows), .imm d1, .imm d2] ++ List.replicate n .no) = some (.ok t, δt)) (hD : tkD vs ls rows nm t = some d') : sTk i Pm n E1 E2 δ = some (.ok .nx, δ.set i (.bor d')) := by
  unfold sTk
  simp only [bsl_of h]
  rw [bind_ok h1, bind_ok h2]
  simp only [bsl_of h]
  rw [if_pos hp, hP]
  simp only [hD]
theorem sBld_ok {i : Nat} {S : Mo Out} {δ δ' : Env} {o : Out} (hi : i < δ.length) (h : S (δ.set i (.bor (.bld [] [] .non []))) = some (.ok o, δ')) : sBld i S δ = some (.ok o, δ'.set i .no) := by
  unfold sBld
  rw [if_pos hi, h]
theorem sRetB_ok {i : Nat} {δ : Env} {vs ls rows : List D} {nm : D} (h : δ[i]? = some (.bor (.bld vs ls nm rows))) (p1 : pureDs vs = true) (p2 : pureDs ls = true) : sRetB i δ = some (.ok (.rt (.alb vs ls)), δ) := by
  unfold sRetB
  simp only [bsl_of h]
  rw [if_pos (by rw [p1, p2]; rfl)]
end M
set_option Elab.async false
set_option linter.all false
set_option maxRecDepth 100000
set_option maxHeartbeats 4000000
namespace M
open PySem L2
structure CxA (names : List (List Nat)) (rws : List (List Row)) (ls : List Lk) : Prop where
  nd : names.Nodup
  ok : ∀ l ∈ names, nmL l = true
  len : names.length ≤ 6
  rl : rws.length = names.length
  rk : ∀ rs ∈ rws, ∃ w h, Rect w h rs ∧ 1 ≤ w ∧ w ≤ 3 ∧ 1 ≤ h ∧ h ≤ 3
  lk : LkOk names.length ls
  sm : ∀ k ∈ ls, LkSm k
  ll : ls.length ≤ 8
def vws (names : List (List Nat)) (rws : List (List Row)) : List Vw1 := (List.range names.length).map fun v => (names.getD v [], rowsT (rws.getD v []))
theorem rk_row {w h : Nat} {rs : List Row} (R : Rect w h rs) (h1 : 1 ≤ w) (h2 : w ≤ 3) {r : Row} (m : r ∈ rs) : (∀ o ∈ r, RdOk o) ∧ r ≠ [] ∧ r.length ≤ 12 ∧ rowB w (rowT r) = true := by
  have hw := R.wid r m
  have ok := R.rd r m
  refine ⟨ok, fun z => by rw [z] at hw; simp at hw; omega, by omega, ?_⟩
  show ((decide (1 ≤ (r.map oI).length ∧ (r.map oI).length ≤ 12) && decide ((r.map oI).length = w)) && (r.map oI).all rdB) = true
  rw [List.length_map, hw, decide_eq_true (show 1 ≤ w ∧ w ≤ 12 by omega), decide_eq_true rfl]
  show (r.map oI).all rdB = true
  rw [List.all_eq_true]
  intro d m
  obtain ⟨o, ho, rfl⟩ := List.mem_map.mp m
  cases o with
  | none => rfl
  | some i =>
    have := ok _ ho i rfl
    show (decide (0 ≤ i) && decide (i ≤ 999)) = true
    rw [decide_eq_true this.1, decide_eq_true this.2]; rfl
theorem rk_view {w h : Nat} {l : List Nat} {rs : List Row} (hn : nmL l = true) (R : Rect w h rs) (h1 : 1 ≤ w) (h2 : w ≤ 3) (h3 : 1 ≤ h) (h4 : h ≤ 3) : viewB (vwD1 (l, rowsT rs)) = true ∧ viewOk (vwD1 (l, rowsT rs)) := by
  have hb : nmB (mkS l) = true := by rw [nmB_mk]; exact hn
  constructor
  · show (nmB (mkS l) && rowsB (rowsT rs)) = true
    rw [hb]
    have hl := R.len
    cases hr : rs with
    | nil => rw [hr] at hl; simp at hl; omega
    | cons r0 rs' =>
      rw [hr] at hl
      have hw : ∀ r ∈ r0 :: rs', rowB w (rowT r) = true := fun r m => (rk_row R h1 h2 (hr ▸ m)).2.2.2
      show (true && (decide ((rs'.map rowT).length + 1 ≤ 12) && (D.tup (r0.map oI) :: rs'.map rowT).all (rowB (r0.map oI).length))) = true
      rw [List.length_map, List.length_map, R.wid r0 (by rw [hr]; exact List.mem_cons_self), decide_eq_true (by rw [List.length_cons] at hl; omega)]
      show ((r0 :: rs').map rowT).all (rowB w) = true
      rw [List.all_eq_true]
      intro d m
      obtain ⟨r, hr, rfl⟩ := List.mem_map.mp m
      exact hw r hr
  · refine ⟨rfl, ⟨nmB_ok hb, Nat.le_trans (nmB_len hb) (by decide)⟩, rfl, fun d m => ?_⟩
    obtain ⟨r, _, rfl⟩ := List.mem_map.mp m
    exact ⟨rfl, fun d m => by
      obtain ⟨o, _, rfl⟩ := List.mem_map.mp m
      cases o <;> rfl⟩
theorem pure_row {r : Row} : pureD (rowT r) = true := by
  have : ∀ r : Row, pureDs (r.map oI) = true := fun r => by
    induction r with
    | nil => unfold pureDs; rfl
    | cons o r ih =>
      rw [List.map_cons]
      unfold pureDs
      rw [ih]
      cases o <;> rfl
  show pureDs (r.map oI) = true
  exact this r
theorem pure_rows : ∀ {rs : List Row}, pureDs (rs.map rowT) = true
  | [] => by unfold pureDs; rfl
  | r :: rs => by
    rw [List.map_cons]
    unfold pureDs
    rw [pure_row, pure_rows]; rfl
section
variable {names : List (List Nat)} {rws : List (List Row)} {ls : List Lk}
theorem vws_nm : (vws names rws).map (·.1) = names := by
  unfold vws
  rw [List.map_map]
  apply List.ext_getElem
  · simp
  · intro i h1 h2
    simp only [List.length_map, List.length_range] at h1
    rw [List.getElem_map, List.getElem_range]
    show names.getD i [] = names[i]
    rw [List.getD_eq_getElem?_getD, List.getElem?_eq_getElem h1]; rfl
theorem vws_len : (vws names rws).length = names.length := by unfold vws; rw [List.length_map, List.length_range]
theorem vws_at {j : Nat} (h : j < names.length) : (vws names rws)[j]? = some (names.getD j [], rowsT (rws.getD j [])) := by
  unfold vws
  rw [List.getElem?_map, List.getElem?_range h]; rfl
theorem CxA.rows (C : CxA names rws ls) {j : Nat} (h : j < names.length) : ∃ w h, Rect w h (rws.getD j []) ∧ 1 ≤ w ∧ w ≤ 3 ∧ 1 ≤ h ∧ h ≤ 3 := by
  have hj : j < rws.length := by rw [C.rl]; exact h
  rw [List.getD_eq_getElem?_getD, List.getElem?_eq_getElem hj]
  exact C.rk _ (List.getElem_mem hj)
def Gd (ls : List Lk) (j i : Nat) : Prop := ∀ k ∈ ls.take i, k.a < j ∧ k.b < j
theorem CxA.alb (C : CxA names rws ls) {j i : Nat} (hj : j ≤ names.length) (g : Gd ls j i) : AlbOk ((vws names rws).take j) (names.take j) (ls.take i) := by
  refine ⟨by rw [List.map_take, vws_nm], C.nd.sublist (List.take_sublist _ _), fun l m => C.ok l (List.mem_of_mem_take m), fun p m => ?_, fun k m => ?_, by rw [List.length_take]; have := C.len; omega, by rw [List.length_take]; have := C.ll; omega⟩
  · have m := List.mem_of_mem_take m
    unfold vws at m
    obtain ⟨v, _, rfl⟩ := List.mem_map.mp m
    show pureDs ((rws.getD v []).map rowT) = true
    exact pure_rows
  · obtain ⟨h1, h2⟩ := g k m
    rw [List.length_take]
    have := (C.lk k (List.mem_of_mem_take m)).2.2
    exact ⟨by omega, by omega, this⟩
theorem take_getD {j v : Nat} (h : v < j) : (names.take j).getD v [] = names.getD v [] := by
  rw [List.getD_eq_getElem?_getD, List.getD_eq_getElem?_getD, List.getElem?_take, if_pos h]
theorem lkD_take {j : Nat} {k : Lk} (ha : k.a < j) (hb : k.b < j) : lkD (names.take j) k = lkD names k := by
  unfold lkD nmD nmOf
  rw [take_getD ha, take_getD hb]
theorem lkL_take {j : Nat} {k : Lk} (ha : k.a < j) (hb : k.b < j) : lkL (names.take j) k = lkL names k := by
  unfold lkL lkPs
  rw [take_getD ha, take_getD hb]
theorem lks_take {j i : Nat} (g : Gd ls j i) : (ls.take i).map (lkD (names.take j)) = (ls.take i).map (lkD names) := List.map_congr_left fun k m => lkD_take (g k m).1 (g k m).2
abbrev Sta := Nat × Nat × Option Nat
inductive LnOk (names : List (List Nat)) (rws : List (List Row)) (ls : List Lk) : Sta → List Nat → Sta → Prop
  | vw {j i : Nat} : j < names.length → LnOk names rws ls (j, i, none) (joinL [32] [[118, 105, 101, 119], names.getD j []]) (j, i, some 0)
  | rw {j i q : Nat} {r : Row} : j < names.length → (rws.getD j [])[q]? = some r → LnOk names rws ls (j, i, some q) (rowL r) (j, i, some (q + 1))
  | en {j i : Nat} : j < names.length → LnOk names rws ls (j, i, some (rws.getD j []).length) [101, 110, 100] (j + 1, i, none)
  | lk {j i : Nat} {k : Lk} : ls[i]? = some k → k.a < j → k.b < j → j ≤ names.length → LnOk names rws ls (j, i, none) (lkL names k) (j, i + 1, none)
inductive Rn (names : List (List Nat)) (rws : List (List Row)) (ls : List Lk) : Sta → List (List Nat) → Sta → Prop
  | nil {s : Sta} : Rn names rws ls s [] s
  | bl {s s' : Sta} {L : List (List Nat)} : Rn names rws ls s L s' → Rn names rws ls s ([] :: L) s'
  | ln {s s1 s' : Sta} {t : List Nat} {L : List (List Nat)} : LnOk names rws ls s t s1 → Rn names rws ls s1 L s' → Rn names rws ls s (t :: L) s'
theorem Rn.app {s s1 s2 : Sta} {L M : List (List Nat)} (h : Rn names rws ls s L s1) (h2 : Rn names rws ls s1 M s2) : Rn names rws ls s (L ++ M) s2 := by
  induction h with
  | nil => exact h2
  | bl _ ih => exact .bl (ih h2)
  | ln a _ ih => exact .ln a (ih h2)
def StD (names : List (List Nat)) (rws : List (List Row)) (ls : List Lk) : Sta → D → Prop
  | (j, i, none), d => ∃ rows, pureDs rows = true ∧ d = .bld (((vws names rws).take j).map vwD1) ((ls.take i).map (lkD names)) .non rows
  | (j, i, some q), d => d = .bld (((vws names rws).take j).map vwD1) ((ls.take i).map (lkD names)) (.str (mkS (names.getD j []))) (((rws.getD j []).take q).map rowT)
theorem ln_ch (C : CxA names rws ls) {s s' : Sta} {t : List Nat} (h : LnOk names rws ls s t s') : t ≠ [] ∧ t.length ≤ 100 ∧ ∀ c ∈ t, 32 ≤ c ∧ c ≤ 122 := by
  cases h with
  | @vw j i hj =>
    obtain ⟨l1, l2, l3⟩ := nmL_ch (nm_at C.ok hj)
    show ([118, 105, 101, 119] ++ [32] ++ names.getD j []) ≠ [] ∧ ([118, 105, 101, 119] ++ [32] ++ names.getD j []).length ≤ 100 ∧ ∀ c ∈ ([118, 105, 101, 119] ++ [32] ++ names.getD j []), 32 ≤ c ∧ c ≤ 122
    refine ⟨by simp, by rw [List.length_append]; show 5 + (names.getD j []).length ≤ 100; omega, fun c m => ?_⟩
    rcases List.mem_append.mp m with m | m
    · simp at m; omega
    · have := l3 c m; omega
  | @rw j i q r hj hr =>
    obtain ⟨w, h, R, h1, h2, h3, h4⟩ := C.rows hj
    obtain ⟨ok, hne, hl, _⟩ := rk_row R h1 h2 (List.mem_of_getElem? hr)
    refine ⟨fun z => ?_, by have := rowL_len ok hl; omega, fun c m => ?_⟩
    · cases hr2 : r with
      | nil => exact hne hr2
      | cons o r' =>
        rw [hr2] at z ok
        have hl1 : 1 ≤ (rdL o).length := by
          cases o with
          | none => show 1 ≤ 1; omega
          | some i => exact (numL_len (rd_sm (ok _ List.mem_cons_self) rfl)).1
        cases r' with
        | nil =>
          have z : rdL o = [] := z
          rw [z] at hl1; simp at hl1
        | cons o2 r2 =>
          have z : rdL o ++ [32] ++ joinL [32] ((o2 :: r2).map rdL) = [] := z
          simp at z
    · have := rowL_ch ok c m
      rcases joinL_mem m with m2 | ⟨p, hp, m2⟩
      · simp at m2; omega
      · obtain ⟨o, ho, rfl⟩ := List.mem_map.mp hp
        have := rdL_ch (ok o ho) c m2; omega
  | en => exact ⟨by simp, by decide, by decide⟩
  | @lk j i k hk ha hb hj =>
    have ok := lkPs_ok C.ok (k := k) (by omega) (by omega) (C.sm k (List.mem_of_getElem? hk))
    have hl := joinL_len (s := [32]) (m := 8) (ls := lkPs names k) fun p hp => (ok p hp).1
    have e : (lkPs names k).length = 6 := rfl
    rw [e, List.length_singleton] at hl
    refine ⟨fun z => ?_, by show (joinL [32] (lkPs names k)).length ≤ 100; omega, fun c m => ?_⟩
    · have z : [108, 105, 110, 107] ++ [32] ++ joinL [32] [names.getD k.a [], names.getD k.b [], numL k.x, numL k.y, numL k.l] = [] := z
      simp at z
    · rcases joinL_mem (ls := lkPs names k) m with m2 | ⟨p, hp, m2⟩
      · simp at m2; omega
      · have := (ok p hp).2 c m2; omega
theorem pure_vws {j : Nat} : pureDs (((vws names rws).take j).map vwD1) = true := pure_views fun p m => by
  have m := List.mem_of_mem_take m
  unfold vws at m
  obtain ⟨v, _, rfl⟩ := List.mem_map.mp m
  show pureDs ((rws.getD v []).map rowT) = true
  exact pure_rows
theorem tk_step (C : CxA names rws ls) {s s' : Sta} {t : List Nat} {d z : D} (h : LnOk names rws ls s t s') (g : Gd ls s.1 s.2.1) (sd : StD names rws ls s d) :
    ∃ vs l2 rows nm tk δt d', d = .bld vs l2 nm rows ∧ b_Builder_take [.bor d, .imm (.str (mkS t)), .imm z, .no] = some (.ok tk, δt) ∧ bPure vs l2 rows nm = true ∧ tkD vs l2 rows nm tk = some d' ∧ StD names rws ls s' d' ∧ Gd ls s'.1 s'.2.1 := by
  have hn := C.len
  have hll := C.ll
  cases h with
  | @vw j i hj =>
    obtain ⟨rows, hp, rfl⟩ := sd
    obtain ⟨δt, e⟩ := tk_open (vs := ((vws names rws).take j).map vwD1) (ls := (ls.take i).map (lkD names)) (rows := rows) (z := z) (nm_at C.ok hj)
    refine ⟨_, _, _, _, _, δt, _, rfl, e, by unfold bPure; rw [pure_vws, pure_links, hp]; rfl, rfl, ?_, g⟩
    show _ = _
    rw [List.take_zero]; rfl
  | @rw j i q r hj hr =>
    obtain rfl := (show d = _ from sd)
    obtain ⟨w, h, R, h1, h2, h3, h4⟩ := C.rows hj
    obtain ⟨ok, hne, hl, _⟩ := rk_row R h1 h2 (List.mem_of_getElem? hr)
    have hrl := R.len
    have hlen : (((rws.getD j []).take q).map rowT).length ≤ 1000 := by rw [List.length_map, List.length_take]; omega
    obtain ⟨δt, e⟩ := tk_row (vs := ((vws names rws).take j).map vwD1) (ls := (ls.take i).map (lkD names)) (z := z) (s := mkS (names.getD j [])) ok hne hl hlen
    refine ⟨_, _, _, _, _, δt, .bld (((vws names rws).take j).map vwD1) ((ls.take i).map (lkD names)) (.str (mkS (names.getD j []))) ((((rws.getD j []).take q).map rowT) ++ [rowT r]), rfl, e, by unfold bPure; rw [pure_vws, pure_links, pure_rows]; rfl, ?_, ?_, g⟩
    · unfold tkD
      simp only []
      rw [if_pos (by rw [pure_row, decide_eq_true (by rw [sizeLine_eq]; omega)]; rfl)]
    · show _ = _
      rw [take_sn hr, List.map_append]; rfl
  | @en j i hj =>
    obtain rfl := (show d = _ from sd)
    obtain ⟨w, h, R, h1, h2, h3, h4⟩ := C.rows hj
    obtain ⟨v1, v2⟩ := rk_view (nm_at C.ok hj) R h1 h2 h3 h4
    have A := C.alb (Nat.le_of_lt hj) g
    have hnew : names.getD j [] ∉ names.take j := fun m => by
      obtain ⟨i', hi, e⟩ := List.getElem_of_mem m
      rw [List.length_take] at hi
      rw [List.getElem_take, List.getD_eq_getElem?_getD, List.getElem?_eq_getElem hj] at e
      have := (List.getElem_inj C.nd).mp e
      omega
    obtain ⟨δt, e⟩ := tk_end A (z := z) hnew (nm_at C.ok hj) v1 v2 (by rw [List.length_take]; omega) pure_rows
    rw [lks_take g] at e
    rw [List.take_length]
    refine ⟨_, _, _, _, _, δt, .bld ((((vws names rws).take j).map vwD1) ++ [vwD1 (names.getD j [], rowsT (rws.getD j []))]) ((ls.take i).map (lkD names)) .non (((rws.getD j [])).map rowT), rfl, e, by unfold bPure; rw [pure_vws, pure_links, pure_rows]; rfl, ?_, ?_, fun k m => by have := g k m; constructor <;> show _ < j + 1 <;> omega⟩
    · unfold tkD
      simp only []
      have p1 : pureD (vwD1 (names.getD j [], rowsT (rws.getD j []))) = true := by
        have := pure_views (views := [(names.getD j [], rowsT (rws.getD j []))]) (fun p m => by simp at m; subst m; show pureDs ((rws.getD j []).map rowT) = true; exact pure_rows)
        simp only [List.map_cons, List.map_nil] at this
        unfold pureDs at this
        rw [Bool.and_eq_true] at this
        exact this.1
      rw [if_pos (by rw [p1, decide_eq_true (by rw [List.length_map, List.length_take, vws_len, sizeLine_eq]; omega)]; rfl)]
    · exact ⟨(rws.getD j []).map rowT, pure_rows, by rw [take_sn (vws_at (rws := rws) hj), List.map_append]; rfl⟩
  | @lk j i k hk ha hb hj =>
    obtain ⟨rows, hp, rfl⟩ := sd
    have A := C.alb hj g
    have mk := List.mem_of_getElem? hk
    have hil := (List.getElem?_eq_some_iff.mp hk).1
    obtain ⟨δt, e⟩ := tk_link A (z := z) (k := k) (rows := rows) (by rw [List.length_take]; omega) (by rw [List.length_take]; omega) (C.lk k mk).2.2 (C.sm k mk) (by rw [List.length_take]; omega)
    rw [lks_take g, lkD_take ha hb, lkL_take ha hb] at e
    refine ⟨_, _, _, _, _, δt, .bld (((vws names rws).take j).map vwD1) ((ls.take i).map (lkD names) ++ [lkD names k]) .non rows, rfl, e, by unfold bPure; rw [pure_vws, pure_links, hp]; rfl, ?_, ?_, fun k' m => ?_⟩
    · unfold tkD
      simp only []
      have p1 : pureD (lkD names k) = true := by unfold lkD nmD; simp only [pureD, pureDs]; rfl
      rw [if_pos (by rw [p1, decide_eq_true (by rw [List.length_map, List.length_take, sizeLine_eq]; omega)]; rfl)]
    · exact ⟨rows, hp, by rw [take_sn hk, List.map_append]; rfl⟩
    · have m : k' ∈ ls.take (i + 1) := m
      rw [take_sn hk] at m
      rcases List.mem_append.mp m with m | m
      · exact g k' m
      · simp at m; subst m; exact ⟨ha, hb⟩
end
end M
set_option Elab.async false
set_option linter.all false
set_option maxRecDepth 100000
set_option maxHeartbeats 4000000
namespace M
open PySem L2
local macro_rules
  | `(tactic| simp! only [$as,*]) => `(tactic| simp only [x_bind, bk_ok, bk_ite, x_ret, x_lift, lk_some, lk_ite, app_ite, x_eC, x_eV, vk_imm, vk_own, vk_bor, x_give, gk_own, x_bin, x_un, x_ix, x_tru, x_eB, dBl_bl, dTru_bl, dTru_int, dTru_lst, x_and, x_or, x_not, x_eAnd, x_eOr, x_eNot, x_eIf, x_chain, x_aNil, x_aCons, x_aVr, rk_own, rk_io, x_aVb, tk_own, tk_io, tk_imm, tk_bor, x_eTup, x_eLst, imms_nil, imms_im, x_eF, x_call, ixV_C, jk_imm, jk_own, jk_io, jk_bor, flk_int, x_lenV, nk_imm, nk_own, nk_io, nk_bor, x_inV, hk_imm, hk_own, hk_io, hk_bor, x_sNx, x_pass, x_cont, x_brk, x_seq, sk_nx, sk_rt, sk_rtO, sk_ct, sk_bk, sk_ite, x_drop, x_sRet, x_sRetO, x_sIf, x_asg, x_asgO, x_gN, x_gO, x_gNil, x_gCons, x_gTt, x_gTl, x_sApp, x_sSet, x_chM, ck_own, ck_io, x_iOf, x_iRg, x_fn, fk_rt, fk_nx, fk_ite, ios_z, ios_s, keep_io, keep_imm, keep_own, keep_bor, keep_no, dSub_i, dAdd_i, dLt_i, dLe_i, dGt_i, dGe_i, dEq_int, dNe_int, ix_lst, ix_scr, ix_tup, atI_0, atI_1, atI_2, atI_3, List.getElem?_cons_zero, List.getElem?_cons_succ, List.set_cons_zero, List.set_cons_succ, List.length_cons, List.length_nil, List.cons_append, List.nil_append, List.replicate_succ, List.replicate_zero, Option.map_some, Option.bind_some, Nat.reduceAdd, Nat.reduceSub, Nat.reduceLT, Nat.reduceLeDiff, if_true, if_false, Bool.false_eq_true, decide_eq_true_eq, reduceIte, ne_eq, not_false_eq_true, Nat.lt_add_left_iff_pos, Nat.zero_lt_succ, x_call1, x_call2, x_call3, x_call4, dk1, dk2, dk3, dk4, ixV_V, Nat.reduceEqDiff, not_false_eq_true, x_isLst, x_isSet, List.map_cons, List.map_nil, Option.map_none, Option.bind_none, x_eSl, x_eP0, x_eP1, part_i, $as,*])
section
variable {names : List (List Nat)} {rws : List (List Row)} {ls : List Lk}
theorem rn_ch (C : CxA names rws ls) {s s' : Sta} {L : List (List Nat)} (h : Rn names rws ls s L s') : ∀ t ∈ L, t.length ≤ 100 ∧ ∀ c ∈ t, 32 ≤ c ∧ c ≤ 122 := by
  induction h with
  | nil => intro t m; cases m
  | bl _ ih =>
    intro t m
    rcases List.mem_cons.mp m with rfl | m
    · exact ⟨by simp, fun c m => by cases m⟩
    · exact ih t m
  | ln a _ ih =>
    intro t m
    rcases List.mem_cons.mp m with rfl | m
    · exact (ln_ch C a).2
    · exact ih t m
theorem rn_nil {s s' : Sta} (h : Rn names rws ls s [] s') : s = s' := by cases h; rfl
abbrev aoE (T : List Nat) (d P : D) (s3 : Sl) : Env := [.imm (.str (mkS T)), .bor d, .imm P, s3, .no]
theorem ev_albumof (C : CxA names rws ls) {L : List (List Nat)} (hne : L ≠ []) (hl : L.length ≤ 300) (r : Rn names rws ls (0, 0, none) L (names.length, ls.length, none)) : m_album_of [.imm (.str (mkS (joinL [10] L)))] = some (.ok (albD (vws names rws) names ls), [.no]) := by
  have ch := rn_ch C r
  have hs := split_mk (c := 10) hne (fun p hp m => by have := (ch p hp).2 _ m; omega) (by
    have := joinL_len (s := [10]) (m := 100) (ls := L) fun p hp => (ch p hp).1
    rw [List.length_singleton] at this
    omega)
  generalize joinL [10] L = T at *
  have hlen : fLen [.lst (L.map fun p => D.str (mkS p))] = some (.int (L.length : Nat)) := by
    show some (D.int ((L.map fun p => D.str (mkS p)).length : Nat)) = _
    rw [List.length_map]
  have hix : ∀ j t, L[j]? = some t → dIx (.lst (L.map fun p => D.str (mkS p))) (.int (j : Nat)) = some (.str (mkS t)) := fun j t h => at_map (f := fun p => D.str (mkS p)) h
  obtain ⟨q0, _, _, q3, _⟩ := sts
  generalize hP : D.lst (L.map fun p => D.str (mkS p)) = P at *
  have hrg := rg1_n (show L.length ≤ 1000 by omega)
  obtain ⟨δ1, f1, s, d, y3, i1, i2, i3, rfl⟩ := sFor_inv (I := (iRg rg1 (aCons (eF fLen (aCons (eV 2) aNil)) aNil))) (T := gN 3) (S := (sIf (eB (eBin dNe (eIxV 2 (eV 3)) (eC (.str ""))))
 (sTk 1 b_Builder_take 1 (eIxV 2 (eV 3)) (eV 3))
 sNx)) (ds := rgD 0 L.length) (δ := aoE T (.bld [] [] .non []) P .no) (δ0 := aoE T (.bld [] [] .non []) P .no)
    (fun j δ => ∃ s d y3, StD names rws ls s d ∧ Gd ls s.1 s.2.1 ∧ Rn names rws ls s (L.drop j) (names.length, ls.length, none) ∧ δ = aoE T d P y3)
    (by
      generalize ((L.length : Nat) : Int) = N at *
      simp! only [hlen, hrg]) ⟨(0, 0, none), .bld [] [] .non [], .no, ⟨[], by unfold pureDs; rfl, by rw [List.take_zero, List.take_zero]; rfl⟩, fun k m => (by rw [List.take_zero] at m; cases m), r, rfl⟩ (fun j d0 δ hj hδ => by
      obtain ⟨s, d, y3, i1, i2, i3, rfl⟩ := hδ
      obtain ⟨hj', rfl⟩ := rgD_get hj
      clear hj
      have ht : L[j]? = some L[j] := List.getElem?_eq_getElem hj'
      have hx := hix j _ ht
      rw [List.drop_eq_getElem_cons hj'] at i3
      have mt := List.getElem_mem hj'
      have ec := dNe_mk (l := L[j]) (m := []) (fun c m => ((ch _ mt).2 c m).2) (fun c m => by cases m)
      generalize L[j] = t at *
      have t1 : gN 3 (.int (j : Nat)) (aoE T d P y3) = some (.ok (), aoE T d P (.imm (.int (j : Nat)))) := by simp! only []
      cases i3 with
      | bl i3 =>
        refine ⟨_, aoE T d P (.imm (.int (j : Nat))), t1, .inl ?_, s, d, .imm (.int (j : Nat)), i1, i2, i3, rfl⟩
        rw [decide_eq_true rfl] at ec
        rw [q0]
        generalize ((j : Nat) : Int) = J at *
        exact s1f (by simp! only [hx, ec, Bool.not_true])
      | ln a i3 =>
        obtain ⟨vs, l2, rows, nm, tk, δt, d', ed, e, hp, hd, k1, k2⟩ := tk_step C (z := .int (j : Nat)) a i2 i1
        refine ⟨_, aoE T d' P (.imm (.int (j : Nat))), t1, .inl ?_, _, d', .imm (.int (j : Nat)), k1, k2, i3, rfl⟩
        rw [decide_eq_false (ln_ch C a).1] at ec
        rw [q0]
        subst ed
        generalize ((j : Nat) : Int) = J at *
        refine st (δ1 := aoE T (.bld vs l2 nm rows) P (.imm (.int J))) (by simp! only [hx, ec, Bool.not_false]) ?_
        have e1 : (eIxV 2 (eV 3)) (aoE T (.bld vs l2 nm rows) P (.imm (.int J))) = some (.ok (.str (mkS t)), aoE T (.bld vs l2 nm rows) P (.imm (.int J))) := by simp! only [hx]
        have e2 : (eV 3) (aoE T (.bld vs l2 nm rows) P (.imm (.int J))) = some (.ok (.int J), aoE T (.bld vs l2 nm rows) P (.imm (.int J))) := by simp! only []
        exact sTk_ok (i := 1) (n := 1) (δt := δt) rfl e1 e2 hp e hd)
  rw [rgD_len] at i3
  rw [List.drop_length] at i3
  have es := rn_nil i3
  subst es
  obtain ⟨rows, hr, rfl⟩ := i1
  have t1 : (vws names rws).take names.length = vws names rws := List.take_of_length_le (by rw [vws_len]; exact Nat.le_refl _)
  have t2 : ls.take ls.length = ls := List.take_of_length_le (Nat.le_refl _)
  have pv := pure_vws (names := names) (rws := rws) (j := names.length)
  rw [t1] at pv
  rw [t1, t2] at f1
  have pl := pure_links (names := names) (ls := ls)
  unfold albD
  generalize (vws names rws).map vwD1 = VS at *
  generalize ls.map (lkD names) = LS at *
  refine (fn_rt (δ1 := (aoE T (.bld VS LS .non rows) P y3).set 1 .no) ?_).trans rfl
  unfold b_album_of
  refine sBld_ok (by simp) ?_
  show sSeq _ _ [.imm (.str (mkS T)), .bor (.bld [] [] .non []), .no, .no, .no] = _
  rw [q3]
  refine ssq (δ1 := aoE T (.bld [] [] .non []) P .no) (by simp! only [x_M1, mk1_s, hs]) ?_
  refine ssq f1 ?_
  have bn := bnm_of (δ := aoE T (.bld VS LS .non rows) P y3) (i := 1) rfl rfl
  have di : dIs true .non .non = some (.bl false) := rfl
  refine ssq_f (δ1 := aoE T (.bld VS LS .non rows) P y3) (by simp! only [bn, di]) ?_
  exact sRetB_ok (i := 1) rfl pv pl
end
end M
set_option Elab.async false
set_option linter.all false
set_option maxRecDepth 100000
set_option maxHeartbeats 4000000
namespace M
open PySem L2
local macro_rules
  | `(tactic| simp! only [$as,*]) => `(tactic| simp only [x_bind, bk_ok, bk_ite, x_ret, x_lift, lk_some, lk_ite, app_ite, x_eC, x_eV, vk_imm, vk_own, vk_bor, x_give, gk_own, x_bin, x_un, x_ix, x_tru, x_eB, dBl_bl, dTru_bl, dTru_int, dTru_lst, x_and, x_or, x_not, x_eAnd, x_eOr, x_eNot, x_eIf, x_chain, x_aNil, x_aCons, x_aVr, rk_own, rk_io, x_aVb, tk_own, tk_io, tk_imm, tk_bor, x_eTup, x_eLst, imms_nil, imms_im, x_eF, x_call, ixV_C, jk_imm, jk_own, jk_io, jk_bor, flk_int, x_lenV, nk_imm, nk_own, nk_io, nk_bor, x_inV, hk_imm, hk_own, hk_io, hk_bor, x_sNx, x_pass, x_cont, x_brk, x_seq, sk_nx, sk_rt, sk_rtO, sk_ct, sk_bk, sk_ite, x_drop, x_sRet, x_sRetO, x_sIf, x_asg, x_asgO, x_gN, x_gO, x_gNil, x_gCons, x_gTt, x_gTl, x_sApp, x_sSet, x_chM, ck_own, ck_io, x_iOf, x_iRg, x_fn, fk_rt, fk_nx, fk_ite, ios_z, ios_s, keep_io, keep_imm, keep_own, keep_bor, keep_no, dSub_i, dAdd_i, dLt_i, dLe_i, dGt_i, dGe_i, dEq_int, dNe_int, ix_lst, ix_scr, ix_tup, atI_0, atI_1, atI_2, atI_3, List.getElem?_cons_zero, List.getElem?_cons_succ, List.set_cons_zero, List.set_cons_succ, List.length_cons, List.length_nil, List.cons_append, List.nil_append, List.replicate_succ, List.replicate_zero, Option.map_some, Option.bind_some, Nat.reduceAdd, Nat.reduceSub, Nat.reduceLT, Nat.reduceLeDiff, if_true, if_false, Bool.false_eq_true, decide_eq_true_eq, reduceIte, ne_eq, not_false_eq_true, Nat.lt_add_left_iff_pos, Nat.zero_lt_succ, x_call1, x_call2, x_call3, x_call4, dk1, dk2, dk3, dk4, ixV_V, Nat.reduceEqDiff, not_false_eq_true, x_isLst, x_isSet, List.map_cons, List.map_nil, Option.map_none, Option.bind_none, x_eSl, x_eP0, x_eP1, part_i, $as,*])
abbrev sD (p : List Nat) : D := .str (mkS p)
def vwB (l : List Nat) (rs : List Row) : List (List Nat) := joinL [32] [[118, 105, 101, 119], l] :: (rs.map rowL ++ [[101, 110, 100]])
theorem vw_eq {l : List Nat} : joinL [32] [[118, 105, 101, 119], l] = [118, 105, 101, 119, 32] ++ l := rfl
theorem add_ll {x y : List D} (h : x.length + y.length ≤ 1000) : dAdd (.lst x) (.lst y) = some (.lst (x ++ y)) := by
  show (if x.length + y.length ≤ sizeLine then some (D.lst (x ++ y)) else none) = _
  rw [if_pos (small_len h)]
theorem add_lL {x y : List D} (h : x.length + y.length ≤ 1000) : dAddL (.lst x) (.lst y) = some (.lst (x ++ y)) := by
  show (if x.length + y.length ≤ sizeLine then some (D.lst (x ++ y)) else none) = _
  rw [if_pos (small_len h)]
theorem add_view {l : List Nat} (h : l.length ≤ 8) : dAdd (.str "view ") (.str (mkS l)) = some (sD (joinL [32] [[118, 105, 101, 119], l])) := by
  obtain ⟨_, _, _, _, _, _, _, _, q8⟩ := sts
  rw [q8, vw_eq]
  exact add_str (by decide) (by omega)
theorem is_oI {o : Option Int} : dIs false (oI o) .non = some (.bl o.isNone) := by cases o <;> rfl
/-- the parts of a row, made in slot i + 1 of what is in slot i -/
theorem join_row {r : Row} (ok : ∀ o ∈ r, RdOk o) (h : r.length ≤ 12) : dJoin (.str " ") (.lst (r.map fun o => sD (rdL o))) = some (sD (rowL r)) := by
  obtain ⟨_, _, q2, _⟩ := sts
  have := join_d (sep := [32]) (ls := r.map rdL) (by
    have hs : ∀ r : Row, (∀ o ∈ r, RdOk o) → ((r.map rdL).map (·.length)).sum ≤ 4 * r.length := fun r => by
      induction r with
      | nil => intro _; simp
      | cons o r ih =>
        intro ok
        have h1 := rdL_len (ok o List.mem_cons_self)
        have h2 := ih fun o m => ok o (List.mem_cons_of_mem _ m)
        rw [List.map_cons, List.map_cons, List.sum_cons, List.length_cons]; omega
    have := hs r ok
    rw [List.length_map, List.length_singleton]; omega)
  rw [List.map_map] at this
  rw [q2]
  exact this
theorem elt_row {δ : Env} {i : Nat} {o : Option Int} (ok : RdOk o) (h : δ[i]? = some (.imm (oI o))) : (eIf (eB (eBin (dIs false) (eV i) (eC .non))) (eC (.str ".")) (eF fStr (aCons (eV i) aNil))) δ = some (.ok (sD (rdL o)), δ) := by
  obtain ⟨_, _, _, _, q4, _⟩ := sts
  have hi := is_oI (o := o)
  rw [q4]
  cases o with
  | none =>
    have hi : dIs false (oI none) .non = some (.bl true) := hi
    simp! only [h, hi]; rfl
  | some z =>
    have hi : dIs false (oI (some z)) .non = some (.bl false) := hi
    have hs : fStr [oI (some z)] = some (.str (mkS (numL z))) := fStr_num (rd_sm ok rfl)
    simp! only [h, hi, hs]; rfl
theorem ev_showrow {r : Row} (ok : ∀ o ∈ r, RdOk o) (h : r.length ≤ 12) : m_show_row [.imm (rowT r)] = some (.ok (sD (rowL r)), [.no]) := by
  have e : (eLc (iOf (eV 0)) (gN 1) tYesM (eIf (eB (eBin (dIs false) (eV 1) (eC .non))) (eC (.str ".")) (eF fStr (aCons (eV 1) aNil))) [1]) [.imm (rowT r), .no] = some (.ok (.lst (r.map fun o => sD (rdL o))), [.imm (rowT r), .no]) := by
    rw [eLc_map (l := r) (g := oI) (p := fun _ => true) (f := fun o => sD (rdL o)) (δ0 := [.imm (rowT r), .no])]
    · rw [List.filter_eq_self.mpr (fun _ _ => rfl)]; rfl
    · unfold rowT; simp! only [itD]
    · omega
    · intro o ho
      exact ⟨[.imm (rowT r), .imm (oI o)], [.imm (rowT r), .imm (oI o)], by simp! only [wipeE], rfl, (fun z => by cases z), fun _ => ⟨[.imm (rowT r), .imm (oI o)], elt_row (ok o ho) rfl, rfl⟩⟩
  have ej := join_row ok h
  refine (fn_rt (δ1 := [.imm (rowT r), .no]) ?_).trans rfl
  unfold b_show_row
  generalize (eLc (iOf (eV 0)) (gN 1) tYesM (eIf (eB (eBin (dIs false) (eV 1) (eC .non))) (eC (.str ".")) (eF fStr (aCons (eV 1) aNil))) [1]) = EL at *
  simp! only [x_M1, mk1_s, e, ej]
theorem ev_viewlines {l : List Nat} {rs : List Row} (hn : nmL l = true) (ok : ∀ r ∈ rs, (∀ o ∈ r, RdOk o) ∧ r.length ≤ 12) (h : rs.length ≤ 12) : m__law_view_lines [.imm (sD l), .imm (rowsT rs)] = some (.ok (.lst ((vwB l rs).map sD)), [.no, .no]) := by
  have ha := add_view (nmL_ch hn).1
  generalize hV : joinL [32] [[118, 105, 101, 119], l] = V at *
  obtain ⟨_, _, _, _, _, q5, _⟩ := sts
  obtain ⟨δ1, f1, y3, rfl⟩ := sFor_inv (I := (iOf (eV 1))) (T := gN 3) (S := (sApp 2 (eM1 dJoin (eC (.str " ")) (eLc (iOf (eV 3)) (gN 4) tYesM (eIf (eB (eBin (dIs false) (eV 4) (eC .non))) (eC (.str ".")) (eF fStr (aCons (eV 4) aNil))) [4])))) (ds := rs.map rowT)
    (δ := [.imm (sD l), .imm (rowsT rs), .own (.lst [sD V]), .no, .no]) (δ0 := [.imm (sD l), .imm (rowsT rs), .own (.lst [sD V]), .no, .no])
    (fun j δ => ∃ y3, δ = [.imm (sD l), .imm (rowsT rs), .own (.lst (sD V :: ((rs.take j).map fun r => sD (rowL r)))), y3, .no])
    (by unfold rowsT; simp! only [itD]) ⟨_, rfl⟩ (fun j d δ hj hδ => by
      obtain ⟨y3, rfl⟩ := hδ
      obtain ⟨r, hr, rfl⟩ := getmap hj
      obtain ⟨okr, hlr⟩ := ok r (List.mem_of_getElem? hr)
      have ht : (rs.take (j + 1)).map (fun r => sD (rowL r)) = (rs.take j).map (fun r => sD (rowL r)) ++ [sD (rowL r)] := by rw [take_sn hr, List.map_append]; rfl
      have hll : ((rs.take j).map fun r => sD (rowL r)).length ≤ 12 := by rw [List.length_map, List.length_take]; omega
      rw [ht]
      generalize ((rs.take j).map fun r => sD (rowL r)) = LL at *
      have il : ∀ (δ : Env) (L : List D), δ[2]? = some (.own (.lst L)) → isLst δ 2 = true := fun δ L h => by unfold isLst; rw [h]
      have ap := ap_l (l := sD V :: LL) (x := sD (rowL r)) (by rw [List.length_cons]; omega)
      refine ⟨[.imm (sD l), .imm (rowsT rs), .own (.lst (sD V :: LL)), .imm (rowT r), .no], [.imm (sD l), .imm (rowsT rs), .own (.lst (sD V :: (LL ++ [sD (rowL r)]))), .imm (rowT r), .no], by simp! only [], .inl ?_, _, rfl⟩
      have e : (eLc (iOf (eV 3)) (gN 4) tYesM (eIf (eB (eBin (dIs false) (eV 4) (eC .non))) (eC (.str ".")) (eF fStr (aCons (eV 4) aNil))) [4]) [.imm (sD l), .imm (rowsT rs), .own (.lst (sD V :: LL)), .imm (rowT r), .no] = some (.ok (.lst (r.map fun o => sD (rdL o))), [.imm (sD l), .imm (rowsT rs), .own (.lst (sD V :: LL)), .imm (rowT r), .no]) := by
        rw [eLc_map (l := r) (g := oI) (p := fun _ => true) (f := fun o => sD (rdL o)) (δ0 := [.imm (sD l), .imm (rowsT rs), .own (.lst (sD V :: LL)), .imm (rowT r), .no])]
        · rw [List.filter_eq_self.mpr (fun _ _ => rfl)]; rfl
        · unfold rowT; simp! only [itD]
        · omega
        · intro o ho
          exact ⟨[.imm (sD l), .imm (rowsT rs), .own (.lst (sD V :: LL)), .imm (rowT r), .imm (oI o)], [.imm (sD l), .imm (rowsT rs), .own (.lst (sD V :: LL)), .imm (rowT r), .imm (oI o)], by simp! only [wipeE], rfl, (fun z => by cases z), fun _ => ⟨[.imm (sD l), .imm (rowsT rs), .own (.lst (sD V :: LL)), .imm (rowT r), .imm (oI o)], elt_row (okr o ho) rfl, rfl⟩⟩
      have ej := join_row okr hlr
      generalize (eLc (iOf (eV 3)) (gN 4) tYesM (eIf (eB (eBin (dIs false) (eV 4) (eC .non))) (eC (.str ".")) (eF fStr (aCons (eV 4) aNil))) [4]) = EL at *
      unfold sApp
      rw [if_pos (il _ _ rfl)]
      simp! only [x_M1, mk1_s, e, ej, ap])
  rw [List.length_map, List.take_of_length_le (Nat.le_refl _)] at f1
  have hadd := add_ll (x := sD V :: (rs.map fun r => sD (rowL r))) (y := [sD [101, 110, 100]]) (by rw [List.length_cons, List.length_map]; simp; omega)
  have eR : (vwB l rs).map sD = (sD V :: (rs.map fun r => sD (rowL r))) ++ [sD [101, 110, 100]] := by
    unfold vwB
    rw [hV, List.map_cons, List.map_append, List.map_map]; rfl
  rw [eR]
  refine (fn_rt (δ1 := [.imm (sD l), .imm (rowsT rs), .imm (.lst (sD V :: (rs.map fun r => sD (rowL r)))), y3, .no]) ?_).trans rfl
  unfold b__law_view_lines
  refine ssq (δ1 := [.imm (sD l), .imm (rowsT rs), .own (.lst [sD V]), .no, .no]) (by simp! only [ha]) ?_
  refine ssq f1 ?_
  generalize (rs.map fun r => sD (rowL r)) = LL at *
  rw [q5]
  simp! only [hadd]
section
variable {names : List (List Nat)}
def lkP2 (names : List (List Nat)) (k : Lk) : List (D × List Nat) := [(nmD names k.a, names.getD k.a []), (nmD names k.b, names.getD k.b []), (.int k.x, numL k.x), (.int k.y, numL k.y), (.int k.l, numL k.l)]
theorem lkP2_ok {k : Lk} (sm : LkSm k) : ∀ p ∈ lkP2 names k, fStrA [p.1] = some (sD p.2) := fun p m => by
  obtain ⟨s1, s2, s3⟩ := sm.sm
  unfold lkP2 at m
  simp only [List.mem_cons, List.not_mem_nil, or_false] at m
  rcases m with rfl | rfl | rfl | rfl | rfl
  · rfl
  · rfl
  · exact fStrA_num s1
  · exact fStrA_num s2
  · exact fStrA_num s3
theorem join_lk (ok : ∀ l ∈ names, nmL l = true) {k : Lk} (ha : k.a < names.length) (hb : k.b < names.length) (sm : LkSm k) : dAdd (.lst [.str "link"]) (.lst ((lkP2 names k).map fun p => sD p.2)) = some (.lst ((lkPs names k).map sD)) ∧ dJoin (.str " ") (.lst ((lkPs names k).map sD)) = some (sD (lkL names k)) := by
  obtain ⟨_, _, q2, _, _, _, _, q7, _⟩ := sts
  constructor
  · rw [q7]
    exact add_ll (by show 1 + 5 ≤ 1000; omega)
  · rw [q2]
    refine join_d ?_
    have h := lkPs_ok ok ha hb sm
    have hs : ∀ l : List (List Nat), (∀ p ∈ l, p.length ≤ 8) → (l.map (·.length)).sum ≤ 8 * l.length := fun l => by
      induction l with
      | nil => intro _; simp
      | cons p l ih =>
        intro h
        have h1 := h p List.mem_cons_self
        have h2 := ih fun q m => h q (List.mem_cons_of_mem _ m)
        rw [List.map_cons, List.sum_cons, List.length_cons]; omega
    have := hs (lkPs names k) fun p m => (h p m).1
    have e : (lkPs names k).length = 6 := rfl
    rw [e] at this ⊢
    rw [List.length_singleton]; omega
theorem ev_linkline (ok : ∀ l ∈ names, nmL l = true) {k : Lk} (ha : k.a < names.length) (hb : k.b < names.length) (sm : LkSm k) : m__law_link_line [.imm (lkD names k)] = some (.ok (sD (lkL names k)), [.no]) := by
  obtain ⟨j1, j2⟩ := join_lk ok ha hb sm
  have hk := lkP2_ok (names := names) sm
  have ed : lkD names k = .tup ((lkP2 names k).map (·.1)) := rfl
  have hl5 : (lkP2 names k).length ≤ 1000 := by show 5 ≤ 1000; omega
  rw [ed]
  generalize lkP2 names k = PP at *
  generalize hJ : (lkPs names k).map sD = J at *
  have e : (eLc (iOf (eV 0)) (gN 1) tYesM (eF fStrA (aCons (eV 1) aNil)) [1]) [.imm (.tup (PP.map (·.1))), .no] = some (.ok (.lst (PP.map fun p => sD p.2)), [.imm (.tup (PP.map (·.1))), .no]) := by
    rw [eLc_map (l := PP) (g := fun p => p.1) (p := fun _ => true) (f := fun p => sD p.2) (δ0 := [.imm (.tup (PP.map (·.1))), .no])]
    · rw [List.filter_eq_self.mpr (fun _ _ => rfl)]; rfl
    · simp! only [itD]
    · exact hl5
    · intro p hp
      have := hk p hp
      refine ⟨[.imm (.tup (PP.map (·.1))), .imm p.1], [.imm (.tup (PP.map (·.1))), .imm p.1], by simp! only [wipeE], rfl, (fun z => by cases z), fun _ => ⟨[.imm (.tup (PP.map (·.1))), .imm p.1], ?_, rfl⟩⟩
      simp! only [this]
  generalize hT : D.tup (PP.map (·.1)) = T at *
  generalize hM : (PP.map fun p => sD p.2) = MM at *
  refine (fn_rt (δ1 := [.imm T, .no]) ?_).trans rfl
  unfold b__law_link_line
  generalize (eLc (iOf (eV 0)) (gN 1) tYesM (eF fStrA (aCons (eV 1) aNil)) [1]) = EL at *
  simp! only [x_M1, mk1_s, e, j1, j2]
end
end M
set_option Elab.async false
set_option linter.all false
set_option maxRecDepth 100000
set_option maxHeartbeats 4000000
namespace M
open PySem L2
local macro_rules
  | `(tactic| simp! only [$as,*]) => `(tactic| simp only [x_bind, bk_ok, bk_ite, x_ret, x_lift, lk_some, lk_ite, app_ite, x_eC, x_eV, vk_imm, vk_own, vk_bor, x_give, gk_own, x_bin, x_un, x_ix, x_tru, x_eB, dBl_bl, dTru_bl, dTru_int, dTru_lst, x_and, x_or, x_not, x_eAnd, x_eOr, x_eNot, x_eIf, x_chain, x_aNil, x_aCons, x_aVr, rk_own, rk_io, x_aVb, tk_own, tk_io, tk_imm, tk_bor, x_eTup, x_eLst, imms_nil, imms_im, x_eF, x_call, ixV_C, jk_imm, jk_own, jk_io, jk_bor, flk_int, x_lenV, nk_imm, nk_own, nk_io, nk_bor, x_inV, hk_imm, hk_own, hk_io, hk_bor, x_sNx, x_pass, x_cont, x_brk, x_seq, sk_nx, sk_rt, sk_rtO, sk_ct, sk_bk, sk_ite, x_drop, x_sRet, x_sRetO, x_sIf, x_asg, x_asgO, x_gN, x_gO, x_gNil, x_gCons, x_gTt, x_gTl, x_sApp, x_sSet, x_chM, ck_own, ck_io, x_iOf, x_iRg, x_fn, fk_rt, fk_nx, fk_ite, ios_z, ios_s, keep_io, keep_imm, keep_own, keep_bor, keep_no, dSub_i, dAdd_i, dLt_i, dLe_i, dGt_i, dGe_i, dEq_int, dNe_int, ix_lst, ix_scr, ix_tup, atI_0, atI_1, atI_2, atI_3, List.getElem?_cons_zero, List.getElem?_cons_succ, List.set_cons_zero, List.set_cons_succ, List.length_cons, List.length_nil, List.cons_append, List.nil_append, List.replicate_succ, List.replicate_zero, Option.map_some, Option.bind_some, Nat.reduceAdd, Nat.reduceSub, Nat.reduceLT, Nat.reduceLeDiff, if_true, if_false, Bool.false_eq_true, decide_eq_true_eq, reduceIte, ne_eq, not_false_eq_true, Nat.lt_add_left_iff_pos, Nat.zero_lt_succ, x_call1, x_call2, x_call3, x_call4, dk1, dk2, dk3, dk4, ixV_V, Nat.reduceEqDiff, not_false_eq_true, x_isLst, x_isSet, List.map_cons, List.map_nil, Option.map_none, Option.bind_none, x_eSl, x_eP0, x_eP1, part_i, $as,*])
theorem joinL_nl : ∀ {L : List (List Nat)}, joinL [] (L.map fun p => p ++ [10]) = joinL [10] (L ++ [[]])
  | [] => rfl
  | [x] => by
    show x ++ [10] = x ++ [10] ++ joinL [10] [[]]
    show x ++ [10] = x ++ [10] ++ []
    rw [List.append_nil]
  | x :: y :: r => by
    have := joinL_nl (L := y :: r)
    show (x ++ [10]) ++ [] ++ joinL [] ((y :: r).map fun p => p ++ [10]) = x ++ [10] ++ joinL [10] ((y :: r) ++ [[]])
    rw [this, List.append_nil]
theorem sum_len {m : Nat} : ∀ {l : List (List Nat)}, (∀ p ∈ l, p.length ≤ m) → (l.map (·.length)).sum ≤ m * l.length
  | [], _ => by simp
  | p :: l, h => by
    have h1 := h p List.mem_cons_self
    have h2 := sum_len fun q m => h q (List.mem_cons_of_mem _ m)
    rw [List.map_cons, List.sum_cons, List.length_cons, Nat.mul_succ]; omega
def blk (names : List (List Nat)) (rws : List (List Row)) (j : Nat) : List (List Nat) := vwB (names.getD j []) (rws.getD j [])
def vlN (names : List (List Nat)) (rws : List (List Row)) (j : Nat) : List (List Nat) := (List.range j).flatMap (blk names rws)
def txL (names : List (List Nat)) (rws : List (List Row)) (ls : List Lk) : List (List Nat) := vlN names rws names.length ++ ls.map (lkL names)
section
variable {names : List (List Nat)} {rws : List (List Row)} {ls : List Lk}
theorem vlN_succ {j : Nat} : vlN names rws (j + 1) = vlN names rws j ++ blk names rws j := by unfold vlN; rw [List.range_succ, List.flatMap_append, List.flatMap_singleton]
theorem CxA.rows' (C : CxA names rws ls) {j : Nat} (h : j < names.length) : (rws.getD j []).length ≤ 3 ∧ ∀ r ∈ rws.getD j [], (∀ o ∈ r, RdOk o) ∧ r.length ≤ 12 := by
  obtain ⟨w, hh, R, h1, h2, h3, h4⟩ := C.rows h
  exact ⟨by rw [R.len]; exact h4, fun r m => ⟨(rk_row R h1 h2 m).1, (rk_row R h1 h2 m).2.2.1⟩⟩
theorem blk_len (C : CxA names rws ls) {j : Nat} (h : j < names.length) : (blk names rws j).length ≤ 5 := by
  have := (C.rows' h).1
  show ((joinL [32] [[118, 105, 101, 119], names.getD j []]) :: ((rws.getD j []).map rowL ++ [[101, 110, 100]])).length ≤ 5
  rw [List.length_cons, List.length_append, List.length_map, List.length_singleton]; omega
theorem vlN_len (C : CxA names rws ls) : ∀ {j : Nat}, j ≤ names.length → (vlN names rws j).length ≤ 5 * j
  | 0, _ => by unfold vlN; simp
  | j + 1, h => by
    have h1 := vlN_len C (j := j) (by omega)
    have h2 := blk_len C (j := j) (by omega)
    rw [vlN_succ, List.length_append]; omega
theorem rn_blk (C : CxA names rws ls) {j i : Nat} (h : j < names.length) : Rn names rws ls (j, i, none) (blk names rws j) (j + 1, i, none) := by
  refine .ln (.vw h) ?_
  have key : ∀ q, q ≤ (rws.getD j []).length → Rn names rws ls (j, i, some ((rws.getD j []).length - q)) (((rws.getD j []).drop ((rws.getD j []).length - q)).map rowL ++ [[101, 110, 100]]) (j + 1, i, none) := fun q => by
    induction q with
    | zero =>
      intro _
      rw [Nat.sub_zero, List.drop_length]
      exact .ln (.en h) .nil
    | succ q ih =>
      intro hq
      have hlt : (rws.getD j []).length - (q + 1) < (rws.getD j []).length := by omega
      rw [List.drop_eq_getElem_cons hlt]
      have e : (rws.getD j []).length - (q + 1) + 1 = (rws.getD j []).length - q := by omega
      refine .ln (.rw h (List.getElem?_eq_getElem hlt)) ?_
      rw [e]
      exact ih (by omega)
  have := key _ (Nat.le_refl _)
  rw [Nat.sub_self, List.drop_zero] at this
  exact this
theorem rn_vl (C : CxA names rws ls) {i : Nat} : ∀ {j : Nat}, j ≤ names.length → Rn names rws ls (0, i, none) (vlN names rws j) (j, i, none)
  | 0, _ => by unfold vlN; exact .nil
  | j + 1, h => by
    rw [vlN_succ]
    exact (rn_vl C (by omega)).app (rn_blk C (by omega))
theorem rn_lk (C : CxA names rws ls) : ∀ q, q ≤ ls.length → Rn names rws ls (names.length, ls.length - q, none) ((ls.drop (ls.length - q)).map (lkL names)) (names.length, ls.length, none) := fun q => by
  induction q with
  | zero => intro _; rw [Nat.sub_zero, List.drop_length]; exact .nil
  | succ q ih =>
    intro hq
    have hlt : ls.length - (q + 1) < ls.length := by omega
    rw [List.drop_eq_getElem_cons hlt]
    have e : ls.length - (q + 1) + 1 = ls.length - q := by omega
    have k := C.lk _ (List.getElem_mem hlt)
    refine .ln (.lk (List.getElem?_eq_getElem hlt) k.1 k.2.1 (Nat.le_refl _)) ?_
    rw [e]
    exact ih (by omega)
theorem rn_tx (C : CxA names rws ls) : Rn names rws ls (0, 0, none) (txL names rws ls ++ [[]]) (names.length, ls.length, none) := by
  have h := rn_lk C ls.length (Nat.le_refl _)
  rw [Nat.sub_self, List.drop_zero] at h
  exact ((rn_vl C (Nat.le_refl _)).app h).app (.bl .nil)
theorem tx_len (C : CxA names rws ls) : (txL names rws ls).length ≤ 38 := by
  have h1 := vlN_len C (Nat.le_refl _)
  have h2 := C.len
  have h3 := C.ll
  unfold txL
  rw [List.length_append, List.length_map]; omega
theorem tx_ch (C : CxA names rws ls) : ∀ t ∈ txL names rws ls, t.length ≤ 100 := fun t m => (rn_ch C (rn_tx C) t (List.mem_append_left _ m)).1
/-- the lines' text -/
theorem join_nl {L : List (List Nat)} (h : L.length ≤ 300) (hl : ∀ t ∈ L, t.length ≤ 100) : dJoin (.str "") (.lst (L.map fun p => sD (p ++ [10]))) = some (sD (joinL [10] (L ++ [[]]))) := by
  obtain ⟨q0, _⟩ := sts
  have := join_d (sep := []) (ls := L.map fun p => p ++ [10]) (by
    have := sum_len (m := 101) (l := L.map fun p => p ++ [10]) fun p hp => by
      obtain ⟨t, ht, rfl⟩ := List.mem_map.mp hp
      have := hl t ht
      rw [List.length_append, List.length_singleton]; omega
    rw [List.length_map] at this ⊢
    simp only [List.length_nil, Nat.mul_zero, Nat.add_zero]
    omega)
  rw [List.map_map] at this
  rw [q0, ← joinL_nl]
  exact this
theorem add_nl {p : List Nat} (h : p.length ≤ 100) : dAdd (sD p) (.str "\n") = some (sD (p ++ [10])) := by
  obtain ⟨_, _, _, q3, _⟩ := sts
  rw [q3]
  exact add_str h (by decide)
theorem ev_a_views (p : pureDs ((vws names rws).map vwD1) = true) : m_Album_views [.bor (albD (vws names rws) names ls)] = some (.ok (.lst ((vws names rws).map vwD1)), [.no]) := by
  have e : eLstF 0 true [.bor (albD (vws names rws) names ls)] = some (.ok (.lst ((vws names rws).map vwD1)), [.bor (albD (vws names rws) names ls)]) := by
    unfold eLstF
    rw [bind_ok (iFld_of (b := true) (vs := (vws names rws).map vwD1) (ls := ls.map (lkD names)) rfl p)]; rfl
  refine (fn_rt (δ1 := [.bor (albD (vws names rws) names ls)]) ?_).trans rfl
  unfold b_Album_views
  simp! only [e]
abbrev saE (A L : Sl) (s2 s3 s4 : Sl) : Env := [A, L, s2, s3, s4, .no, .no, .no]
theorem ev_showalbum (C : CxA names rws ls) : m_show_album [.bor (albD (vws names rws) names ls)] = some (.ok (sD (joinL [10] (txL names rws ls ++ [[]]))), [.no]) := by
  have hn := C.len
  have hll := C.ll
  have pv := pure_vws (names := names) (rws := rws) (j := names.length)
  have t1 : (vws names rws).take names.length = vws names rws := List.take_of_length_le (by rw [vws_len]; exact Nat.le_refl _)
  rw [t1] at pv
  have mv : ∀ {δ : Env}, δ[0]? = some (.bor (albD (vws names rws) names ls)) → eMeth m_Album_views 0 aNil δ = some (.ok (.lst ((vws names rws).map vwD1)), δ) := fun {δ} h => meth0 (.inl h) (ev_a_views pv)
  have A := C.alb (Nat.le_refl _) (i := ls.length) (fun k m => ⟨(C.lk k (List.mem_of_mem_take m)).1, (C.lk k (List.mem_of_mem_take m)).2.1⟩)
  rw [t1, List.take_length, List.take_length] at A
  have ml : ∀ {δ : Env}, δ[0]? = some (.bor (albD (vws names rws) names ls)) → eMeth m_Album_links 0 aNil δ = some (.ok (.lst (ls.map (lkD names))), δ) := fun {δ} h => meth0 (.inl h) (ev_a_links A)
  generalize hB : Sl.bor (albD (vws names rws) names ls) = BB at *
  obtain ⟨q0, _, q2, q3, _, q5, _, q7, _⟩ := sts
  obtain ⟨δ1, f1, x2, x3, rfl⟩ := sFor_inv (I := (iOf (eMeth m_Album_views 0 aNil))) (T := (gT 2 (gCons (gN 2) (gCons (gN 3) gNil)))) (S := (sAsgO 1 (eBin dAddL (eBin dAdd (eBin dAdd (eV 1) (eLst (aCons (eBin dAdd (eC (.str "view ")) (eV 2)) aNil))) (eLc (iOf (eV 3)) (gN 5) tYesM (eCall m_show_row (aCons (eV 5) aNil)) [5])) (eLst (aCons (eC (.str "end")) aNil))))) (ds := (vws names rws).map vwD1)
    (δ := saE BB (.own (.lst [])) .no .no .no) (δ0 := saE BB (.own (.lst [])) .no .no .no)
    (fun j δ => ∃ x2 x3, δ = saE BB (.own (.lst ((vlN names rws j).map sD))) x2 x3 .no)
    (by
      have := mv (δ := saE BB (.own (.lst [])) .no .no .no) rfl
      simp! only [this, itD]) ⟨_, _, rfl⟩ (fun j d δ hj hδ => by
      obtain ⟨x2, x3, rfl⟩ := hδ
      obtain ⟨p, hp, rfl⟩ := getmap hj
      have hjn : j < names.length := by have := (List.getElem?_eq_some_iff.mp hp).1; rwa [vws_len] at this
      rw [vws_at hjn] at hp
      have hp := Option.some.inj hp
      subst hp
      obtain ⟨hr3, hrr⟩ := C.rows' hjn
      have ha := add_view (nmL_ch (nm_at C.ok hjn)).1
      have hvl := vlN_len C (Nat.le_of_lt hjn)
      rw [vlN_succ]
      have eb : (vlN names rws j ++ blk names rws j).map sD = (((vlN names rws j).map sD ++ [sD (joinL [32] [[118, 105, 101, 119], names.getD j []])]) ++ (rws.getD j []).map (fun r => sD (rowL r))) ++ [sD [101, 110, 100]] := by
        rw [List.map_append]
        show _ ++ (sD (joinL [32] [[118, 105, 101, 119], names.getD j []]) :: (((rws.getD j []).map rowL ++ [[101, 110, 100]]).map sD)) = _
        rw [List.map_append, List.map_map, List.append_assoc, List.append_assoc]; rfl
      rw [eb]
      have hXl : ((vlN names rws j).map sD).length ≤ 30 := by rw [List.length_map]; omega
      have ev : vwD1 (names.getD j [], rowsT (rws.getD j [])) = .tup [sD (names.getD j []), rowsT (rws.getD j [])] := rfl
      rw [ev]
      generalize hV : joinL [32] [[118, 105, 101, 119], names.getD j []] = V at *
      generalize names.getD j [] = nmj at *
      generalize rws.getD j [] = rs at *
      generalize (vlN names rws j).map sD = X at *
      refine ⟨saE BB (.own (.lst X)) (.imm (sD nmj)) (.imm (rowsT rs)) .no, saE BB (.own (.lst (((X ++ [sD V]) ++ rs.map (fun r => sD (rowL r))) ++ [sD [101, 110, 100]]))) (.imm (sD nmj)) (.imm (rowsT rs)) .no, by simp! only [], .inl ?_, _, _, rfl⟩
      have e : (eLc (iOf (eV 3)) (gN 5) tYesM (eCall m_show_row (aCons (eV 5) aNil)) [5]) (saE BB (.imm (.lst X)) (.imm (sD nmj)) (.imm (rowsT rs)) .no) = some (.ok (.lst (rs.map fun r => sD (rowL r))), saE BB (.imm (.lst X)) (.imm (sD nmj)) (.imm (rowsT rs)) .no) := by
        rw [eLc_map (l := rs) (g := rowT) (p := fun _ => true) (f := fun r => sD (rowL r)) (δ0 := saE BB (.imm (.lst X)) (.imm (sD nmj)) (.imm (rowsT rs)) .no)]
        · rw [List.filter_eq_self.mpr (fun _ _ => rfl)]; rfl
        · unfold rowsT; simp! only [itD]
        · omega
        · intro r hr
          have er := ev_showrow (hrr r hr).1 (hrr r hr).2
          refine ⟨[BB, .imm (.lst X), .imm (sD nmj), .imm (rowsT rs), .no, .imm (rowT r), .no, .no], [BB, .imm (.lst X), .imm (sD nmj), .imm (rowsT rs), .no, .imm (rowT r), .no, .no], by simp! only [wipeE], rfl, (fun z => by cases z), fun _ => ⟨[BB, .imm (.lst X), .imm (sD nmj), .imm (rowsT rs), .no, .imm (rowT r), .no, .no], ?_, rfl⟩⟩
          simp! only [er]
      have a1 := add_ll (x := X) (y := [sD V]) (by rw [List.length_singleton]; omega)
      have a2 := add_ll (x := X ++ [sD V]) (y := rs.map fun r => sD (rowL r)) (by rw [List.length_append, List.length_singleton, List.length_map]; omega)
      have a3 := add_lL (x := (X ++ [sD V]) ++ rs.map fun r => sD (rowL r)) (y := [sD [101, 110, 100]]) (by rw [List.length_append, List.length_append, List.length_singleton, List.length_map, List.length_singleton]; omega)
      generalize (rs.map fun r => sD (rowL r)) = RR at *
      generalize X ++ [sD V] = XV at *
      generalize XV ++ RR = XR at *
      generalize (eLc (iOf (eV 3)) (gN 5) tYesM (eCall m_show_row (aCons (eV 5) aNil)) [5]) = EL at *
      rw [q5]
      simp! only [ha, e, a1, a2, a3])
  rw [List.length_map, vws_len] at f1
  obtain ⟨δ2, f2, x4, rfl⟩ := sFor_inv (I := (iOf (eMeth m_Album_links 0 aNil))) (T := (gN 4)) (S := (sApp 1 (eM1 dJoin (eC (.str " ")) (eBin dAdd (eLst (aCons (eC (.str "link")) aNil)) (eLc (iOf (eV 4)) (gN 6) tYesM (eF fStrA (aCons (eV 6) aNil)) [6]))))) (ds := ls.map (lkD names))
    (δ := saE BB (.own (.lst ((vlN names rws names.length).map sD))) x2 x3 .no) (δ0 := saE BB (.own (.lst ((vlN names rws names.length).map sD))) x2 x3 .no)
    (fun j δ => ∃ x4, δ = saE BB (.own (.lst ((vlN names rws names.length ++ (ls.take j).map (lkL names)).map sD))) x2 x3 x4)
    (by
      generalize (vlN names rws names.length).map sD = X at *
      have := ml (δ := saE BB (.own (.lst X)) x2 x3 .no) rfl
      simp! only [this, itD]) ⟨.no, by rw [List.take_zero, List.map_nil, List.append_nil]⟩ (fun j d δ hj hδ => by
      obtain ⟨x4, rfl⟩ := hδ
      obtain ⟨k, hk, rfl⟩ := getmap hj
      have mk := List.mem_of_getElem? hk
      obtain ⟨ka, kb, _⟩ := C.lk k mk
      have sm := C.sm k mk
      obtain ⟨j1, j2⟩ := join_lk C.ok ka kb sm
      have hk2 := lkP2_ok (names := names) sm
      have ed : lkD names k = .tup ((lkP2 names k).map (·.1)) := rfl
      have hl5 : (lkP2 names k).length ≤ 1000 := by show 5 ≤ 1000; omega
      have eT : (vlN names rws names.length ++ (ls.take (j + 1)).map (lkL names)).map sD = (vlN names rws names.length ++ (ls.take j).map (lkL names)).map sD ++ [sD (lkL names k)] := by
        rw [take_sn hk, List.map_append (f := lkL names), ← List.append_assoc, List.map_append (f := sD) (l₂ := [k].map (lkL names))]; rfl
      rw [eT]
      have hXl : ((vlN names rws names.length ++ (ls.take j).map (lkL names)).map sD).length ≤ 1000 := by
        have := vlN_len C (Nat.le_refl _)
        rw [List.length_map, List.length_append, List.length_map, List.length_take]; omega
      generalize (vlN names rws names.length ++ (ls.take j).map (lkL names)).map sD = X at *
      rw [ed]
      generalize lkP2 names k = PP at *
      generalize hJ : (lkPs names k).map sD = J at *
      refine ⟨saE BB (.own (.lst X)) x2 x3 (.imm (.tup (PP.map (·.1)))), saE BB (.own (.lst (X ++ [sD (lkL names k)]))) x2 x3 (.imm (.tup (PP.map (·.1)))), by simp! only [], .inl ?_, _, rfl⟩
      generalize lkL names k = LK at *
      have e : (eLc (iOf (eV 4)) (gN 6) tYesM (eF fStrA (aCons (eV 6) aNil)) [6]) (saE BB (.own (.lst X)) x2 x3 (.imm (.tup (PP.map (·.1))))) = some (.ok (.lst (PP.map fun p => sD p.2)), saE BB (.own (.lst X)) x2 x3 (.imm (.tup (PP.map (·.1))))) := by
        rw [eLc_map (l := PP) (g := fun p => p.1) (p := fun _ => true) (f := fun p => sD p.2) (δ0 := saE BB (.own (.lst X)) x2 x3 (.imm (.tup (PP.map (·.1)))))]
        · rw [List.filter_eq_self.mpr (fun _ _ => rfl)]; rfl
        · simp! only [itD]
        · exact hl5
        · intro p hp
          have := hk2 p hp
          refine ⟨[BB, .own (.lst X), x2, x3, .imm (.tup (PP.map (·.1))), .no, .imm p.1, .no], [BB, .own (.lst X), x2, x3, .imm (.tup (PP.map (·.1))), .no, .imm p.1, .no], by simp! only [wipeE], rfl, (fun z => by cases z), fun _ => ⟨[BB, .own (.lst X), x2, x3, .imm (.tup (PP.map (·.1))), .no, .imm p.1, .no], ?_, rfl⟩⟩
          simp! only [this]
      generalize hT : D.tup (PP.map (·.1)) = T at *
      generalize hM : (PP.map fun p => sD p.2) = MM at *
      generalize (eLc (iOf (eV 4)) (gN 6) tYesM (eF fStrA (aCons (eV 6) aNil)) [6]) = EL at *
      have il : ∀ (δ : Env) (L : List D), δ[1]? = some (.own (.lst L)) → isLst δ 1 = true := fun δ L h => by unfold isLst; rw [h]
      have ap := ap_l (l := X) (x := sD LK) hXl
      unfold sApp
      rw [if_pos (il _ _ rfl)]
      simp! only [x_M1, mk1_s, e, j1, j2, ap])
  rw [List.length_map, List.take_length] at f2
  have hTL : vlN names rws names.length ++ ls.map (lkL names) = txL names rws ls := rfl
  rw [hTL] at f2
  have hln := tx_len C
  have hch := tx_ch C
  have ej := join_nl (by omega) hch
  generalize txL names rws ls = TX at *
  have e : (eLc (iOf (eV 1)) (gN 7) tYesM (eBin dAdd (eV 7) (eC (.str "\n"))) [7]) (saE BB (.own (.lst (TX.map sD))) x2 x3 x4) = some (.ok (.lst (TX.map fun p => sD (p ++ [10]))), saE BB (.imm (.lst (TX.map sD))) x2 x3 x4) := by
    rw [eLc_map (l := TX) (g := sD) (p := fun _ => true) (f := fun p => sD (p ++ [10])) (δ0 := saE BB (.imm (.lst (TX.map sD))) x2 x3 x4)]
    · rw [List.filter_eq_self.mpr (fun _ _ => rfl)]; rfl
    · simp! only [itD]
    · omega
    · intro p hp
      have := add_nl (hch p hp)
      refine ⟨[BB, .imm (.lst (TX.map sD)), x2, x3, x4, .no, .no, .imm (sD p)], [BB, .imm (.lst (TX.map sD)), x2, x3, x4, .no, .no, .imm (sD p)], by simp! only [wipeE], rfl, (fun z => by cases z), fun _ => ⟨[BB, .imm (.lst (TX.map sD)), x2, x3, x4, .no, .no, .imm (sD p)], ?_, rfl⟩⟩
      simp! only [this]
  subst hB
  refine (fn_rt (δ1 := saE (.bor (albD (vws names rws) names ls)) (.imm (.lst (TX.map sD))) x2 x3 x4) ?_).trans rfl
  unfold b_show_album
  generalize albD (vws names rws) names ls = AA at *
  refine ssq (δ1 := saE (.bor AA) (.own (.lst [])) .no .no .no) (by simp! only []) ?_
  refine ssq f1 ?_
  refine ssq f2 ?_
  generalize (TX.map fun p => sD (p ++ [10])) = TN at *
  generalize TX.map sD = TM at *
  generalize (eLc (iOf (eV 1)) (gN 7) tYesM (eBin dAdd (eV 7) (eC (.str "\n"))) [7]) = EL at *
  rw [q0] at ej ⊢
  simp! only [x_M1, mk1_s, e, ej]
end
end M
set_option Elab.async false
set_option linter.all false
set_option maxRecDepth 100000
set_option maxHeartbeats 4000000
namespace M
open PySem L2
local macro_rules
  | `(tactic| simp! only [$as,*]) => `(tactic| simp only [x_bind, bk_ok, bk_ite, x_ret, x_lift, lk_some, lk_ite, app_ite, x_eC, x_eV, vk_imm, vk_own, vk_bor, x_give, gk_own, x_bin, x_un, x_ix, x_tru, x_eB, dBl_bl, dTru_bl, dTru_int, dTru_lst, x_and, x_or, x_not, x_eAnd, x_eOr, x_eNot, x_eIf, x_chain, x_aNil, x_aCons, x_aVr, rk_own, rk_io, x_aVb, tk_own, tk_io, tk_imm, tk_bor, x_eTup, x_eLst, imms_nil, imms_im, x_eF, x_call, ixV_C, jk_imm, jk_own, jk_io, jk_bor, flk_int, x_lenV, nk_imm, nk_own, nk_io, nk_bor, x_inV, hk_imm, hk_own, hk_io, hk_bor, x_sNx, x_pass, x_cont, x_brk, x_seq, sk_nx, sk_rt, sk_rtO, sk_ct, sk_bk, sk_ite, x_drop, x_sRet, x_sRetO, x_sIf, x_asg, x_asgO, x_gN, x_gO, x_gNil, x_gCons, x_gTt, x_gTl, x_sApp, x_sSet, x_chM, ck_own, ck_io, x_iOf, x_iRg, x_fn, fk_rt, fk_nx, fk_ite, ios_z, ios_s, keep_io, keep_imm, keep_own, keep_bor, keep_no, dSub_i, dAdd_i, dLt_i, dLe_i, dGt_i, dGe_i, dEq_int, dNe_int, ix_lst, ix_scr, ix_tup, atI_0, atI_1, atI_2, atI_3, List.getElem?_cons_zero, List.getElem?_cons_succ, List.set_cons_zero, List.set_cons_succ, List.length_cons, List.length_nil, List.cons_append, List.nil_append, List.replicate_succ, List.replicate_zero, Option.map_some, Option.bind_some, Nat.reduceAdd, Nat.reduceSub, Nat.reduceLT, Nat.reduceLeDiff, if_true, if_false, Bool.false_eq_true, decide_eq_true_eq, reduceIte, ne_eq, not_false_eq_true, Nat.lt_add_left_iff_pos, Nat.zero_lt_succ, x_call1, x_call2, x_call3, x_call4, dk1, dk2, dk3, dk4, ixV_V, Nat.reduceEqDiff, not_false_eq_true, x_isLst, x_isSet, List.map_cons, List.map_nil, Option.map_none, Option.bind_none, x_eSl, x_eP0, x_eP1, part_i, $as,*])
abbrev lE (s0 : Sl) (p N R L A : D) (s6 s7 s8 s9 s10 s11 s12 s13 s14 s15 : Sl) : Env := [s0, .own p, .imm N, .imm R, .imm L, .imm A, s6, s7, s8, s9, s10, s11, s12, s13, s14, s15, .no, .no]
section
variable {names : List (List Nat)} {rws : List (List Row)} {ls : List Lk}
theorem ev_rwsE {ns : List Int} {p0 : D} (ip : IsPl ns p0) (hn : names.length ≤ 6) {s0 : Sl} : ∃ (rws : List (List Row)) (p : D), (eLc (iOf (eV 2)) (gN 16) tYesM (eCall m__law_rows (aVr 1 (aCons (eC (.int 3)) aNil))) [16]) [s0, .own p0, .imm (strsN names (List.range names.length)), .no, .no, .no, .no, .no, .no, .no, .no, .no, .no, .no, .no, .no, .no, .no] = some (.ok (.lst (rws.map rowsT)), [s0, .own p, .imm (strsN names (List.range names.length)), .no, .no, .no, .no, .no, .no, .no, .no, .no, .no, .no, .no, .no, .no, .no]) ∧ IsPl ns p ∧ rws.length = names.length ∧ ∀ rs ∈ rws, ∃ w h, Rect w h rs ∧ 1 ≤ w ∧ w ≤ 3 ∧ 1 ≤ h ∧ h ≤ 3 := by
  have hi : itD (strsN names (List.range names.length)) = some ((List.range names.length).map (nmD names)) := rfl
  generalize hN : strsN names (List.range names.length) = N at *
  obtain ⟨ys, δ', e, ⟨rws, p, erow, rfl, ip2, ok⟩, ly⟩ := eLc_acc (I := (iOf (eV 2))) (T := gN 16) (E := (eCall m__law_rows (aVr 1 (aCons (eC (.int 3)) aNil)))) (vs := [16]) (ds := (List.range names.length).map (nmD names))
    (δ := [s0, .own p0, .imm N, .no, .no, .no, .no, .no, .no, .no, .no, .no, .no, .no, .no, .no, .no, .no]) (δ0 := [s0, .own p0, .imm N, .no, .no, .no, .no, .no, .no, .no, .no, .no, .no, .no, .no, .no, .no, .no])
    (fun acc δ => ∃ (rws : List (List Row)) (p : D), acc = rws.map rowsT ∧ δ = [s0, .own p, .imm N, .no, .no, .no, .no, .no, .no, .no, .no, .no, .no, .no, .no, .no, .no, .no] ∧ IsPl ns p ∧ ∀ rs ∈ rws, ∃ w h, Rect w h rs ∧ 1 ≤ w ∧ w ≤ 3 ∧ 1 ≤ h ∧ h ≤ 3)
    (by simp! only [hi]) (by rw [List.length_map, List.length_range]; omega) ⟨[], p0, rfl, rfl, ip, fun r hr => by simp at hr⟩ (fun i x acc δ hx hl hI => by
      obtain ⟨rws, p, rfl, rfl, ip2, ok⟩ := hI
      obtain ⟨w, h, rs, p', e, ip3, R, h1, h2, h3, h4⟩ := ev_rows ip2 (most := 3) (by omega) (by omega)
      have e : m__law_rows [.io p, .imm (.int 3)] = some (.ok (rowsT rs), [.io p', .no]) := e
      have c := call_w1 (s0 := s0) (δ := [.imm N, .no, .no, .no, .no, .no, .no, .no, .no, .no, .no, .no, .no, .no, .imm x, .no]) e
      refine ⟨[s0, .own p, .imm N, .no, .no, .no, .no, .no, .no, .no, .no, .no, .no, .no, .no, .no, .imm x, .no], rowsT rs, [s0, .own p', .imm N, .no, .no, .no, .no, .no, .no, .no, .no, .no, .no, .no, .no, .no, .imm x, .no], by simp! only [], by simp! only [c], rws ++ [rs], p', by rw [List.map_append]; rfl, rfl, ip3, fun z hz => ?_⟩
      rcases List.mem_append.mp hz with hz | hz
      · exact ok z hz
      · rw [List.mem_singleton.mp hz]; exact ⟨w, h, R, h1, h2, h3, h4⟩)
  subst erow
  rw [List.length_map, List.length_map, List.length_range] at ly
  exact ⟨rws, p, e, ip2, ly, ok⟩
/-- the blocks -/
def blkD (names : List (List Nat)) (rws : List (List Row)) (j : Nat) : D := .lst ((blk names rws j).map sD)
theorem ev_blks (C : CxA names rws ls) {s0 : Sl} {p L A : D} : (eLc (iRg rg1 (aCons (eF fLen (aCons (eV 2) aNil)) aNil)) (gN 13) tYesM (eCall m__law_view_lines (aCons (eIxV 2 (eV 13)) (aCons (eIxV 3 (eV 13)) aNil))) [13]) (lE s0 p (strsN names (List.range names.length)) (.lst (rws.map rowsT)) L A .no .no .no .no .no .no .no .no .no .no) = some (.ok (.lst ((List.range names.length).map (blkD names rws))), lE s0 p (strsN names (List.range names.length)) (.lst (rws.map rowsT)) L A .no .no .no .no .no .no .no .no .no .no) := by
  have hn := C.len
  have lt := len_nms (names := names)
  have hrg := rg1_n (show names.length ≤ 1000 by omega)
  have er : rgD 0 names.length = (List.range names.length).map fun j : Nat => D.int (j : Nat) := rgD0'
  rw [er] at hrg
  have i2 : ∀ j, j < names.length → dIx (strsN names (List.range names.length)) (.int (j : Nat)) = some (nmD names j) := fun j h => ix_nms h
  have i3 : ∀ j, j < names.length → dIx (.lst (rws.map rowsT)) (.int (j : Nat)) = some (rowsT (rws.getD j [])) := fun j h => by
    have hj : j < rws.length := by rw [C.rl]; exact h
    rw [List.getD_eq_getElem?_getD, List.getElem?_eq_getElem hj]
    exact at_map (f := rowsT) (List.getElem?_eq_getElem hj)
  generalize strsN names (List.range names.length) = N at *
  generalize D.lst (rws.map rowsT) = R at *
  rw [eLc_map (l := List.range names.length) (g := fun j : Nat => D.int (j : Nat)) (p := fun _ => true) (f := blkD names rws) (δ0 := lE s0 p N R L A .no .no .no .no .no .no .no .no .no .no)]
  · rw [List.filter_eq_self.mpr (fun _ _ => rfl)]; rfl
  · generalize ((names.length : Nat) : Int) = M at *
    simp! only [lt, hrg]
  · rw [List.length_range]; omega
  · intro j hj
    have hj := List.mem_range.mp hj
    have e2 := i2 j hj
    have e3 := i3 j hj
    have e4 := ev_viewlines (nm_at C.ok hj) (C.rows' hj).2 (by have := (C.rows' hj).1; omega)
    have enm : nmD names j = sD (names.getD j []) := rfl
    rw [enm] at e2
    generalize hJ : ((j : Nat) : Int) = J at *
    refine ⟨lE s0 p N R L A .no .no .no .no .no .no .no (.imm (.int J)) .no .no, lE s0 p N R L A .no .no .no .no .no .no .no (.imm (.int J)) .no .no, by simp! only [wipeE], rfl, (fun z => by cases z), fun _ => ⟨lE s0 p N R L A .no .no .no .no .no .no .no (.imm (.int J)) .no .no, ?_, rfl⟩⟩
    show _ = some (Except.ok (D.lst ((vwB (names.getD j []) (rws.getD j [])).map sD)), _)
    generalize rowsT (rws.getD j []) = RR at *
    simp! only [e2, e3, e4]
/-- the lines of the views -/
theorem ev_lines (C : CxA names rws ls) {s0 : Sl} {p N R L A : D} : ∃ s8, sFor (iOf (eV 6)) (gN 8) (sAsg (gN 7) (eBin dAdd (eV 7) (eV 8))) (lE s0 p N R L A (.own (.lst ((List.range names.length).map (blkD names rws)))) (.imm (.lst [])) .no .no .no .no .no .no .no .no) = some (.ok .nx, lE s0 p N R L A (.imm (.lst ((List.range names.length).map (blkD names rws)))) (.imm (.lst ((vlN names rws names.length).map sD))) s8 .no .no .no .no .no .no .no) := by
  have hn := C.len
  obtain ⟨δ1, f1, s8, rfl⟩ := sFor_inv (I := (iOf (eV 6))) (T := gN 8) (S := (sAsg (gN 7) (eBin dAdd (eV 7) (eV 8)))) (ds := (List.range names.length).map (blkD names rws))
    (δ := lE s0 p N R L A (.own (.lst ((List.range names.length).map (blkD names rws)))) (.imm (.lst [])) .no .no .no .no .no .no .no .no) (δ0 := lE s0 p N R L A (.imm (.lst ((List.range names.length).map (blkD names rws)))) (.imm (.lst [])) .no .no .no .no .no .no .no .no)
    (fun j δ => ∃ s8, δ = lE s0 p N R L A (.imm (.lst ((List.range names.length).map (blkD names rws)))) (.imm (.lst ((vlN names rws j).map sD))) s8 .no .no .no .no .no .no .no)
    (by
      generalize (List.range names.length).map (blkD names rws) = BL at *
      simp! only [itD]) ⟨.no, rfl⟩ (fun j d δ hj hδ => by
      obtain ⟨s8, rfl⟩ := hδ
      obtain ⟨v, hv, rfl⟩ := getmap hj
      have hjn : j < names.length := by have := (List.getElem?_eq_some_iff.mp hv).1; rwa [List.length_range] at this
      rw [List.getElem?_range hjn] at hv
      have hv := Option.some.inj hv
      subst hv
      have h1 := vlN_len C (Nat.le_of_lt hjn)
      have h2 := blk_len C hjn
      have a1 := add_ll (x := (vlN names rws j).map sD) (y := (blk names rws j).map sD) (by rw [List.length_map, List.length_map]; omega)
      rw [vlN_succ, List.map_append]
      generalize (List.range names.length).map (blkD names rws) = BL at *
      rw [show blkD names rws j = .lst ((blk names rws j).map sD) from rfl]
      generalize (vlN names rws j).map sD = X at *
      generalize (blk names rws j).map sD = Y at *
      exact ⟨lE s0 p N R L A (.imm (.lst BL)) (.imm (.lst X)) (.imm (.lst Y)) .no .no .no .no .no .no .no, lE s0 p N R L A (.imm (.lst BL)) (.imm (.lst (X ++ Y))) (.imm (.lst Y)) .no .no .no .no .no .no .no, by simp! only [], .inl (by simp! only [a1]), _, rfl⟩)
  rw [List.length_map, List.length_range] at f1
  exact ⟨s8, f1⟩
/-- the lines of links -/
theorem ev_lkc4 (C : CxA names rws ls) {s0 : Sl} {p N R A : D} {s6 s7 s8 : Sl} : (eLc (iOf (eV 4)) (gN 17) tYesM (eCall m__law_link_line (aCons (eV 17) aNil)) [17]) (lE s0 p N R (.lst (ls.map (lkD names))) A s6 s7 s8 .no .no .no .no .no .no .no) = some (.ok (.lst (ls.map fun k => sD (lkL names k))), lE s0 p N R (.lst (ls.map (lkD names))) A s6 s7 s8 .no .no .no .no .no .no .no) := by
  have hll := C.ll
  generalize hL : D.lst (ls.map (lkD names)) = L at *
  rw [eLc_map (l := ls) (g := lkD names) (p := fun _ => true) (f := fun k => sD (lkL names k)) (δ0 := lE s0 p N R L A s6 s7 s8 .no .no .no .no .no .no .no)]
  · rw [List.filter_eq_self.mpr (fun _ _ => rfl)]; rfl
  · have hi : itD L = some (ls.map (lkD names)) := by rw [← hL]; rfl
    simp! only [hi]
  · omega
  · intro k hk
    obtain ⟨ka, kb, _⟩ := C.lk k hk
    have e := ev_linkline C.ok ka kb (C.sm k hk)
    generalize lkD names k = KD at *
    refine ⟨[s0, .own p, .imm N, .imm R, .imm L, .imm A, s6, s7, s8, .no, .no, .no, .no, .no, .no, .no, .no, .imm KD], [s0, .own p, .imm N, .imm R, .imm L, .imm A, s6, s7, s8, .no, .no, .no, .no, .no, .no, .no, .no, .imm KD], by simp! only [wipeE], rfl, (fun z => by cases z), fun _ => ⟨[s0, .own p, .imm N, .imm R, .imm L, .imm A, s6, s7, s8, .no, .no, .no, .no, .no, .no, .no, .no, .imm KD], ?_, rfl⟩⟩
    simp! only [e]
theorem ev_lkc12 (C : CxA names rws ls) {M : List Lk} (hM : ∀ k ∈ M, k ∈ ls) (hMl : M.length ≤ 8) {s0 : Sl} {p N R L A : D} {s6 s7 s8 s9 s10 s11 s13 : Sl} : (eLc (iOf (eV 12)) (gN 17) tYesM (eCall m__law_link_line (aCons (eV 17) aNil)) [17]) (lE s0 p N R L A s6 s7 s8 s9 s10 s11 (.imm (.lst (M.map (lkD names)))) s13 .no .no) = some (.ok (.lst (M.map fun k => sD (lkL names k))), lE s0 p N R L A s6 s7 s8 s9 s10 s11 (.imm (.lst (M.map (lkD names)))) s13 .no .no) := by
  generalize hL : D.lst (M.map (lkD names)) = LM at *
  rw [eLc_map (l := M) (g := lkD names) (p := fun _ => true) (f := fun k => sD (lkL names k)) (δ0 := lE s0 p N R L A s6 s7 s8 s9 s10 s11 (.imm LM) s13 .no .no)]
  · rw [List.filter_eq_self.mpr (fun _ _ => rfl)]; rfl
  · have hi : itD LM = some (M.map (lkD names)) := by rw [← hL]; rfl
    simp! only [hi]
  · omega
  · intro k hk
    have hk := hM k hk
    obtain ⟨ka, kb, _⟩ := C.lk k hk
    have e := ev_linkline C.ok ka kb (C.sm k hk)
    generalize lkD names k = KD at *
    refine ⟨[s0, .own p, .imm N, .imm R, .imm L, .imm A, s6, s7, s8, s9, s10, s11, .imm LM, s13, .no, .no, .no, .imm KD], [s0, .own p, .imm N, .imm R, .imm L, .imm A, s6, s7, s8, s9, s10, s11, .imm LM, s13, .no, .no, .no, .imm KD], by simp! only [wipeE], rfl, (fun z => by cases z), fun _ => ⟨[s0, .own p, .imm N, .imm R, .imm L, .imm A, s6, s7, s8, s9, s10, s11, .imm LM, s13, .no, .no, .no, .imm KD], ?_, rfl⟩⟩
    simp! only [e]
end
end M
set_option Elab.async false
set_option linter.all false
set_option maxRecDepth 100000
set_option maxHeartbeats 4000000
namespace M
open PySem L2
local macro_rules
  | `(tactic| simp! only [$as,*]) => `(tactic| simp only [x_bind, bk_ok, bk_ite, x_ret, x_lift, lk_some, lk_ite, app_ite, x_eC, x_eV, vk_imm, vk_own, vk_bor, x_give, gk_own, x_bin, x_un, x_ix, x_tru, x_eB, dBl_bl, dTru_bl, dTru_int, dTru_lst, x_and, x_or, x_not, x_eAnd, x_eOr, x_eNot, x_eIf, x_chain, x_aNil, x_aCons, x_aVr, rk_own, rk_io, x_aVb, tk_own, tk_io, tk_imm, tk_bor, x_eTup, x_eLst, imms_nil, imms_im, x_eF, x_call, ixV_C, jk_imm, jk_own, jk_io, jk_bor, flk_int, x_lenV, nk_imm, nk_own, nk_io, nk_bor, x_inV, hk_imm, hk_own, hk_io, hk_bor, x_sNx, x_pass, x_cont, x_brk, x_seq, sk_nx, sk_rt, sk_rtO, sk_ct, sk_bk, sk_ite, x_drop, x_sRet, x_sRetO, x_sIf, x_asg, x_asgO, x_gN, x_gO, x_gNil, x_gCons, x_gTt, x_gTl, x_sApp, x_sSet, x_chM, ck_own, ck_io, x_iOf, x_iRg, x_fn, fk_rt, fk_nx, fk_ite, ios_z, ios_s, keep_io, keep_imm, keep_own, keep_bor, keep_no, dSub_i, dAdd_i, dLt_i, dLe_i, dGt_i, dGe_i, dEq_int, dNe_int, ix_lst, ix_scr, ix_tup, atI_0, atI_1, atI_2, atI_3, List.getElem?_cons_zero, List.getElem?_cons_succ, List.set_cons_zero, List.set_cons_succ, List.length_cons, List.length_nil, List.cons_append, List.nil_append, List.replicate_succ, List.replicate_zero, Option.map_some, Option.bind_some, Nat.reduceAdd, Nat.reduceSub, Nat.reduceLT, Nat.reduceLeDiff, if_true, if_false, Bool.false_eq_true, decide_eq_true_eq, reduceIte, ne_eq, not_false_eq_true, Nat.lt_add_left_iff_pos, Nat.zero_lt_succ, x_call1, x_call2, x_call3, x_call4, dk1, dk2, dk3, dk4, ixV_V, Nat.reduceEqDiff, not_false_eq_true, x_isLst, x_isSet, List.map_cons, List.map_nil, Option.map_none, Option.bind_none, x_eSl, x_eP0, x_eP1, part_i, $as,*])
theorem sWhile_br {c : Mo Bool} {S : Mo Out} (Inv End : Env → Prop) (μ : Env → Nat) (st : ∀ δ, Inv δ → ∃ b δ1, c δ = some (.ok b, δ1) ∧ (b = false → End δ1) ∧ (b = true → ∃ δ2, (S δ1 = some (.ok .bk, δ2) ∧ End δ2) ∨ (S δ1 = some (.ok .nx, δ2) ∧ Inv δ2 ∧ μ δ2 < μ δ))) {δ : Env} (h : Inv δ) :
    ∃ δ', sWhile c S δ = some (.ok .nx, δ') ∧ End δ' := by
  have key : ∀ (n : Nat) (δ : Env), μ δ < n → Inv δ → ∃ δ', whileF c S n δ = some (.ok .nx, δ') ∧ End δ' := by
    intro n
    induction n with
    | zero => intro δ h; omega
    | succ n ih =>
      intro δ hn hi
      obtain ⟨b, δ1, h1, h2, h3⟩ := st δ hi
      cases b with
      | false =>
        refine ⟨δ1, ?_, h2 rfl⟩
        unfold whileF
        rw [bind_ok h1, if_neg Bool.false_ne_true]; rfl
      | true =>
        obtain ⟨δ2, h4 | ⟨h4, h5, h6⟩⟩ := h3 rfl
        · refine ⟨δ2, ?_, h4.2⟩
          unfold whileF
          rw [bind_ok h1, if_pos rfl]
          simp only [h4.1]
        · obtain ⟨δ', h7, h8⟩ := ih δ2 (by omega) h5
          refine ⟨δ', ?_, h8⟩
          unfold whileF
          rw [bind_ok h1, if_pos rfl]
          simp only [h4]; exact h7
  obtain ⟨δ', h1, h2⟩ := key (μ δ + 1) δ (by omega) h
  exact ⟨δ', sWhile_of h1, h2⟩
def muL (δ : Env) : Nat := match (δ[12]? : Option Sl) with
  | some (Sl.imm (D.lst l)) => l.length
  | _ => 0
section
variable {names : List (List Nat)} {rws : List (List Row)} {ls : List Lk}
theorem cut_nms {k : Nat} (h : k < names.length) : dSlL (strsN names (List.range names.length)) none (some ((k : Nat) + 1)) = some (strsN names (List.range (k + 1))) := by
  show some (D.lst (cutD ((List.range names.length).map (nmD names)) none (some ((k : Nat) + 1)))) = _
  have e : ((k : Nat) : Int) + 1 = ((k + 1 : Nat) : Int) := by omega
  rw [e]
  unfold cutD
  rw [HT.sIx_none, List.drop_zero, Nat.sub_zero, HT.sIx_nat, List.length_map, List.length_range, Nat.min_eq_left (by omega), ← List.map_take, List.take_range, Nat.min_eq_left (by omega)]
  rfl
abbrev wE (s0 : Sl) (p N R L A : D) (s6 s7 s8 s9 s10 : Sl) (M : List (List Nat)) (Q : List Lk) (names : List (List Nat)) (s13 : Sl) : Env := lE s0 p N R L A s6 s7 s8 s9 s10 (.own (.lst (M.map sD))) (.imm (.lst (Q.map (lkD names)))) s13 .no .no
noncomputable def whT : Mo Bool := (tAndM (eTru (eV 12)) (tAndM (eB (eBin (dIn false) (eIx (eIxV 12 (eC (.int 0))) (eC (.int 0))) (eSl dSlL (eV 2) eP0 (eP1 (eBin dAdd (eV 13) (eC (.int 1))))))) (eB (eBin (dIn false) (eIx (eIxV 12 (eC (.int 0))) (eC (.int 1))) (eSl dSlL (eV 2) eP0 (eP1 (eBin dAdd (eV 13) (eC (.int 1)))))))))
noncomputable def whS : Mo Out := (sSeq (sIf (eB (eBin dEq (eCall m__law_take (aVr 1 (aCons (eC (.int 3)) aNil))) (eC (.int 0))))
 sBreak
 sNx)
 (sSeq (sApp 11 (eCall m__law_link_line (aCons (eIxV 12 (eC (.int 0))) aNil)))
 (sAsg (gN 12) (eSl dSlL (eV 12) (eP1 (eC (.int 1))) eP0))))
def WInv (names : List (List Nat)) (rws : List (List Row)) (ls : List Lk) (ns : List Int) (s0 : Sl) (R L A : D) (s6 s7 s8 s9 s10 : Sl) (k m : Nat) (s13 : Sl) (δ : Env) : Prop := ∃ p M i, IsPl ns p ∧ δ = wE s0 p (strsN names (List.range names.length)) R L A s6 s7 s8 s9 s10 M (ls.drop i) names s13 ∧ Rn names rws ls (0, 0, none) M (k, i, none) ∧ M.length ≤ m + i ∧ i ≤ ls.length
theorem ev_whl (C : CxA names rws ls) {ns : List Int} {s0 : Sl} {R L A : D} {s6 s7 s8 s9 s10 : Sl} {k m : Nat} (hk : k < names.length) (hm : m ≤ 100) {δ : Env} (h : WInv names rws ls ns s0 R L A s6 s7 s8 s9 s10 (k + 1) m (.imm (.int (k : Nat))) δ) :
    ∃ δ', sWhile whT whS δ = some (.ok .nx, δ') ∧ WInv names rws ls ns s0 R L A s6 s7 s8 s9 s10 (k + 1) m (.imm (.int (k : Nat))) δ' := by
  have hll := C.ll
  refine sWhile_br (WInv names rws ls ns s0 R L A s6 s7 s8 s9 s10 (k + 1) m (.imm (.int (k : Nat)))) (WInv names rws ls ns s0 R L A s6 s7 s8 s9 s10 (k + 1) m (.imm (.int (k : Nat)))) muL (fun δ h => ?_) h
  obtain ⟨p, M, i, ip, rfl, rn, hM, hi⟩ := h
  have hcut := cut_nms (names := names) hk
  have din : ∀ v, v < names.length → dIn false (nmD names v) (strsN names (List.range (k + 1))) = some (.bl (decide (v < k + 1))) := fun v hv => by
    rw [dIn_nm C.nd C.ok (neg := false) hv (fun u m => by have := List.mem_range.mp m; omega)]
    simp only [List.mem_range, Bool.false_eq_true, if_false]
  cases hd : ls.drop i with
  | nil =>
    refine ⟨false, wE s0 p (strsN names (List.range names.length)) R L A s6 s7 s8 s9 s10 M [] names (.imm (.int (k : Nat))), ?_, fun _ => ⟨p, M, i, ip, by rw [hd], rn, hM, hi⟩, fun z => by cases z⟩
    generalize strsN names (List.range names.length) = N at *
    unfold whT
    simp! only [List.isEmpty_nil, Bool.not_true]
  | cons q rest =>
    have hlt : i < ls.length := Decidable.byContradiction fun z => by
      rw [List.drop_eq_nil_of_le (by omega)] at hd; cases hd
    have hq : ls[i]? = some q ∧ rest = ls.drop (i + 1) := by
      rw [List.drop_eq_getElem_cons hlt] at hd
      injection hd with h1 h2
      exact ⟨by rw [List.getElem?_eq_getElem hlt, h1], h2.symm⟩
    obtain ⟨hq1, hq2⟩ := hq
    have mq := List.mem_of_getElem? hq1
    obtain ⟨ka, kb, _⟩ := C.lk q mq
    have d1 := din _ ka
    have d2 := din _ kb
    have el := ev_linkline C.ok ka kb (C.sm q mq)
    have x0 : dIx (lkD names q) (.int 0) = some (nmD names q.a) := atI_0
    have x1 : dIx (lkD names q) (.int 1) = some (nmD names q.b) := atI_1
    have w0 : dIx (.lst (lkD names q :: rest.map (lkD names))) (.int 0) = some (lkD names q) := atI_0
    have wt : dSlL (.lst (lkD names q :: rest.map (lkD names))) (some 1) none = some (.lst (rest.map (lkD names))) := by
      show some (D.lst (cutD _ (some 1) none)) = _
      rw [cut_tail]
    have wm : (q :: rest).map (lkD names) = lkD names q :: rest.map (lkD names) := rfl
    have test : whT (wE s0 p (strsN names (List.range names.length)) R L A s6 s7 s8 s9 s10 M (q :: rest) names (.imm (.int (k : Nat)))) = some (.ok (decide (q.a < k + 1) && decide (q.b < k + 1)), wE s0 p (strsN names (List.range names.length)) R L A s6 s7 s8 s9 s10 M (q :: rest) names (.imm (.int (k : Nat)))) := by
      unfold whT wE
      rw [wm]
      generalize strsN names (List.range names.length) = N at *
      generalize strsN names (List.range (k + 1)) = N1 at *
      generalize ((k : Nat) : Int) = K at *
      generalize nmD names q.a = QA at *
      generalize nmD names q.b = QB at *
      generalize lkD names q = QD at *
      generalize rest.map (lkD names) = RM at *
      have ht : dTru (.lst (QD :: RM)) = some true := rfl
      generalize D.lst (QD :: RM) = WL at *
      by_cases c1 : q.a < k + 1
      · rw [decide_eq_true c1] at d1 ⊢
        simp! only [ht, w0, x0, x1, hcut, d1, d2, Bool.true_and]
      · rw [decide_eq_false c1] at d1 ⊢
        simp! only [ht, w0, x0, x1, hcut, d1, Bool.false_and]
    refine ⟨_, _, test, fun _ => ⟨p, M, i, ip, by rw [hd], rn, hM, hi⟩, fun hb => ?_⟩
    rw [Bool.and_eq_true, decide_eq_true_eq, decide_eq_true_eq] at hb
    obtain ⟨t, p', ct, ip', ta, tb⟩ := ev_tk1 ip (m := 3) (by omega) (by omega)
    have ct := ct s0 [.imm (strsN names (List.range names.length)), .imm R, .imm L, .imm A, s6, s7, s8, s9, s10, .own (.lst (M.map sD)), .imm (.lst ((q :: rest).map (lkD names))), .imm (.int (k : Nat)), .no, .no, .no, .no]
    by_cases t0 : t = 0
    · refine ⟨wE s0 p' (strsN names (List.range names.length)) R L A s6 s7 s8 s9 s10 M (q :: rest) names (.imm (.int (k : Nat))), .inl ⟨?_, ⟨p', M, i, ip', by rw [hd], rn, hM, hi⟩⟩⟩
      unfold whS
      unfold wE lE
      generalize ((k : Nat) : Int) = K at *
      generalize strsN names (List.range names.length) = N at *
      generalize (q :: rest).map (lkD names) = QM at *
      generalize M.map sD = MS at *
      rw [x_seq, sIf_t (by simp! only [ct, t0, decide_true]; rfl)]
      rfl
    · have ap := ap_l (l := M.map sD) (x := sD (lkL names q)) (by rw [List.length_map]; omega)
      have hMs : (M ++ [lkL names q]).map sD = M.map sD ++ [sD (lkL names q)] := by rw [List.map_append]; rfl
      refine ⟨wE s0 p' (strsN names (List.range names.length)) R L A s6 s7 s8 s9 s10 (M ++ [lkL names q]) rest names (.imm (.int (k : Nat))), .inr ⟨?_, ⟨p', M ++ [lkL names q], i + 1, ip', by rw [hq2], rn.app (.ln (.lk hq1 hb.1 hb.2 (by omega)) .nil), by rw [List.length_append, List.length_singleton]; omega, hlt⟩, ?_⟩⟩
      · unfold whS
        unfold wE lE
        rw [hMs, wm]
        rw [wm] at ct
        generalize ((k : Nat) : Int) = K at *
        generalize strsN names (List.range names.length) = N at *
        generalize rest.map (lkD names) = RM at *
        generalize lkD names q = QD at *
        generalize D.lst (QD :: RM) = WL at *
        generalize M.map sD = MS at *
        refine ssq_f (δ1 := [s0, .own p', .imm N, .imm R, .imm L, .imm A, s6, s7, s8, s9, s10, .own (.lst MS), .imm WL, .imm (.int K), .no, .no, .no, .no]) (by simp! only [ct, t0, decide_false]) ?_
        refine ssq (δ1 := [s0, .own p', .imm N, .imm R, .imm L, .imm A, s6, s7, s8, s9, s10, .own (.lst (MS ++ [sD (lkL names q)])), .imm WL, .imm (.int K), .no, .no, .no, .no]) ?_ ?_
        · have il : ∀ (δ : Env) (L : List D), δ[11]? = some (.own (.lst L)) → isLst δ 11 = true := fun δ L h => by unfold isLst; rw [h]
          unfold sApp
          rw [if_pos (il _ _ rfl)]
          simp! only [w0, el, ap]
        · simp! only [wt]
      · show (rest.map (lkD names)).length < ((q :: rest).map (lkD names)).length
        rw [List.length_map, List.length_map, List.length_cons]; omega
end
end M
set_option Elab.async false
set_option linter.all false
set_option maxRecDepth 100000
set_option maxHeartbeats 4000000
namespace M
open PySem L2
local macro_rules
  | `(tactic| simp! only [$as,*]) => `(tactic| simp only [x_bind, bk_ok, bk_ite, x_ret, x_lift, lk_some, lk_ite, app_ite, x_eC, x_eV, vk_imm, vk_own, vk_bor, x_give, gk_own, x_bin, x_un, x_ix, x_tru, x_eB, dBl_bl, dTru_bl, dTru_int, dTru_lst, x_and, x_or, x_not, x_eAnd, x_eOr, x_eNot, x_eIf, x_chain, x_aNil, x_aCons, x_aVr, rk_own, rk_io, x_aVb, tk_own, tk_io, tk_imm, tk_bor, x_eTup, x_eLst, imms_nil, imms_im, x_eF, x_call, ixV_C, jk_imm, jk_own, jk_io, jk_bor, flk_int, x_lenV, nk_imm, nk_own, nk_io, nk_bor, x_inV, hk_imm, hk_own, hk_io, hk_bor, x_sNx, x_pass, x_cont, x_brk, x_seq, sk_nx, sk_rt, sk_rtO, sk_ct, sk_bk, sk_ite, x_drop, x_sRet, x_sRetO, x_sIf, x_asg, x_asgO, x_gN, x_gO, x_gNil, x_gCons, x_gTt, x_gTl, x_sApp, x_sSet, x_chM, ck_own, ck_io, x_iOf, x_iRg, x_fn, fk_rt, fk_nx, fk_ite, ios_z, ios_s, keep_io, keep_imm, keep_own, keep_bor, keep_no, dSub_i, dAdd_i, dLt_i, dLe_i, dGt_i, dGe_i, dEq_int, dNe_int, ix_lst, ix_scr, ix_tup, atI_0, atI_1, atI_2, atI_3, List.getElem?_cons_zero, List.getElem?_cons_succ, List.set_cons_zero, List.set_cons_succ, List.length_cons, List.length_nil, List.cons_append, List.nil_append, List.replicate_succ, List.replicate_zero, Option.map_some, Option.bind_some, Nat.reduceAdd, Nat.reduceSub, Nat.reduceLT, Nat.reduceLeDiff, if_true, if_false, Bool.false_eq_true, decide_eq_true_eq, reduceIte, ne_eq, not_false_eq_true, Nat.lt_add_left_iff_pos, Nat.zero_lt_succ, x_call1, x_call2, x_call3, x_call4, dk1, dk2, dk3, dk4, ixV_V, Nat.reduceEqDiff, not_false_eq_true, x_isLst, x_isSet, List.map_cons, List.map_nil, Option.map_none, Option.bind_none, x_eSl, x_eP0, x_eP1, part_i, $as,*])
/-- lines with empty ones put between -/
inductive Ls : List (List Nat) → List (List Nat) → Prop
  | nil : Ls [] []
  | a {M X : List (List Nat)} (t : List Nat) : Ls M X → Ls (M ++ [t]) (X ++ [t])
  | b {M X : List (List Nat)} (t : List Nat) : Ls M X → Ls (M ++ [t]) (X ++ [[], t])
section
variable {names : List (List Nat)} {rws : List (List Row)} {ls : List Lk}
theorem Rn.split {M N : List (List Nat)} : ∀ {s s' : Sta}, Rn names rws ls s (M ++ N) s' → ∃ s1, Rn names rws ls s M s1 ∧ Rn names rws ls s1 N s' := by
  induction M with
  | nil => intro s s' h; exact ⟨s, .nil, h⟩
  | cons t M ih =>
    intro s s' h
    have h : Rn names rws ls s (t :: (M ++ N)) s' := h
    cases h with
    | bl h =>
      obtain ⟨s1, h1, h2⟩ := ih h
      exact ⟨s1, .bl h1, h2⟩
    | ln a h =>
      obtain ⟨s1, h1, h2⟩ := ih h
      exact ⟨s1, .ln a h1, h2⟩
theorem Ls.rn {M X : List (List Nat)} (l : Ls M X) : ∀ {s s' : Sta}, Rn names rws ls s M s' → Rn names rws ls s X s' := by
  induction l with
  | nil => intro s s' h; exact h
  | a t _ ih =>
    intro s s' h
    obtain ⟨s1, h1, h2⟩ := h.split
    exact (ih h1).app h2
  | b t _ ih =>
    intro s s' h
    obtain ⟨s1, h1, h2⟩ := h.split
    exact (ih h1).app (.bl h2)
theorem ev_mixed (C : CxA names rws ls) {ns : List Int} {s0 : Sl} {p R L A : D} {s7 s8 s9 s10 : Sl} (ip : IsPl ns p) : ∃ p' M i s13, IsPl ns p' ∧ sFor (iRg rg1 (aCons (eF fLen (aCons (eV 6) aNil)) aNil)) (gN 13) (sSeq (sAsgO 11 (eBin dAddL (eV 11) (eIxV 6 (eV 13)))) (sWhile whT whS)) (wE s0 p (strsN names (List.range names.length)) R L A (.imm (.lst ((List.range names.length).map (blkD names rws)))) s7 s8 s9 s10 [] ls names .no) = some (.ok .nx, wE s0 p' (strsN names (List.range names.length)) R L A (.imm (.lst ((List.range names.length).map (blkD names rws)))) s7 s8 s9 s10 M (ls.drop i) names s13) ∧
    Rn names rws ls (0, 0, none) M (names.length, i, none) ∧ M.length ≤ 5 * names.length + i ∧ i ≤ ls.length := by
  have hn := C.len
  have hll := C.ll
  have hlen : fLen [.lst ((List.range names.length).map (blkD names rws))] = some (.int (names.length : Nat)) := by
    show some (D.int (((List.range names.length).map (blkD names rws)).length : Nat)) = _
    rw [List.length_map, List.length_range]
  have hrg := rg1_n (show names.length ≤ 1000 by omega)
  obtain ⟨δ1, f1, s13, p', M, i, ip', rfl, rn, hM, hi⟩ := sFor_inv (I := (iRg rg1 (aCons (eF fLen (aCons (eV 6) aNil)) aNil))) (T := gN 13) (S := (sSeq (sAsgO 11 (eBin dAddL (eV 11) (eIxV 6 (eV 13)))) (sWhile whT whS))) (ds := rgD 0 names.length)
    (δ := wE s0 p (strsN names (List.range names.length)) R L A (.imm (.lst ((List.range names.length).map (blkD names rws)))) s7 s8 s9 s10 [] ls names .no) (δ0 := wE s0 p (strsN names (List.range names.length)) R L A (.imm (.lst ((List.range names.length).map (blkD names rws)))) s7 s8 s9 s10 [] ls names .no)
    (fun j δ => ∃ s13, WInv names rws ls ns s0 R L A (.imm (.lst ((List.range names.length).map (blkD names rws)))) s7 s8 s9 s10 j (5 * j) s13 δ)
    (by
      generalize strsN names (List.range names.length) = N at *
      generalize D.lst ((List.range names.length).map (blkD names rws)) = BL at *
      generalize ((names.length : Nat) : Int) = NN at *
      unfold wE
      generalize ([] : List (List Nat)).map sD = Z at *
      generalize ls.map (lkD names) = LM at *
      simp! only [hlen, hrg]) ⟨.no, p, [], 0, ip, rfl, .nil, by simp, Nat.zero_le _⟩ (fun j d δ hj hδ => by
      obtain ⟨s13, p, M, i, ip, rfl, rn, hM, hi⟩ := hδ
      obtain ⟨hj', rfl⟩ := rgD_get hj
      clear hj
      have hx : dIx (.lst ((List.range names.length).map (blkD names rws))) (.int (j : Nat)) = some (.lst ((blk names rws j).map sD)) := at_map (f := blkD names rws) (List.getElem?_range hj')
      have hbl := blk_len C hj'
      have a1 := add_lL (x := M.map sD) (y := (blk names rws j).map sD) (by rw [List.length_map, List.length_map]; omega)
      rw [← List.map_append] at a1
      have wi : WInv names rws ls ns s0 R L A (.imm (.lst ((List.range names.length).map (blkD names rws)))) s7 s8 s9 s10 (j + 1) (5 * j + 5) (.imm (.int (j : Nat))) (wE s0 p (strsN names (List.range names.length)) R L A (.imm (.lst ((List.range names.length).map (blkD names rws)))) s7 s8 s9 s10 (M ++ blk names rws j) (ls.drop i) names (.imm (.int (j : Nat)))) :=
        ⟨p, _, i, ip, rfl, rn.app (rn_blk C hj'), by rw [List.length_append]; omega, hi⟩
      obtain ⟨δ', e, wi'⟩ := ev_whl C hj' (by omega) wi
      refine ⟨wE s0 p (strsN names (List.range names.length)) R L A (.imm (.lst ((List.range names.length).map (blkD names rws)))) s7 s8 s9 s10 M (ls.drop i) names (.imm (.int (j : Nat))), δ', by simp! only [], .inl ?_, _, wi'⟩
      refine ssq (δ1 := wE s0 p (strsN names (List.range names.length)) R L A (.imm (.lst ((List.range names.length).map (blkD names rws)))) s7 s8 s9 s10 (M ++ blk names rws j) (ls.drop i) names (.imm (.int (j : Nat)))) ?_ e
      unfold wE
      generalize strsN names (List.range names.length) = N at *
      generalize D.lst ((List.range names.length).map (blkD names rws)) = BL at *
      generalize ((j : Nat) : Int) = J at *
      generalize (M ++ blk names rws j).map sD = MB at *
      generalize (blk names rws j).map sD = BS at *
      generalize M.map sD = MS at *
      generalize (ls.drop i).map (lkD names) = LM at *
      simp! only [hx, a1])
  rw [rgD_len] at rn hM
  exact ⟨p', M, i, s13, ip', f1, rn, hM, hi⟩
theorem mul01 {t : Int} (h0 : 0 ≤ t) (h1 : t < 2) : dMulL (.lst [.str ""]) (.int t) = some (.lst (if t = 0 then [] else [sD []])) := by
  have : t = 0 ∨ t = 1 := by omega
  rcases this with rfl | rfl
  · rfl
  · show some (D.lst _) = some (D.lst _)
    rw [if_neg (by decide)]
    rw [sts.1]; rfl
theorem ev_loose {M : List (List Nat)} (hM : M.length ≤ 100) {ns : List Int} {s0 : Sl} {p N R L A : D} {s6 s7 s8 s9 s10 s12 s13 : Sl} (ip : IsPl ns p) : ∃ p' X s15, IsPl ns p' ∧ Ls M X ∧ X.length ≤ 2 * M.length ∧
    sFor (iOf (eV 11)) (gN 15) (sAsg (gN 14) (eBin dAdd (eBin dAdd (eV 14) (eBin dMulL (eLst (aCons (eC (.str "")) aNil)) (eCall m__law_take (aVr 1 (aCons (eC (.int 2)) aNil))))) (eLst (aCons (eV 15) aNil)))) (lE s0 p N R L A s6 s7 s8 s9 s10 (.own (.lst (M.map sD))) s12 s13 (.imm (.lst [])) .no) = some (.ok .nx, lE s0 p' N R L A s6 s7 s8 s9 s10 (.imm (.lst (M.map sD))) s12 s13 (.imm (.lst (X.map sD))) s15) := by
  obtain ⟨δ1, f1, p', X, s15, ip', lx, hX, rfl⟩ := sFor_inv (I := (iOf (eV 11))) (T := gN 15) (S := (sAsg (gN 14) (eBin dAdd (eBin dAdd (eV 14) (eBin dMulL (eLst (aCons (eC (.str "")) aNil)) (eCall m__law_take (aVr 1 (aCons (eC (.int 2)) aNil))))) (eLst (aCons (eV 15) aNil))))) (ds := M.map sD)
    (δ := lE s0 p N R L A s6 s7 s8 s9 s10 (.own (.lst (M.map sD))) s12 s13 (.imm (.lst [])) .no) (δ0 := lE s0 p N R L A s6 s7 s8 s9 s10 (.imm (.lst (M.map sD))) s12 s13 (.imm (.lst [])) .no)
    (fun j δ => ∃ p' X s15, IsPl ns p' ∧ Ls (M.take j) X ∧ X.length ≤ 2 * j ∧ δ = lE s0 p' N R L A s6 s7 s8 s9 s10 (.imm (.lst (M.map sD))) s12 s13 (.imm (.lst (X.map sD))) s15)
    (by
      generalize M.map sD = MS at *
      simp! only [itD]) ⟨p, [], .no, ip, .nil, Nat.zero_le _, rfl⟩ (fun j d δ hj hδ => by
      obtain ⟨p, X, s15, ip, lx, hX, rfl⟩ := hδ
      obtain ⟨t, ht, rfl⟩ := getmap hj
      have hjM := (List.getElem?_eq_some_iff.mp ht).1
      obtain ⟨q, p', cq, ip', qa, qb⟩ := ev_tk1 ip (m := 2) (by omega) (by omega)
      have cq := cq s0 [.imm N, .imm R, .imm L, .imm A, s6, s7, s8, s9, s10, .imm (.lst (M.map sD)), s12, s13, .imm (.lst (X.map sD)), .imm (sD t), .no, .no]
      have mq := mul01 qa qb
      have hXl : (X.map sD).length ≤ 200 := by rw [List.length_map]; omega
      have ht' : M.take (j + 1) = M.take j ++ [t] := take_sn ht
      by_cases z : q = 0
      · rw [if_pos z] at mq
        have a1 := add_ll (x := X.map sD) (y := []) (by rw [List.length_nil]; omega)
        rw [List.append_nil] at a1
        have a2 := add_ll (x := X.map sD) (y := [sD t]) (by rw [List.length_singleton]; omega)
        have eX : X.map sD ++ [sD t] = (X ++ [t]).map sD := by rw [List.map_append]; rfl
        rw [eX] at a2
        refine ⟨lE s0 p N R L A s6 s7 s8 s9 s10 (.imm (.lst (M.map sD))) s12 s13 (.imm (.lst (X.map sD))) (.imm (sD t)), lE s0 p' N R L A s6 s7 s8 s9 s10 (.imm (.lst (M.map sD))) s12 s13 (.imm (.lst ((X ++ [t]).map sD))) (.imm (sD t)), by simp! only [], .inl ?_, p', X ++ [t], _, ip', by rw [ht']; exact .a t lx, by rw [List.length_append, List.length_singleton]; omega, rfl⟩
        generalize M.map sD = MS at *
        generalize (X ++ [t]).map sD = XT at *
        generalize X.map sD = XS at *
        simp! only [cq, mq, a1, a2]
      · rw [if_neg z] at mq
        have a1 := add_ll (x := X.map sD) (y := [sD []]) (by rw [List.length_singleton]; omega)
        have a2 := add_ll (x := X.map sD ++ [sD []]) (y := [sD t]) (by rw [List.length_append, List.length_singleton, List.length_singleton]; omega)
        have eX : X.map sD ++ [sD []] ++ [sD t] = (X ++ [[], t]).map sD := by rw [List.map_append, List.append_assoc]; rfl
        rw [eX] at a2
        refine ⟨lE s0 p N R L A s6 s7 s8 s9 s10 (.imm (.lst (M.map sD))) s12 s13 (.imm (.lst (X.map sD))) (.imm (sD t)), lE s0 p' N R L A s6 s7 s8 s9 s10 (.imm (.lst (M.map sD))) s12 s13 (.imm (.lst ((X ++ [[], t]).map sD))) (.imm (sD t)), by simp! only [], .inl ?_, p', X ++ [[], t], _, ip', by rw [ht']; exact .b t lx, by rw [List.length_append]; show X.length + 2 ≤ _; omega, rfl⟩
        generalize M.map sD = MS at *
        generalize (X ++ [[], t]).map sD = XT at *
        generalize X.map sD = XS at *
        generalize XS ++ [sD []] = XE at *
        simp! only [cq, mq, a1, a2])
  rw [List.length_map] at lx hX
  rw [List.take_length] at lx
  exact ⟨p', X, s15, ip', lx, hX, f1⟩
theorem fine_vws (ok : ∀ l ∈ names, nmL l = true) : Fine (.lst ((vws names rws).map vwD1)) := (fine_lst (k := 3) (by omega) fun d m => by
  obtain ⟨p, hp, rfl⟩ := List.mem_map.mp m
  unfold vws at hp
  obtain ⟨v, hv, rfl⟩ := List.mem_map.mp hp
  have hv := List.mem_range.mp hv
  exact fine_tup (k := 2) (by omega) fun d m => by
    simp only [List.mem_cons, List.not_mem_nil, or_false] at m
    rcases m with rfl | rfl
    · have := fine_nm (s := mkS (names.getD v [])) (by rw [nmB_mk]; exact nm_at ok hv)
      exact ⟨this.1, by omega⟩
    · exact fine_rowsT _).1
theorem dNe_fine {d : D} (h : Fine d) : dNe d d = some (.bl false) := by
  show (if shp d = true ∧ shp d = true then some (D.bl (!PyData.eqv (toPy d) (toPy d))) else none) = _
  rw [if_pos ⟨fine_shp h, fine_shp h⟩, h.rfl]; rfl
theorem dEq_fineK {d : D} (h : Fine d) : dEq d d = some (.bl true) := by
  show (if shp d = true ∧ shp d = true then some (D.bl (PyData.eqv (toPy d) (toPy d))) else none) = _
  rw [if_pos ⟨fine_shp h, fine_shp h⟩, h.rfl]
theorem vws_rows (C : CxA names rws ls) : (vws names rws).map (·.2) = rws.map rowsT := by
  unfold vws
  rw [List.map_map]
  apply List.ext_getElem
  · rw [List.length_map, List.length_map, List.length_range, C.rl]
  · intro i h1 h2
    rw [List.length_map] at h2
    rw [List.getElem_map, List.getElem_range, List.getElem_map]
    show rowsT (rws.getD i []) = _
    rw [List.getD_eq_getElem?_getD, List.getElem?_eq_getElem h2]; rfl
end
end M
set_option Elab.async false
set_option linter.all false
set_option maxRecDepth 100000
set_option maxHeartbeats 8000000
namespace M
open PySem L2
local macro_rules
  | `(tactic| simp! only [$as,*]) => `(tactic| simp only [x_bind, bk_ok, bk_ite, x_ret, x_lift, lk_some, lk_ite, app_ite, x_eC, x_eV, vk_imm, vk_own, vk_bor, x_give, gk_own, x_bin, x_un, x_ix, x_tru, x_eB, dBl_bl, dTru_bl, dTru_int, dTru_lst, x_and, x_or, x_not, x_eAnd, x_eOr, x_eNot, x_eIf, x_chain, x_aNil, x_aCons, x_aVr, rk_own, rk_io, x_aVb, tk_own, tk_io, tk_imm, tk_bor, x_eTup, x_eLst, imms_nil, imms_im, x_eF, x_call, ixV_C, jk_imm, jk_own, jk_io, jk_bor, flk_int, x_lenV, nk_imm, nk_own, nk_io, nk_bor, x_inV, hk_imm, hk_own, hk_io, hk_bor, x_sNx, x_pass, x_cont, x_brk, x_seq, sk_nx, sk_rt, sk_rtO, sk_ct, sk_bk, sk_ite, x_drop, x_sRet, x_sRetO, x_sIf, x_asg, x_asgO, x_gN, x_gO, x_gNil, x_gCons, x_gTt, x_gTl, x_sApp, x_sSet, x_chM, ck_own, ck_io, x_iOf, x_iRg, x_fn, fk_rt, fk_nx, fk_ite, ios_z, ios_s, keep_io, keep_imm, keep_own, keep_bor, keep_no, dSub_i, dAdd_i, dLt_i, dLe_i, dGt_i, dGe_i, dEq_int, dNe_int, ix_lst, ix_scr, ix_tup, atI_0, atI_1, atI_2, atI_3, List.getElem?_cons_zero, List.getElem?_cons_succ, List.set_cons_zero, List.set_cons_succ, List.length_cons, List.length_nil, List.cons_append, List.nil_append, List.replicate_succ, List.replicate_zero, Option.map_some, Option.bind_some, Nat.reduceAdd, Nat.reduceSub, Nat.reduceLT, Nat.reduceLeDiff, if_true, if_false, Bool.false_eq_true, decide_eq_true_eq, reduceIte, ne_eq, not_false_eq_true, Nat.lt_add_left_iff_pos, Nat.zero_lt_succ, x_call1, x_call2, x_call3, x_call4, dk1, dk2, dk3, dk4, ixV_V, Nat.reduceEqDiff, not_false_eq_true, x_isLst, x_isSet, List.map_cons, List.map_nil, Option.map_none, Option.bind_none, x_eSl, x_eP0, x_eP1, part_i, $as,*])
section
variable {names : List (List Nat)} {rws : List (List Row)} {ls : List Lk}
theorem tx_eq : (vlN names rws names.length).map sD ++ (ls.map fun k => sD (lkL names k)) = (txL names rws ls).map sD := by
  unfold txL
  rw [List.map_append, List.map_map]; rfl
theorem mx_eq {M : List (List Nat)} {Q : List Lk} : M.map sD ++ (Q.map fun k => sD (lkL names k)) = (M ++ Q.map (lkL names)).map sD := by
  rw [List.map_append, List.map_map]; rfl
theorem call_alb {m : Mo D} {A r : D} {δ : Env} {vs ls : List D} (hA : A = .alb vs ls) (h : δ[5]? = some (.imm A)) (hm : m [.bor A] = some (.ok r, [.no])) : callM m [.vb 5] δ = some (.ok r, δ) :=
  call_of (δc := [.bor A]) (by simp only [argSls, argSl, h]) ⟨by simp [vrs], by simp [vbs, vrs]⟩ hm rfl
theorem tail_law (C : CxA names rws ls) (n1 : 1 ≤ names.length) {ns : List Int} {s0 : Sl} {p : D} (ip : IsPl ns p) (A : AlbOk (vws names rws) names ls) : ∃ δ', (sSeq (sAsgO 6 (eLc (iRg rg1 (aCons (eF fLen (aCons (eV 2) aNil)) aNil)) (gN 13) tYesM (eCall m__law_view_lines (aCons (eIxV 2 (eV 13)) (aCons (eIxV 3 (eV 13)) aNil))) [13]))
 (sSeq (sAsg (gN 7) (eLst aNil))
 (sSeq (sFor (iOf (eV 6)) (gN 8)
 (sAsg (gN 7) (eBin dAdd (eV 7) (eV 8))))
 (sSeq (sAsg (gN 7) (eBin dAdd (eV 7) (eLc (iOf (eV 4)) (gN 17) tYesM (eCall m__law_link_line (aCons (eV 17) aNil)) [17])))
 (sSeq (sAsg (gN 9) (eCall m_show_album (aVb 5 aNil)))
 (sSeq (sIf (eB (eBin dNe (eV 9) (eM1 dJoin (eC (.str "")) (eLc (iOf (eV 7)) (gN 15) tYesM (eBin dAdd (eV 15) (eC (.str "\n"))) [15]))))
 (sRet (eC (.bl false)))
 sNx)
 (sSeq (sAsg (gN 10) (eCall m_album_of (aCons (eV 9) aNil)))
 (sSeq (sIf (tOrM (eB (eBin dNe (eMeth m_Album_views 10 aNil) (eMeth m_Album_views 5 aNil))) (eB (eBin dNe (eMeth m_Album_links 10 aNil) (eV 4))))
 (sRet (eC (.bl false)))
 sNx)
 (sSeq (sAsgO 11 (eLst aNil))
 (sSeq (sAsg (gN 12) (eF fList' (aCons (eV 4) aNil)))
 (sSeq (sFor (iRg rg1 (aCons (eF fLen (aCons (eV 6) aNil)) aNil)) (gN 13)
 (sSeq (sAsgO 11 (eBin dAddL (eV 11) (eIxV 6 (eV 13))))
 (sWhile whT whS)))
 (sSeq (sAsgO 11 (eBin dAddL (eV 11) (eLc (iOf (eV 12)) (gN 17) tYesM (eCall m__law_link_line (aCons (eV 17) aNil)) [17])))
 (sSeq (sAsg (gN 14) (eLst aNil))
 (sSeq (sFor (iOf (eV 11)) (gN 15)
 (sAsg (gN 14) (eBin dAdd (eBin dAdd (eV 14) (eBin dMulL (eLst (aCons (eC (.str "")) aNil)) (eCall m__law_take (aVr 1 (aCons (eC (.int 2)) aNil))))) (eLst (aCons (eV 15) aNil)))))
 (sSeq (sAsg (gN 10) (eCall m_album_of (aCons (eM1 dJoin (eC (.str "\n")) (eV 14)) aNil)))
 (sRet (eAnd (eBin dEq (eMeth m_Album_views 10 aNil) (eMeth m_Album_views 5 aNil)) (eBin dEq (eMeth m_Album_links 10 aNil) (eV 4)))))))))))))))))))
  (lE s0 p (strsN names (List.range names.length)) (.lst (rws.map rowsT)) (.lst (ls.map (lkD names))) (albD (vws names rws) names ls) .no .no .no .no .no .no .no .no .no .no) = some (.ok (.rt (.bl true)), δ') ∧ ios 1 δ' = [keepIo s0] := by
  have hn := C.len
  have hll := C.ll
  have htl := tx_len C
  have htc := tx_ch C
  have pv := pure_vws (names := names) (rws := rws) (j := names.length)
  have t1 : (vws names rws).take names.length = vws names rws := List.take_of_length_le (by rw [vws_len]; exact Nat.le_refl _)
  rw [t1] at pv
  have mv : ∀ {δ : Env} {i : Nat}, δ[i]? = some (.imm (albD (vws names rws) names ls)) → eMeth m_Album_views i aNil δ = some (.ok (.lst ((vws names rws).map vwD1)), δ) := fun h => meth0 (.inr h) (ev_a_views pv)
  have ml : ∀ {δ : Env} {i : Nat}, δ[i]? = some (.imm (albD (vws names rws) names ls)) → eMeth m_Album_links i aNil δ = some (.ok (.lst (ls.map (lkD names))), δ) := fun h => meth0 (.inr h) (ev_a_links A)
  have fv := fine_vws (rws := rws) C.ok
  have fl := fine_lks C.ok C.lk
  have nv := dNe_fine fv
  have nl := dNe_fine fl
  have qv := dEq_fineK fv
  have ql := dEq_fineK fl
  have esh := ev_showalbum C
  have csh : ∀ {δ : Env}, δ[5]? = some (.imm (albD (vws names rws) names ls)) → callM m_show_album [.vb 5] δ = _ := fun {δ} h => call_alb (δ := δ) rfl h esh
  have eao := ev_albumof C (L := txL names rws ls ++ [[]]) (by simp) (by rw [List.length_append, List.length_singleton]; omega) (rn_tx C)
  -- the blocks, the lines
  have eb := ev_blks C (s0 := s0) (p := p) (L := .lst (ls.map (lkD names))) (A := albD (vws names rws) names ls)
  obtain ⟨s8, f1⟩ := ev_lines C (s0 := s0) (p := p) (N := strsN names (List.range names.length)) (R := .lst (rws.map rowsT)) (L := .lst (ls.map (lkD names))) (A := albD (vws names rws) names ls)
  have e4 := fun s6 s7 => ev_lkc4 C (s0 := s0) (p := p) (N := strsN names (List.range names.length)) (R := .lst (rws.map rowsT)) (A := albD (vws names rws) names ls) (s6 := s6) (s7 := s7) (s8 := s8)
  have hvl := vlN_len C (Nat.le_refl _)
  have a1 := add_ll (x := (vlN names rws names.length).map sD) (y := ls.map fun k => sD (lkL names k)) (by rw [List.length_map, List.length_map]; omega)
  rw [tx_eq] at a1
  have ej := join_nl (by omega) htc
  have chT : ∀ c ∈ joinL [10] (txL names rws ls ++ [[]]), c ≤ 122 := fun c m => by
    rcases joinL_mem m with m | ⟨q, hq, m⟩
    · simp at m; omega
    · exact ((rn_ch C (rn_tx C) q hq).2 c m).2
  have en := dNe_mk chT chT
  rw [decide_eq_true rfl] at en
  obtain ⟨q0, _, _, q3, _⟩ := sts
  -- the mixed text
  obtain ⟨p2, M, i, s13, ip2, f2, rn, hM, hi⟩ := ev_mixed C (s0 := s0) (p := p) (R := .lst (rws.map rowsT)) (L := .lst (ls.map (lkD names))) (A := albD (vws names rws) names ls) (s7 := .imm (.lst ((txL names rws ls).map sD))) (s8 := s8) (s9 := .imm (sD (joinL [10] (txL names rws ls ++ [[]])))) (s10 := .imm (albD (vws names rws) names ls)) ip
  have e12 := fun s11 => ev_lkc12 C (M := ls.drop i) (fun k m => List.mem_of_mem_drop m) (by rw [List.length_drop]; omega) (s0 := s0) (p := p2) (N := strsN names (List.range names.length)) (R := .lst (rws.map rowsT)) (L := .lst (ls.map (lkD names))) (A := albD (vws names rws) names ls) (s6 := .imm (.lst ((List.range names.length).map (blkD names rws)))) (s7 := .imm (.lst ((txL names rws ls).map sD))) (s8 := s8) (s9 := .imm (sD (joinL [10] (txL names rws ls ++ [[]])))) (s10 := .imm (albD (vws names rws) names ls)) (s11 := s11) (s13 := s13)
  have a2 := add_lL (x := M.map sD) (y := (ls.drop i).map fun k => sD (lkL names k)) (by rw [List.length_map, List.length_map, List.length_drop]; omega)
  rw [mx_eq] at a2
  have rn2 : Rn names rws ls (0, 0, none) (M ++ (ls.drop i).map (lkL names)) (names.length, ls.length, none) := by
    have h := rn_lk C (ls.length - i) (by omega)
    rw [show ls.length - (ls.length - i) = i from by omega] at h
    exact rn.app h
  have hM2 : (M ++ (ls.drop i).map (lkL names)).length ≤ 100 := by rw [List.length_append, List.length_map, List.length_drop]; omega
  have hMne : M ++ (ls.drop i).map (lkL names) ≠ [] := fun z => by
    rw [z] at rn2
    have := rn_nil rn2
    injection this with h1 h2
    omega
  generalize M ++ (ls.drop i).map (lkL names) = M2 at *
  obtain ⟨p3, X, s15, ip3, lx, hX, f3⟩ := ev_loose hM2 (s0 := s0) (p := p2) (N := strsN names (List.range names.length)) (R := .lst (rws.map rowsT)) (L := .lst (ls.map (lkD names))) (A := albD (vws names rws) names ls) (s6 := .imm (.lst ((List.range names.length).map (blkD names rws)))) (s7 := .imm (.lst ((txL names rws ls).map sD))) (s8 := s8) (s9 := .imm (sD (joinL [10] (txL names rws ls ++ [[]])))) (s10 := .imm (albD (vws names rws) names ls)) (s12 := .imm (.lst ((ls.drop i).map (lkD names)))) (s13 := s13) ip2
  have rn3 := lx.rn rn2
  have hXne : X ≠ [] := fun z => by
    subst z
    have := rn_nil rn3
    injection this with h1 h2
    omega
  have eao2 := ev_albumof C hXne (by omega) rn3
  have chX := rn_ch C rn3
  have ej2 : dJoin (.str (mkS [10])) (.lst (X.map sD)) = some (sD (joinL [10] X)) := join_d (by
    have := sum_len (m := 100) (l := X) fun q hq => (chX q hq).1
    rw [List.length_singleton]; omega)
  -- names for the great data
  have elc15 : ∀ {s6 s8 s9 s10 : Sl} {N R L A : D}, (eLc (iOf (eV 7)) (gN 15) tYesM (eBin dAdd (eV 15) (eC (.str "\n"))) [15]) (lE s0 p N R L A s6 (.imm (.lst ((txL names rws ls).map sD))) s8 s9 s10 .no .no .no .no .no) = some (.ok (.lst ((txL names rws ls).map fun q => sD (q ++ [10]))), lE s0 p N R L A s6 (.imm (.lst ((txL names rws ls).map sD))) s8 s9 s10 .no .no .no .no .no) := fun {s6 s8 s9 s10 N R L A} => by
    generalize txL names rws ls = TX at *
    rw [eLc_map (l := TX) (g := sD) (p := fun _ => true) (f := fun q => sD (q ++ [10])) (δ0 := lE s0 p N R L A s6 (.imm (.lst (TX.map sD))) s8 s9 s10 .no .no .no .no .no)]
    · rw [List.filter_eq_self.mpr (fun _ _ => rfl)]; rfl
    · simp! only [itD]
    · omega
    · intro q hq
      have := add_nl (htc q hq)
      refine ⟨lE s0 p N R L A s6 (.imm (.lst (TX.map sD))) s8 s9 s10 .no .no .no .no (.imm (sD q)), lE s0 p N R L A s6 (.imm (.lst (TX.map sD))) s8 s9 s10 .no .no .no .no (.imm (sD q)), by simp! only [wipeE], rfl, (fun z => by cases z), fun _ => ⟨lE s0 p N R L A s6 (.imm (.lst (TX.map sD))) s8 s9 s10 .no .no .no .no (.imm (sD q)), ?_, rfl⟩⟩
      simp! only [this]
  generalize strsN names (List.range names.length) = N at *
  generalize D.lst (rws.map rowsT) = R at *
  generalize hAA : albD (vws names rws) names ls = AA at *
  unfold wE at f2
  generalize hVS : D.lst ((vws names rws).map vwD1) = VS at *
  generalize (txL names rws ls).map (fun q => sD (q ++ [10])) = TN at *
  generalize hTX : D.lst ((txL names rws ls).map sD) = TX at *
  generalize joinL [10] (txL names rws ls ++ [[]]) = T1 at *
  generalize joinL [10] X = T2 at *
  generalize (List.range names.length).map (blkD names rws) = BL at *
  generalize (ls.map fun k => sD (lkL names k)) = LL at *
  generalize ((ls.drop i).map fun k => sD (lkL names k)) = LR at *
  generalize (vlN names rws names.length).map sD = VL at *
  have fll : fList' [.lst (ls.map (lkD names))] = some (.lst (ls.map (lkD names))) := rfl
  generalize hLS : ls.map (lkD names) = LS at *
  generalize (ls.drop i).map (lkD names) = LD at *
  refine ⟨lE s0 p3 N R (.lst LS) AA (.imm (.lst BL)) (.imm TX) s8 (.imm (sD T1)) (.imm AA) (.imm (.lst (M2.map sD))) (.imm (.lst LD)) s13 (.imm (.lst (X.map sD))) s15, ?_, rfl⟩
  generalize hEL : (eLc (iRg rg1 (aCons (eF fLen (aCons (eV 2) aNil)) aNil)) (gN 13) tYesM (eCall m__law_view_lines (aCons (eIxV 2 (eV 13)) (aCons (eIxV 3 (eV 13)) aNil))) [13]) = EL at *
  refine ssq (δ1 := lE s0 p N R (.lst LS) AA (.own (.lst BL)) .no .no .no .no .no .no .no .no .no) (by simp! only [eb, x_gO]) ?_
  refine ssq (δ1 := lE s0 p N R (.lst LS) AA (.own (.lst BL)) (.imm (.lst [])) .no .no .no .no .no .no .no .no) (by simp! only []) ?_
  refine ssq f1 ?_
  generalize (eLc (iOf (eV 4)) (gN 17) tYesM (eCall m__law_link_line (aCons (eV 17) aNil)) [17]) = EL4 at *
  refine ssq (δ1 := lE s0 p N R (.lst LS) AA (.imm (.lst BL)) (.imm TX) s8 .no .no .no .no .no .no .no) (by simp! only [e4, a1]) ?_
  have cs := csh (δ := lE s0 p N R (.lst LS) AA (.imm (.lst BL)) (.imm TX) s8 .no .no .no .no .no .no .no) rfl
  refine ssq (δ1 := lE s0 p N R (.lst LS) AA (.imm (.lst BL)) (.imm TX) s8 (.imm (sD T1)) .no .no .no .no .no .no) (by simp! only [cs]) ?_
  rw [q0] at ej ⊢
  generalize (eLc (iOf (eV 7)) (gN 15) tYesM (eBin dAdd (eV 15) (eC (.str "\n"))) [15]) = EL15 at *
  refine ssq_f (δ1 := lE s0 p N R (.lst LS) AA (.imm (.lst BL)) (.imm TX) s8 (.imm (sD T1)) .no .no .no .no .no .no) (by simp! only [x_M1, mk1_s, elc15, ej, en, Bool.not_true]) ?_
  refine ssq (δ1 := lE s0 p N R (.lst LS) AA (.imm (.lst BL)) (.imm TX) s8 (.imm (sD T1)) (.imm AA) .no .no .no .no .no) (by simp! only [eao]) ?_
  have m10 := mv (δ := lE s0 p N R (.lst LS) AA (.imm (.lst BL)) (.imm TX) s8 (.imm (sD T1)) (.imm AA) .no .no .no .no .no) (i := 10) rfl
  have m5 := mv (δ := lE s0 p N R (.lst LS) AA (.imm (.lst BL)) (.imm TX) s8 (.imm (sD T1)) (.imm AA) .no .no .no .no .no) (i := 5) rfl
  have l10 := ml (δ := lE s0 p N R (.lst LS) AA (.imm (.lst BL)) (.imm TX) s8 (.imm (sD T1)) (.imm AA) .no .no .no .no .no) (i := 10) rfl
  refine ssq_f (δ1 := lE s0 p N R (.lst LS) AA (.imm (.lst BL)) (.imm TX) s8 (.imm (sD T1)) (.imm AA) .no .no .no .no .no) (by simp! only [m10, m5, l10, nv, nl]) ?_
  refine ssq (δ1 := lE s0 p N R (.lst LS) AA (.imm (.lst BL)) (.imm TX) s8 (.imm (sD T1)) (.imm AA) (.own (.lst [])) .no .no .no .no) (by simp! only [x_gO]) ?_
  refine ssq (δ1 := lE s0 p N R (.lst LS) AA (.imm (.lst BL)) (.imm TX) s8 (.imm (sD T1)) (.imm AA) (.own (.lst [])) (.imm (.lst LS)) .no .no .no) (by simp! only [fll]) ?_
  refine ssq f2 ?_
  generalize (eLc (iOf (eV 12)) (gN 17) tYesM (eCall m__law_link_line (aCons (eV 17) aNil)) [17]) = EL12 at *
  refine ssq (δ1 := lE s0 p2 N R (.lst LS) AA (.imm (.lst BL)) (.imm TX) s8 (.imm (sD T1)) (.imm AA) (.own (.lst (M2.map sD))) (.imm (.lst LD)) s13 .no .no) (by
    generalize M.map sD = MS at *
    generalize M2.map sD = MS2 at *
    simp! only [e12, a2, x_gO]) ?_
  generalize M2.map sD = MS2 at *
  refine ssq (δ1 := lE s0 p2 N R (.lst LS) AA (.imm (.lst BL)) (.imm TX) s8 (.imm (sD T1)) (.imm AA) (.own (.lst MS2)) (.imm (.lst LD)) s13 (.imm (.lst [])) .no) (by simp! only []) ?_
  refine ssq f3 ?_
  generalize X.map sD = XS at *
  rw [q3]
  refine ssq (δ1 := lE s0 p3 N R (.lst LS) AA (.imm (.lst BL)) (.imm TX) s8 (.imm (sD T1)) (.imm AA) (.imm (.lst MS2)) (.imm (.lst LD)) s13 (.imm (.lst XS)) s15) (by simp! only [x_M1, mk1_s, ej2, eao2]) ?_
  have k10 := mv (δ := lE s0 p3 N R (.lst LS) AA (.imm (.lst BL)) (.imm TX) s8 (.imm (sD T1)) (.imm AA) (.imm (.lst MS2)) (.imm (.lst LD)) s13 (.imm (.lst XS)) s15) (i := 10) rfl
  have k5 := mv (δ := lE s0 p3 N R (.lst LS) AA (.imm (.lst BL)) (.imm TX) s8 (.imm (sD T1)) (.imm AA) (.imm (.lst MS2)) (.imm (.lst LD)) s13 (.imm (.lst XS)) s15) (i := 5) rfl
  have j10 := ml (δ := lE s0 p3 N R (.lst LS) AA (.imm (.lst BL)) (.imm TX) s8 (.imm (sD T1)) (.imm AA) (.imm (.lst MS2)) (.imm (.lst LD)) s13 (.imm (.lst XS)) s15) (i := 10) rfl
  simp! only [k10, k5, j10, qv, ql]
end
theorem law_true (ns : List Int) (hl : ns.length ≤ 63) : m_law [.imm (.scr (ns.map D.int))] = some (.ok (.bl true), [.no]) := by
  obtain ⟨d0, e0, i0⟩ := ev_pool (ns := ns)
  obtain ⟨t, d1, c1, i1, a1, b1⟩ := ev_tk1 i0 (m := 6) (by omega) (by omega)
  obtain ⟨n, hn⟩ : ∃ n : Nat, 1 + t = (n : Int) := ⟨(1 + t).toNat, by omega⟩
  obtain ⟨names, d2, en, i2, ln, nd, nok⟩ := ev_names (n := n) i1 (by omega)
  obtain ⟨rws, d3, er, i3, lr, rk⟩ := ev_rwsE (names := names) (s0 := .imm (.scr (ns.map D.int))) i2 (by omega)
  obtain ⟨ls, d4, el, i4, lk, lln, lsm⟩ := ev_links i3 nd nok (by omega) (by omega)
  have C : CxA names rws ls := ⟨nd, nok, by omega, lr, rk, lk, lsm, lln⟩
  have A := C.alb (Nat.le_refl _) (i := ls.length) (fun k m => ⟨(C.lk k (List.mem_of_mem_take m)).1, (C.lk k (List.mem_of_mem_take m)).2.1⟩)
  have t1 : (vws names rws).take names.length = vws names rws := List.take_of_length_le (by rw [vws_len]; exact Nat.le_refl _)
  rw [t1, List.take_length, List.take_length] at A
  have hv : ∀ q ∈ vws names rws, viewB (vwD1 q) = true ∧ viewOk (vwD1 q) := fun q m => by
    unfold vws at m
    obtain ⟨v, hv, rfl⟩ := List.mem_map.mp m
    have hv := List.mem_range.mp hv
    obtain ⟨w, h, R, h1, h2, h3, h4⟩ := C.rows hv
    exact rk_view (nm_at nok hv) R h1 h2 h3 h4
  have ea := ev_album A hv lsm
  rw [vws_rows C] at ea
  have en : callM m__law_names [.vr 1, .im (.int (n : Nat))] _ = _ := call_w1 (s0 := .imm (.scr (ns.map D.int))) (δ := [.no, .no, .no, .no, .no, .no, .no, .no, .no, .no, .no, .no, .no, .no, .no, .no]) en
  have el : callM m__law_links [.vr 1, .im (strsN names (List.range names.length)), .im (.int 8)] _ = _ := call_w2 (s0 := .imm (.scr (ns.map D.int))) (δ := [.imm (strsN names (List.range names.length)), .imm (.lst (rws.map rowsT)), .no, .no, .no, .no, .no, .no, .no, .no, .no, .no, .no, .no, .no, .no]) el
  rw [strsN_names] at en
  have s0k : keepIo (Sl.imm (.scr (ns.map D.int))) = .no := rfl
  generalize hs0 : Sl.imm (.scr (ns.map D.int)) = s0 at *
  obtain ⟨δ', et, hi⟩ := tail_law C (by omega) (s0 := s0) i4 A
  refine (fn_rt (d := .bl true) (δ1 := δ') ?_).trans (by rw [hi, s0k])
  unfold b_law
  refine ssq (δ1 := [s0, .own d0, .no, .no, .no, .no, .no, .no, .no, .no, .no, .no, .no, .no, .no, .no, .no, .no]) (by subst hs0; simp! only [e0, x_gO]) ?_
  refine ssq (δ1 := [s0, .own d2, .imm (strsN names (List.range names.length)), .no, .no, .no, .no, .no, .no, .no, .no, .no, .no, .no, .no, .no, .no, .no]) (by simp! only [c1, hn, en]) ?_
  generalize hNN : strsN names (List.range names.length) = NN at *
  generalize hRR : D.lst (rws.map rowsT) = RR at *
  generalize hLL : D.lst (ls.map (lkD names)) = LL at *
  generalize hAA : albD (vws names rws) names ls = AA at *
  refine ssq (δ1 := [s0, .own d3, .imm NN, .imm RR, .no, .no, .no, .no, .no, .no, .no, .no, .no, .no, .no, .no, .no, .no]) (by
    generalize (eLc (iOf (eV 2)) (gN 16) tYesM (eCall m__law_rows (aVr 1 (aCons (eC (.int 3)) aNil))) [16]) = ER at *
    simp! only [er]) ?_
  refine ssq (δ1 := [s0, .own d4, .imm NN, .imm RR, .imm LL, .no, .no, .no, .no, .no, .no, .no, .no, .no, .no, .no, .no, .no]) (by simp! only [el]) ?_
  refine ssq (δ1 := [s0, .own d4, .imm NN, .imm RR, .imm LL, .imm AA, .no, .no, .no, .no, .no, .no, .no, .no, .no, .no, .no, .no]) (by simp! only [ea]) ?_
  exact et
end M
set_option Elab.async false
set_option linter.all false
set_option maxRecDepth 100000
set_option maxHeartbeats 0
namespace M
open PySem L2 PySem.Spec PyProof.Rows
theorem walk {l : PySem.W.OpenLaw} {q : Program} {loose : List Str} {XP : (Str → Option Value) → Heap → Prop} {YP : World → Heap → Prop} {d : DefRec} {K : Params → PySem.W.Frag} (hz : ∀ p, tabOf (K p) = none) (hn : l.most = some 63) (hdf : d.params.defaults = [])
    (hY : ∀ (w : World) (h : Heap), YP w h → (K w.params).In h)
    (F : ∀ (w : World) (mg : Str → Option Value) (fa : Addr) (h : Heap), (K w.params).In h → h.Ns mainGlobals mg → mg d.name = some (.ref fa) →
      ∃ fd : FuncData, (∀ (s : Shared) (u : Value), BindsTo s fd ⟨[u], []⟩ [("_law_script", u)]) ∧ ∀ base : Heap, (K w.params).In base → base.Ns mainGlobals mg → FnOk l.prog w (K w.params) mg base CX0 7 fa fd ["_law_script"] (spM Wn (K w.params) 1 false m_law)) :
    PySem.W.WalkO q loose XP YP l.row.toRowW d [] (fun f vs => PySem.call f vs) :=
  L2.walk_of (n := 63) (k := 7) (x := "_law_script") (CX := fun _ => CX0) (sp := fun w => spM Wn (K w.params) 1 false m_law) hn (by decide) hdf ⟨rfl, by decide, by decide⟩ hY F (fun _ H a ns hl on hS => law_sp (fun P hP => by rw [hz] at hP; cases hP) hS hl (law_true ns hl)) fun _ _ _ _ _ z => z
end M
open PySem PySem.W PyProof.Rows in
set_option maxRecDepth 100000 in
set_option maxHeartbeats 0 in
theorem PySem.Challenge.cw_laidviews_k02_albums_read_holds : PySem.Challenge.rw_laidviews_k02_albums_read.Holds := by
  w_on; o_law; k_head; (case hw => w_witness2)
  k_fill
  refine M.walk (l := PySem.Challenge.rw_laidviews_k02_albums_read) (fun _ => rfl) rfl rfl (fun w h Y => PySem.W.kIn_of Y) ?F
  case F =>
    intro w mg fa h KX G hmg
    refine' M.all_mk KX G hmg ?y_ns ?y_pg ?y_hd ?y_po ?y_sa ?y_nv ?y_nl ?y_mk ?y_kp ?w_ns ?w_pg ?w_hd ?w_po ?w_sa ?w_na ?w_nn ?w_nr ?w_mk ?w_kp ?a0 ?l0 ?c0 ?k0 ?a1 ?l1 ?c1 ?k1 ?a2 ?l2 ?c2 ?k2 ?a3 ?l3 ?c3 ?k3 ?a4 ?l4 ?c4 ?k4 ?a5 ?l5 ?c5 ?k5 ?a6 ?i6 ?l6 ?c6 ?k6 ?a7 ?l7 ?c7 ?k7 ?a8 ?l8 ?c8 ?k8 ?a9 ?l9 ?c9 ?k9 ?a10 ?l10 ?c10 ?k10 ?a11 ?i11 ?l11 ?c11 ?k11 ?a12 ?i12 ?l12 ?c12 ?k12 ?a13 ?l13 ?c13 ?k13 ?a14 ?i14 ?l14 ?c14 ?k14 ?a15 ?l15 ?c15 ?k15 ?a16 ?i16 ?l16 ?c16 ?k16 ?a17 ?i17 ?l17 ?c17 ?k17 ?a18 ?l18 ?c18 ?k18 ?a19 ?l19 ?c19 ?k19 ?a20 ?i20 ?l20 ?c20 ?k20 ?a21 ?l21 ?c21 ?k21 ?a22 ?l22 ?c22 ?k22 ?a23 ?l23 ?c23 ?k23 ?a24 ?i24 ?l24 ?c24 ?k24 ?a25 ?l25 ?c25 ?k25 ?a26 ?l26 ?c26 ?k26 ?a27 ?l27 ?c27 ?k27 ?a28 ?l28 ?c28 ?k28 ?a29 ?l29 ?c29 ?k29 ?a30 ?l30 ?c30 ?k30 ?z_abs ?z_all ?z_bool ?z_int ?z_isinstance ?z_len ?z_list ?z_range ?z_str ?z_tuple ?q_MAX_NAME ?q_MOST ?q_MAX_SIDE ?q_MAX_VIEWS ?q_MAX_SHIFT ?q_MAX_LIGHT ?q_MAX_LINKS ?q_MAX_DIGITS
    (case y_ns => k_is)
    (case y_pg => k_is)
    (case y_hd => k_is)
    (case y_po => k_is)
    (case y_sa => k_is)
    (case y_nv => k_is)
    (case y_nl => k_is)
    (case y_mk => k_is)
    (case y_kp => k_is)
    (case w_ns => k_is)
    (case w_pg => k_is)
    (case w_hd => k_is)
    (case w_po => k_is)
    (case w_sa => k_is)
    (case w_na => k_is)
    (case w_nn => k_is)
    (case w_nr => k_is)
    (case w_mk => k_is)
    (case w_kp => k_is)
    (case a0 => k_is)
    (case l0 => k_is)
    (case c0 => k_is)
    (case k0 => k_is)
    (case a1 => k_is)
    (case l1 => k_is)
    (case c1 => k_is)
    (case k1 => k_is)
    (case a2 => k_is)
    (case l2 => k_is)
    (case c2 => k_is)
    (case k2 => k_is)
    (case a3 => k_is)
    (case l3 => k_is)
    (case c3 => k_is)
    (case k3 => k_is)
    (case a4 => k_is)
    (case l4 => k_is)
    (case c4 => k_is)
    (case k4 => k_is)
    (case a5 => k_is)
    (case l5 => k_is)
    (case c5 => k_is)
    (case k5 => k_is)
    (case a6 => k_is)
    (case i6 => k_is)
    (case l6 => k_is)
    (case c6 => k_is)
    (case k6 => k_is)
    (case a7 => k_is)
    (case l7 => k_is)
    (case c7 => k_is)
    (case k7 => k_is)
    (case a8 => k_is)
    (case l8 => k_is)
    (case c8 => k_is)
    (case k8 => k_is)
    (case a9 => k_is)
    (case l9 => k_is)
    (case c9 => k_is)
    (case k9 => k_is)
    (case a10 => k_is)
    (case l10 => k_is)
    (case c10 => k_is)
    (case k10 => k_is)
    (case a11 => k_is)
    (case i11 => k_is)
    (case l11 => k_is)
    (case c11 => k_is)
    (case k11 => k_is)
    (case a12 => k_is)
    (case i12 => k_is)
    (case l12 => k_is)
    (case c12 => k_is)
    (case k12 => k_is)
    (case a13 => k_is)
    (case l13 => k_is)
    (case c13 => k_is)
    (case k13 => k_is)
    (case a14 => k_is)
    (case i14 => k_is)
    (case l14 => k_is)
    (case c14 => k_is)
    (case k14 => k_is)
    (case a15 => k_is)
    (case l15 => k_is)
    (case c15 => k_is)
    (case k15 => k_is)
    (case a16 => k_is)
    (case i16 => k_is)
    (case l16 => k_is)
    (case c16 => k_is)
    (case k16 => k_is)
    (case a17 => k_is)
    (case i17 => k_is)
    (case l17 => k_is)
    (case c17 => k_is)
    (case k17 => k_is)
    (case a18 => k_is)
    (case l18 => k_is)
    (case c18 => k_is)
    (case k18 => k_is)
    (case a19 => k_is)
    (case l19 => k_is)
    (case c19 => k_is)
    (case k19 => k_is)
    (case a20 => k_is)
    (case i20 => k_is)
    (case l20 => k_is)
    (case c20 => k_is)
    (case k20 => k_is)
    (case a21 => k_is)
    (case l21 => k_is)
    (case c21 => k_is)
    (case k21 => k_is)
    (case a22 => k_is)
    (case l22 => k_is)
    (case c22 => k_is)
    (case k22 => k_is)
    (case a23 => k_is)
    (case l23 => k_is)
    (case c23 => k_is)
    (case k23 => k_is)
    (case a24 => k_is)
    (case i24 => k_is)
    (case l24 => k_is)
    (case c24 => k_is)
    (case k24 => k_is)
    (case a25 => k_is)
    (case l25 => k_is)
    (case c25 => k_is)
    (case k25 => k_is)
    (case a26 => k_is)
    (case l26 => k_is)
    (case c26 => k_is)
    (case k26 => k_is)
    (case a27 => k_is)
    (case l27 => k_is)
    (case c27 => k_is)
    (case k27 => k_is)
    (case a28 => k_is)
    (case l28 => k_is)
    (case c28 => k_is)
    (case k28 => k_is)
    (case a29 => k_is)
    (case l29 => k_is)
    (case c29 => k_is)
    (case k29 => k_is)
    (case a30 => k_is)
    (case l30 => k_is)
    (case c30 => k_is)
    (case k30 => k_is)
    (case z_abs => k_is)
    (case z_all => k_is)
    (case z_bool => k_is)
    (case z_int => k_is)
    (case z_isinstance => k_is)
    (case z_len => k_is)
    (case z_list => k_is)
    (case z_range => k_is)
    (case z_str => k_is)
    (case z_tuple => k_is)
    (case q_MAX_NAME => k_is)
    (case q_MOST => k_is)
    (case q_MAX_SIDE => k_is)
    (case q_MAX_VIEWS => k_is)
    (case q_MAX_SHIFT => k_is)
    (case q_MAX_LIGHT => k_is)
    (case q_MAX_LINKS => k_is)
    (case q_MAX_DIGITS => k_is)
