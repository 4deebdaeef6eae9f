import PyProof.Rows.All
import Wide.All
import OpenK.AllK
import Wide.FinOn
import HandS.Base
import HandS.Call
import HandS.List
import HandS.Comp
import HandS.Iter
import HandS.Dict
import HandS.Conv
import HandS.IsInst
import HandS.Words
import HandS.Small
import HandS.Ends
import HandS.Zip
import HandS.NoneIn
import HandS.Style
import KE.GoesMore
import PyProof.ReprBulk
import PyProof.ReprRoads
import KE.KUnpackStar
import PySem.Challenge.RW_ballways_k24_rows_sent_and_brought_back
set_option Elab.async false
set_option linter.all false
set_option maxRecDepth 100000
set_option maxHeartbeats 4000000
/-! Data environments: slots of a frame that hold data (never changed) or owned objects; two heaps, the stable one and the whole. -/
namespace Bd
open PySem PySem.Spec PyProof.Rows L2

/-! ### heaps that grow -/
def Ex (H H' : Hp) : Prop := ∀ a o, H a = some o → H' a = some o
theorem Ex.rfl {H : Hp} : Ex H H := fun _ _ h => h
theorem Ex.trans {H H1 H2 : Hp} (a : Ex H H1) (b : Ex H1 H2) : Ex H H2 := fun x o h => b x o (a x o h)
theorem Ex.new {H : Hp} {p : Addr} {o : HO} (h : H p = none) : Ex H (upd H p o) := fun a u e => by
  rw [upd_ne (ne_of_none e h)]; exact e
theorem Ex.both {S H : Hp} {p : Addr} {o : HO} (e : Ex S H) : Ex (upd S p o) (upd H p o) := fun a u h => by
  by_cases ha : a = p
  · subst ha; rw [upd_same] at h ⊢; exact h
  · rw [upd_ne ha] at h ⊢; exact e a u h
theorem Ex.wr {S H : Hp} {p : Addr} {o : HO} (e : Ex S H) (h : S p = none) : Ex S (upd H p o) := fun a u h' => by
  rw [upd_ne (ne_of_none h' h)]; exact e a u h'
theorem Ex.back {H H' : Hp} {p : Addr} (e : Ex H H') (h : H' p = none) : H p = none := by
  cases h1 : H p with
  | none => rfl
  | some o => rw [e p o h1] at h; cases h
theorem ex_rd {H H' : Hp} {a : Addr} {u : HO} (e : Ex H H') (h : Rd H a u) : Rd H' a u := by
  rcases h with h | ⟨o, h⟩
  · exact .inl (e a _ h)
  · exact .inr ⟨o, e a _ h⟩
theorem ex_l {K : PySem.W.Frag} {H H' : Hp} {a : Addr} {xs : List V} (e : Ex H H') (h : SqL K H a xs) : SqL K H' a xs := by
  rcases h with h | h
  · exact .inl (ex_rd e h)
  · exact .inr h
theorem ex_t {K : PySem.W.Frag} {H H' : Hp} {a : Addr} {xs : List V} (e : Ex H H') (h : SqT K H a xs) : SqT K H' a xs := by
  rcases h with h | h
  · exact .inl (ex_rd e h)
  · exact .inr h
theorem sl_of {K : PySem.W.Frag} {H : Hp} {a : Addr} {xs : List V} (h : H a = some (.lst xs)) : SqL K H a xs := .inl (.inl h)
theorem st_of {K : PySem.W.Frag} {H : Hp} {a : Addr} {xs : List V} (h : H a = some (.tup xs)) : SqT K H a xs := .inl (.inl h)

/-! ### data: nothing but tracked lists and tuples -/
mutual
inductive Dt (H : Hp) : V → PyData → Prop
  | non : Dt H V.non PyData.none
  | bl (b : Bool) : Dt H (V.bl b) (PyData.bool b)
  | int (i : Int) : Dt H (V.int i) (PyData.int i)
  | str (x : Str) : Dt H (V.str x) (PyData.str x)
  | lst {a : Addr} {xs : List V} {ds : List PyData} : H a = some (HO.lst xs) → DtAll H xs ds → Dt H (V.ref a) (PyData.list ds)
  | tup {a : Addr} {xs : List V} {ds : List PyData} : H a = some (HO.tup xs) → DtAll H xs ds → Dt H (V.ref a) (PyData.tuple ds)
inductive DtAll (H : Hp) : List V → List PyData → Prop
  | nil : DtAll H [] []
  | cons {v : V} {vs : List V} {d : PyData} {ds : List PyData} : Dt H v d → DtAll H vs ds → DtAll H (v :: vs) (d :: ds)
end
mutual
theorem dp_ex {H H' : Hp} (e : Ex H H') : ∀ (d : PyData) (v : V), Dt H v d → Dt H' v d
  | .none, _, h => by cases h; exact .non
  | .bool b, _, h => by cases h; exact .bl b
  | .int i, _, h => by cases h; exact .int i
  | .str x, _, h => by cases h; exact .str x
  | .list ds, _, h => by
    cases h with
    | lst hs ha => exact .lst (e _ _ hs) (dp_exs e ds _ ha)
  | .tuple ds, _, h => by
    cases h with
    | tup hs ha => exact .tup (e _ _ hs) (dp_exs e ds _ ha)
  | .dict _, _, h => by cases h
theorem dp_exs {H H' : Hp} (e : Ex H H') : ∀ (ds : List PyData) (vs : List V), DtAll H vs ds → DtAll H' vs ds
  | [], _, h => by cases h; exact .nil
  | d :: ds, _, h => by
    cases h with
    | cons h1 h2 => exact .cons (dp_ex e d _ h1) (dp_exs e ds _ h2)
end
mutual
theorem dt_dp {K : PySem.W.Frag} {H : Hp} : ∀ (d : PyData) (v : V), Dt H v d → Dp K H v d
  | .none, _, h => by cases h; exact .non
  | .bool b, _, h => by cases h; exact .bl b
  | .int i, _, h => by cases h; exact .int i
  | .str x, _, h => by cases h; exact .str x
  | .list ds, _, h => by
    cases h with
    | lst hs ha => exact .lst (sl_of hs) (dt_dps ds _ ha)
  | .tuple ds, _, h => by
    cases h with
    | tup hs ha => exact .tup (st_of hs) (dt_dps ds _ ha)
  | .dict _, _, h => by cases h
theorem dt_dps {K : PySem.W.Frag} {H : Hp} : ∀ (ds : List PyData) (vs : List V), DtAll H vs ds → DpAll K H vs ds
  | [], _, h => by cases h; exact .nil
  | d :: ds, _, h => by
    cases h with
    | cons h1 h2 => exact .cons (dt_dp d _ h1) (dt_dps ds _ h2)
end
section
variable {H H' : Hp}
theorem da_len : ∀ {vs : List V} {ds : List PyData}, DtAll H vs ds → vs.length = ds.length
  | _, _, .nil => rfl
  | _, _, .cons _ t => congrArg (· + 1) (da_len t)
theorem da_get : ∀ {vs : List V} {ds : List PyData} {i : Nat} {d : PyData}, DtAll H vs ds → ds[i]? = some d → ∃ v, vs[i]? = some v ∧ Dt H v d
  | _, _, _, _, .nil, e => by simp at e
  | _, _, 0, _, .cons h _, e => by simp at e; subst e; exact ⟨_, rfl, h⟩
  | _, _, i + 1, d, .cons _ t, e => by
    obtain ⟨v, h1, h2⟩ := da_get (i := i) (d := d) t (by simpa using e)
    exact ⟨v, by simpa using h1, h2⟩
theorem da_getV : ∀ {vs : List V} {ds : List PyData} {i : Nat} {v : V}, DtAll H vs ds → vs[i]? = some v → ∃ d, ds[i]? = some d ∧ Dt H v d
  | _, _, _, _, .nil, e => by simp at e
  | _, _, 0, _, .cons h _, e => by simp at e; subst e; exact ⟨_, rfl, h⟩
  | _, _, i + 1, v, .cons _ t, e => by
    obtain ⟨d, h1, h2⟩ := da_getV (i := i) (v := v) t (by simpa using e)
    exact ⟨d, by simpa using h1, h2⟩
theorem da_app : ∀ {vs us : List V} {ds es : List PyData}, DtAll H vs ds → DtAll H us es → DtAll H (vs ++ us) (ds ++ es)
  | _, _, _, _, .nil, h => h
  | _, _, _, _, .cons a b, h => .cons a (da_app b h)
theorem da_take : ∀ {vs : List V} {ds : List PyData} (n : Nat), DtAll H vs ds → DtAll H (vs.take n) (ds.take n)
  | _, _, 0, _ => .nil
  | _, _, _ + 1, .nil => .nil
  | _, _, n + 1, .cons a b => .cons a (da_take n b)
theorem da_drop : ∀ {vs : List V} {ds : List PyData} (n : Nat), DtAll H vs ds → DtAll H (vs.drop n) (ds.drop n)
  | _, _, 0, h => h
  | _, _, _ + 1, .nil => .nil
  | _, _, n + 1, .cons _ b => da_drop n b
theorem da_erase : ∀ {vs : List V} {ds : List PyData} (i : Nat), DtAll H vs ds → DtAll H (vs.eraseIdx i) (ds.eraseIdx i)
  | _, _, _, .nil => .nil
  | _, _, 0, .cons _ t => t
  | _, _, i + 1, .cons a t => .cons a (da_erase i t)
theorem da_set : ∀ {vs : List V} {ds : List PyData} {v : V} {d : PyData} (i : Nat), DtAll H vs ds → Dt H v d → DtAll H (vs.set i v) (ds.set i d)
  | _, _, _, _, _, .nil, _ => .nil
  | _, _, _, _, 0, .cons _ t, h => .cons h t
  | _, _, _, _, i + 1, .cons a t, h => .cons a (da_set i t h)
theorem da_rev {vs : List V} {ds : List PyData} (h : DtAll H vs ds) : DtAll H vs.reverse ds.reverse := by
  induction vs generalizing ds with
  | nil => cases h; exact .nil
  | cons v vs ih =>
    cases h with
    | cons a b =>
      rw [List.reverse_cons, List.reverse_cons]
      exact da_app (ih b) (.cons a .nil)
theorem da_ints : ∀ (ns : List Int), DtAll H (ns.map V.int) (ns.map PyData.int)
  | [] => .nil
  | n :: ns => .cons (.int n) (da_ints ns)
theorem da_ints_inv : ∀ {vs : List V} (ns : List Int), DtAll H vs (ns.map PyData.int) → vs = ns.map V.int
  | _, [], h => by cases h; rfl
  | _, n :: ns, h => by
    cases h with
    | cons a b =>
      cases a
      rw [da_ints_inv ns b]; rfl
theorem da_bls_inv : ∀ {vs : List V} (ns : List Bool), DtAll H vs (ns.map PyData.bool) → vs = ns.map V.bl
  | _, [], h => by cases h; rfl
  | _, n :: ns, h => by
    cases h with
    | cons a b =>
      cases a
      rw [da_bls_inv ns b]; rfl
theorem da_rep {vs : List V} {ds : List PyData} (h : DtAll H vs ds) : ∀ k : Nat, DtAll H (List.replicate k vs).flatten (List.replicate k ds).flatten
  | 0 => .nil
  | k + 1 => by
    rw [List.replicate_succ, List.replicate_succ, List.flatten_cons, List.flatten_cons]
    exact da_app h (da_rep h k)
end

/-- the stable heap and the whole heap both grow; nothing that stood unstable becomes stable -/
structure Grow (S H S' H' : Hp) : Prop where
  ss : Ex S S'
  sh : Ex S' H'
  hh : Ex H H'
  fr : ∀ a, H a ≠ none → S a = none → S' a = none
theorem Grow.rfl {S H : Hp} (h : Ex S H) : Grow S H S H := ⟨Ex.rfl, h, Ex.rfl, fun _ _ h => h⟩
theorem Grow.trans {S H S1 H1 S2 H2 : Hp} (a : Grow S H S1 H1) (b : Grow S1 H1 S2 H2) : Grow S H S2 H2 :=
  ⟨a.ss.trans b.ss, b.sh, a.hh.trans b.hh, fun x h1 h2 => b.fr x (fun e => h1 (a.hh.back e)) (a.fr x h1 h2)⟩
/-- a new object, stable -/
theorem Grow.new {S H : Hp} {p : Addr} {o : HO} (h : Ex S H) (n : H p = none) : Grow S H (upd S p o) (upd H p o) :=
  ⟨Ex.new (h.back n), h.both, Ex.new n, fun a h1 h2 => by
    by_cases ha : a = p
    · subst ha; exact absurd n h1
    · rw [upd_ne ha]; exact h2⟩
/-- a new object, not (yet) stable -/
theorem Grow.own {S H : Hp} {p : Addr} {o : HO} (h : Ex S H) (n : H p = none) : Grow S H S (upd H p o) :=
  ⟨Ex.rfl, h.wr (h.back n), Ex.new n, fun _ _ h => h⟩

/-! ### environments -/
/-- an owned object: a new list of data; a list that was handed in; a box of draws [n, x, c], c at most N, handed in or new; a dict whose keys are tuples of ints and texts -/
inductive Own
  | l (xs : List PyData)
  | p (xs : List PyData)
  | b (N : Nat)
  | c (N : Nat)
  | m (kvs : List (List Key × PyData))
inductive Cell
  | u
  | d (x : PyData)
  | o (C : Own)
  | s (ns : List Int)
  | v (w : V)

def BoxO (N : Nat) (o : HO) : Prop := ∃ n x c : Int, o = .lst [.int n, .int x, .int c] ∧ 0 ≤ n ∧ 0 ≤ x ∧ x < 2147483647 ∧ 0 ≤ c ∧ c ≤ (N : Int)
inductive KvAll (H : Hp) : List (List Key × V) → List (List Key × PyData) → Prop
  | nil : KvAll H [] []
  | cons {k : List Key} {v : V} {d : PyData} {xs : List (List Key × V)} {ys : List (List Key × PyData)} : Dt H v d → KvAll H xs ys → KvAll H ((k, v) :: xs) ((k, d) :: ys)
theorem KvAll.ex {H H' : Hp} (e : Ex H H') : ∀ {xs : List (List Key × V)} {ys : List (List Key × PyData)}, KvAll H xs ys → KvAll H' xs ys
  | _, _, .nil => .nil
  | _, _, .cons h t => .cons (dp_ex e _ _ h) (KvAll.ex e t)
def OwnOk (S : Hp) : Own → HO → Prop
  | .l xs, o => ∃ vs, o = .lst vs ∧ DtAll S vs xs
  | .p xs, o => ∃ vs, o = .lst vs ∧ DtAll S vs xs
  | .b N, o => BoxO N o
  | .c N, o => BoxO N o
  | .m kvs, o => ∃ xs, o = .dT xs ∧ KvAll S xs kvs
theorem OwnOk.ex {S S' : Hp} (e : Ex S S') : ∀ {C : Own} {o : HO}, OwnOk S C o → OwnOk S' C o
  | .l xs, o, ⟨vs, h1, h2⟩ => ⟨vs, h1, dp_exs e _ _ h2⟩
  | .p xs, o, ⟨vs, h1, h2⟩ => ⟨vs, h1, dp_exs e _ _ h2⟩
  | .b N, o, h => h
  | .c N, o, h => h
  | .m kvs, o, ⟨xs, h1, h2⟩ => ⟨xs, h1, h2.ex e⟩

/-- where a body began: its stable heap, its heap, what it may change of it -/
structure Bs where
  K : PySem.W.Frag
  S0 : Hp
  H0 : Hp
  mu : Addr → Prop
def ownAt (β : Bs) : Own → Addr → Prop
  | .b _, p => β.mu p
  | .p _, p => β.mu p
  | _, p => β.H0 p = none

structure Env (β : Bs) (S H : Hp) (σ : L2.St) (ρ : List Cell) : Prop where
  sh : Ex S H
  ss : Ex β.S0 S
  keep : ∀ a o, ¬ β.mu a → β.H0 a = some o → H a = some o
  fr : ∀ a, β.H0 a ≠ none → H a ≠ none ∧ (β.S0 a = none → S a = none)
  len : σ.length = ρ.length
  dat : ∀ (i : Nat) (x : PyData), ρ[i]? = some (Cell.d x) → ∃ v, σ[i]? = some (some v) ∧ Dt S v x
  scr : ∀ (i : Nat) (ns : List Int), ρ[i]? = some (Cell.s ns) → ∃ a, σ[i]? = some (some (V.ref a)) ∧ SqL β.K S a (ns.map V.int)
  own : ∀ (i : Nat) (C : Own), ρ[i]? = some (Cell.o C) → ∃ p o, σ[i]? = some (some (V.ref p)) ∧ H p = some o ∧ OwnOk S C o ∧ S p = none ∧ ownAt β C p
  apart : ∀ (i j : Nat) (C C' : Own) (p : Addr), i ≠ j → ρ[i]? = some (Cell.o C) → ρ[j]? = some (Cell.o C') → σ[i]? = some (some (V.ref p)) → σ[j]? = some (some (V.ref p)) → False
  val : ∀ (i : Nat) (w : V), ρ[i]? = some (Cell.v w) → σ[i]? = some (some w)

section
variable {β : Bs} {S H S' H' : Hp} {σ : L2.St} {ρ : List Cell}
theorem Env.grow (E : Env β S H σ ρ) (g : Grow S H S' H') : Env β S' H' σ ρ where
  sh := g.sh
  ss := E.ss.trans g.ss
  keep := fun a o h e => g.hh a o (E.keep a o h e)
  fr := fun a h1 => ⟨fun z => (E.fr a h1).1 (g.hh.back z), fun h2 => g.fr a (E.fr a h1).1 ((E.fr a h1).2 h2)⟩
  len := E.len
  dat := fun i x h => by
    obtain ⟨v, h1, h2⟩ := E.dat i x h
    exact ⟨v, h1, dp_ex g.ss _ _ h2⟩
  scr := fun i ns h => by
    obtain ⟨a, h1, h2⟩ := E.scr i ns h
    exact ⟨a, h1, ex_l g.ss h2⟩
  own := fun i C h => by
    obtain ⟨p, o, h1, h2, h3, h4, h5⟩ := E.own i C h
    exact ⟨p, o, h1, g.hh p o h2, h3.ex g.ss, g.fr p (by rw [h2]; simp) h4, h5⟩
  apart := E.apart
  val := E.val
theorem set_get {α : Type} {l : List α} {i j : Nat} {x y : α} (h : (l.set i x)[j]? = some y) : (j = i ∧ x = y ∧ i < l.length) ∨ (j ≠ i ∧ l[j]? = some y) := by
  by_cases hj : j = i
  · subst hj
    by_cases hl : j < l.length
    · rw [List.getElem?_set_self hl] at h
      exact .inl ⟨rfl, Option.some.inj h, hl⟩
    · rw [List.getElem?_eq_none (by simpa using hl)] at h; cases h
  · rw [List.getElem?_set_ne (Ne.symm hj)] at h
    exact .inr ⟨hj, h⟩
/-- a slot gets data -/
theorem Env.setD (E : Env β S H σ ρ) {i : Nat} {v : V} {x : PyData} (h : Dt S v x) : Env β S H (σ.set i (some v)) (ρ.set i (Cell.d x)) where
  sh := E.sh
  ss := E.ss
  keep := E.keep
  fr := E.fr
  len := by simp [E.len]
  dat := fun j y e => by
    rcases set_get e with ⟨rfl, e2, hl⟩ | ⟨ne, e2⟩
    · cases e2
      exact ⟨v, by rw [List.getElem?_set_self (by rw [E.len]; exact hl)], h⟩
    · obtain ⟨u, h1, h2⟩ := E.dat j y e2
      exact ⟨u, by rw [List.getElem?_set_ne (Ne.symm ne)]; exact h1, h2⟩
  scr := fun j y e => by
    rcases set_get e with ⟨rfl, e2, hl⟩ | ⟨ne, e2⟩
    · cases e2
    · obtain ⟨u, h1, h2⟩ := E.scr j y e2
      exact ⟨u, by rw [List.getElem?_set_ne (Ne.symm ne)]; exact h1, h2⟩
  own := fun j C e => by
    rcases set_get e with ⟨rfl, e2, hl⟩ | ⟨ne, e2⟩
    · cases e2
    · obtain ⟨p, o, h1, r⟩ := E.own j C e2
      exact ⟨p, o, by rw [List.getElem?_set_ne (Ne.symm ne)]; exact h1, r⟩
  apart := fun j k C C' p hne e1 e2 s1 s2 => by
    rcases set_get e1 with ⟨rfl, z, _⟩ | ⟨n1, e1⟩
    · cases z
    rcases set_get e2 with ⟨rfl, z, _⟩ | ⟨n2, e2⟩
    · cases z
    rw [List.getElem?_set_ne (Ne.symm n1)] at s1
    rw [List.getElem?_set_ne (Ne.symm n2)] at s2
    exact E.apart j k C C' p hne e1 e2 s1 s2
  val := fun j w e => by
    rcases set_get e with ⟨rfl, e2, _⟩ | ⟨ne, e2⟩
    · cases e2
    · rw [List.getElem?_set_ne (Ne.symm ne)]; exact E.val j w e2
/-- a slot is forgotten -/
theorem Env.setU (E : Env β S H σ ρ) {i : Nat} (v : Option V) : Env β S H (σ.set i v) (ρ.set i Cell.u) where
  sh := E.sh
  ss := E.ss
  keep := E.keep
  fr := E.fr
  len := by simp [E.len]
  dat := fun j y e => by
    rcases set_get e with ⟨rfl, e2, hl⟩ | ⟨ne, e2⟩
    · cases e2
    · obtain ⟨u, h1, h2⟩ := E.dat j y e2
      exact ⟨u, by rw [List.getElem?_set_ne (Ne.symm ne)]; exact h1, h2⟩
  scr := fun j y e => by
    rcases set_get e with ⟨rfl, e2, hl⟩ | ⟨ne, e2⟩
    · cases e2
    · obtain ⟨u, h1, h2⟩ := E.scr j y e2
      exact ⟨u, by rw [List.getElem?_set_ne (Ne.symm ne)]; exact h1, h2⟩
  own := fun j C e => by
    rcases set_get e with ⟨rfl, e2, hl⟩ | ⟨ne, e2⟩
    · cases e2
    · obtain ⟨p, o, h1, r⟩ := E.own j C e2
      exact ⟨p, o, by rw [List.getElem?_set_ne (Ne.symm ne)]; exact h1, r⟩
  apart := fun j k C C' p hne e1 e2 s1 s2 => by
    rcases set_get e1 with ⟨rfl, z, _⟩ | ⟨n1, e1⟩
    · cases z
    rcases set_get e2 with ⟨rfl, z, _⟩ | ⟨n2, e2⟩
    · cases z
    rw [List.getElem?_set_ne (Ne.symm n1)] at s1
    rw [List.getElem?_set_ne (Ne.symm n2)] at s2
    exact E.apart j k C C' p hne e1 e2 s1 s2
  val := fun j w e => by
    rcases set_get e with ⟨rfl, e2, _⟩ | ⟨ne, e2⟩
    · cases e2
    · rw [List.getElem?_set_ne (Ne.symm ne)]; exact E.val j w e2
/-- forgetting without a store -/
theorem Env.drop (E : Env β S H σ ρ) {i : Nat} : Env β S H σ (ρ.set i Cell.u) where
  sh := E.sh
  ss := E.ss
  keep := E.keep
  fr := E.fr
  len := by simp [E.len]
  dat := fun j y e => by
    rcases set_get e with ⟨rfl, e2, hl⟩ | ⟨ne, e2⟩
    · cases e2
    · exact E.dat j y e2
  scr := fun j y e => by
    rcases set_get e with ⟨rfl, e2, hl⟩ | ⟨ne, e2⟩
    · cases e2
    · exact E.scr j y e2
  own := fun j C e => by
    rcases set_get e with ⟨rfl, e2, hl⟩ | ⟨ne, e2⟩
    · cases e2
    · exact E.own j C e2
  apart := fun j k C C' p hne e1 e2 s1 s2 => by
    rcases set_get e1 with ⟨rfl, z, _⟩ | ⟨n1, e1⟩
    · cases z
    rcases set_get e2 with ⟨rfl, z, _⟩ | ⟨n2, e2⟩
    · cases z
    exact E.apart j k C C' p hne e1 e2 s1 s2
  val := fun j w e => by
    rcases set_get e with ⟨rfl, e2, _⟩ | ⟨ne, e2⟩
    · cases e2
    · exact E.val j w e2
/-- a slot gets an owned object that no other slot owns -/
theorem Env.setO (E : Env β S H σ ρ) {i : Nat} {p : Addr} {o : HO} {C : Own} (hp : H p = some o) (hc : OwnOk S C o) (hs : S p = none) (ha : ownAt β C p)
    (hn : ∀ (j : Nat) (C' : Own), j ≠ i → ρ[j]? = some (Cell.o C') → σ[j]? ≠ some (some (V.ref p))) : Env β S H (σ.set i (some (V.ref p))) (ρ.set i (Cell.o C)) where
  sh := E.sh
  ss := E.ss
  keep := E.keep
  fr := E.fr
  len := by simp [E.len]
  dat := fun j y e => by
    rcases set_get e with ⟨rfl, e2, hl⟩ | ⟨ne, e2⟩
    · cases e2
    · obtain ⟨u, h1, h2⟩ := E.dat j y e2
      exact ⟨u, by rw [List.getElem?_set_ne (Ne.symm ne)]; exact h1, h2⟩
  scr := fun j y e => by
    rcases set_get e with ⟨rfl, e2, hl⟩ | ⟨ne, e2⟩
    · cases e2
    · obtain ⟨u, h1, h2⟩ := E.scr j y e2
      exact ⟨u, by rw [List.getElem?_set_ne (Ne.symm ne)]; exact h1, h2⟩
  own := fun j C' e => by
    rcases set_get e with ⟨rfl, e2, hl⟩ | ⟨ne, e2⟩
    · cases e2
      exact ⟨p, o, by rw [List.getElem?_set_self (by rw [E.len]; exact hl)], hp, hc, hs, ha⟩
    · obtain ⟨q, o', h1, r⟩ := E.own j C' e2
      exact ⟨q, o', by rw [List.getElem?_set_ne (Ne.symm ne)]; exact h1, r⟩
  apart := fun j k C1 C2 q hne e1 e2 s1 s2 => by
    rcases set_get e1 with ⟨hj, _, hl⟩ | ⟨n1, f1⟩
    · rcases set_get e2 with ⟨hk, _, _⟩ | ⟨n2, f2⟩
      · exact hne (hj.trans hk.symm)
      rw [hj, List.getElem?_set_self (by rw [E.len]; exact hl)] at s1
      have s1 : V.ref p = V.ref q := Option.some.inj (Option.some.inj s1)
      cases s1
      rw [List.getElem?_set_ne (Ne.symm n2)] at s2
      exact hn k C2 n2 f2 s2
    · rcases set_get e2 with ⟨hk, _, hl⟩ | ⟨n2, f2⟩
      · rw [hk, List.getElem?_set_self (by rw [E.len]; exact hl)] at s2
        have s2 : V.ref p = V.ref q := Option.some.inj (Option.some.inj s2)
        cases s2
        rw [List.getElem?_set_ne (Ne.symm n1)] at s1
        exact hn j C1 n1 f1 s1
      · rw [List.getElem?_set_ne (Ne.symm n1)] at s1
        rw [List.getElem?_set_ne (Ne.symm n2)] at s2
        exact E.apart j k C1 C2 q hne f1 f2 s1 s2
  val := fun j w e => by
    rcases set_get e with ⟨rfl, e2, _⟩ | ⟨ne, e2⟩
    · cases e2
    · rw [List.getElem?_set_ne (Ne.symm ne)]; exact E.val j w e2
/-- the owned object of a slot is written -/
theorem Env.updO (E : Env β S H σ ρ) {i : Nat} {p : Addr} {o' : HO} {C C' : Own} (hi : ρ[i]? = some (Cell.o C)) (hp : σ[i]? = some (some (V.ref p))) (hc : OwnOk S C' o') (ha : ownAt β C' p) :
    Env β S (upd H p o') σ (ρ.set i (Cell.o C')) := by
  obtain ⟨p', o, h1, h2, h3, h4, h5⟩ := E.own i C hi
  rw [hp] at h1
  have e1 : V.ref p = V.ref p' := Option.some.inj (Option.some.inj h1)
  cases e1
  have hil : i < ρ.length := (List.getElem?_eq_some_iff.mp hi).1
  refine ⟨E.sh.wr h4, E.ss, fun a o hm e => ?_, fun a h => ⟨?_, (E.fr a h).2⟩, by simp [E.len], fun j y e => ?_, fun j y e => ?_, fun j C1 e => ?_, fun j k C1 C2 q hne e1 e2 s1 s2 => ?_, fun j w e => ?_⟩
  · by_cases hap : a = p
    · subst hap
      have : β.H0 a = none := by
        cases C with
        | l xs => exact h5
        | p xs => exact absurd h5 hm
        | b N => exact absurd h5 hm
        | c N => exact h5
        | m kvs => exact h5
      rw [this] at e; cases e
    · rw [upd_ne hap]; exact E.keep a o hm e
  · by_cases hap : a = p
    · subst hap; rw [upd_same]; simp
    · rw [upd_ne hap]; exact (E.fr a h).1
  · rcases set_get e with ⟨rfl, e2, hl⟩ | ⟨ne, e2⟩
    · cases e2
    · exact E.dat j y e2
  · rcases set_get e with ⟨rfl, e2, hl⟩ | ⟨ne, e2⟩
    · cases e2
    · exact E.scr j y e2
  · rcases set_get e with ⟨rfl, e2, hl⟩ | ⟨ne, e2⟩
    · cases e2
      exact ⟨p, o', hp, upd_same, hc, h4, ha⟩
    · obtain ⟨q, oq, q1, q2, q3, q4, q5⟩ := E.own j C1 e2
      have hq : q ≠ p := fun z => by
        subst z
        exact E.apart j i C1 C q ne e2 hi q1 hp
      exact ⟨q, oq, q1, by rw [upd_ne hq]; exact q2, q3, q4, q5⟩
  · have f : ∀ (m : Nat) (D : Own), (ρ.set i (Cell.o C'))[m]? = some (Cell.o D) → ∃ D', ρ[m]? = some (Cell.o D') := fun m D e => by
      rcases set_get e with ⟨rfl, _, _⟩ | ⟨_, e2⟩
      · exact ⟨C, hi⟩
      · exact ⟨D, e2⟩
    obtain ⟨D1, f1⟩ := f j C1 e1
    obtain ⟨D2, f2⟩ := f k C2 e2
    exact E.apart j k D1 D2 q hne f1 f2 s1 s2
  · rcases set_get e with ⟨_, e2, _⟩ | ⟨ne, e2⟩
    · cases e2
    · exact E.val j w e2
/-- an owned list becomes data -/
theorem Env.freeze (E : Env β S H σ ρ) {i : Nat} {xs : List PyData} (hi : ρ[i]? = some (Cell.o (.l xs))) :
    ∃ S', Ex S S' ∧ Env β S' H σ (ρ.set i (Cell.d (.list xs))) := by
  obtain ⟨p, o, h1, h2, ⟨vs, rfl, h3⟩, h4, h5⟩ := E.own i _ hi
  have h5 : β.H0 p = none := h5
  have eS : Ex S (upd S p (.lst vs)) := Ex.new h4
  have eH : Ex (upd S p (.lst vs)) H := fun a u e => by
    by_cases ha : a = p
    · subst ha; rw [upd_same] at e; rw [h2]; exact e
    · rw [upd_ne ha] at e; exact E.sh a u e
  refine ⟨upd S p (.lst vs), eS, eH, E.ss.trans eS, E.keep, fun a h => ⟨(E.fr a h).1, fun z => ?_⟩, by simp [E.len], fun j y e => ?_, fun j y e => ?_, fun j C1 e => ?_, fun j k C1 C2 q hne e1 e2 s1 s2 => ?_, fun j w e => ?_⟩
  · rw [upd_ne (fun e => h (by rw [e]; exact h5))]; exact (E.fr a h).2 z
  · rcases set_get e with ⟨hj, e2, hl⟩ | ⟨ne, e2⟩
    · cases e2
      exact ⟨V.ref p, by rw [hj]; exact h1, .lst upd_same (dp_exs eS _ _ h3)⟩
    · obtain ⟨u, u1, u2⟩ := E.dat j y e2
      exact ⟨u, u1, dp_ex eS _ _ u2⟩
  · rcases set_get e with ⟨rfl, e2, hl⟩ | ⟨ne, e2⟩
    · cases e2
    · obtain ⟨u, u1, u2⟩ := E.scr j y e2
      exact ⟨u, u1, ex_l eS u2⟩
  · rcases set_get e with ⟨hj, e2, hl⟩ | ⟨ne, e2⟩
    · cases e2
    · obtain ⟨q, oq, q1, q2, q3, q4, q5⟩ := E.own j C1 e2
      have hq : q ≠ p := fun z => by
        subst z
        exact E.apart j i C1 _ q ne e2 hi q1 h1
      exact ⟨q, oq, q1, q2, q3.ex eS, by rw [upd_ne hq]; exact q4, q5⟩
  · rcases set_get e1 with ⟨_, z, _⟩ | ⟨_, f1⟩
    · cases z
    rcases set_get e2 with ⟨_, z, _⟩ | ⟨_, f2⟩
    · cases z
    exact E.apart j k C1 C2 q hne f1 f2 s1 s2
  · rcases set_get e with ⟨_, e2, _⟩ | ⟨ne, e2⟩
    · cases e2
    · exact E.val j w e2
/-- an owned object told otherwise -/
theorem Env.retell (E : Env β S H σ ρ) {i : Nat} {C C' : Own} (hi : ρ[i]? = some (Cell.o C)) (h : ∀ p o, σ[i]? = some (some (V.ref p)) → H p = some o → OwnOk S C o → OwnOk S C' o) (ha : ∀ p, ownAt β C p → ownAt β C' p) : Env β S H σ (ρ.set i (Cell.o C')) where
  sh := E.sh
  ss := E.ss
  keep := E.keep
  fr := E.fr
  len := by simp [E.len]
  dat := fun j y e => by
    rcases set_get e with ⟨rfl, e2, hl⟩ | ⟨ne, e2⟩
    · cases e2
    · exact E.dat j y e2
  scr := fun j y e => by
    rcases set_get e with ⟨rfl, e2, hl⟩ | ⟨ne, e2⟩
    · cases e2
    · exact E.scr j y e2
  own := fun j C1 e => by
    rcases set_get e with ⟨rfl, e2, hl⟩ | ⟨ne, e2⟩
    · cases e2
      obtain ⟨p, o, h1, h2, h3, h4, h5⟩ := E.own j C hi
      exact ⟨p, o, h1, h2, h p o h1 h2 h3, h4, ha p h5⟩
    · exact E.own j C1 e2
  apart := fun j k C1 C2 q hne e1 e2 s1 s2 => by
    have f : ∀ (m : Nat) (D : Own), (ρ.set i (Cell.o C'))[m]? = some (Cell.o D) → ∃ D', ρ[m]? = some (Cell.o D') := fun m D e => by
      rcases set_get e with ⟨rfl, _, _⟩ | ⟨_, e2⟩
      · exact ⟨C, hi⟩
      · exact ⟨D, e2⟩
    obtain ⟨D1, f1⟩ := f j C1 e1
    obtain ⟨D2, f2⟩ := f k C2 e2
    exact E.apart j k D1 D2 q hne f1 f2 s1 s2
  val := fun j w e => by
    rcases set_get e with ⟨rfl, e2, _⟩ | ⟨ne, e2⟩
    · cases e2
    · exact E.val j w e2
/-- what is new is owned by nobody -/
theorem Env.new (E : Env β S H σ ρ) {p : Addr} (n : H p = none) : β.H0 p = none ∧ S p = none ∧ ∀ (j : Nat) (C : Own), ρ[j]? = some (Cell.o C) → σ[j]? ≠ some (some (V.ref p)) := by
  refine ⟨?_, E.sh.back n, fun j C h1 h2 => ?_⟩
  · cases q : β.H0 p with
    | none => rfl
    | some u => exact absurd n (E.fr p (by rw [q]; simp)).1
  · obtain ⟨q, o, e1, e2, _⟩ := E.own j C h1
    rw [h2] at e1
    have e1 : V.ref p = V.ref q := Option.some.inj (Option.some.inj e1)
    cases e1
    rw [n] at e2; cases e2
end

/-! ### wiped slots -/
def wipeC (ρ : List Cell) : List Nat → List Cell
  | [] => ρ
  | v :: vs => (wipeC ρ vs).set v Cell.u
theorem Env.wipe {β : Bs} {S H : Hp} {σ : L2.St} {ρ : List Cell} (E : Env β S H σ ρ) : ∀ vs : List Nat, Env β S H (L2.wipe σ vs) (wipeC ρ vs)
  | [] => E
  | v :: vs => (E.wipe vs).setU none
theorem wipe_set {σ : L2.St} {x : Option V} : ∀ {vs : List Nat} {i : Nat}, i ∈ vs → L2.wipe (σ.set i x) vs = L2.wipe σ vs
  | v :: vs, i, h => by
    by_cases hi : i ∈ vs
    · show (L2.wipe (σ.set i x) vs).set v none = (L2.wipe σ vs).set v none
      rw [wipe_set hi]
    · have e : i = v := by
        rcases List.mem_cons.mp h with h | h
        · exact h
        · exact absurd h hi
      subst e
      show (L2.wipe (σ.set i x) vs).set i none = (L2.wipe σ vs).set i none
      rw [wipe_out hi, List.set_set]
where
  wipe_out {σ : L2.St} {x : Option V} : ∀ {vs : List Nat} {i : Nat}, i ∉ vs → L2.wipe (σ.set i x) vs = (L2.wipe σ vs).set i x
    | [], _, _ => rfl
    | v :: vs, i, h => by
      have h1 : i ≠ v := fun e => h (e ▸ List.mem_cons_self)
      have h2 : i ∉ vs := fun e => h (List.mem_cons_of_mem _ e)
      show (L2.wipe (σ.set i x) vs).set v none = ((L2.wipe σ vs).set v none).set i x
      rw [wipe_out h2, List.set_comm _ _ h1]
theorem wipe_wipe {σ : L2.St} {x : Option V} {vs : List Nat} {i : Nat} (h : i ∈ vs) : L2.wipe ((L2.wipe σ vs).set i x) vs = L2.wipe σ vs := by
  rw [wipe_set h]
  exact idem σ vs
where
  nones (σ : L2.St) : ∀ (vs : List Nat) (i : Nat), i ∈ vs → (L2.wipe σ vs).set i none = L2.wipe σ vs
    | v :: vs, i, h => by
      by_cases e : i = v
      · subst e
        show ((L2.wipe σ vs).set i none).set i none = _
        rw [List.set_set]; rfl
      · have hi : i ∈ vs := (List.mem_cons.mp h).elim (fun z => absurd z e) id
        show ((L2.wipe σ vs).set v none).set i none = (L2.wipe σ vs).set v none
        rw [List.set_comm _ _ (Ne.symm e), nones σ vs i hi]
  idem (σ : L2.St) (ws : List Nat) : L2.wipe (L2.wipe σ ws) ws = L2.wipe σ ws := go σ ws ws (fun _ h => h)
  go (σ : L2.St) (ws : List Nat) : ∀ vs : List Nat, (∀ i ∈ vs, i ∈ ws) → L2.wipe (L2.wipe σ ws) vs = L2.wipe σ ws
    | [], _ => rfl
    | v :: vs, h => by
      show (L2.wipe (L2.wipe σ ws) vs).set v none = _
      rw [go σ ws vs fun i hi => h i (List.mem_cons_of_mem _ hi)]
      exact nones σ ws v (h v List.mem_cons_self)
end Bd
/-! What code does over data environments: contexts, the weakest readings, expressions. -/
namespace Bd
open PySem PySem.Spec PyProof.Rows L2

structure Gc where
  P : Program
  w : World
  K : PySem.W.Frag
  mg : Str → Option Value
  base : Heap
/-- what is known of a context: its names by slot, its scope, the names whose cells it made, the room for calls, whether no repr is under way -/
structure Cc where
  g : Gc
  N : List Str
  sc : Scope
  fn : Str → Bool
  k : Nat
  gd : Bool
  S1 : Hp := fun _ => none
  pf : Addr → Option (List V) := fun _ => none
/-- where a body began fits what is known: the stable heap that is known, the lists that are pinned -/
def Cc.Ok (c : Cc) (β : Bs) : Prop := β.K = c.g.K ∧ Ex c.S1 β.S0 ∧ ∀ a vs, c.pf a = some vs → β.H0 a = some (.lst vs) ∧ ¬ β.mu a ∧ β.S0 a = none
structure Cc.Has (c : Cc) (X : Cx) : Prop where
  P : X.prog = c.g.P
  w : X.w = c.g.w
  K : X.K = c.g.K
  mg : X.mg = c.g.mg
  base : X.base = c.g.base
  N : X.N = c.N
  sc : X.env.scope = c.sc
  fn : ∀ x, c.fn x = true → X.fn x = true
  calm : X.calm = true
  room : Room c.k X.A
  gd : c.gd = true → X.A.guards = some []
  xe : X.xe = fun _ _ => False
/-- the context of a comprehension's block -/
def Cc.blk (c : Cc) (scope : Scope) : Cc := { c with sc := relS scope c.sc, fn := fun x => scope.names.lookup x == some .cell }
theorem Cc.Has.blk {c : Cc} {X : Cx} (h : c.Has X) (scope : Scope) (s : Shared) (H : Hp) (C : Addr) (cl : List (Str × Addr)) (fp : List Addr) : (c.blk scope).Has (X.blk s H scope (compEnvC scope cl C X.env) fp) :=
  ⟨h.P, h.w, h.K, h.mg, h.base, h.N, by show relS scope X.env.scope = relS scope c.sc; rw [h.sc], fun _ z => z, h.calm, h.room, h.gd, rfl⟩
theorem Cc.Has.hu {c : Cc} {X : Cx} (h : c.Has X) : X.A.units + 64 < cLine := h.room.units
theorem Cc.Has.hu1 {c : Cc} {X : Cx} (h : c.Has X) : X.A.units + 1 < cLine := by have := h.room.units; omega

/-! ### the weakest readings -/
def wE (c : Cc) (e : Expr) : TE := fun σ H Q => ∀ X, c.Has X → ∀ (pins : List (Addr × Obj)) (s : Shared), Inv X pins σ H s → wpAny (model X.prog X.w) X.A (eval e X.env) (EP X pins σ Q) X.xe s
def wT (c : Cc) (e : Expr) : TT := fun σ H Q => ∀ X, c.Has X → ∀ (pins : List (Addr × Obj)) (s : Shared), Inv X pins σ H s → wpAny (model X.prog X.w) X.A (isTrue e X.env (eval e X.env)) (TP X pins σ Q) X.xe s
def wW (c : Cc) (e : Expr) : TT := fun σ H Q => ∀ X, c.Has X → ∀ (whole : Sem Value) (pins : List (Addr × Obj)) (s : Shared), Inv X pins σ H s → wpAny (model X.prog X.w) X.A (isTrue e X.env whole) (TP X pins σ Q) X.xe s
def wA (c : Cc) (es : List Expr) : TA := fun σ H Q => ∀ X, c.Has X → ∀ (pos : Pos) (pins : List (Addr × Obj)) (s : Shared), Inv X pins σ H s → wpAny (model X.prog X.w) X.A (spliced (backTo pos (starEach es X.env))) (AP X pins σ Q) X.xe s
def wS (c : Cc) (st : Stmt) : TS := fun D σ H => ∀ X, c.Has X → ∀ (pins : List (Addr × Obj)) (s : Shared), Inv X pins σ H s → wpAny (model X.prog X.w) X.A (exec st X.env) (SP X pins D) X.xe s
def wSs (c : Cc) (st : List Stmt) : TS := fun D σ H => ∀ X, c.Has X → ∀ (pins : List (Addr × Obj)) (s : Shared), Inv X pins σ H s → wpAny (model X.prog X.w) X.A (execs st X.env) (SP X pins D) X.xe s
section
variable {c : Cc} {X : Cx} {e : Expr} {es : List Expr} {st : Stmt} {sts : List Stmt} {σ : L2.St} {H : Hp}
theorem pe_w (h : c.Has X) : PE X e (wE c e) := ⟨fun pins s σ H Q I hw => hw X h pins s I⟩
theorem pt_w (h : c.Has X) : PT X e (wT c e) := ⟨fun pins s σ H Q I hw => hw X h pins s I⟩
theorem pw_w (h : c.Has X) : PW X e (wW c e) := ⟨fun wh pins s σ H Q I hw => hw X h wh pins s I⟩
theorem pa_w (h : c.Has X) : PA X es (wA c es) := ⟨fun pos pins s σ H Q I hw => hw X h pos pins s I⟩
theorem ps_w (h : c.Has X) : PS X st (wS c st) := ⟨fun pins s σ H D I hw => hw X h pins s I⟩
theorem pss_w (h : c.Has X) : PSs X sts (wSs c sts) := ⟨fun pins s σ H D I hw => hw X h pins s I⟩
theorem wE_of {t : TE} {Q : VK} (h : ∀ X, c.Has X → PE X e t) (q : t σ H Q) : wE c e σ H Q := fun X hX pins s I => (h X hX).run pins s σ H Q I q
theorem wT_of {t : TT} {Q : Bool → Hp → Prop} (h : ∀ X, c.Has X → PT X e t) (q : t σ H Q) : wT c e σ H Q := fun X hX pins s I => (h X hX).run pins s σ H Q I q
theorem wW_of {t : TT} {Q : Bool → Hp → Prop} (h : ∀ X, c.Has X → PW X e t) (q : t σ H Q) : wW c e σ H Q := fun X hX wh pins s I => (h X hX).run wh pins s σ H Q I q
theorem wA_of {t : TA} {Q : List V → Hp → Prop} (h : ∀ X, c.Has X → PA X es t) (q : t σ H Q) : wA c es σ H Q := fun X hX pos pins s I => (h X hX).run pos pins s σ H Q I q
theorem wS_of {t : TS} {D : Ends} (h : ∀ X, c.Has X → PS X st t) (q : t D σ H) : wS c st D σ H := fun X hX pins s I => (h X hX).run pins s σ H D I q
theorem wSs_of {t : TS} {D : Ends} (h : ∀ X, c.Has X → PSs X sts t) (q : t D σ H) : wSs c sts D σ H := fun X hX pins s I => (h X hX).run pins s σ H D I q
end

/-! ### judgements: what an expression comes to -/
/-- e comes to data of which P is true; the heaps grow -/
def EV (c : Cc) (e : Expr) (ρ : List Cell) (P : PyData → Prop) : Prop :=
  ∀ (β : Bs) (S H : Hp) (σ : L2.St), Env β S H σ ρ → c.Ok β → ∀ Q : VK, (∀ v d S' H', P d → Grow S H S' H' → Dt S' v d → Q v H') → wE c e σ H Q
abbrev ED (c : Cc) (e : Expr) (ρ : List Cell) (d : PyData) : Prop := EV c e ρ (fun x => x = d)
/-- e comes to a new list of data, owned by nobody yet -/
def EN (c : Cc) (e : Expr) (ρ : List Cell) (P : List PyData → Prop) : Prop :=
  ∀ (β : Bs) (S H : Hp) (σ : L2.St), Env β S H σ ρ → c.Ok β → ∀ Q : VK, (∀ p vs xs S' H', P xs → H p = none → H' p = some (HO.lst vs) → S' p = none → DtAll S' vs xs → Grow S H S' H' → Q (.ref p) H') → wE c e σ H Q
abbrev EL (c : Cc) (e : Expr) (ρ : List Cell) (xs : List PyData) : Prop := EN c e ρ (fun x => x = xs)
def AV (c : Cc) (es : List Expr) (ρ : List Cell) (P : List PyData → Prop) : Prop :=
  ∀ (β : Bs) (S H : Hp) (σ : L2.St), Env β S H σ ρ → c.Ok β → ∀ Q : List V → Hp → Prop, (∀ vs ds S' H', P ds → Grow S H S' H' → DtAll S' vs ds → Q vs H') → wA c es σ H Q
abbrev AD (c : Cc) (es : List Expr) (ρ : List Cell) (ds : List PyData) : Prop := AV c es ρ (fun x => x = ds)
def TV (c : Cc) (e : Expr) (ρ : List Cell) (P : Bool → Prop) : Prop :=
  ∀ (β : Bs) (S H : Hp) (σ : L2.St), Env β S H σ ρ → c.Ok β → ∀ Q : Bool → Hp → Prop, (∀ b S' H', P b → Grow S H S' H' → Q b H') → wT c e σ H Q
abbrev TD (c : Cc) (e : Expr) (ρ : List Cell) (b : Bool) : Prop := TV c e ρ (fun x => x = b)
def WV (c : Cc) (e : Expr) (ρ : List Cell) (P : Bool → Prop) : Prop :=
  ∀ (β : Bs) (S H : Hp) (σ : L2.St), Env β S H σ ρ → c.Ok β → ∀ Q : Bool → Hp → Prop, (∀ b S' H', P b → Grow S H S' H' → Q b H') → wW c e σ H Q
abbrev WD (c : Cc) (e : Expr) (ρ : List Cell) (b : Bool) : Prop := WV c e ρ (fun x => x = b)

section
variable {c : Cc} {ρ : List Cell} {a b e : Expr} {es : List Expr} {pos : Pos} {x y z d : PyData} {op : Operator}
theorem EV.mono {P P' : PyData → Prop} (h : EV c e ρ P) (k : ∀ d, P d → P' d) : EV c e ρ P' := fun β S H σ E hK Q q => h β S H σ E hK Q fun v d S' H' p => q v d S' H' (k d p)
theorem EV.eq (h : ED c e ρ x) (k : x = y) : ED c e ρ y := k ▸ h
/-- a new list as data -/
theorem EN.ev {P : List PyData → Prop} (h : EN c e ρ P) : EV c e ρ (fun d => ∃ xs, d = .list xs ∧ P xs) := fun β S H σ E hK Q q => h β S H σ E hK Q fun p vs xs S' H' hp hn hl hs hd g => by
  have eS : Ex S' (upd S' p (.lst vs)) := Ex.new hs
  refine q (.ref p) (.list xs) (upd S' p (.lst vs)) H' ⟨xs, rfl, hp⟩ ⟨g.ss.trans eS, fun a u z => ?_, g.hh, fun a h1 h2 => ?_⟩ (.lst upd_same (dp_exs eS _ _ hd))
  · by_cases ha : a = p
    · subst ha; rw [upd_same] at z; rw [hl]; exact z
    · rw [upd_ne ha] at z; exact g.sh a u z
  · rw [upd_ne (fun z => h1 (by rw [z]; exact hn))]; exact g.fr a h1 h2
theorem EL.ed {xs : List PyData} (h : EL c e ρ xs) : ED c e ρ (.list xs) := (EN.ev h).mono fun d ⟨ys, h1, h2⟩ => by rw [h1, h2]

/-! ### names, constants -/
theorem e_var (i : Nat) {x : Str} (hρ : ρ[i]? = some (Cell.d d) := by rfl) (hN : c.N[i]? = some x := by rfl) (hv : Vis c.sc x := by first | exact Or.inl rfl | exact Or.inr (Or.inl rfl) | exact Or.inr (Or.inr rfl))
    (hd : (x == ("__debug__" : Str)) = false := by decide) (hcd : (x == ("__classdict__" : Str)) = false := by decide) : ED c (.Name x pos) ρ d := fun β S H σ E _ Q q => by
  obtain ⟨v, h1, h2⟩ := E.dat i d hρ
  exact wE_of (fun X hX => pe_var (by rw [hX.N]; exact hN) (by rw [hX.sc]; exact hv) hd hcd) ⟨v, h1, q v d S H rfl (Grow.rfl E.sh) h2⟩
theorem e_int {i : Int} {j : Nat} : ED c (.Constant (.int i) j pos) ρ (.int i) := fun β S H σ E _ Q q => wE_of (fun X hX => pe_int) (q (.int i) (.int i) S H rfl (Grow.rfl E.sh) (.int i))
theorem e_bool {i : Bool} {j : Nat} : ED c (.Constant (.bool i) j pos) ρ (.bool i) := fun β S H σ E _ Q q => wE_of (fun X hX => pe_bl) (q (.bl i) (.bool i) S H rfl (Grow.rfl E.sh) (.bl i))
theorem e_none {j : Nat} : ED c (.Constant .none j pos) ρ .none := fun β S H σ E _ Q q => wE_of (fun X hX => pe_non) (q .non .none S H rfl (Grow.rfl E.sh) .non)
theorem e_str {i : Str} {j : Nat} : ED c (.Constant (.str i) j pos) ρ (.str i) := fun β S H σ E _ Q q => wE_of (fun X hX => pe_str) (q (.str i) (.str i) S H rfl (Grow.rfl E.sh) (.str i))

/-! ### operators by values -/
/-- r, on values that are x and y, comes to z -/
def R2D (r : R2) (x y z : PyData) : Prop := ∀ S H v u, Ex S H → Dt S v x → Dt S u y → ∀ Q : VK, (∀ w S' H', Grow S H S' H' → Dt S' w z → Q w H') → r v u H Q
def BinD (c : Cc) (op : Operator) (x y z : PyData) : Prop := ∃ r : R2, (∀ X, c.Has X → OpR X (binaryOp op) r) ∧ R2D r x y z
def CmpD (c : Cc) (op : CmpOp) (x y z : PyData) : Prop := ∃ r : R2, (∀ X, c.Has X → OpR X (compareOp op) r) ∧ R2D r x y z
theorem two {r : R2} {ta tb : TE} (h1 : ED c a ρ x) (h2 : ED c b ρ y) (hr : R2D r x y z) {β : Bs} {S H : Hp} {σ : L2.St} (E : Env β S H σ ρ) (hK : c.Ok β) {Q : VK} (q : ∀ w S' H', Grow S H S' H' → Dt S' w z → Q w H') : tOp r (wE c a) (wE c b) σ H Q :=
  h1 β S H σ E hK _ fun v d1 S1 H1 e1 g1 dv => h2 β S1 H1 σ (E.grow g1) hK _ fun u d2 S2 H2 e2 g2 du => by
    subst e1 e2
    exact hr S2 H2 v u g2.sh (dp_ex g2.ss _ _ dv) du Q fun w S' H' g3 dw => q w S' H' ((g1.trans g2).trans g3) dw
theorem e_bin (h1 : ED c a ρ x) (h2 : ED c b ρ y) (hr : BinD c op x y z) : ED c (.BinOp a op b pos) ρ z := fun β S H σ E hK Q q => by
  obtain ⟨r, ho, hr⟩ := hr
  exact wE_of (fun X hX => pe_op (ho X hX) (pe_w hX) (pe_w hX)) (two (ta := wE c a) (tb := wE c b) h1 h2 hr E hK fun w S' H' g dw => q w z S' H' rfl g dw)
theorem e_cmp {op : CmpOp} (h1 : ED c a ρ x) (h2 : ED c b ρ y) (hr : CmpD c op x y z) (hm : behindInMarks op b = false := by first | exact nomark _ | rfl) : ED c (.Compare a [op] [b] pos) ρ z := fun β S H σ E hK Q q => by
  obtain ⟨r, ho, hr⟩ := hr
  exact wE_of (fun X hX => pe_cmpR (ho X hX) (pe_w hX) (pe_w hX) hm) (two (ta := wE c a) (tb := wE c b) h1 h2 hr E hK fun w S' H' g dw => q w z S' H' rfl g dw)
theorem t_cmp {op : CmpOp} {t : Bool} (h1 : ED c a ρ x) (h2 : ED c b ρ y) (hr : CmpD c op x y (.bool t)) (hm : behindInMarks op b = false := by first | exact nomark _ | rfl) : TD c (.Compare a [op] [b] pos) ρ t := fun β S H σ E hK Q q => by
  obtain ⟨r, ho, hr⟩ := hr
  exact wT_of (fun X hX => pt_cmpR (ho X hX) (pe_w hX) (pe_w hX) hm) (two (ta := wE c a) (tb := wE c b) h1 h2 hr E hK fun w S' H' g dw => by
    cases dw
    exact ⟨t, rfl, q t S' H' rfl g⟩)
theorem r2_I0 {f : Int → Int → V} {i j : Int} {w : PyData} (h : ∀ S, Dt S (f i j) w) : R2D (rI0 f) (.int i) (.int j) w := fun S H v u e h1 h2 Q q => by
  cases h1; cases h2
  exact ⟨i, j, rfl, rfl, q _ S H (Grow.rfl e) (h S)⟩
theorem r2_I {C : Int → Int → Prop} {f : Int → Int → V} {i j : Int} {w : PyData} (hc : C i j) (h : ∀ S, Dt S (f i j) w) : R2D (rI C f) (.int i) (.int j) w := fun S H v u e h1 h2 Q q => by
  cases h1; cases h2
  exact ⟨i, j, rfl, rfl, hc, q _ S H (Grow.rfl e) (h S)⟩
theorem b_add {i j : Int} : BinD c .Add (.int i) (.int j) (.int (i + j)) := ⟨_, fun _ _ => op_add, r2_I0 fun _ => .int _⟩
theorem b_sub {i j : Int} : BinD c .Sub (.int i) (.int j) (.int (i - j)) := ⟨_, fun _ _ => op_sub, r2_I0 fun _ => .int _⟩
theorem b_mul {i j : Int} (h : CMul i j) : BinD c .Mult (.int i) (.int j) (.int (i * j)) := ⟨_, fun _ _ => op_mul, r2_I h fun _ => .int _⟩
theorem b_mod {i j : Int} (h : 0 < j) : BinD c .Mod (.int i) (.int j) (.int (i % j)) := ⟨_, fun _ _ => op_mod, r2_I h fun _ => .int _⟩
theorem b_div {i j : Int} (h : CDiv i j) : BinD c .FloorDiv (.int i) (.int j) (.int (i / j)) := ⟨_, fun _ _ => op_fdiv, r2_I h fun _ => .int _⟩
theorem b_pow {i j : Int} (h : CPow i j) : BinD c .Pow (.int i) (.int j) (.int (i ^ j.toNat)) := ⟨_, fun _ _ => op_pow, r2_I h fun _ => .int _⟩
theorem c_lt {i j : Int} : CmpD c .Lt (.int i) (.int j) (.bool (decide (i < j))) := ⟨_, fun _ _ => op_lt, r2_I0 fun _ => .bl _⟩
theorem c_le {i j : Int} : CmpD c .LtE (.int i) (.int j) (.bool (decide (i ≤ j))) := ⟨_, fun _ _ => op_le, r2_I0 fun _ => .bl _⟩
theorem c_gt {i j : Int} : CmpD c .Gt (.int i) (.int j) (.bool (decide (j < i))) := ⟨_, fun _ _ => op_gt, r2_I0 fun _ => .bl _⟩
theorem c_ge {i j : Int} : CmpD c .GtE (.int i) (.int j) (.bool (decide (j ≤ i))) := ⟨_, fun _ _ => op_ge, r2_I0 fun _ => .bl _⟩
/-- == of data at any depth -/
theorem c_eq (h1 : SeqAt.shaped x = true) (h2 : SeqAt.shaped y = true) : CmpD c .Eq x y (.bool (PyData.eqv x y)) := ⟨rEqD c.g.K, fun X hX => hX.K ▸ op_eqD hX.hu, fun S H v u e d1 d2 Q q =>
  ⟨x, y, dt_dp _ _ (dp_ex e _ _ d1), dt_dp _ _ (dp_ex e _ _ d2), h1, h2, q _ S H (Grow.rfl e) (.bl _)⟩⟩
theorem c_ne (h1 : SeqAt.shaped x = true) (h2 : SeqAt.shaped y = true) : CmpD c .NotEq x y (.bool (!PyData.eqv x y)) := ⟨rNeD c.g.K, fun X hX => hX.K ▸ op_neD hX.hu, fun S H v u e d1 d2 Q q =>
  ⟨x, y, dt_dp _ _ (dp_ex e _ _ d1), dt_dp _ _ (dp_ex e _ _ d2), h1, h2, q _ S H (Grow.rfl e) (.bl _)⟩⟩
theorem c_eqI {i j : Int} : CmpD c .Eq (.int i) (.int j) (.bool (decide (i = j))) := ⟨_, fun _ _ => op_eq, fun S H v u e d1 d2 Q q => by
  cases d1; cases d2
  refine ⟨rfl, q _ S H (Grow.rfl e) ?_⟩
  rw [show decide (V.int i = V.int j) = decide (i = j) by rw [dec_int, Bool.beq_eq_decide_eq]]
  exact .bl _⟩
theorem c_neI {i j : Int} : CmpD c .NotEq (.int i) (.int j) (.bool (!decide (i = j))) := ⟨_, fun _ _ => op_ne, fun S H v u e d1 d2 Q q => by
  cases d1; cases d2
  refine ⟨rfl, q _ S H (Grow.rfl e) ?_⟩
  rw [show decide (V.int i = V.int j) = decide (i = j) by rw [dec_int, Bool.beq_eq_decide_eq]]
  exact .bl _⟩

/-! ### arguments, displays -/
theorem a_nil : AD c [] ρ [] := fun β S H σ E _ Q q => wA_of (fun X hX => pa_nil) (q [] [] S H rfl (Grow.rfl E.sh) .nil)
theorem a_cons {ds : List PyData} (h : ED c e ρ x) (hr : AD c es ρ ds) (hs : ∀ env : PySem.Env, starEach (e :: es) env = (false, eval e env) :: starEach es env := by intro _; rfl) : AD c (e :: es) ρ (x :: ds) := fun β S H σ E hK Q q =>
  wA_of (fun X hX => pa_cons (pe_w hX) (pa_w hX) (hs X.env)) (h β S H σ E hK _ fun v d1 S1 H1 e1 g1 dv => hr β S1 H1 σ (E.grow g1) hK _ fun vs ds' S2 H2 e2 g2 dvs => by
    subst e1 e2
    exact q (v :: vs) _ S2 H2 rfl (g1.trans g2) (.cons (dp_ex g2.ss _ _ dv) dvs))
theorem e_tup {ds : List PyData} {n : Nat} (h : AD c es ρ ds) (hl : ds.length ≤ 1000000 := by simp) : ED c (.Tuple es n pos) ρ (.tuple ds) := fun β S H σ E hK Q q =>
  wE_of (fun X hX => pe_tup (pa_w hX)) (h β S H σ E hK _ fun vs ds' S1 H1 e1 g1 dvs => by
    subst e1
    refine ⟨by rw [da_len dvs]; exact Nat.le_trans hl (by decide), fun p hp => q (.ref p) _ (upd S1 p (.tup vs)) _ rfl (g1.trans (Grow.new g1.sh hp)) (.tup upd_same (dp_exs (Ex.new (g1.sh.back hp)) _ _ dvs))⟩)
theorem n_lst {ds : List PyData} (h : AD c es ρ ds) (hl : ds.length ≤ 1000000 := by simp) : EL c (.List es pos) ρ ds := fun β S H σ E hK Q q =>
  wE_of (fun X hX => pe_lst (pa_w hX)) (h β S H σ E hK _ fun vs ds' S1 H1 e1 g1 dvs => by
    subst e1
    exact ⟨by rw [da_len dvs]; exact Nat.le_trans hl (by decide), fun p hp => q p vs _ S1 _ rfl (g1.hh.back hp) upd_same (g1.sh.back hp) dvs (g1.trans (Grow.own g1.sh hp))⟩)
theorem e_lst {ds : List PyData} (h : AD c es ρ ds) (hl : ds.length ≤ 1000000 := by simp) : ED c (.List es pos) ρ (.list ds) := EL.ed (n_lst h hl)

/-! ### subscripts -/
def seqD : PyData → Option (List PyData)
  | .list xs => some xs
  | .tuple xs => some xs
  | _ => none
theorem da_atI {H : Hp} {vs : List V} {ds : List PyData} {i : Int} {d : PyData} (h : DtAll H vs ds) (e : atI ds i = some d) : ∃ v, atI vs i = some v ∧ Dt H v d := by
  unfold atI at e ⊢
  rw [← da_len h] at e
  cases q : ixN vs.length i with
  | none => rw [q] at e; cases e
  | some j => rw [q] at e; exact da_get h e
theorem e_ix {xs : List PyData} {i : Int} (h1 : ED c a ρ x) (h2 : ED c b ρ (.int i)) (hx : seqD x = some xs := by rfl) (hi : atI xs i = some z) (hs : PlainIx b := by intro _ _; rfl) : ED c (.Subscript a b pos) ρ z := fun β S H σ E hK Q q => by
  refine wE_of (t := tOp (fun x y H Q => rIxL c.g.K x y H Q ∨ rIxT c.g.K x y H Q) (wE c a) (wE c b)) (fun X hX => pe_ix (hX.K ▸ ix_list.or ix_tup) (pe_w hX) (pe_w hX) hs) (two (x := x) (y := .int i) (z := z) (ta := wE c a) (tb := wE c b) h1 h2 (fun S H v u e d1 d2 Q q => ?_) E hK fun w S' H' g dw => q w z S' H' rfl g dw)
  cases d2
  cases x with
  | list ys =>
    cases hx
    cases d1 with
    | lst hl ha =>
      obtain ⟨w, h3, h4⟩ := da_atI ha hi
      exact .inl ⟨_, _, i, w, rfl, rfl, sl_of (e _ _ hl), h3, q w S H (Grow.rfl e) h4⟩
  | tuple ys =>
    cases hx
    cases d1 with
    | tup hl ha =>
      obtain ⟨w, h3, h4⟩ := da_atI ha hi
      exact .inr ⟨_, _, i, w, rfl, rfl, st_of (e _ _ hl), h3, q w S H (Grow.rfl e) h4⟩
  | none => cases hx
  | bool _ => cases hx
  | int _ => cases hx
  | str _ => cases hx
  | dict _ => cases hx
end
end Bd
/-! Tests, targets, what is walked, comprehensions, calls. -/
namespace Bd
open PySem PySem.Spec PyProof.Rows L2

/-- a global name of the code -/
def Glb (c : Cc) (x : Str) : Prop := c.sc.names.lookup x = some NameKind.globalImplicit
theorem Cc.Has.gl {c : Cc} {X : Cx} (h : c.Has X) {x : Str} (g : Glb c x) : Gl X x := by
  show X.env.scope.names.lookup x = _
  rw [h.sc]; exact g
section
variable {c : Cc} {ρ : List Cell} {a b e : Expr} {es : List Expr} {pos p : Pos} {x y z d : PyData}

/-! ### tests -/
theorem t_val {P : PyData → Prop} (h : EV c e ρ P) (hb : ∀ d, P d → ∃ t, d = .bool t) (he : ∀ (env : PySem.Env) (whole : Sem Value), isTrue e env whole = (do let v ← whole; standAt e.pos; holding [v] (truthy v)) := by intro _ _; rfl) :
    TV c e ρ (fun t => P (.bool t)) := fun β S H σ E hK Q q => wT_of (fun X hX => pt_val (pe_w hX) (he X.env)) (h β S H σ E hK _ fun v d S' H' hp g dv => by
  obtain ⟨t, rfl⟩ := hb d hp
  cases dv
  exact ⟨t, rfl, q t S' H' hp g⟩)
theorem t_valD {t : Bool} (h : ED c e ρ (.bool t)) (he : ∀ (env : PySem.Env) (whole : Sem Value), isTrue e env whole = (do let v ← whole; standAt e.pos; holding [v] (truthy v)) := by intro _ _; rfl) :
    TD c e ρ t := fun β S H σ E hK Q q => wT_of (fun X hX => pt_val (pe_w hX) (he X.env)) (h β S H σ E hK _ fun v d S' H' hp g dv => by
  subst hp
  cases dv
  exact ⟨t, rfl, q t S' H' rfl g⟩)
theorem t_not {t : Bool} (h : TD c e ρ t) : TD c (.UnaryOp .Not e pos) ρ (!t) := fun β S H σ E hK Q q => wT_of (fun X hX => pt_not (pt_w hX)) (h β S H σ E hK _ fun b S' H' hb g => by
  subst hb
  exact q _ S' H' rfl g)
theorem w_and1 {t : Bool} (h : TD c a ρ t) : WD c (.BoolOp .And [a] pos) ρ t := fun β S H σ E hK Q q => wW_of (fun X hX => pw_and1 (pt_w hX)) (h β S H σ E hK Q q)
theorem w_or1 {t : Bool} (h : TD c a ρ t) : WD c (.BoolOp .Or [a] pos) ρ t := fun β S H σ E hK Q q => wW_of (fun X hX => pw_or1 (pt_w hX)) (h β S H σ E hK Q q)
theorem w_and {t u : Bool} (h : TD c a ρ t) (hr : t = true → WD c (.BoolOp .And (b :: es) pos) ρ u) : WD c (.BoolOp .And (a :: b :: es) pos) ρ (t && u) := fun β S H σ E hK Q q =>
  wW_of (fun X hX => pw_and (pt_w hX) (pw_w hX)) (h β S H σ E hK _ fun k S1 H1 hk g => by
    subst hk
    cases k with
    | true => exact hr rfl β S1 H1 σ (E.grow g) hK Q fun b S2 H2 hb g2 => q _ S2 H2 hb (g.trans g2)
    | false => exact q _ S1 H1 rfl g)
theorem w_or {t u : Bool} (h : TD c a ρ t) (hr : t = false → WD c (.BoolOp .Or (b :: es) pos) ρ u) : WD c (.BoolOp .Or (a :: b :: es) pos) ρ (t || u) := fun β S H σ E hK Q q =>
  wW_of (fun X hX => pw_or (pt_w hX) (pw_w hX)) (h β S H σ E hK _ fun k S1 H1 hk g => by
    subst hk
    cases k with
    | true => exact q _ S1 H1 rfl g
    | false => exact hr rfl β S1 H1 σ (E.grow g) hK Q fun b S2 H2 hb g2 => q _ S2 H2 hb (g.trans g2))
theorem t_chain {t : Bool} {op : PySem.BoolOp} (h : WD c (.BoolOp op es pos) ρ t) : TD c (.BoolOp op es pos) ρ t := fun β S H σ E hK Q q => wT_of (fun X hX => (pw_w hX).pt) (h β S H σ E hK Q q)
theorem TD.eq {t u : Bool} (h : TD c e ρ t) (k : t = u) : TD c e ρ u := k ▸ h
theorem TV.mono {P P' : Bool → Prop} (h : TV c e ρ P) (k : ∀ b, P b → P' b) : TV c e ρ P' := fun β S H σ E hK Q q => h β S H σ E hK Q fun b S' H' p => q b S' H' (k b p)
/-- values: and, or, not -/
theorem e_one {op : PySem.BoolOp} (h : ED c a ρ x) : ED c (.BoolOp op [a] pos) ρ x := fun β S H σ E hK Q q => wE_of (fun X hX => pe_one (pe_w hX)) (h β S H σ E hK Q q)
theorem e_and {t u : Bool} (h : ED c a ρ (.bool t)) (hr : t = true → ED c (.BoolOp .And (b :: es) pos) ρ (.bool u)) : ED c (.BoolOp .And (a :: b :: es) pos) ρ (.bool (t && u)) := fun β S H σ E hK Q q =>
  wE_of (fun X hX => pe_and (pe_w hX) (pe_w hX)) (h β S H σ E hK _ fun v k S1 H1 hk g dv => by
    subst hk
    cases dv
    refine ⟨t, rfl, ?_⟩
    cases t with
    | true => exact hr rfl β S1 H1 σ (E.grow g) hK Q fun w b S2 H2 hb g2 dw => q w b S2 H2 hb (g.trans g2) dw
    | false => exact q _ _ S1 H1 rfl g (.bl false))
theorem e_or {t u : Bool} (h : ED c a ρ (.bool t)) (hr : t = false → ED c (.BoolOp .Or (b :: es) pos) ρ (.bool u)) : ED c (.BoolOp .Or (a :: b :: es) pos) ρ (.bool (t || u)) := fun β S H σ E hK Q q =>
  wE_of (fun X hX => pe_or (pe_w hX) (pe_w hX)) (h β S H σ E hK _ fun v k S1 H1 hk g dv => by
    subst hk
    cases dv
    refine ⟨t, rfl, ?_⟩
    cases t with
    | true => exact q _ _ S1 H1 rfl g (.bl true)
    | false => exact hr rfl β S1 H1 σ (E.grow g) hK Q fun w b S2 H2 hb g2 dw => q w b S2 H2 hb (g.trans g2) dw)
theorem e_not {t : Bool} (h : ED c e ρ (.bool t)) : ED c (.UnaryOp .Not e pos) ρ (.bool (!t)) := fun β S H σ E hK Q q => wE_of (fun X hX => pe_not (pe_w hX)) (h β S H σ E hK _ fun v k S1 H1 hk g dv => by
  subst hk
  cases dv
  exact ⟨t, rfl, q _ _ S1 H1 rfl g (.bl _)⟩)
theorem e_if {tst : Expr} {t : Bool} {P : PyData → Prop} (h : TD c tst ρ t) (h1 : t = true → EV c a ρ P) (h2 : t = false → EV c b ρ P) : EV c (.IfExp tst a b pos) ρ P := fun β S H σ E hK Q q =>
  wE_of (fun X hX => pe_ifExp (pt_w hX) (pe_w hX) (pe_w hX)) (h β S H σ E hK _ fun k S1 H1 hk g => by
    subst hk
    cases k with
    | true => exact h1 rfl β S1 H1 σ (E.grow g) hK Q fun w b S2 H2 hb g2 dw => q w b S2 H2 hb (g.trans g2) dw
    | false => exact h2 rfl β S1 H1 σ (E.grow g) hK Q fun w b S2 H2 hb g2 dw => q w b S2 H2 hb (g.trans g2) dw)
theorem n_if {tst : Expr} {t : Bool} {P : List PyData → Prop} (h : TD c tst ρ t) (h1 : t = true → EN c a ρ P) (h2 : t = false → EN c b ρ P) : EN c (.IfExp tst a b pos) ρ P := fun β S H σ E hK Q q =>
  wE_of (fun X hX => pe_ifExp (pt_w hX) (pe_w hX) (pe_w hX)) (h β S H σ E hK _ fun k S1 H1 hk g => by
    subst hk
    cases k with
    | true => exact h1 rfl β S1 H1 σ (E.grow g) hK Q fun p vs xs S2 H2 hp hn hl hs hd g2 => q p vs xs S2 H2 hp (g.hh.back hn) hl hs hd (g.trans g2)
    | false => exact h2 rfl β S1 H1 σ (E.grow g) hK Q fun p vs xs S2 H2 hp hn hl hs hd g2 => q p vs xs S2 H2 hp (g.hh.back hn) hl hs hd (g.trans g2))

/-! ### targets -/
def wG (c : Cc) (tg : Expr) : TG := fun v σ H Q => ∀ X, c.Has X → ∀ (pins : List (Addr × Obj)) (s : Shared) (u : Value), Inv X pins σ H s → RelV v u → wpAny (model X.prog X.w) X.A (assign tg X.env u) (fun _ s' => ∃ σ' H', Inv X pins σ' H' s' ∧ Q σ' H') X.xe s
def wGs (c : Cc) (ts : List Expr) : TGs := fun vs σ H Q => ∀ X, c.Has X → ∀ (pins : List (Addr × Obj)) (s : Shared) (us : List Value), Inv X pins σ H s → Vals vs us → wpAny (model X.prog X.w) X.A (assignInOrder ((assignEach ts X.env).map (·.2)) us) (fun _ s' => ∃ σ' H', Inv X pins σ' H' s' ∧ Q σ' H') X.xe s
theorem pg_w {X : Cx} (h : c.Has X) : PG X e (wG c e) := ⟨fun pins s σ H v u Q I r hw => hw X h pins s u I r⟩
theorem pgs_w {X : Cx} (h : c.Has X) : PGs X es (wGs c es) := ⟨fun pins s σ H vs us Q I r hw => hw X h pins s us I r⟩
theorem wG_of {t : TG} {v : V} {σ : L2.St} {H : Hp} {Q : L2.St → Hp → Prop} (h : ∀ X, c.Has X → PG X e t) (q : t v σ H Q) : wG c e v σ H Q := fun X hX pins s u I r => (h X hX).run pins s σ H v u Q I r q
theorem wGs_of {t : TGs} {vs : List V} {σ : L2.St} {H : Hp} {Q : L2.St → Hp → Prop} (h : ∀ X, c.Has X → PGs X es t) (q : t vs σ H Q) : wGs c es vs σ H Q := fun X hX pins s us I r => (h X hX).run pins s σ H vs us Q I r q
/-- tg = x: the environment behind; only the slots in is are touched -/
def GD (c : Cc) (tg : Expr) (is : List Nat) (x : PyData) (ρ ρ' : List Cell) : Prop :=
  ∀ (β : Bs) (S H : Hp) (σ : L2.St) (v : V), Env β S H σ ρ → Dt S v x → ∀ Q : L2.St → Hp → Prop, (∀ σ', Env β S H σ' ρ' → (∀ vs : List Nat, (∀ i ∈ is, i ∈ vs) → L2.wipe σ' vs = L2.wipe σ vs) → Q σ' H) → wG c tg v σ H Q
def GDs (c : Cc) (ts : List Expr) (is : List Nat) (xs : List PyData) (ρ ρ' : List Cell) : Prop :=
  ∀ (β : Bs) (S H : Hp) (σ : L2.St) (ws : List V), Env β S H σ ρ → DtAll S ws xs → ∀ Q : L2.St → Hp → Prop, (∀ σ', Env β S H σ' ρ' → (∀ vs : List Nat, (∀ i ∈ is, i ∈ vs) → L2.wipe σ' vs = L2.wipe σ vs) → Q σ' H) → wGs c ts ws σ H Q
theorem g_name (i : Nat) {n : Str} (hN : c.N.Nodup) (hi : c.N[i]? = some n := by rfl) (hx : Loc c.sc n := by first | exact Or.inl rfl | exact Or.inr rfl)
    (hf : c.fn n = true ∨ c.sc.names.lookup n = some .local := by first | exact Or.inl rfl | exact Or.inr rfl) : GD c (.Name n pos) [i] x ρ (ρ.set i (Cell.d x)) := fun β S H σ v E dv Q q =>
  wG_of (fun X hX => pg_name (by rw [hX.N]; exact hN) (by rw [hX.N]; exact hi) (by rw [hX.sc]; exact hx) (by
    rcases hf with h | h
    · exact .inl (hX.fn _ h)
    · exact .inr (by rw [hX.sc]; exact h))) (show gName i v σ H Q from q _ (E.setD dv) fun vs h => wipe_set (h i List.mem_cons_self))
theorem gs_nil : GDs c [] [] [] ρ ρ := fun β S H σ ws E dw Q q => by
  cases dw
  exact wGs_of (fun X hX => pgs_nil) ⟨rfl, q σ E fun _ _ => rfl⟩
theorem gs_cons {tg : Expr} {ts : List Expr} {is js : List Nat} {xs : List PyData} {ρ1 ρ2 : List Cell} (h1 : GD c tg is x ρ ρ1) (h2 : GDs c ts js xs ρ1 ρ2)
    (hs : ∀ env : PySem.Env, (assignEach (tg :: ts) env).map (·.2) = assign tg env :: (assignEach ts env).map (·.2) := by intro _; rfl) : GDs c (tg :: ts) (is ++ js) (x :: xs) ρ ρ2 := fun β S H σ ws E dw Q q => by
  cases dw with
  | cons d1 d2 =>
    refine wGs_of (fun X hX => pgs_cons (pg_w hX) (pgs_w hX) (hs X.env)) ⟨_, _, rfl, h1 β S H σ _ E d1 _ fun σ1 E1 w1 => h2 β S H σ1 _ E1 d2 _ fun σ2 E2 w2 => q σ2 E2 fun vs hv => ?_⟩
    rw [w2 vs fun i hi => hv i (List.mem_append_right _ hi), w1 vs fun i hi => hv i (List.mem_append_left _ hi)]
theorem g_tup {ts : List Expr} {k : Nat} {is : List Nat} {xs : List PyData} {ρ1 : List Cell} (h : GDs c ts is xs ρ ρ1)
    (hn : ∀ env : PySem.Env, (assignEach ts env).length = xs.length := by intro _; rfl) (hst : ∀ env : PySem.Env, (assignEach ts env).findIdx? (·.1) = none := by intro _; rfl) : GD c (.Tuple ts k pos) is (.tuple xs) ρ ρ1 := fun β S H σ v E dv Q q => by
  cases dv with
  | tup hp hd =>
    refine wG_of (t := gTup c.g.K xs.length (wGs c ts)) (fun X hX => hX.K ▸ pg_tup hX.calm (pgs_w hX) (hn X.env) (hst X.env)) ⟨_, _, rfl, st_of (E.sh _ _ hp), da_len hd, h β S H σ _ E hd Q q⟩

/-! ### what is walked -/
/-- J gives the data xs, one by one -/
def WkD (J : It) (xs : List PyData) (S : Hp) : Prop := ∀ S' H', Ex S S' → Ex S' H' → (∀ i, i < xs.length → J.go i H') ∧ J.stop xs.length H' ∧
  ∀ i v H2, i < xs.length → J.yld i H' v H2 → ∃ S2 d, Grow S' H' S2 H2 ∧ xs[i]? = some d ∧ Dt S2 v d
def wI (c : Cc) (tg iter : Expr) : TI := fun σ H R => ∀ X, c.Has X → ∀ (pins : List (Addr × Obj)) (s : Shared), Inv X pins σ H s →
    wpAny (model X.prog X.w) X.A (eval iter X.env) (fun v s1 => wpAny (model X.prog X.w) X.A (pyIter v) (PIE X pins σ tg R) X.xe s1) X.xe s
theorem pi_w {X : Cx} {tg iter : Expr} (h : c.Has X) : PI X tg iter (wI c tg iter) := ⟨fun pins s σ H R I hw => hw X h pins s I⟩
theorem wI_of {tg iter : Expr} {t : TI} {σ : L2.St} {H : Hp} {R : It → Hp → Prop} (h : ∀ X, c.Has X → PI X tg iter t) (q : t σ H R) : wI c tg iter σ H R := fun X hX pins s I => (h X hX).run pins s σ H R I q
def ID (c : Cc) (tg iter : Expr) (ρ : List Cell) (xs : List PyData) : Prop :=
  ∀ (β : Bs) (S H : Hp) (σ : L2.St), Env β S H σ ρ → c.Ok β → ∀ R : It → Hp → Prop, (∀ J S' H', Grow S H S' H' → WkD J xs S' → R J H') → wI c tg iter σ H R
theorem wk_list {K : PySem.W.Frag} {S : Hp} {q : Addr} {vs : List V} {xs : List PyData} (h : S q = some (.lst vs)) (hd : DtAll S vs xs) : WkD (Itl K q) xs S := fun S' H' e1 e2 => by
  have hl : H' q = some (.lst vs) := e2 _ _ (e1 _ _ h)
  have hn := da_len hd
  refine ⟨fun i hi => ⟨vs, vs[i]'(by omega), sl_of hl, by simp [show i < vs.length by omega]⟩, ⟨vs, sl_of hl, by omega⟩, fun i v H2 hi y => ?_⟩
  obtain ⟨rfl, y⟩ := y
  obtain ⟨d, h1, h2⟩ := da_getV hd (y vs (sl_of hl))
  exact ⟨S', d, Grow.rfl e2, h1, dp_ex e1 _ _ h2⟩
theorem wk_tup {K : PySem.W.Frag} {S : Hp} {q : Addr} {vs : List V} {xs : List PyData} (h : S q = some (.tup vs)) (hd : DtAll S vs xs) : WkD (Itt K q) xs S := fun S' H' e1 e2 => by
  have hl : H' q = some (.tup vs) := e2 _ _ (e1 _ _ h)
  have hn := da_len hd
  refine ⟨fun i hi => ⟨vs, vs[i]'(by omega), st_of hl, by simp [show i < vs.length by omega]⟩, ⟨vs, st_of hl, by omega⟩, fun i v H2 hi y => ?_⟩
  obtain ⟨rfl, y⟩ := y
  obtain ⟨d, h1, h2⟩ := da_getV hd (y vs (st_of hl))
  exact ⟨S', d, Grow.rfl e2, h1, dp_ex e1 _ _ h2⟩
theorem i_list {tg : Expr} {xs : List PyData} (h : ED c e ρ (.list xs)) : ID c tg e ρ xs := fun β S H σ E hK R q => wI_of (t := iList c.g.K (wE c e)) (fun X hX => hX.K ▸ pi_list (pe_w hX)) (h β S H σ E hK _ fun v d S' H' hd g dv => by
  subst hd
  cases dv with
  | lst hp ha => exact ⟨_, rfl, ⟨_, sl_of (g.sh _ _ hp)⟩, q _ S' H' g (wk_list hp ha)⟩)
theorem i_tup {tg : Expr} {xs : List PyData} (h : ED c e ρ (.tuple xs)) : ID c tg e ρ xs := fun β S H σ E hK R q => wI_of (t := iTup c.g.K (wE c e)) (fun X hX => hX.K ▸ pi_tup (pe_w hX)) (h β S H σ E hK _ fun v d S' H' hd g dv => by
  subst hd
  cases dv with
  | tup hp ha => exact ⟨_, rfl, ⟨_, st_of (g.sh _ _ hp)⟩, q _ S' H' g (wk_tup hp ha)⟩)
/-- the numbers lo, lo + 1, .. -/
def rngD (lo : Int) (n : Nat) : List PyData := (List.range n).map fun i => .int (lo + (i : Nat))
theorem rngD_len (lo : Int) (n : Nat) : (rngD lo n).length = n := by simp [rngD]
theorem rngD_get {lo : Int} {n i : Nat} (h : i < n) : (rngD lo n)[i]? = some (.int (lo + (i : Nat))) := by simp [rngD, h]
theorem wk_rng {S : Hp} {lo : Int} {n : Nat} : WkD (Itr lo n) (rngD lo n) S := fun S' H' e1 e2 => by
  rw [rngD_len]
  refine ⟨fun i hi => hi, Nat.le_refl _, fun i v H2 hi y => ?_⟩
  obtain ⟨rfl, rfl⟩ := y
  exact ⟨S', _, Grow.rfl e2, rngD_get hi, .int _⟩
theorem i_range {tg : Expr} {n : Int} (h : ED c a ρ (.int n)) (hm : c.g.mg "range" = none) (hn : 0 ≤ n ∧ n ≤ 1000000) (hg : Glb c "range" := by rfl)
    (hs : ∀ env : PySem.Env, starEach [a] env = [(false, eval a env)] := by intro _; rfl) : ID c tg (.Call (.Name "range" p) [a] [] pos) ρ (rngD 0 n.toNat) := fun β S H σ E hK R q =>
  wI_of (t := iRng1 (tCons (wE c a) tNil)) (fun X hX => pi_range1 (hX.gl hg) (by rw [hX.mg]; exact hm) (pa_cons (pe_w hX) pa_nil (hs X.env)) (hs X.env)) (h β S H σ E hK _ fun v d S' H' hd g dv => by
    subst hd
    cases dv
    exact ⟨n, rfl, by omega, by omega, q _ S' H' g wk_rng⟩)
theorem i_range2 {tg : Expr} {m n : Int} (h : ED c a ρ (.int m)) (h2 : ED c b ρ (.int n)) (hm : c.g.mg "range" = none) (hn : -1000000 ≤ m ∧ m ≤ 1000000 ∧ -1000000 ≤ n ∧ n ≤ 1000000) (hg : Glb c "range" := by rfl)
    (hs : ∀ env : PySem.Env, starEach [a, b] env = [(false, eval a env), (false, eval b env)] := by intro _; rfl) (hs2 : ∀ env : PySem.Env, starEach [b] env = [(false, eval b env)] := by intro _; rfl) : ID c tg (.Call (.Name "range" p) [a, b] [] pos) ρ (rngD m (n - m).toNat) := fun β S H σ E hK R q =>
  wI_of (t := iRng2 (tCons (wE c a) (tCons (wE c b) tNil))) (fun X hX => pi_range2 (hX.gl hg) (by rw [hX.mg]; exact hm) (pa_cons (pe_w hX) (pa_cons (pe_w hX) pa_nil (hs2 X.env)) ((hs X.env).trans (by rw [hs2]))) (hs X.env) (hs2 X.env)) (h β S H σ E hK _ fun v d S' H' hd g dv => h2 β S' H' σ (E.grow g) hK _ fun v2 d2 S2 H2 hd2 g2 dv2 => by
    subst hd hd2
    cases dv; cases dv2
    exact ⟨m, n, rfl, by omega, q _ S2 H2 (g.trans g2) wk_rng⟩)
end
end Bd
/-! Comprehensions and calls. -/
namespace Bd
open PySem PySem.Spec PyProof.Rows L2

/-! ### a comprehension's tests -/
def wQ (c : Cc) (ifs : List Expr) : TT := fun σ H Q => ∀ X, c.Has X → ∀ (pins : List (Addr × Obj)) (s : Shared), Inv X pins σ H s →
    wpAny (model X.prog X.w) X.A (forIn ifs true fun c r => if r = true then do let ok ← isTrue c X.env (eval c X.env); pure (ForInStep.yield ok) else pure (ForInStep.yield r)) (TP X pins σ Q) X.xe s
theorem pts_w {c : Cc} {X : Cx} {ifs : List Expr} (h : c.Has X) : PTs X ifs (wQ c ifs) := ⟨fun pins s σ H Q I hw => hw X h pins s I⟩
theorem wQ_of {c : Cc} {ifs : List Expr} {t : TT} {σ : L2.St} {H : Hp} {Q : Bool → Hp → Prop} (h : ∀ X, c.Has X → PTs X ifs t) (q : t σ H Q) : wQ c ifs σ H Q := fun X hX pins s I => (h X hX).run pins s σ H Q I q
def QD (c : Cc) (ifs : List Expr) (ρ : List Cell) (b : Bool) : Prop :=
  ∀ (β : Bs) (S H : Hp) (σ : L2.St), Env β S H σ ρ → c.Ok β → ∀ Q : Bool → Hp → Prop, (∀ S' H', Grow S H S' H' → Q b H') → wQ c ifs σ H Q
theorem q_nil {c : Cc} {ρ : List Cell} : QD c [] ρ true := fun β S H σ E hK Q q => wQ_of (fun X hX => pts_nil) (q S H (Grow.rfl E.sh))
theorem q_one {c : Cc} {ρ : List Cell} {e : Expr} {b : Bool} (h : TD c e ρ b) : QD c [e] ρ b := fun β S H σ E hK Q q => wQ_of (fun X hX => pts_one (pt_w hX)) (h β S H σ E hK Q fun k S' H' hk g => by subst hk; exact q S' H' g)

section
variable {c : Cc} {ρ : List Cell} {a b e : Expr} {es : List Expr} {pos p : Pos} {x y z d : PyData}
/-- one turn's work: the target takes d, the tests say keep d, the element is f d -/
def LcTurn (c' : Cc) (tg : Expr) (ifs : List Expr) (elt : Expr) (vs : List Nat) (ρ : List Cell) (d : PyData) (keep : Bool) (r : PyData) : Prop :=
  ∃ is ρ2, GD c' tg is d (wipeC ρ vs) ρ2 ∧ (∀ j ∈ is, j ∈ vs) ∧ QD c' ifs ρ2 keep ∧ (keep = true → ED c' elt ρ2 r)
def lcOut (xs : List PyData) (keep : PyData → Bool) (f : PyData → PyData) : List PyData := (xs.filter keep).map f
theorem lcOut_snoc {xs : List PyData} {i : Nat} {d : PyData} (h : xs[i]? = some d) (keep : PyData → Bool) (f : PyData → PyData) :
    lcOut (xs.take (i + 1)) keep f = lcOut (xs.take i) keep f ++ (if keep d = true then [f d] else []) := by
  unfold lcOut
  rw [List.take_add_one, h]
  show ((xs.take i ++ [d]).filter keep).map f = _
  rw [List.filter_append, List.map_append]
  congr 1
  cases q : keep d <;> simp [List.filter_cons, q]
theorem lc_run {tg iter elt : Expr} {ifs : List Expr} {scope : Scope} {vs : List Nat} {xs : List PyData} (hi : ID c tg iter ρ xs) (hn : xs.length ≤ 1000000) (keep : PyData → Bool) (f : PyData → PyData)
    (ht : ∀ (i : Nat) (d : PyData), xs[i]? = some d → LcTurn (c.blk scope) tg ifs elt vs ρ d (keep d) (f d))
    {β : Bs} {S H : Hp} {σ : L2.St} (E : Env β S H σ ρ) (hK : c.Ok β) {Q : VK}
    (q : ∀ p ws S' H', H p = none → H' p = some (HO.lst ws) → S' p = none → DtAll S' ws (lcOut xs keep f) → Grow S H S' H' → Q (.ref p) H') :
    tLc (wI c tg iter) (wG (c.blk scope) tg) (wQ (c.blk scope) ifs) (wE (c.blk scope) elt) vs σ H Q := by
  refine hi β S H σ E hK _ fun J S1 H1 g1 wk D hD => ?_
  have E1 := E.grow g1
  have hD0 : H D = none := g1.hh.back hD
  refine ⟨fun i m H2 => i + m = xs.length ∧ ∃ S2 acc, Grow S1 H1 S2 H2 ∧ H2 D = some (.lst acc) ∧ S2 D = none ∧ DtAll S2 acc (lcOut (xs.take i) keep f), ⟨xs.length, by omega, S1, [], Grow.own g1.sh hD, upd_same, g1.sh.back hD, ?_⟩, fun i m H2 hW => ?_⟩
  · show DtAll S1 [] (lcOut (xs.take 0) keep f)
    exact .nil
  · obtain ⟨him, S2, acc, g2, hl, hs, hacc⟩ := hW
    obtain ⟨go, stop, yld⟩ := wk S2 H2 g2.ss g2.sh
    by_cases hlt : i < xs.length
    · refine .inr ⟨go i hlt, fun H' => ∃ S2 acc, Grow S1 H1 S2 H' ∧ H' D = some (.lst acc) ∧ S2 D = none ∧ DtAll S2 acc (lcOut (xs.take (i + 1)) keep f), fun H' hN => ⟨m - 1, by omega, by omega, hN⟩, fun v H3 hy => ?_⟩
      obtain ⟨S3, d, g3, hd, dv⟩ := yld i v H3 hlt hy
      obtain ⟨is, ρ2, hg, his, hq, hel⟩ := ht i d hd
      have E3 : Env β S3 H3 σ ρ := ((E1.grow g2).grow g3)
      have hs3 : S3 D = none := g3.fr D (by rw [hl]; simp) hs
      have hl3 : H3 D = some (.lst acc) := g3.hh _ _ hl
      refine hg β S3 H3 (L2.wipe σ vs) v (E3.wipe vs) dv _ fun σ2 E4 hw => ⟨?_, ?_⟩
      · rw [hw vs his, wipe_wipe.idem]
      · refine hq β S3 H3 σ2 E4 hK _ fun S5 H5 g5 => ?_
        have hs5 : S5 D = none := g5.fr D (by rw [hl3]; simp) hs3
        have hl5 : H5 D = some (.lst acc) := g5.hh _ _ hl3
        cases hk : keep d with
        | true =>
          show wE (c.blk scope) elt σ2 H5 _
          refine hel hk β S5 H5 σ2 (E4.grow g5) hK _ fun w r S6 H6 hr g6 dw => ?_
          subst hr
          have hs6 : S6 D = none := g6.fr D (by rw [hl5]; simp) hs5
          have hl6 : H6 D = some (.lst acc) := g6.hh _ _ hl5
          have gg := ((g2.trans g3).trans g5).trans g6
          have hacc6 : DtAll S6 acc (lcOut (xs.take i) keep f) := dp_exs ((g3.ss.trans g5.ss).trans g6.ss) _ _ hacc
          have hlen : acc.length ≤ xs.length := by
            rw [da_len hacc]
            unfold lcOut
            rw [List.length_map]
            exact Nat.le_trans (List.length_filter_le _ _) (by rw [List.length_take]; omega)
          refine ⟨acc, hl6, Nat.lt_of_le_of_lt (Nat.le_trans hlen hn) (by decide), S6, acc ++ [w], ⟨gg.ss, gg.sh.wr hs6, gg.hh.wr hD, gg.fr⟩, upd_same, hs6, ?_⟩
          rw [lcOut_snoc hd, hk]
          exact da_app hacc6 (.cons dw .nil)
        | false =>
          show ∃ S2 acc, Grow S1 H1 S2 H5 ∧ _
          refine ⟨S5, acc, (g2.trans g3).trans g5, hl5, hs5, ?_⟩
          rw [lcOut_snoc hd, hk]
          show DtAll S5 acc (_ ++ [])
          rw [List.append_nil]
          exact dp_exs (g3.ss.trans g5.ss) _ _ hacc
    · refine .inl ⟨by rw [show i = xs.length by omega]; exact stop, ?_⟩
      have hi2 : xs.take i = xs := List.take_of_length_le (by omega)
      rw [hi2] at hacc
      exact q D acc S2 H2 hD0 hl hs hacc (g1.trans g2)
/-- [elt for tg in iter if ..] -/
theorem n_lc {tg iter elt : Expr} {ifs : List Expr} {scope : Scope} (own : List (Str × Nat)) {xs : List PyData} (keep : PyData → Bool) (f : PyData → PyData) (hNd : c.N.Nodup) (hi : ID c tg iter ρ xs) (hn : xs.length ≤ 1000000)
    (ok : blkC c.N c.sc scope own = true) (ht : ∀ (i : Nat) (d : PyData), xs[i]? = some d → LcTurn (c.blk scope) tg ifs elt (own.map (·.2)) ρ d (keep d) (f d))
    (hs : ∀ (env : PySem.Env) x, foldedSetIterable iter env x = pure x := by intro _ _; rfl) : EL c (.ListComp elt [⟨tg, iter, ifs, 0⟩] scope pos) ρ (lcOut xs keep f) := fun β S H σ E hK Q q =>
  wE_of (fun X hX => pe_lc hX.calm (by rw [hX.N]; exact hNd) (pi_w hX) (by rw [hX.N, hX.sc]; exact blkOk_by ok) (fun s H C cl fp => pg_w (hX.blk scope s H C cl fp)) (fun s H C cl fp => pts_w (hX.blk scope s H C cl fp)) (fun s H C cl fp => pe_w (hX.blk scope s H C cl fp)) (hs X.env))
    (lc_run hi hn keep f ht E hK fun p ws S' H' h1 h2 h3 h4 h5 => q p ws _ S' H' rfl h1 h2 h3 h4 h5)
/-- without tests -/
theorem n_lcA {tg iter elt : Expr} {scope : Scope} (own : List (Str × Nat)) {xs : List PyData} (f : PyData → PyData) (hNd : c.N.Nodup) (hi : ID c tg iter ρ xs) (hn : xs.length ≤ 1000000)
    (ok : blkC c.N c.sc scope own = true) (ht : ∀ (i : Nat) (d : PyData), xs[i]? = some d → LcTurn (c.blk scope) tg [] elt (own.map (·.2)) ρ d true (f d))
    (hs : ∀ (env : PySem.Env) x, foldedSetIterable iter env x = pure x := by intro _ _; rfl) : EL c (.ListComp elt [⟨tg, iter, [], 0⟩] scope pos) ρ (xs.map f) := by
  have h := n_lc (pos := pos) (ifs := []) own (fun _ => true) f hNd hi hn ok ht hs
  have e : lcOut xs (fun _ => true) f = xs.map f := by unfold lcOut; rw [List.filter_eq_self.mpr fun _ _ => rfl]
  rw [e] at h
  exact h

/-! ### calls of defs -/
/-- a def's promise where no repr is under way -/
structure FnG (g : Gc) (k : Nat) (f : Addr) (fd : FuncData) (ps : List Str) (sp : Sp) : Prop where
  arity : ∀ vs H Q E, sp vs H Q E → vs.length = ps.length
  go : ∀ (A : Around) (outer : List PySem.Env) (s : Shared) (H : Hp) (args : Args) (us : List Value) (vs : List V) (Q : VK) (E : XK), A.guards = some [] → Room k A → Env0 g.P g.w g.K g.mg g.base A outer s H → BindsTo s fd args (ps.zip us) → Vals vs us → sp vs H Q E →
    codeAny (model g.P g.w) A (.call (.ref f) args) (CR CX0 outer g.P g.w H s Q E) s
theorem FnG.of {g : Gc} {k : Nat} {f : Addr} {fd : FuncData} {ps : List Str} {sp : Sp} (F : FnOk g.P g.w g.K g.mg g.base CX0 k f fd ps sp) : FnG g k f fd ps sp :=
  ⟨F.len, fun A outer s H args us vs Q E _ => F.run A outer s H args us vs Q E⟩
/-- a def of the module keeps the promise sp, at level j; gb: it calls repr -/
def Dg (g : Gc) (gb : Bool) (x : Str) (j : Nat) (sp : Sp) : Prop := ∃ (f : Addr) (fd : FuncData) (ps : List Str), g.mg x = some (Value.ref f) ∧ PySem.W.keepIn g.K (.ref f) = true ∧ Binds g.K fd ps [] ∧ (match gb with | false => FnOk g.P g.w g.K g.mg g.base CX0 j f fd ps sp | true => FnG g j f fd ps sp)
abbrev Df (g : Gc) (x : Str) (j : Nat) (sp : Sp) : Prop := Dg g false x j sp
theorem go_dg {X : Cx} {j : Nat} {f : Addr} {fd : FuncData} {ps : List Str} {sp : Sp} (hX : c.Has X) (F : FnG c.g j f fd ps sp) (hgd : c.gd = true) (hj : j ≤ c.k) (hb : Binds c.g.K fd ps []) {pins : List (Addr × Obj)} {σ : L2.St} {H : Hp} {s : Shared} {Q : VK} {us : List Value} {vs : List V}
    (I : Inv X pins σ H s) (r : Vals vs us) (h : sp (vs ++ []) H Q E0) : wpAny (model X.prog X.w) X.A (call (.ref f) us) (EP X pins σ Q) X.xe s := by
  rw [List.append_nil] at h
  have n1 : us.length = ps.length := r.length.symm.trans (F.arity _ _ _ _ h)
  have bd := hb s us (by rw [← hX.K]; exact I.kIn) (by simpa using n1)
  rw [List.append_nil] at bd
  have e0 : Env0 c.g.P c.g.w c.g.K c.g.mg c.g.base X.A X.stack s H := by
    have z := I.env0
    rw [hX.P, hX.w, hX.K, hX.mg, hX.base] at z
    exact z
  have run := F.go X.A X.stack s H ⟨us, []⟩ us vs Q E0 (hX.gd hgd) (hX.room.mono hj) e0 bd r h
  rw [← hX.P, ← hX.w] at run
  refine wpAny_call (codeAny_mono run fun r s' z => ?_)
  match r, z with
  | .error e, z => exact z.elim
  | .ok .next, z => exact False.elim z
  | .ok .brk, z => exact False.elim z
  | .ok .cont, z => exact False.elim z
  | .ok (.ret u), z => exact I.after z
theorem pe_df {X : Cx} {x : Str} {j : Nat} {gb : Bool} {sp : Sp} (hX : c.Has X) (D : Dg c.g gb x j sp) (hgd : gb = true → c.gd = true) (hj : j ≤ c.k) (hg : Glb c x) (hdb : (x == ("__debug__" : Str)) = false) (he : starEach (e :: es) X.env = (false, eval e X.env) :: starEach es X.env)
    (hpl : (backTo pos (starEach es X.env)).any (·.1) = false) : PE X (.Call (.Name x p) (e :: es) [] pos) (tCall sp [] E0 (wA c (e :: es))) := by
  obtain ⟨f, fd, ps, h1, h2, h3, h4⟩ := D
  cases gb with
  | false =>
    refine pe_call (CX := CX0) (k := j) (fd := fd) (ps := ps) (ds := []) ?_ (hX.room.mono hj) (hX.gl hg) (by rw [hX.mg]; exact h1) (by rw [hX.K]; exact h2) (by rw [hX.K]; exact h3) .nil pass0 (pa_w hX) hdb he hpl
    rw [hX.P, hX.w, hX.K, hX.mg, hX.base]
    exact h4
  | true =>
    exact ⟨fun pins s σ H Q I hw => wpAny_Call_Name_kw (ld_glob I (hX.gl hg) (by rw [hX.mg]; exact h1) (PySem.W.callWith_K (h₀ := X.base) I.ok.mod.kin (by rw [hX.K]; exact h2) (thn ((pa_w hX).run pos pins s σ H _ I hw) fun us s1 ⟨vs, H1, I1, r, q⟩ => ⟨I1.kIn, go_dg hX h4 (hgd rfl) hj h3 I1 r q⟩) he hpl) hdb)⟩
theorem pe_df0 {X : Cx} {x : Str} {j : Nat} {gb : Bool} {sp : Sp} (hX : c.Has X) (D : Dg c.g gb x j sp) (hgd : gb = true → c.gd = true) (hj : j ≤ c.k) (hg : Glb c x) (hdb : (x == ("__debug__" : Str)) = false) : PE X (.Call (.Name x p) [] [] pos) (tCall sp [] E0 tNil) := by
  obtain ⟨f, fd, ps, h1, h2, h3, h4⟩ := D
  cases gb with
  | false =>
    refine pe_call0 (CX := CX0) (k := j) (fd := fd) (ps := ps) (ds := []) ?_ (hX.room.mono hj) (hX.gl hg) (by rw [hX.mg]; exact h1) (by rw [hX.K]; exact h2) (by rw [hX.K]; exact h3) .nil pass0 hdb
    rw [hX.P, hX.w, hX.K, hX.mg, hX.base]
    exact h4
  | true =>
    exact ⟨fun pins s σ H Q I hw => wpAny_Call_Name_kw (ld_glob I (hX.gl hg) (by rw [hX.mg]; exact h1) (PySem.W.callWith_K0 I.kIn (by rw [hX.K]; exact h2) (go_dg hX h4 (hgd rfl) hj h3 I .nil hw)) hdb)⟩
/-- a def of data: it gives data, and leaves all as it was -/
def SpP (n : Nat) (Pre : List PyData → Prop) (Post : List PyData → PyData → Prop) : Sp := fun vs H Q _ => vs.length = n ∧ ∃ S ds, Ex S H ∧ DtAll S vs ds ∧ Pre ds ∧ ∀ v d S' H', Post ds d → Grow S H S' H' → Dt S' v d → Q v H'
/-- the same, what it gives is a new list -/
def SpL (n : Nat) (Pre : List PyData → Prop) (Post : List PyData → List PyData → Prop) : Sp := fun vs H Q _ => vs.length = n ∧ ∃ S ds, Ex S H ∧ DtAll S vs ds ∧ Pre ds ∧
  ∀ p ws xs S' H', Post ds xs → H p = none → H' p = some (HO.lst ws) → S' p = none → DtAll S' ws xs → Grow S H S' H' → Q (.ref p) H'
theorem e_call {x : Str} {j n : Nat} {Pre : List PyData → Prop} {Post : List PyData → PyData → Prop} {ds : List PyData} {gb : Bool} (D : Dg c.g gb x j (SpP n Pre Post)) (ha : AD c (e :: es) ρ ds) (hp : Pre ds) (hl : ds.length = n := by rfl) (hj : j ≤ c.k := by exact Nat.le_of_ble_eq_true rfl)
    (hg : Glb c x := by rfl) (hdb : (x == ("__debug__" : Str)) = false := by decide) (he : ∀ env : PySem.Env, starEach (e :: es) env = (false, eval e env) :: starEach es env := by intro _; rfl)
    (hpl : ∀ env : PySem.Env, (backTo pos (starEach es env)).any (·.1) = false := by intro _; rfl) (hgd : gb = true → c.gd = true := by first | exact fun _ => rfl | exact (fun h => nomatch h)) : EV c (.Call (.Name x p) (e :: es) [] pos) ρ (Post ds) := fun β S H σ E hK Q q =>
  wE_of (fun X hX => pe_df hX D hgd hj hg hdb (he X.env) (hpl X.env)) (ha β S H σ E hK _ fun vs ds' S1 H1 e1 g1 dvs => by
    subst e1
    show SpP n Pre Post (vs ++ []) H1 Q E0
    rw [List.append_nil]
    exact ⟨by rw [da_len dvs, hl], S1, ds', g1.sh, dvs, hp, fun v d S2 H2 hd g2 dv => q v d S2 H2 hd (g1.trans g2) dv⟩)
theorem n_call {x : Str} {j n : Nat} {Pre : List PyData → Prop} {Post : List PyData → List PyData → Prop} {ds : List PyData} {gb : Bool} (D : Dg c.g gb x j (SpL n Pre Post)) (ha : AD c (e :: es) ρ ds) (hp : Pre ds) (hl : ds.length = n := by rfl) (hj : j ≤ c.k := by exact Nat.le_of_ble_eq_true rfl)
    (hg : Glb c x := by rfl) (hdb : (x == ("__debug__" : Str)) = false := by decide) (he : ∀ env : PySem.Env, starEach (e :: es) env = (false, eval e env) :: starEach es env := by intro _; rfl)
    (hpl : ∀ env : PySem.Env, (backTo pos (starEach es env)).any (·.1) = false := by intro _; rfl) (hgd : gb = true → c.gd = true := by first | exact fun _ => rfl | exact (fun h => nomatch h)) : EN c (.Call (.Name x p) (e :: es) [] pos) ρ (Post ds) := fun β S H σ E hK Q q =>
  wE_of (fun X hX => pe_df hX D hgd hj hg hdb (he X.env) (hpl X.env)) (ha β S H σ E hK _ fun vs ds' S1 H1 e1 g1 dvs => by
    subst e1
    show SpL n Pre Post (vs ++ []) H1 Q E0
    rw [List.append_nil]
    exact ⟨by rw [da_len dvs, hl], S1, ds', g1.sh, dvs, hp, fun p ws xs S2 H2 h1 h2 h3 h4 h5 g2 => q p ws xs S2 H2 h1 (g1.hh.back h2) h3 h4 h5 (g1.trans g2)⟩)
theorem e_call0 {x : Str} {j : Nat} {Pre : List PyData → Prop} {Post : List PyData → PyData → Prop} {gb : Bool} (D : Dg c.g gb x j (SpP 0 Pre Post)) (hp : Pre []) (hj : j ≤ c.k := by exact Nat.le_of_ble_eq_true rfl)
    (hg : Glb c x := by rfl) (hdb : (x == ("__debug__" : Str)) = false := by decide) (hgd : gb = true → c.gd = true := by first | exact fun _ => rfl | exact (fun h => nomatch h)) : EV c (.Call (.Name x p) [] [] pos) ρ (Post []) := fun β S H σ E hK Q q =>
  wE_of (fun X hX => pe_df0 hX D hgd hj hg hdb) (show SpP 0 Pre Post ([] ++ []) H Q E0 from ⟨rfl, S, [], E.sh, .nil, hp, fun v d S2 H2 hd g2 dv => q v d S2 H2 hd g2 dv⟩)

/-! ### built-ins -/
theorem e_blt {x : Str} {id : String} {r : List V → Hp → VK → Prop} {ds : List PyData} (hc : ∀ X, c.Has X → CallR X (.builtin id) r) (ha : AD c (e :: es) ρ ds)
    (hr : ∀ S H vs, Ex S H → DtAll S vs ds → ∀ Q : VK, (∀ w S' H', Grow S H S' H' → Dt S' w z → Q w H') → r vs H Q) (hm : c.g.mg x = none) (hv : bootBuiltins x = some (.builtin id)) (hg : Glb c x) (hn : x ≠ "__name__") (hdb : (x == ("__debug__" : Str)) = false)
    (he : ∀ env : PySem.Env, starEach (e :: es) env = (false, eval e env) :: starEach es env) (hpl : ∀ env : PySem.Env, (backTo pos (starEach es env)).any (·.1) = false) : ED c (.Call (.Name x p) (e :: es) [] pos) ρ z := fun β S H σ E hK Q q =>
  wE_of (fun X hX => pe_callB (hc X hX) (hX.gl hg) (by rw [hX.mg]; exact hm) hv (pa_w hX) hn hdb (he X.env) (hpl X.env)) (ha β S H σ E hK _ fun vs ds' S1 H1 e1 g1 dvs => by
    subst e1
    exact hr S1 H1 vs g1.sh dvs _ fun w S2 H2 g2 dw => q w _ S2 H2 rfl (g1.trans g2) dw)
theorem e_typ {x : Str} {id : String} {r : List V → Hp → VK → Prop} {ds : List PyData} (hc : ∀ X, c.Has X → CallR X (.type id) r) (ha : AD c (e :: es) ρ ds)
    (hr : ∀ S H vs, Ex S H → DtAll S vs ds → ∀ Q : VK, (∀ w S' H', Grow S H S' H' → Dt S' w z → Q w H') → r vs H Q) (hm : c.g.mg x = none) (hv : bootBuiltins x = some (.type id)) (hg : Glb c x) (hn : x ≠ "__name__") (hdb : (x == ("__debug__" : Str)) = false)
    (he : ∀ env : PySem.Env, starEach (e :: es) env = (false, eval e env) :: starEach es env) (hpl : ∀ env : PySem.Env, (backTo pos (starEach es env)).any (·.1) = false) : ED c (.Call (.Name x p) (e :: es) [] pos) ρ z := fun β S H σ E hK Q q =>
  wE_of (fun X hX => pe_callTy (hc X hX) (hX.gl hg) (by rw [hX.mg]; exact hm) hv (pa_w hX) hn hdb (he X.env) (hpl X.env)) (ha β S H σ E hK _ fun vs ds' S1 H1 e1 g1 dvs => by
    subst e1
    exact hr S1 H1 vs g1.sh dvs _ fun w S2 H2 g2 dw => q w _ S2 H2 rfl (g1.trans g2) dw)
theorem e_len {xs : List PyData} (h : ED c a ρ x) (hx : seqD x = some xs := by rfl) (hm : c.g.mg "len" = none) (hg : Glb c "len" := by rfl) (he : ∀ env : PySem.Env, starEach [a] env = (false, eval a env) :: starEach [] env := by intro _; rfl) :
    ED c (.Call (.Name "len" p) [a] [] pos) ρ (.int xs.length) := e_blt (fun X hX => hX.K ▸ call_len_seq) (a_cons h a_nil he) (fun S H vs e dv Q q => by
  cases dv with
  | cons d1 d2 =>
    cases d2
    cases x with
    | list ys =>
      cases hx
      cases d1 with
      | lst hl ha => exact ⟨_, _, rfl, .inl (sl_of (e _ _ hl)), by rw [da_len ha]; exact q _ S H (Grow.rfl e) (.int _)⟩
    | tuple ys =>
      cases hx
      cases d1 with
      | tup hl ha => exact ⟨_, _, rfl, .inr (st_of (e _ _ hl)), by rw [da_len ha]; exact q _ S H (Grow.rfl e) (.int _)⟩
    | none => cases hx
    | bool _ => cases hx
    | int _ => cases hx
    | str _ => cases hx
    | dict _ => cases hx) hm boot_len hg (by decide) (by decide) he (fun _ => rfl)
theorem e_tuple {xs : List PyData} (h : ED c a ρ (.list xs)) (hm : c.g.mg "tuple" = none) (hg : Glb c "tuple" := by rfl) (he : ∀ env : PySem.Env, starEach [a] env = (false, eval a env) :: starEach [] env := by intro _; rfl) :
    ED c (.Call (.Name "tuple" p) [a] [] pos) ρ (.tuple xs) := e_typ (fun X hX => hX.K ▸ call_tuple_of) (a_cons h a_nil he) (fun S H vs e dv Q q => by
  cases dv with
  | cons d1 d2 =>
    cases d2
    cases d1 with
    | lst hl ha => exact ⟨_, _, rfl, .inl ⟨sl_of (e _ _ hl), fun l hn => q _ (upd S l (.tup _)) _ (Grow.new e hn) (.tup upd_same (dp_exs (Ex.new (e.back hn)) _ _ ha))⟩⟩) hm boot_tuple hg (by decide) (by decide) he (fun _ => rfl)
theorem e_abs {i : Int} (h : ED c a ρ (.int i)) (hm : c.g.mg "abs" = none) (hg : Glb c "abs" := by rfl) (he : ∀ env : PySem.Env, starEach [a] env = (false, eval a env) :: starEach [] env := by intro _; rfl) :
    ED c (.Call (.Name "abs" p) [a] [] pos) ρ (.int (if i < 0 then -i else i)) := e_blt (fun X hX => call_abs) (a_cons h a_nil he) (fun S H vs e dv Q q => by
  cases dv with
  | cons d1 d2 => cases d2; cases d1; exact ⟨i, rfl, q _ S H (Grow.rfl e) (.int _)⟩) hm (by decide +kernel) hg (by decide) (by decide) he (fun _ => rfl)
theorem e_min2 {i j : Int} (h : ED c a ρ (.int i)) (h2 : ED c b ρ (.int j)) (hm : c.g.mg "min" = none) (hg : Glb c "min" := by rfl) (he : ∀ env : PySem.Env, starEach [a, b] env = (false, eval a env) :: starEach [b] env := by intro _; rfl) (he2 : ∀ env : PySem.Env, starEach [b] env = (false, eval b env) :: starEach [] env := by intro _; rfl)
    (hpl : ∀ env : PySem.Env, (backTo pos (starEach [b] env)).any (·.1) = false := by intro _; rfl) : ED c (.Call (.Name "min" p) [a, b] [] pos) ρ (.int (if j < i then j else i)) := e_blt (fun X hX => call_min2 hX.calm) (a_cons h (a_cons h2 a_nil he2) he) (fun S H vs e dv Q q => by
  cases dv with
  | cons d1 d2 => cases d2 with
    | cons d2 d3 => cases d3; cases d1; cases d2; exact ⟨i, j, rfl, q _ S H (Grow.rfl e) (.int _)⟩) hm (by decide +kernel) hg (by decide) (by decide) he hpl
theorem e_max2 {i j : Int} (h : ED c a ρ (.int i)) (h2 : ED c b ρ (.int j)) (hm : c.g.mg "max" = none) (hg : Glb c "max" := by rfl) (he : ∀ env : PySem.Env, starEach [a, b] env = (false, eval a env) :: starEach [b] env := by intro _; rfl) (he2 : ∀ env : PySem.Env, starEach [b] env = (false, eval b env) :: starEach [] env := by intro _; rfl)
    (hpl : ∀ env : PySem.Env, (backTo pos (starEach [b] env)).any (·.1) = false := by intro _; rfl) : ED c (.Call (.Name "max" p) [a, b] [] pos) ρ (.int (if j > i then j else i)) := e_blt (fun X hX => call_max2 hX.calm) (a_cons h (a_cons h2 a_nil he2) he) (fun S H vs e dv Q q => by
  cases dv with
  | cons d1 d2 => cases d2 with
    | cons d2 d3 => cases d3; cases d1; cases d2; exact ⟨i, j, rfl, q _ S H (Grow.rfl e) (.int _)⟩) hm (by decide +kernel) hg (by decide) (by decide) he hpl
theorem e_intB {t : Bool} (h : ED c a ρ (.bool t)) (hm : c.g.mg "int" = none) (hg : Glb c "int" := by rfl) (he : ∀ env : PySem.Env, starEach [a] env = (false, eval a env) :: starEach [] env := by intro _; rfl) :
    ED c (.Call (.Name "int" p) [a] [] pos) ρ (.int (if t then 1 else 0)) := e_typ (fun X hX => call_int1) (a_cons h a_nil he) (fun S H vs e dv Q q => by
  cases dv with
  | cons d1 d2 => cases d2; cases d1; exact .inr ⟨t, rfl, q _ S H (Grow.rfl e) (.int _)⟩) hm (by decide +kernel) hg (by decide) (by decide) he (fun _ => rfl)
theorem e_all {ts : List Bool} (h : ED c a ρ (.list (ts.map .bool))) (hm : c.g.mg "all" = none) (hg : Glb c "all" := by rfl) (he : ∀ env : PySem.Env, starEach [a] env = (false, eval a env) :: starEach [] env := by intro _; rfl) :
    ED c (.Call (.Name "all" p) [a] [] pos) ρ (.bool (ts.all id)) := e_blt (fun X hX => hX.K ▸ cr_all hX.calm) (a_cons h a_nil he) (fun S H vs e dv Q q => by
  cases dv with
  | cons d1 d2 =>
    cases d2
    cases d1 with
    | lst hl ha =>
      have hh := da_bls_inv ts ha
      subst hh
      exact ⟨_, ts, rfl, sl_of (e _ _ hl), q _ S H (Grow.rfl e) (.bl _)⟩) hm (by decide +kernel) hg (by decide) (by decide) he (fun _ => rfl)
theorem e_any {ts : List Bool} (h : ED c a ρ (.list (ts.map .bool))) (hm : c.g.mg "any" = none) (hg : Glb c "any" := by rfl) (he : ∀ env : PySem.Env, starEach [a] env = (false, eval a env) :: starEach [] env := by intro _; rfl) :
    ED c (.Call (.Name "any" p) [a] [] pos) ρ (.bool (ts.any id)) := e_blt (fun X hX => hX.K ▸ cr_any hX.calm) (a_cons h a_nil he) (fun S H vs e dv Q q => by
  cases dv with
  | cons d1 d2 =>
    cases d2
    cases d1 with
    | lst hl ha =>
      have hh := da_bls_inv ts ha
      subst hh
      exact ⟨_, ts, rfl, sl_of (e _ _ hl), q _ S H (Grow.rfl e) (.bl _)⟩) hm (by decide +kernel) hg (by decide) (by decide) he (fun _ => rfl)
/-! ### isinstance -/
def tyD : PyData → String
  | .none => "NoneType" | .bool _ => "bool" | .int _ => "int" | .str _ => "str" | .list _ => "list" | .tuple _ => "tuple" | .dict _ => "dict"
theorem tyx_of {K : PySem.W.Frag} {S H : Hp} (e : Ex S H) {v : V} : ∀ {d : PyData}, Dt S v d → TyX K H v (.type (tyD d))
  | .none, .non => .base .non
  | .bool _, .bl b => .base (.bl b)
  | .int _, .int i => .base (.int i)
  | .str _, .str x => .base (.str x)
  | .list _, .lst h _ => .base (.lst (e _ _ h))
  | .tuple _, .tup h _ => .base (.tup (e _ _ h))
theorem e_isi {T : String} {t : Bool} {n : Str} {p2 : Pos} (h : ED c a ρ x) (hk : kitB (tyD x) T = some t) (hT : bootBuiltins n = some (.type T)) (hmT : c.g.mg n = none) (hm : c.g.mg "isinstance" = none) (hg : Glb c "isinstance" := by rfl) (hgT : Glb c n := by rfl) (hnT : n ≠ "__name__" := by decide)
    (hdT : (n == ("__debug__" : Str)) = false := by decide) (he : ∀ env : PySem.Env, starEach [a, .Name n p2] env = (false, eval a env) :: starEach [.Name n p2] env := by intro _; rfl) : ED c (.Call (.Name "isinstance" p) [a, .Name n p2] [] pos) ρ (.bool t) := fun β S H σ E hK Q q =>
  wE_of (t := tCB (rIsi c.g.K) (tCons (wE c a) (tCons (tC (.ty T)) tNil))) (fun X hX => pe_callB (hX.K ▸ call_isi) (hX.gl hg) (by rw [hX.mg]; exact hm) (by decide +kernel) (pa_cons (pe_w hX) (pa_cons (pe_bltn (hX.gl hgT) (by rw [hX.mg]; exact hmT) hT rfl hnT hdT) pa_nil rfl) (he X.env)) (by decide) (by decide) (he X.env) rfl)
    (h β S H σ E hK _ fun v d S1 H1 e1 g1 dv => by
      subst e1
      exact ⟨v, .ty T, _, _, t, rfl, .ty T, tyx_of g1.sh dv, kit_ty hk, q _ _ S1 H1 rfl g1 (.bl t)⟩)
theorem e_isi2 {T U : String} {t u : Bool} {n m : Str} {p2 p3 p4 : Pos} {k : Nat} (h : ED c a ρ x) (hk : kitB (tyD x) T = some t) (hk2 : kitB (tyD x) U = some u) (hT : bootBuiltins n = some (.type T)) (hU : bootBuiltins m = some (.type U)) (hmT : c.g.mg n = none) (hmU : c.g.mg m = none) (hm : c.g.mg "isinstance" = none)
    (hg : Glb c "isinstance" := by rfl) (hgT : Glb c n := by rfl) (hgU : Glb c m := by rfl) (hnT : n ≠ "__name__" := by decide) (hnU : m ≠ "__name__" := by decide)
    (hdT : (n == ("__debug__" : Str)) = false := by decide) (hdU : (m == ("__debug__" : Str)) = false := by decide) (he : ∀ env : PySem.Env, starEach [a, .Tuple [.Name n p2, .Name m p3] k p4] env = (false, eval a env) :: starEach [.Tuple [.Name n p2, .Name m p3] k p4] env := by intro _; rfl) :
    ED c (.Call (.Name "isinstance" p) [a, .Tuple [.Name n p2, .Name m p3] k p4] [] pos) ρ (.bool (t || u)) := fun β S H σ E hK Q q =>
  wE_of (t := tCB (rIsiT c.g.K) (tCons (wE c a) (tCons (tTup (tCons (tC (.ty T)) (tCons (tC (.ty U)) tNil))) tNil))) (fun X hX => pe_callB (hX.K ▸ call_isiT) (hX.gl hg) (by rw [hX.mg]; exact hm) (by decide +kernel) (pa_cons (pe_w hX) (pa_cons (pe_tup (pa_cons (pe_bltn (hX.gl hgT) (by rw [hX.mg]; exact hmT) hT rfl hnT hdT) (pa_cons (pe_bltn (hX.gl hgU) (by rw [hX.mg]; exact hmU) hU rfl hnU hdU) pa_nil rfl) rfl)) pa_nil rfl) (he X.env)) (by decide) (by decide) (he X.env) rfl)
    (h β S H σ E hK _ fun v d S1 H1 e1 g1 dv => by
      subst e1
      refine ⟨by show 2 ≤ sizeLine; decide, fun q1 hq => ⟨v, q1, [.ty T, .ty U], _, [.type T, .type U], t || u, rfl, upd_same, .cons (.ty T) (.cons (.ty U) .nil), tyx_of (g1.sh.wr (g1.sh.back hq)) dv, ?_, q _ _ S1 _ rfl (g1.trans (Grow.own g1.sh hq)) (.bl _)⟩⟩
      refine kitAny_cons (kit_ty hk) (fun h0 => ?_) (fun h1 => by rw [h1]; rfl)
      refine kitAny_cons (kit_ty hk2) (fun h0' => by rw [h0, h0']; exact kitAny_nil) (fun h1 => by rw [h1]; cases t <;> rfl))
end
end Bd
/-! Statements and bodies of defs. -/
namespace Bd
open PySem PySem.Spec PyProof.Rows L2

/-! ### trees: new lists within what is told -/
mutual
/-- no list within -/
def noL : PyData → Bool
  | .none => true
  | .bool _ => true
  | .int _ => true
  | .str _ => true
  | .tuple xs => noLs xs
  | .list _ => false
  | .dict _ => false
def noLs : List PyData → Bool
  | [] => true
  | x :: xs => noL x && noLs xs
end
mutual
/-- v is x: its leaves lie in S, its lists among the pinned ones f (as: which), its tuples in S -/
inductive Tr (S : Hp) (f : Addr → Option (List V)) : V → PyData → List Addr → Prop
  | d {v : V} {x : PyData} : Dt S v x → noL x = true → Tr S f v x []
  | l {a : Addr} {vs : List V} {xs : List PyData} {as : List Addr} : f a = some vs → TrAll S f vs xs as → Tr S f (V.ref a) (PyData.list xs) (a :: as)
  | t {a : Addr} {vs : List V} {xs : List PyData} {as : List Addr} : S a = some (HO.tup vs) → TrAll S f vs xs as → Tr S f (V.ref a) (PyData.tuple xs) as
inductive TrAll (S : Hp) (f : Addr → Option (List V)) : List V → List PyData → List Addr → Prop
  | nil : TrAll S f [] [] []
  | cons {v : V} {x : PyData} {vs : List V} {xs : List PyData} {as bs : List Addr} : Tr S f v x as → TrAll S f vs xs bs → TrAll S f (v :: vs) (x :: xs) (as ++ bs)
end
/-- what a def hands back: data, or a new list that is the asker's own -/
inductive Res
  | d (x : PyData)
  | l (xs : List PyData)
  | t (d : PyData)
def ResOk (β : Bs) (S H : Hp) (v : V) : Res → Prop
  | .d x => Dt S v x
  | .l xs => ∃ p vs, v = .ref p ∧ H p = some (HO.lst vs) ∧ DtAll S vs xs ∧ S p = none ∧ β.H0 p = none
  | .t x => ∃ f as, (∀ a vs, f a = some vs → β.H0 a = none ∧ H a = some (HO.lst vs) ∧ S a = none) ∧ Tr S f v x as
/-- what is wanted behind a statement, of the environment -/
structure Po where
  nx : List Cell → Prop
  rt : Res → List Cell → Prop
  bk : List Cell → Prop := fun _ => False
  ct : List Cell → Prop := fun _ => False
structure Po.Ends (Φ : Po) (β : Bs) (S : Hp) (D : L2.Ends) : Prop where
  nx : ∀ σ' S' H' ρ', Φ.nx ρ' → Ex S S' → Env β S' H' σ' ρ' → D.nx σ' H'
  rt : ∀ v r σ' S' H' ρ', Φ.rt r ρ' → Ex S S' → Env β S' H' σ' ρ' → ResOk β S' H' v r → D.rt v H'
  bk : ∀ σ' S' H' ρ', Φ.bk ρ' → Ex S S' → Env β S' H' σ' ρ' → D.bk σ' H'
  ct : ∀ σ' S' H' ρ', Φ.ct ρ' → Ex S S' → Env β S' H' σ' ρ' → D.ct σ' H'
theorem Po.Ends.mono {Φ : Po} {β : Bs} {S S1 : Hp} {D : L2.Ends} (h : Φ.Ends β S D) (e : Ex S S1) : Φ.Ends β S1 D :=
  ⟨fun σ' S' H' ρ' a b => h.nx σ' S' H' ρ' a (e.trans b), fun v r σ' S' H' ρ' a b => h.rt v r σ' S' H' ρ' a (e.trans b), fun σ' S' H' ρ' a b => h.bk σ' S' H' ρ' a (e.trans b), fun σ' S' H' ρ' a b => h.ct σ' S' H' ρ' a (e.trans b)⟩
def SV (c : Cc) (sts : List Stmt) (ρ : List Cell) (Φ : Po) : Prop := ∀ (β : Bs) (S H : Hp) (σ : L2.St) (D : L2.Ends), Env β S H σ ρ → c.Ok β → Φ.Ends β S D → wSs c sts D σ H
def S1 (c : Cc) (st : Stmt) (ρ : List Cell) (Φ : Po) : Prop := ∀ (β : Bs) (S H : Hp) (σ : L2.St) (D : L2.Ends), Env β S H σ ρ → c.Ok β → Φ.Ends β S D → wS c st D σ H
def Po.to (Φ : Po) (M : List Cell → Prop) : Po := { Φ with nx := M }

section
variable {c : Cc} {ρ : List Cell} {a b e : Expr} {es : List Expr} {pos p : Pos} {x y z d : PyData} {st : Stmt} {sts : List Stmt} {Φ : Po}
theorem sv_nil (h : Φ.nx ρ) : SV c [] ρ Φ := fun β S H σ D E hK k => wSs_of (fun X hX => pss_nil) (k.nx σ S H ρ h Ex.rfl E)
theorem sv_cons (M : List Cell → Prop) (h1 : S1 c st ρ (Φ.to M)) (h2 : ∀ ρ', M ρ' → SV c sts ρ' Φ) : SV c (st :: sts) ρ Φ := fun β S H σ D E hK k =>
  wSs_of (fun X hX => pss_cons (ps_w hX) (pss_w hX)) (h1 β S H σ { D with nx := wSs c sts D } E hK ⟨fun σ' S' H' ρ' hm e E' => h2 ρ' hm β S' H' σ' D E' hK (k.mono e), k.rt, k.bk, k.ct⟩)
theorem sv_to {ρ1 : List Cell} (h1 : S1 c st ρ (Φ.to fun r => r = ρ1)) (h2 : SV c sts ρ1 Φ) : SV c (st :: sts) ρ Φ := sv_cons _ h1 fun _ e => e ▸ h2
theorem sv_one (h : S1 c st ρ Φ) : SV c [st] ρ Φ := fun β S H σ D E hK k => wSs_of (fun X hX => pss_one (ps_w hX)) (h β S H σ D E hK k)
/-- the same code, what follows forgotten or told otherwise -/
theorem SV.mono {Ψ : Po} (h : SV c sts ρ Ψ) (h1 : ∀ r, Ψ.nx r → Φ.nx r) (h2 : ∀ v r, Ψ.rt v r → Φ.rt v r) (h3 : ∀ r, Ψ.bk r → Φ.bk r) (h4 : ∀ r, Ψ.ct r → Φ.ct r) : SV c sts ρ Φ := fun β S H σ D E hK k =>
  h β S H σ D E hK ⟨fun σ' S' H' ρ' q => k.nx σ' S' H' ρ' (h1 _ q), fun v r σ' S' H' ρ' q => k.rt v r σ' S' H' ρ' (h2 _ _ q), fun σ' S' H' ρ' q => k.bk σ' S' H' ρ' (h3 _ q), fun σ' S' H' ρ' q => k.ct σ' S' H' ρ' (h4 _ q)⟩
theorem sv_freeze (i : Nat) {xs : List PyData} (h : SV c sts (ρ.set i (Cell.d (.list xs))) Φ) (hi : ρ[i]? = some (Cell.o (.l xs)) := by rfl) : SV c sts ρ Φ := fun β S H σ D E hK k => by
  obtain ⟨S', e, E'⟩ := E.freeze hi
  exact h β S' H σ D E' hK (k.mono e)
theorem sv_drop (i : Nat) (h : SV c sts (ρ.set i Cell.u) Φ) : SV c sts ρ Φ := fun β S H σ D E hK k => h β S H σ D E.drop hK k

/-! ### assignments -/
/-- tg = x: the environment behind; objects may be written -/
def GW (c : Cc) (tg : Expr) (x : PyData) (ρ ρ' : List Cell) : Prop :=
  ∀ (β : Bs) (S H : Hp) (σ : L2.St) (v : V), Env β S H σ ρ → c.Ok β → Dt S v x → ∀ Q : L2.St → Hp → Prop, (∀ σ' S' H', Env β S' H' σ' ρ' → Ex S S' → Q σ' H') → wG c tg v σ H Q
def GWs (c : Cc) (ts : List Expr) (xs : List PyData) (ρ ρ' : List Cell) : Prop :=
  ∀ (β : Bs) (S H : Hp) (σ : L2.St) (ws : List V), Env β S H σ ρ → c.Ok β → DtAll S ws xs → ∀ Q : L2.St → Hp → Prop, (∀ σ' S' H', Env β S' H' σ' ρ' → Ex S S' → Q σ' H') → wGs c ts ws σ H Q
theorem GD.gw {tg : Expr} {is : List Nat} {ρ' : List Cell} (h : GD c tg is x ρ ρ') : GW c tg x ρ ρ' := fun β S H σ v E hK dv Q q => h β S H σ v E dv Q fun σ' E' _ => q σ' S H E' Ex.rfl
theorem gw_name (i : Nat) {n : Str} (hN : c.N.Nodup) (hi : c.N[i]? = some n := by rfl) (hx : Loc c.sc n := by first | exact Or.inl rfl | exact Or.inr rfl)
    (hf : c.fn n = true ∨ c.sc.names.lookup n = some .local := by first | exact Or.inl rfl | exact Or.inr rfl) : GW c (.Name n pos) x ρ (ρ.set i (Cell.d x)) := (g_name i hN hi hx hf).gw
theorem gws_nil : GWs c [] [] ρ ρ := fun β S H σ ws E hK dw Q q => by
  cases dw
  exact wGs_of (fun X hX => pgs_nil) ⟨rfl, q σ S H E Ex.rfl⟩
theorem gws_cons {tg : Expr} {ts : List Expr} {xs : List PyData} {ρ1 ρ2 : List Cell} (h1 : GW c tg x ρ ρ1) (h2 : GWs c ts xs ρ1 ρ2)
    (hs : ∀ env : PySem.Env, (assignEach (tg :: ts) env).map (·.2) = assign tg env :: (assignEach ts env).map (·.2) := by intro _; rfl) : GWs c (tg :: ts) (x :: xs) ρ ρ2 := fun β S H σ ws E hK dw Q q => by
  cases dw with
  | cons d1 d2 =>
    exact wGs_of (fun X hX => pgs_cons (pg_w hX) (pgs_w hX) (hs X.env)) ⟨_, _, rfl, h1 β S H σ _ E hK d1 _ fun σ1 S1 H1 E1 e1 => h2 β S1 H1 σ1 _ E1 hK (dp_exs e1 _ _ d2) _ fun σ2 S2 H2 E2 e2 => q σ2 S2 H2 E2 (e1.trans e2)⟩
theorem gw_tup {ts : List Expr} {k : Nat} {xs : List PyData} {ρ1 : List Cell} (h : GWs c ts xs ρ ρ1)
    (hn : ∀ env : PySem.Env, (assignEach ts env).length = xs.length := by intro _; rfl) (hst : ∀ env : PySem.Env, (assignEach ts env).findIdx? (·.1) = none := by intro _; rfl) : GW c (.Tuple ts k pos) (.tuple xs) ρ ρ1 := fun β S H σ v E hK dv Q q => by
  cases dv with
  | tup hp hd =>
    exact wG_of (t := gTup c.g.K xs.length (wGs c ts)) (fun X hX => hX.K ▸ pg_tup hX.calm (pgs_w hX) (hn X.env) (hst X.env)) ⟨_, _, rfl, st_of (E.sh _ _ hp), da_len hd, h β S H σ _ E hK hd Q q⟩
/-- the list that the i-th slot owns -/
def OL (ρ : List Cell) (i : Nat) (xs : List PyData) (C : List PyData → Own) : Prop := ρ[i]? = some (Cell.o (C xs)) ∧ (C = Own.l ∨ C = Own.p)
theorem OL.get {i : Nat} {xs : List PyData} {C : List PyData → Own} (h : OL ρ i xs C) {β : Bs} {S H : Hp} {σ : L2.St} (E : Env β S H σ ρ) : ∃ q vs, σ[i]? = some (some (V.ref q)) ∧ H q = some (.lst vs) ∧ DtAll S vs xs ∧ S q = none ∧ ∀ ys, ownAt β (C ys) q := by
  obtain ⟨q, o, h1, h2, h3, h4, h5⟩ := E.own i _ h.1
  rcases h.2 with rfl | rfl
  · obtain ⟨vs, rfl, h3⟩ := h3
    exact ⟨q, vs, h1, h2, h3, h4, fun _ => h5⟩
  · obtain ⟨vs, rfl, h3⟩ := h3
    exact ⟨q, vs, h1, h2, h3, h4, fun _ => h5⟩
theorem OL.ok {S : Hp} {xs : List PyData} {vs : List V} {C : List PyData → Own} (h : C = Own.l ∨ C = Own.p) (d : DtAll S vs xs) : OwnOk S (C xs) (.lst vs) := by
  rcases h with rfl | rfl
  · exact ⟨vs, rfl, d⟩
  · exact ⟨vs, rfl, d⟩
theorem atI_ix {α : Type} {xs : List α} {i : Int} {v : α} (h : atI xs i = some v) : ∃ j, ixN xs.length i = some j ∧ xs[j]? = some v := by
  unfold atI at h
  cases q : ixN xs.length i with
  | none => rw [q] at h; cases h
  | some j => rw [q] at h; exact ⟨j, rfl, h⟩
/-- x[k] = .., x an owned list -/
theorem gw_sub (i : Nat) {n : Str} {k : Int} {j : Nat} {xs : List PyData} {C : List PyData → Own} {p2 : Pos} (ho : OL ρ i xs C) (hk : ED c b ρ (.int k)) (hj : ixN xs.length k = some j) (hN : c.N[i]? = some n := by rfl) (hv : Vis c.sc n := by first | exact Or.inl rfl | exact Or.inr (Or.inl rfl) | exact Or.inr (Or.inr rfl))
    (hd : (n == ("__debug__" : Str)) = false := by decide) (hcd : (n == ("__classdict__" : Str)) = false := by decide)
    (ha : ∀ (env : PySem.Env) v, assign (.Subscript (.Name n p) b p2) env v = (do
      let ov ← holding [v] (eval (.Name n p) env)
      let iv ← holding [v, ov] (eval b env)
      standAt p2
      holding [v, ov, iv] (setItem ov iv v)
      release [v, ov, iv] []) := by intro _ _; rfl) : GW c (.Subscript (.Name n p) b p2) x ρ (ρ.set i (Cell.o (C (xs.set j x)))) := fun β S H σ v E hK dv Q q => by
  obtain ⟨r, vs, h1, h2, h3, h4, h5⟩ := ho.get E
  refine wG_of (t := gSub (tVar i) (wE c b) rSetL) (fun X hX => pg_sub (pe_var (by rw [hX.N]; exact hN) (by rw [hX.sc]; exact hv) hd hcd) (pe_w hX) set_list (ha X.env)) ⟨_, h1, hk β S H σ E hK _ fun w d S1 H1 e1 g1 dw => ?_⟩
  subst e1
  cases dw
  have E1 := E.grow g1
  have d3 : DtAll S1 (vs.set j v) (xs.set j x) := da_set j (dp_exs g1.ss _ _ h3) (dp_ex g1.ss _ _ dv)
  exact ⟨r, vs, k, j, rfl, rfl, g1.hh _ _ h2, by rw [da_len h3]; exact hj, q σ S1 _ (E1.updO ho.1 h1 (OL.ok ho.2 d3) (h5 _)) g1.ss⟩
/-- tg = e -/
theorem s_asg {tg : Expr} {P : PyData → Prop} (h : EV c e ρ P) (k : ∀ d, P d → ∃ ρ', GW c tg d ρ ρ' ∧ Φ.nx ρ') (hs : ∀ env : PySem.Env, swapsWithSole [tg] e pos.line env = pure false := by intro _; rfl)
    (hw : ∀ env : PySem.Env, env.scope = c.sc → swappedStores [tg] e env = pure none := by intro _ _; rfl) (h1 : ∀ env : PySem.Env, (assignEach [tg] env).map (·.2) = [assign tg env] := by intro _; rfl) : S1 c (.Assign [tg] e pos) ρ Φ := fun β S H σ D E hK kk =>
  wS_of (fun X hX => ps_asg (pe_w hX) (pg_w hX) (hs X.env) (hw X.env hX.sc) (h1 X.env)) (h β S H σ E hK _ fun v d S1 H1 hp g dv => by
    obtain ⟨ρ', hg, hn⟩ := k d hp
    exact hg β S1 H1 σ v (E.grow g) hK dv _ fun σ' S2 H2 E2 e2 => kk.nx σ' S2 H2 ρ' hn (g.ss.trans e2) E2)
theorem s_set (i : Nat) {n : Str} {p2 : Pos} (h : ED c e ρ d) (hN : c.N.Nodup) (hn : Φ.nx (ρ.set i (Cell.d d))) (hi : c.N[i]? = some n := by rfl) (hx : Loc c.sc n := by first | exact Or.inl rfl | exact Or.inr rfl)
    (hf : c.fn n = true ∨ c.sc.names.lookup n = some .local := by first | exact Or.inl rfl | exact Or.inr rfl) (hs : ∀ env : PySem.Env, swapsWithSole [.Name n p2] e pos.line env = pure false := by intro _; rfl)
    (hw : ∀ env : PySem.Env, env.scope = c.sc → swappedStores [.Name n p2] e env = pure none := by intro _ _; rfl) : S1 c (.Assign [.Name n p2] e pos) ρ Φ :=
  s_asg h (fun d' e => ⟨_, gw_name i hN hi hx hf, by rw [e]; exact hn⟩) hs hw
theorem s_setV (i : Nat) {n : Str} {p2 : Pos} {P : PyData → Prop} (h : EV c e ρ P) (hN : c.N.Nodup) (hn : ∀ d, P d → Φ.nx (ρ.set i (Cell.d d))) (hi : c.N[i]? = some n := by rfl) (hx : Loc c.sc n := by first | exact Or.inl rfl | exact Or.inr rfl)
    (hf : c.fn n = true ∨ c.sc.names.lookup n = some .local := by first | exact Or.inl rfl | exact Or.inr rfl) (hs : ∀ env : PySem.Env, swapsWithSole [.Name n p2] e pos.line env = pure false := by intro _; rfl)
    (hw : ∀ env : PySem.Env, env.scope = c.sc → swappedStores [.Name n p2] e env = pure none := by intro _ _; rfl) : S1 c (.Assign [.Name n p2] e pos) ρ Φ :=
  s_asg h (fun d' e => ⟨_, gw_name i hN hi hx hf, hn d' e⟩) hs hw
theorem own_new {β : Bs} {S H : Hp} {σ : L2.St} (E : Env β S H σ ρ) {S' H' : Hp} (g : Grow S H S' H') {q : Addr} {vs : List V} {xs : List PyData} (hq : H q = none) (hl : H' q = some (.lst vs)) (hs : S' q = none) (hd : DtAll S' vs xs) (i : Nat) : Env β S' H' (σ.set i (some (V.ref q))) (ρ.set i (Cell.o (.l xs))) := by
  obtain ⟨n1, n2, n3⟩ := E.new hq
  exact (E.grow g).setO hl ⟨vs, rfl, hd⟩ hs n1 fun j C' _ h => n3 j C' h
/-- x = a new list, owned -/
theorem s_setN (i : Nat) {n : Str} {p2 : Pos} {P : List PyData → Prop} (h : EN c e ρ P) (hN : c.N.Nodup) (hn : ∀ xs, P xs → Φ.nx (ρ.set i (Cell.o (.l xs)))) (hi : c.N[i]? = some n := by rfl) (hx : Loc c.sc n := by first | exact Or.inl rfl | exact Or.inr rfl)
    (hf : c.fn n = true ∨ c.sc.names.lookup n = some .local := by first | exact Or.inl rfl | exact Or.inr rfl) (hs : ∀ env : PySem.Env, swapsWithSole [.Name n p2] e pos.line env = pure false := by intro _; rfl)
    (hw : ∀ env : PySem.Env, env.scope = c.sc → swappedStores [.Name n p2] e env = pure none := by intro _ _; rfl) : S1 c (.Assign [.Name n p2] e pos) ρ Φ := fun β S H σ D E hK kk =>
  wS_of (fun X hX => ps_asg (pe_w hX) (pg_name (by rw [hX.N]; exact hN) (by rw [hX.N]; exact hi) (by rw [hX.sc]; exact hx) (by
    rcases hf with h | h
    · exact .inl (hX.fn _ h)
    · exact .inr (by rw [hX.sc]; exact h))) (hs X.env) (hw X.env hX.sc)) (h β S H σ E hK _ fun q vs xs S1 H1 hp hq hl hs hd g =>
      kk.nx _ S1 H1 _ (hn xs hp) g.ss (own_new E g hq hl hs hd i))
/-- x = [.. for ..], x a local of the def, not of the comprehension -/
theorem s_setLc (i : Nat) {n : Str} {p2 lpos : Pos} {tg iter elt : Expr} {ifs : List Expr} {scope : Scope} (own : List (Str × Nat)) {xs : List PyData} (keep : PyData → Bool) (f : PyData → PyData) (hNd : c.N.Nodup) (hi : ID c tg iter ρ xs) (hn : xs.length ≤ 1000000)
    (ok : blkC c.N c.sc scope own = true) (ht : ∀ (i : Nat) (d : PyData), xs[i]? = some d → LcTurn (c.blk scope) tg ifs elt (own.map (·.2)) ρ d (keep d) (f d))
    (hnx : Φ.nx (ρ.set i (Cell.o (.l (lcOut xs keep f))))) (hx : c.sc.names.lookup n = some .local := by rfl) (hin : c.N[i]? = some n := by rfl) (hk : c.sc.kind = .function := by rfl) (hl : (p2.line == lpos.line) = true := by rfl)
    (hnot : (scope.names.any fun (m, k) => m == n && (k == .local || k == .cell)) = false := by decide +kernel)
    (hs : ∀ (env : PySem.Env) x, foldedSetIterable iter env x = pure x := by intro _ _; rfl) : S1 c (.Assign [.Name n p2] (.ListComp elt [⟨tg, iter, ifs, 0⟩] scope lpos) pos) ρ Φ := fun β S H σ D E hK kk =>
  wS_of (fun X hX => ps_setLc hX.calm (by rw [hX.N]; exact hNd) (by rw [hX.N]; exact hin) (by rw [hX.sc]; exact hx) (sw_true (by rw [hX.sc]; exact hk) (by rw [hX.sc]; exact hx) hl hnot) (pi_w hX) (by rw [hX.N, hX.sc]; exact blkOk_by ok)
      (fun s H C cl fp => pg_w (hX.blk scope s H C cl fp)) (fun s H C cl fp => pts_w (hX.blk scope s H C cl fp)) (fun s H C cl fp => pe_w (hX.blk scope s H C cl fp)) (hs X.env))
    (show tLc _ _ _ _ _ σ H _ from lc_run hi hn keep f ht E hK fun q ws S' H' h1 h2 h3 h4 h5 => kk.nx _ S' H' _ hnx h5.ss (own_new E h5 h1 h2 h3 h4 i))

/-! ### owned lists -/
theorem e_ixO (i : Nat) {n : Str} {k : Int} {xs : List PyData} {C : List PyData → Own} (ho : OL ρ i xs C) (h2 : ED c b ρ (.int k)) (hi : atI xs k = some z) (hN : c.N[i]? = some n := by rfl) (hv : Vis c.sc n := by first | exact Or.inl rfl | exact Or.inr (Or.inl rfl) | exact Or.inr (Or.inr rfl))
    (hd : (n == ("__debug__" : Str)) = false := by decide) (hcd : (n == ("__classdict__" : Str)) = false := by decide) (hs : PlainIx b := by intro _ _; rfl) : ED c (.Subscript (.Name n p) b pos) ρ z := fun β S H σ E hK Q q => by
  obtain ⟨r, vs, h1, h3, h4, _, _⟩ := ho.get E
  refine wE_of (t := tOp (rIxL c.g.K) (tVar i) (wE c b)) (fun X hX => pe_ix (hX.K ▸ ix_list) (pe_var (by rw [hX.N]; exact hN) (by rw [hX.sc]; exact hv) hd hcd) (pe_w hX) hs) ⟨_, h1, h2 β S H σ E hK _ fun w d S1 H1 e1 g1 dw => ?_⟩
  subst e1
  cases dw
  obtain ⟨u, e3, e4⟩ := da_atI h4 hi
  exact ⟨r, vs, k, u, rfl, rfl, sl_of (g1.hh _ _ h3), e3, q u z S1 H1 rfl g1 (dp_ex g1.ss _ _ e4)⟩
theorem e_lenO (i : Nat) {n : Str} {xs : List PyData} {p2 : Pos} {C : List PyData → Own} (ho : OL ρ i xs C) (hm : c.g.mg "len" = none) (hN : c.N[i]? = some n := by rfl) (hv : Vis c.sc n := by first | exact Or.inl rfl | exact Or.inr (Or.inl rfl) | exact Or.inr (Or.inr rfl))
    (hd : (n == ("__debug__" : Str)) = false := by decide) (hcd : (n == ("__classdict__" : Str)) = false := by decide) (hg : Glb c "len" := by rfl) : ED c (.Call (.Name "len" p) [.Name n p2] [] pos) ρ (.int xs.length) := fun β S H σ E hK Q q => by
  obtain ⟨r, vs, h1, h3, h4, _, _⟩ := ho.get E
  refine wE_of (t := tCB (fun xs H Q => ∃ p ys, xs = [.ref p] ∧ (SqL c.g.K H p ys ∨ SqT c.g.K H p ys) ∧ Q (.int ys.length) H) (tCons (tVar i) tNil)) (fun X hX => pe_callB (hX.K ▸ call_len_seq) (hX.gl hg) (by rw [hX.mg]; exact hm) boot_len (pa_cons (pe_var (by rw [hX.N]; exact hN) (by rw [hX.sc]; exact hv) hd hcd) pa_nil rfl) (by decide) (by decide) rfl rfl) ⟨_, h1, r, vs, rfl, .inl (sl_of h3), ?_⟩
  rw [da_len h4]
  exact q _ _ S H rfl (Grow.rfl E.sh) (.int _)
/-- tuple(x), x an owned list -/
theorem e_tupO (i : Nat) {n : Str} {xs : List PyData} {p2 : Pos} {C : List PyData → Own} (ho : OL ρ i xs C) (hm : c.g.mg "tuple" = none) (hN : c.N[i]? = some n := by rfl) (hv : Vis c.sc n := by first | exact Or.inl rfl | exact Or.inr (Or.inl rfl) | exact Or.inr (Or.inr rfl))
    (hd : (n == ("__debug__" : Str)) = false := by decide) (hcd : (n == ("__classdict__" : Str)) = false := by decide) (hg : Glb c "tuple" := by rfl) : ED c (.Call (.Name "tuple" p) [.Name n p2] [] pos) ρ (.tuple xs) := fun β S H σ E hK Q q => by
  obtain ⟨r, vs, h1, h3, h4, _, _⟩ := ho.get E
  refine wE_of (t := tCB (fun xs H Q => ∃ p ys, xs = [.ref p] ∧ ((SqL c.g.K H p ys ∧ ∀ l, H l = none → Q (.ref l) (upd H l (.tup ys))) ∨ (SqT c.g.K H p ys ∧ Q (.ref p) H))) (tCons (tVar i) tNil)) (fun X hX => pe_callTy (hX.K ▸ call_tuple_of) (hX.gl hg) (by rw [hX.mg]; exact hm) boot_tuple (pa_cons (pe_var (by rw [hX.N]; exact hN) (by rw [hX.sc]; exact hv) hd hcd) pa_nil rfl) (by decide) (by decide) rfl rfl) ⟨_, h1, r, vs, rfl, .inl ⟨sl_of h3, fun l hn => ?_⟩⟩
  exact q _ _ (upd S l (.tup vs)) _ rfl (Grow.new E.sh hn) (.tup upd_same (dp_exs (Ex.new (E.sh.back hn)) _ _ h4))
/-- x.append(e) -/
theorem s_append (i : Nat) {n : Str} {xs : List PyData} {C : List PyData → Own} {P : PyData → Prop} {p2 p3 : Pos} (ho : OL ρ i xs C) (h : EV c e ρ P) (hl : xs.length < 1000000) (k : ∀ d, P d → Φ.nx (ρ.set i (Cell.o (C (xs ++ [d]))))) (hN : c.N[i]? = some n := by rfl) (hv : Vis c.sc n := by first | exact Or.inl rfl | exact Or.inr (Or.inl rfl) | exact Or.inr (Or.inr rfl))
    (hd : (n == ("__debug__" : Str)) = false := by decide) (hcd : (n == ("__classdict__" : Str)) = false := by decide) (he : ∀ env : PySem.Env, starEach [e] env = (false, eval e env) :: starEach [] env := by intro _; rfl)
    (hpl : ∀ env : PySem.Env, (backTo p3 (starEach [] env)).any (·.1) = false := by intro _; rfl) (hline : (p2.endLine == p3.line) = true := by rfl) :
    S1 c (.Expr (.Call (.Attribute (.Name n p) "append" p2) [e] [] p3) pos) ρ Φ := fun β S H σ D E hK kk => by
  obtain ⟨r, vs, h1, h2, h3, h4, h5⟩ := ho.get E
  refine wS_of (t := tDrop (tBM c.g.K "list" rAppend (tVar i) (tCons (wE c e) tNil))) (fun X hX => ps_expr (hX.K ▸ pe_bm PySem.F.plainAttrs_list PySem.F.slot_list_append PySem.F.type_list_append mt_append (pe_var (by rw [hX.N]; exact hN) (by rw [hX.sc]; exact hv) hd hcd) (pa_cons (pe_w hX) pa_nil (he X.env)) rfl (by rw [he X.env]; rfl) hline (he X.env) (hpl X.env))) ⟨_, h1, .inl ⟨rfl, _, sl_of h2⟩, h β S H σ E hK _ fun w d S1 H1 hp g1 dw => ?_⟩
  refine ⟨r, vs, w, rfl, rfl, g1.hh _ _ h2, by rw [da_len h3]; exact Nat.lt_trans hl (by decide), ?_⟩
  exact kk.nx σ S1 _ _ (k d hp) g1.ss ((E.grow g1).updO ho.1 h1 (OL.ok ho.2 (da_app (dp_exs g1.ss _ _ h3) (.cons dw .nil))) (h5 _))
end
end Bd
/-! if, loops, return; a def by its body. -/
namespace Bd
open PySem PySem.Spec PyProof.Rows L2

section
variable {c : Cc} {ρ : List Cell} {a b e tst : Expr} {es : List Expr} {pos p : Pos} {x y z d : PyData} {st : Stmt} {sts ss ts : List Stmt} {Φ : Po}
theorem s_if {t : Bool} (h : TD c tst ρ t) (h1 : t = true → SV c ss ρ Φ) (h2 : t = false → SV c ts ρ Φ) : S1 c (.If tst ss ts pos) ρ Φ := fun β S H σ D E hK kk =>
  wS_of (fun X hX => ps_if (pt_w hX) (pss_w hX) (pss_w hX)) (h β S H σ E hK _ fun k S1 H1 hk g => by
    subst hk
    cases k with
    | true => exact h1 rfl β S1 H1 σ D (E.grow g) hK (kk.mono g.ss)
    | false => exact h2 rfl β S1 H1 σ D (E.grow g) hK (kk.mono g.ss))
theorem s_ifV {P : Bool → Prop} (h : TV c tst ρ P) (h1 : P true → SV c ss ρ Φ) (h2 : P false → SV c ts ρ Φ) : S1 c (.If tst ss ts pos) ρ Φ := fun β S H σ D E hK kk =>
  wS_of (fun X hX => ps_if (pt_w hX) (pss_w hX) (pss_w hX)) (h β S H σ E hK _ fun k S1 H1 hk g => by
    cases k with
    | true => exact h1 hk β S1 H1 σ D (E.grow g) hK (kk.mono g.ss)
    | false => exact h2 hk β S1 H1 σ D (E.grow g) hK (kk.mono g.ss))
theorem s_ret {P : PyData → Prop} (h : EV c e ρ P) (k : ∀ d, P d → Φ.rt (.d d) ρ) : S1 c (.Return (some e) pos) ρ Φ := fun β S H σ D E hK kk =>
  wS_of (fun X hX => ps_ret (pe_w hX)) (h β S H σ E hK _ fun v d S1 H1 hp g dv => kk.rt v (.d d) σ S1 H1 ρ (k d hp) g.ss (E.grow g) dv)
theorem s_retD (h : ED c e ρ d) (k : Φ.rt (.d d) ρ) : S1 c (.Return (some e) pos) ρ Φ := s_ret h fun d' e => by rw [e]; exact k
theorem s_retL {P : List PyData → Prop} (h : EN c e ρ P) (k : ∀ xs, P xs → Φ.rt (.l xs) ρ) : S1 c (.Return (some e) pos) ρ Φ := fun β S H σ D E hK kk =>
  wS_of (fun X hX => ps_ret (pe_w hX)) (h β S H σ E hK _ fun q vs xs S1 H1 hp hq hl hs hd g => kk.rt _ (.l xs) σ S1 H1 ρ (k xs hp) g.ss (E.grow g) ⟨q, vs, rfl, hl, hd, hs, (E.new hq).1⟩)
/-- return x, x an owned new list -/
theorem s_retO (i : Nat) {n : Str} {xs : List PyData} (ho : ρ[i]? = some (Cell.o (.l xs))) (k : Φ.rt (.l xs) ρ) (hN : c.N[i]? = some n := by rfl) (hv : Vis c.sc n := by first | exact Or.inl rfl | exact Or.inr (Or.inl rfl) | exact Or.inr (Or.inr rfl))
    (hd : (n == ("__debug__" : Str)) = false := by decide) (hcd : (n == ("__classdict__" : Str)) = false := by decide) : S1 c (.Return (some (.Name n p)) pos) ρ Φ := fun β S H σ D E hK kk => by
  obtain ⟨q, o, h1, h2, ⟨vs, rfl, h3⟩, h4, h5⟩ := E.own i _ ho
  exact wS_of (fun X hX => ps_ret (pe_var (by rw [hX.N]; exact hN) (by rw [hX.sc]; exact hv) hd hcd)) ⟨_, h1, kk.rt _ (.l xs) σ S H ρ k Ex.rfl E ⟨q, vs, rfl, h2, h3, h4, h5⟩⟩
theorem passes {X : Cx} (hX : c.Has X) : PassesOwn (model X.prog X.w) X.A X.env X.xe := by rw [hX.xe]; exact PassesOwn.never
theorem s_for {tg iter : Expr} {body : List Stmt} {xs : List PyData} (hi : ID c tg iter ρ xs) (I : Nat → List Cell → Prop) (h0 : I 0 ρ)
    (hs : ∀ (i : Nat) (d : PyData) (ρi : List Cell), xs[i]? = some d → I i ρi → ∃ ρ2, GW c tg d ρi ρ2 ∧ SV c body ρ2 { nx := I (i + 1), rt := Φ.rt, bk := Φ.nx, ct := I (i + 1) }) (hd : ∀ ρ', I xs.length ρ' → Φ.nx ρ')
    (hf : ∀ (env : PySem.Env) x, foldedSetIterable iter env x = pure x := by intro _ _; rfl) : S1 c (.For tg iter body [] pos) ρ Φ := fun β S H σ D E hK kk =>
  wS_of (fun X hX => ps_for (passes hX) hX.calm (pi_w hX) (pg_w hX) (pss_w hX) (hf X.env)) (hi β S H σ E hK _ fun J S1 H1 g1 wk => by
    refine ⟨fun i m σ2 H2 => i + m = xs.length ∧ ∃ S2 ρ2, Ex S1 S2 ∧ I i ρ2 ∧ Env β S2 H2 σ2 ρ2, ⟨xs.length, by omega, S1, ρ, Ex.rfl, h0, E.grow g1⟩, fun i m σ2 H2 hW => ?_⟩
    obtain ⟨him, S2, ρ2, e2, hI, E2⟩ := hW
    obtain ⟨go, stop, yld⟩ := wk S2 H2 e2 E2.sh
    by_cases hlt : i < xs.length
    · refine .inr ⟨go i hlt, fun σ3 H3 => ∃ S3 ρ3, Ex S1 S3 ∧ I (i + 1) ρ3 ∧ Env β S3 H3 σ3 ρ3, fun σ3 H3 hN => ⟨m - 1, by omega, by omega, hN⟩, fun v H3 hy => ?_⟩
      obtain ⟨S3, d, g3, hdx, dv⟩ := yld i v H3 hlt hy
      obtain ⟨ρ3, hg, hb⟩ := hs i d ρ2 hdx hI
      refine hg β S3 H3 σ2 v (E2.grow g3) hK dv _ fun σ4 S4 H4 E4 e4 => ?_
      have e14 : Ex S1 S4 := (e2.trans g3.ss).trans e4
      refine hb β S4 H4 σ4 _ E4 hK ⟨fun σ' S' H' ρ' hn e' E' => ⟨S', ρ', e14.trans e', hn, E'⟩, fun v r σ' S' H' ρ' hr e' E' => kk.rt v r σ' S' H' ρ' hr ((g1.ss.trans e14).trans e') E', fun σ' S' H' ρ' hn e' E' => kk.nx σ' S' H' ρ' hn ((g1.ss.trans e14).trans e') E', fun σ' S' H' ρ' hn e' E' => ⟨S', ρ', e14.trans e', hn, E'⟩⟩
    · have hi' : i = xs.length := by omega
      subst hi'
      exact .inl ⟨stop, kk.nx σ2 S2 H2 ρ2 (hd ρ2 hI) (g1.ss.trans e2) E2⟩)
theorem s_while {body : List Stmt} (I : Nat → List Cell → Prop) (m0 : Nat) (h0 : I m0 ρ)
    (hs : ∀ (m : Nat) (ρi : List Cell), I m ρi → ∃ t, TD c tst ρi t ∧ (t = true → SV c body ρi { nx := fun r => ∃ m', m' < m ∧ I m' r, rt := Φ.rt, bk := Φ.nx, ct := fun r => ∃ m', m' < m ∧ I m' r }) ∧ (t = false → Φ.nx ρi)) : S1 c (.While tst body [] pos) ρ Φ := fun β S H σ D E hK kk =>
  wS_of (fun X hX => ps_while (passes hX) (pt_w hX) (pss_w hX)) (by
    refine ⟨fun m σ2 H2 => ∃ S2 ρ2, Ex S S2 ∧ I m ρ2 ∧ Env β S2 H2 σ2 ρ2, ⟨m0, S, ρ, Ex.rfl, h0, E⟩, fun m σ2 H2 hW => ?_⟩
    obtain ⟨S2, ρ2, e2, hI, E2⟩ := hW
    obtain ⟨t, ht, h1, h2⟩ := hs m ρ2 hI
    refine ht β S2 H2 σ2 E2 hK _ fun k S3 H3 hk g => ?_
    subst hk
    have e3 := e2.trans g.ss
    cases k with
    | true =>
      refine ⟨fun σ3 H3 => ∃ m', m' < m ∧ ∃ S3 ρ3, Ex S S3 ∧ I m' ρ3 ∧ Env β S3 H3 σ3 ρ3, fun σ3 H3 ⟨m', hm, q⟩ => ⟨m', hm, q⟩, ?_⟩
      refine h1 rfl β S3 H3 σ2 _ (E2.grow g) hK ⟨fun σ' S' H' ρ' hn e' E' => ?_, fun v r σ' S' H' ρ' hr e' E' => kk.rt v r σ' S' H' ρ' hr (e3.trans e') E', fun σ' S' H' ρ' hn e' E' => kk.nx σ' S' H' ρ' hn (e3.trans e') E', fun σ' S' H' ρ' hn e' E' => ?_⟩
      · obtain ⟨m', hm, hI'⟩ := hn
        exact ⟨m', hm, S', ρ', e3.trans e', hI', E'⟩
      · obtain ⟨m', hm, hI'⟩ := hn
        exact ⟨m', hm, S', ρ', e3.trans e', hI', E'⟩
    | false => exact kk.nx σ2 S3 H3 ρ2 (h2 rfl) e3 (E2.grow g))

/-! ### boxes of draws -/
def BoxAt (H : Hp) (b : Addr) (M : Nat) : Prop := ∃ o, H b = some o ∧ BoxO M o
structure BStep (b : Addr) (S H S' H' : Hp) : Prop where
  ss : Ex S S'
  sh : Ex S' H'
  hh : ∀ a o, a ≠ b → H a = some o → H' a = some o
  fr : ∀ a, H a ≠ none → S a = none → S' a = none
theorem Env.box {β : Bs} {S H S' H' : Hp} {σ : L2.St} {i : Nat} {q : Addr} {M M' : Nat} {C : Nat → Own} (hC : C = Own.b ∨ C = Own.c) (E : Env β S H σ ρ) (hi : ρ[i]? = some (Cell.o (C M))) (hp : σ[i]? = some (some (V.ref q))) (t : BStep q S H S' H') (hb : BoxAt H' q M') : Env β S' H' σ (ρ.set i (Cell.o (C M'))) := by
  have hat : ∀ (m m' : Nat) (r : Addr), ownAt β (C m) r → ownAt β (C m') r := fun m m' r h => by rcases hC with rfl | rfl <;> exact h
  have hbo : ∀ (m : Nat) (o : HO), BoxO m o → OwnOk S' (C m) o := fun m o h => by rcases hC with rfl | rfl <;> exact h
  obtain ⟨q', o, h1, h2, h3, h4, h5⟩ := E.own i _ hi
  rw [hp] at h1
  have e1 : V.ref q = V.ref q' := Option.some.inj (Option.some.inj h1)
  cases e1
  obtain ⟨o', hb1, hb2⟩ := hb
  refine ⟨t.sh, E.ss.trans t.ss, fun x o hm e => ?_, fun x h => ⟨?_, fun z => t.fr x (E.fr x h).1 ((E.fr x h).2 z)⟩, by simp [E.len], fun j y e => ?_, fun j y e => ?_, fun j C1 e => ?_, fun j k C1 C2 r hne e1 e2 s1 s2 => ?_, fun j w e => ?_⟩
  · have hx : x ≠ q := fun z => by
      subst z
      rcases hC with rfl | rfl
      · exact hm h5
      · rw [show β.H0 x = none from h5] at e; cases e
    exact t.hh x o hx (E.keep x o hm e)
  · by_cases hx : x = q
    · subst hx; rw [hb1]; simp
    · intro z
      have h6 := (E.fr x h).1
      cases h7 : H x with
      | none => exact h6 h7
      | some u => rw [t.hh x u hx h7] at z; cases z
  · rcases set_get e with ⟨rfl, e2, hl⟩ | ⟨ne, e2⟩
    · cases e2
    · obtain ⟨u, u1, u2⟩ := E.dat j y e2
      exact ⟨u, u1, dp_ex t.ss _ _ u2⟩
  · rcases set_get e with ⟨rfl, e2, hl⟩ | ⟨ne, e2⟩
    · cases e2
    · obtain ⟨u, u1, u2⟩ := E.scr j y e2
      exact ⟨u, u1, ex_l t.ss u2⟩
  · rcases set_get e with ⟨rfl, e2, hl⟩ | ⟨ne, e2⟩
    · cases e2
      exact ⟨q, o', hp, hb1, hbo _ _ hb2, t.fr q (by rw [h2]; simp) h4, hat _ _ _ h5⟩
    · obtain ⟨r, oq, q1, q2, q3, q4, q5⟩ := E.own j C1 e2
      have hr : r ≠ q := fun z => by
        subst z
        exact E.apart j i C1 _ r ne e2 hi q1 hp
      exact ⟨r, oq, q1, t.hh r oq hr q2, q3.ex t.ss, t.fr r (by rw [q2]; simp) q4, q5⟩
  · have f : ∀ (m : Nat) (D : Own), (ρ.set i (Cell.o (C M')))[m]? = some (Cell.o D) → ∃ D', ρ[m]? = some (Cell.o D') := fun m D e => by
      rcases set_get e with ⟨rfl, _, _⟩ | ⟨_, e2⟩
      · exact ⟨_, hi⟩
      · exact ⟨D, e2⟩
    obtain ⟨D1, f1⟩ := f j C1 e1
    obtain ⟨D2, f2⟩ := f k C2 e2
    exact E.apart j k D1 D2 r hne f1 f2 s1 s2
  · rcases set_get e with ⟨_, e2, _⟩ | ⟨ne, e2⟩
    · cases e2
    · exact E.val j w e2
def boxMax : Nat := 1000000000
/-- a def that draws from the box, its first argument, at most cost times -/
def SpB (n cost : Nat) (Pre : List PyData → Prop) (Post : List PyData → PyData → Prop) : Sp := fun vs H Q _ => vs.length = n + 1 ∧ ∃ S q us ds M, vs = V.ref q :: us ∧ Ex S H ∧ S q = none ∧ BoxAt H q M ∧ M + cost ≤ boxMax ∧ DtAll S us ds ∧ Pre ds ∧
  ∀ v d S' H', Post ds d → BStep q S H S' H' → BoxAt H' q (M + cost) → Dt S' v d → Q v H'

/-! ### a def by its body -/
theorem ok_none {c : Cc} {β : Bs} (h : β.K = c.g.K := by rfl) (h1 : c.S1 = fun _ => none := by rfl) (h2 : c.pf = fun _ => none := by rfl) : c.Ok β := ⟨h, (by rw [h1]; exact fun _ _ z => nomatch z), (by rw [h2]; exact fun _ _ z => nomatch z)⟩
def cc0 (g : Gc) (N : List Str) (st : Stmt) (k : Nat) : Cc := ⟨g, N, defScope st, fun _ => true, k, false, fun _ => none, fun _ => none⟩
theorem cc0_has {g : Gc} {N : List Str} {st : Stmt} {k : Nat} {qual : Str} {f : Addr} {cdv : Value} {A : Around} {outer : List PySem.Env} {s : Shared} {H : Hp} {E : XK} (hr : Room k (A.deeper (envOfC qual (defScope st) s.heap.objs.size f cdv))) :
    (cc0 g N st k).Has (cxOf CX0 g.P g.w g.K g.mg g.base N qual (defScope st) f cdv A outer s H E).nox :=
  ⟨rfl, rfl, rfl, rfl, rfl, rfl, rfl, fun _ _ => rfl, rfl, hr, (fun h => nomatch h), rfl⟩
theorem start_get {N : List Str} {vs : List V} {i : Nat} {v : V} (h : vs[i]? = some v) : (L2.start N vs)[i]? = some (some v) := by
  unfold L2.start
  have hi : i < vs.length := (List.getElem?_eq_some_iff.mp h).1
  rw [List.getElem?_append_left (by simpa using hi), List.getElem?_map, h]; rfl
theorem start_len {N : List Str} {vs : List V} (h : vs.length ≤ N.length) : (L2.start N vs).length = N.length := by
  unfold L2.start
  rw [List.length_append, List.length_map, List.length_replicate]; omega
def rho0 (N : List Str) (ds : List PyData) : List Cell := ds.map Cell.d ++ List.replicate (N.length - ds.length) Cell.u
theorem env0 {K : PySem.W.Frag} {S H : Hp} {N : List Str} {vs : List V} {ds : List PyData} (e : Ex S H) (d : DtAll S vs ds) (h : ds.length ≤ N.length) : Env ⟨K, S, H, fun _ => False⟩ S H (L2.start N vs) (rho0 N ds) := by
  have hl := da_len d
  have get : ∀ {i : Nat} {c : Cell}, (rho0 N ds)[i]? = some c → (∃ x, c = Cell.d x ∧ ds[i]? = some x) ∨ c = Cell.u := fun {i c} q => by
    unfold rho0 at q
    by_cases hi : i < ds.length
    · rw [List.getElem?_append_left (by simpa using hi), List.getElem?_map] at q
      cases z : ds[i]? with
      | none => rw [z] at q; cases q
      | some x => rw [z] at q; cases q; exact .inl ⟨x, rfl, rfl⟩
    · rw [List.getElem?_append_right (by simpa using hi), List.getElem?_replicate] at q
      split at q
      · cases q; exact .inr rfl
      · cases q
  refine ⟨e, Ex.rfl, fun _ _ _ h => h, fun _ h => ⟨h, fun z => z⟩, ?_, fun i x q => ?_, fun i x q => ?_, fun i C q => ?_, fun i j C C' q _ q1 => ?_, fun i w q => ?_⟩
  · rw [start_len (by omega)]
    unfold rho0
    rw [List.length_append, List.length_map, List.length_replicate]; omega
  · rcases get q with ⟨y, e1, e2⟩ | e1
    · cases e1
      obtain ⟨v, h1, h2⟩ := da_get d e2
      exact ⟨v, start_get h1, h2⟩
    · cases e1
  · rcases get q with ⟨y, e1, e2⟩ | e1 <;> cases e1
  · rcases get q with ⟨y, e1, e2⟩ | e1 <;> cases e1
  · rcases get q1 with ⟨y, e1, e2⟩ | e1 <;> cases e1
  · rcases get q with ⟨y, e1, e2⟩ | e1 <;> cases e1
theorem Env.grew {β : Bs} {S H S' H' : Hp} {σ : L2.St} (E : Env β S' H' σ ρ) (h1 : β.S0 = S) (h2 : β.H0 = H) (h3 : ∀ a, ¬ β.mu a) : Grow S H S' H' := by
  subst h1 h2
  exact ⟨E.ss, E.sh, fun a o h => E.keep a o (h3 a) h, fun a h1 h2 => (E.fr a h1).2 h2⟩
variable {g : Gc} {N ps : List Str} {qual : Str} {n k : Nat} {f : Addr} {fd : FuncData} {Pre : List PyData → Prop}
theorem fn_pure {xn : Str} {Post : List PyData → PyData → Prop} (F : Fun g.K xn qual st f fd) (S : FnScope N ps (defScope st)) (hn : ps.length = n) (hN : n ≤ N.length)
    (body : ∀ ds, ds.length = n → Pre ds → SV (cc0 g N st k) (defBody st) (rho0 N ds) { nx := fun _ => Post ds .none, rt := fun r _ => ∃ d, r = .d d ∧ Post ds d }) : FnOk g.P g.w g.K g.mg g.base CX0 (k + 1) f fd ps (SpP n Pre Post) := by
  refine F.ok S (fun vs H Q E h => by rw [hn]; exact h.1) fun cdv A outer s H vs Q E hr h => ?_
  obtain ⟨hl, S0, ds, e, dv, hp, q⟩ := h
  have hds : ds.length = n := by rw [← da_len dv]; exact hl
  refine ⟨wSs (cc0 g N st k) (defBody st), pss_w (cc0_has hr), ?_⟩
  refine body ds hds hp ⟨g.K, S0, H, fun _ => False⟩ S0 H _ _ (env0 e dv (by omega)) ok_none ⟨fun σ' S' H' ρ' hn e' E' => ?_, fun v r σ' S' H' ρ' hr e' E' ro => ?_, fun _ _ _ _ h => h.elim, fun _ _ _ _ h => h.elim⟩
  · exact q .non .none S' H' hn (E'.grew rfl rfl fun _ h => h) .non
  · obtain ⟨d, rfl, hd⟩ := hr
    exact q v d S' H' hd (E'.grew rfl rfl fun _ h => h) ro
theorem fn_list {xn : Str} {Post : List PyData → List PyData → Prop} (F : Fun g.K xn qual st f fd) (S : FnScope N ps (defScope st)) (hn : ps.length = n) (hN : n ≤ N.length)
    (body : ∀ ds, ds.length = n → Pre ds → SV (cc0 g N st k) (defBody st) (rho0 N ds) { nx := fun _ => False, rt := fun r _ => ∃ xs, r = .l xs ∧ Post ds xs }) : FnOk g.P g.w g.K g.mg g.base CX0 (k + 1) f fd ps (SpL n Pre Post) := by
  refine F.ok S (fun vs H Q E h => by rw [hn]; exact h.1) fun cdv A outer s H vs Q E hr h => ?_
  obtain ⟨hl, S0, ds, e, dv, hp, q⟩ := h
  have hds : ds.length = n := by rw [← da_len dv]; exact hl
  refine ⟨wSs (cc0 g N st k) (defBody st), pss_w (cc0_has hr), ?_⟩
  refine body ds hds hp ⟨g.K, S0, H, fun _ => False⟩ S0 H _ _ (env0 e dv (by omega)) ok_none ⟨fun σ' S' H' ρ' hn e' E' => hn.elim, fun v r σ' S' H' ρ' hr e' E' ro => ?_, fun _ _ _ _ h => h.elim, fun _ _ _ _ h => h.elim⟩
  obtain ⟨xs, rfl, hd⟩ := hr
  obtain ⟨r, vs, rfl, r1, r2, r3, r4⟩ := ro
  exact q r vs xs S' H' hd r4 r1 r3 r2 (E'.grew rfl rfl fun _ h => h)
/-- behind a body that draws: the box in its first slot -/
def BoxC (c : Cell) (M : Nat) : Prop := (∃ M', c = Cell.o (.b M') ∧ M' ≤ M) ∨ ∃ n x k : Int, c = Cell.o (.p [.int n, .int x, .int k]) ∧ 0 ≤ n ∧ 0 ≤ x ∧ x < 2147483647 ∧ 0 ≤ k ∧ k ≤ (M : Int)
theorem BoxC.at {β : Bs} {S H : Hp} {σ : L2.St} {C : Cell} {M : Nat} (h : BoxC C M) (E : Env β S H σ ρ) {i : Nat} (hi : ρ[i]? = some C) {q : Addr} (hq : σ[i]? = some (some (V.ref q))) : BoxAt H q M := by
  rcases h with ⟨M', rfl, hM⟩ | ⟨n, x, k, rfl, h1, h2, h3, h4, h5⟩
  · obtain ⟨q', o, e1, e2, e3, _⟩ := E.own i _ hi
    rw [hq] at e1
    have e1 : V.ref q = V.ref q' := Option.some.inj (Option.some.inj e1)
    cases e1
    obtain ⟨n, x, k, rfl, h1, h2, h3, h4, h5⟩ := (show BoxO M' o from e3)
    exact ⟨_, e2, n, x, k, rfl, h1, h2, h3, h4, by omega⟩
  · obtain ⟨q', o, e1, e2, ⟨vs, rfl, e3⟩, _⟩ := E.own i _ hi
    rw [hq] at e1
    have e1 : V.ref q = V.ref q' := Option.some.inj (Option.some.inj e1)
    cases e1
    have e4 := da_ints_inv [n, x, k] e3
    subst e4
    exact ⟨_, e2, n, x, k, rfl, h1, h2, h3, h4, h5⟩
def rhoB (N : List Str) (M : Nat) (ds : List PyData) : List Cell := Cell.o (.b M) :: (ds.map Cell.d ++ List.replicate (N.length - (ds.length + 1)) Cell.u)
theorem envB {K : PySem.W.Frag} {S H : Hp} {N : List Str} {us : List V} {ds : List PyData} {q : Addr} {M : Nat} (e : Ex S H) (d : DtAll S us ds) (h : ds.length + 1 ≤ N.length) (hs : S q = none) (hb : BoxAt H q M) : Env ⟨K, S, H, fun a => a = q⟩ S H (L2.start N (V.ref q :: us)) (rhoB N M ds) := by
  have hl := da_len d
  have get : ∀ {i : Nat} {c : Cell}, (rhoB N M ds)[i + 1]? = some c → (∃ x, c = Cell.d x ∧ ds[i]? = some x) ∨ c = Cell.u := fun {i c} q => by
    unfold rhoB at q
    rw [List.getElem?_cons_succ] at q
    by_cases hi : i < ds.length
    · rw [List.getElem?_append_left (by simpa using hi), List.getElem?_map] at q
      cases z : ds[i]? with
      | none => rw [z] at q; cases q
      | some x => rw [z] at q; cases q; exact .inl ⟨x, rfl, rfl⟩
    · rw [List.getElem?_append_right (by simpa using hi), List.getElem?_replicate] at q
      split at q
      · cases q; exact .inr rfl
      · cases q
  have st0 : (L2.start N (V.ref q :: us))[0]? = some (some (V.ref q)) := start_get rfl
  have own0 : ∀ (i : Nat) (C : Own), (rhoB N M ds)[i]? = some (Cell.o C) → i = 0 ∧ C = .b M := fun i C z => by
    cases i with
    | zero => cases z; exact ⟨rfl, rfl⟩
    | succ i => rcases get z with ⟨y, e1, _⟩ | e1 <;> cases e1
  refine ⟨e, Ex.rfl, fun _ _ _ h => h, fun _ h => ⟨h, fun z => z⟩, ?_, fun i x z => ?_, fun i x z => ?_, fun i C z => ?_, fun i j C C' r hne q1 q2 => ?_, fun i w z => ?_⟩
  · rw [start_len (by simp; omega)]
    unfold rhoB
    rw [List.length_cons, List.length_append, List.length_map, List.length_replicate]; omega
  · cases i with
    | zero => cases z
    | succ i =>
      rcases get z with ⟨y, e1, e2⟩ | e1
      · cases e1
        obtain ⟨v, h1, h2⟩ := da_get d e2
        exact ⟨v, start_get (by simpa using h1), h2⟩
      · cases e1
  · cases i with
    | zero => cases z
    | succ i => rcases get z with ⟨y, e1, e2⟩ | e1 <;> cases e1
  · obtain ⟨rfl, rfl⟩ := own0 i C z
    obtain ⟨o, h1, h2⟩ := hb
    exact ⟨q, o, st0, h1, h2, hs, rfl⟩
  · exact absurd ((own0 i C q1).1.trans (own0 j C' q2).1.symm) hne
  · cases i with
    | zero => cases z
    | succ i => rcases get z with ⟨y, e1, e2⟩ | e1 <;> cases e1
theorem fn_box {xn : Str} {cost : Nat} {Post : List PyData → PyData → Prop} (F : Fun g.K xn qual st f fd) (S : FnScope N ps (defScope st)) (hn : ps.length = n + 1) (hN : n + 1 ≤ N.length)
    (body : ∀ ds M, ds.length = n → Pre ds → M + cost ≤ boxMax → SV (cc0 g N st k) (defBody st) (rhoB N M ds) { nx := fun _ => False, rt := fun r ρ' => ∃ d C, r = .d d ∧ Post ds d ∧ ρ'[0]? = some C ∧ BoxC C (M + cost) }) :
    FnOk g.P g.w g.K g.mg g.base CX0 (k + 1) f fd ps (SpB n cost Pre Post) := by
  refine F.ok S (fun vs H Q E h => by rw [hn]; exact h.1) fun cdv A outer s H vs Q E hr h => ?_
  obtain ⟨hl, S0, q, us, ds, M, rfl, e, hs, hb, hM, dv, hp, kq⟩ := h
  have hds : ds.length = n := by
    have := da_len dv
    rw [List.length_cons] at hl
    omega
  refine ⟨wSs (cc0 g N st k) (defBody st), pss_w (cc0_has hr), ?_⟩
  refine body ds M hds hp hM ⟨g.K, S0, H, fun a => a = q⟩ S0 H _ _ (envB e dv (by omega) hs hb) ok_none ⟨fun σ' S' H' ρ' hn e' E' => hn.elim, fun v r σ' S' H' ρ' hr e' E' ro => ?_, fun _ _ _ _ h => h.elim, fun _ _ _ _ h => h.elim⟩
  obtain ⟨d, C, rfl, hd, hC, hbx⟩ := hr
  have h0 : σ'[0]? = some (some (V.ref q)) := by
    rcases hbx with ⟨M', rfl, _⟩ | ⟨n, x, k, rfl, _⟩
    · obtain ⟨r, o, e1, e2, e3, e4, e5⟩ := E'.own 0 _ hC
      have e5 : r = q := e5
      rw [e5] at e1; exact e1
    · obtain ⟨r, o, e1, e2, e3, e4, e5⟩ := E'.own 0 _ hC
      have e5 : r = q := e5
      rw [e5] at e1; exact e1
  exact kq v d S' H' hd ⟨E'.ss, E'.sh, fun a o ha h => E'.keep a o ha h, fun a h1 h2 => (E'.fr a h1).2 h2⟩ (hbx.at E' hC h0) ro
end
end Bd
/-! What draws from the box. -/
namespace Bd
open PySem PySem.Spec PyProof.Rows L2

theorem BStep.trans {q : Addr} {S H S1 H1 S2 H2 : Hp} (a : BStep q S H S1 H1) (b : BStep q S1 H1 S2 H2) (hq : H1 q ≠ none) : BStep q S H S2 H2 :=
  ⟨a.ss.trans b.ss, b.sh, fun x o h e => b.hh x o h (a.hh x o h e), fun x h1 h2 => b.fr x (fun z => by
    by_cases hx : x = q
    · subst hx; exact hq z
    · cases h3 : H x with
      | none => exact h1 h3
      | some u => rw [a.hh x u hx h3] at z; cases z) (a.fr x h1 h2)⟩
theorem Grow.bstep {q : Addr} {S H S' H' : Hp} (g : Grow S H S' H') : BStep q S H S' H' := ⟨g.ss, g.sh, fun x o _ e => g.hh x o e, g.fr⟩
theorem BoxAt.mono {H H' : Hp} {q : Addr} {M : Nat} (h : BoxAt H q M) (e : Ex H H') : BoxAt H' q M := let ⟨o, h1, h2⟩ := h; ⟨o, e _ _ h1, h2⟩
theorem BoxAt.ne {H : Hp} {q : Addr} {M : Nat} (h : BoxAt H q M) : H q ≠ none := by obtain ⟨o, h1, _⟩ := h; rw [h1]; simp
theorem BoxAt.le {H : Hp} {q : Addr} {M M' : Nat} (h : BoxAt H q M) (hm : M ≤ M') : BoxAt H q M' := by
  obtain ⟨o, h1, n, x, k, h2, h3, h4, h5, h6, h7⟩ := h
  exact ⟨o, h1, n, x, k, h2, h3, h4, h5, h6, by omega⟩
/-- the box: which slot, which sort -/
structure Bx where
  i : Nat
  C : Nat → Own
def Bx.Ok (B : Bx) (ρ : List Cell) (M : Nat) : Prop := (B.C = Own.b ∨ B.C = Own.c) ∧ ρ[B.i]? = some (Cell.o (B.C M))
def Bx.to (B : Bx) (ρ : List Cell) (M : Nat) : List Cell := ρ.set B.i (Cell.o (B.C M))
theorem Bx.Ok.to {B : Bx} {ρ : List Cell} {M : Nat} (h : B.Ok ρ M) (M' : Nat) : B.Ok (B.to ρ M') M' := ⟨h.1, by
  unfold Bx.to
  rw [List.getElem?_set_self (List.getElem?_eq_some_iff.mp h.2).1]⟩
theorem Bx.to_to {B : Bx} {ρ : List Cell} {M M' : Nat} : B.to (B.to ρ M) M' = B.to ρ M' := by unfold Bx.to; rw [List.set_set]
theorem Bx.Ok.at {B : Bx} {ρ : List Cell} {M : Nat} (h : B.Ok ρ M) {β : Bs} {S H : Hp} {σ : L2.St} (E : Env β S H σ ρ) : ∃ q, σ[B.i]? = some (some (V.ref q)) ∧ BoxAt H q M := by
  obtain ⟨q, o, h1, h2, h3, _⟩ := E.own _ _ h.2
  refine ⟨q, h1, o, h2, ?_⟩
  rcases h.1 with e | e
  · rw [e] at h3; exact h3
  · rw [e] at h3; exact h3
theorem Bx.Ok.step {B : Bx} {ρ : List Cell} {M M' : Nat} (h : B.Ok ρ M) {β : Bs} {S H S' H' : Hp} {σ : L2.St} {q : Addr} (E : Env β S H σ ρ) (hq : σ[B.i]? = some (some (V.ref q))) (t : BStep q S H S' H') (hb : BoxAt H' q M') : Env β S' H' σ (B.to ρ M') := E.box h.1 h.2 hq t hb

def EB (c : Cc) (B : Bx) (e : Expr) (ρ : List Cell) (M : Nat) (P : PyData → Nat → Prop) : Prop := B.Ok ρ M → ∀ (β : Bs) (S H : Hp) (σ : L2.St) (q : Addr), Env β S H σ ρ → c.Ok β → σ[B.i]? = some (some (V.ref q)) → BoxAt H q M →
  ∀ Q : VK, (∀ v d M' S' H', P d M' → BStep q S H S' H' → BoxAt H' q M' → Dt S' v d → Q v H') → wE c e σ H Q
def AB (c : Cc) (B : Bx) (es : List Expr) (ρ : List Cell) (M : Nat) (P : List PyData → Nat → Prop) : Prop := B.Ok ρ M → ∀ (β : Bs) (S H : Hp) (σ : L2.St) (q : Addr), Env β S H σ ρ → c.Ok β → σ[B.i]? = some (some (V.ref q)) → BoxAt H q M →
  ∀ Q : List V → Hp → Prop, (∀ vs ds M' S' H', P ds M' → BStep q S H S' H' → BoxAt H' q M' → DtAll S' vs ds → Q vs H') → wA c es σ H Q
def TB (c : Cc) (B : Bx) (e : Expr) (ρ : List Cell) (M : Nat) (P : Bool → Nat → Prop) : Prop := B.Ok ρ M → ∀ (β : Bs) (S H : Hp) (σ : L2.St) (q : Addr), Env β S H σ ρ → c.Ok β → σ[B.i]? = some (some (V.ref q)) → BoxAt H q M →
  ∀ Q : Bool → Hp → Prop, (∀ b M' S' H', P b M' → BStep q S H S' H' → BoxAt H' q M' → Q b H') → wT c e σ H Q

section
variable {c : Cc} {B : Bx} {ρ : List Cell} {M : Nat} {a b e tst : Expr} {es : List Expr} {pos p p2 : Pos} {x y z d : PyData} {op : Operator} {Φ : Po} {ss ts : List Stmt}
theorem EB.mono {P P' : PyData → Nat → Prop} (h : EB c B e ρ M P) (k : ∀ d m, P d m → P' d m) : EB c B e ρ M P' := fun ok β S H σ q E hK hq hb Q f => h ok β S H σ q E hK hq hb Q fun v d M' S' H' hp => f v d M' S' H' (k d M' hp)
theorem eb_ev {P : PyData → Prop} (h : EV c e ρ P) : EB c B e ρ M (fun d m => P d ∧ m = M) := fun ok β S H σ q E hK hq hb Q f => h β S H σ E hK Q fun v d S' H' hp g dv => f v d M S' H' ⟨hp, rfl⟩ g.bstep (hb.mono g.hh) dv
theorem tb_tv {P : Bool → Prop} (h : TV c e ρ P) : TB c B e ρ M (fun d m => P d ∧ m = M) := fun ok β S H σ q E hK hq hb Q f => h β S H σ E hK Q fun v S' H' hp g => f v M S' H' ⟨hp, rfl⟩ g.bstep (hb.mono g.hh)
theorem ab_nil {P : List PyData → Nat → Prop} (h : P [] M) : AB c B [] ρ M P := fun ok β S H σ q E hK hq hb Q f => wA_of (fun X hX => pa_nil) (f [] [] M S H h (Grow.rfl E.sh).bstep hb .nil)
theorem ab_cons {P1 : PyData → Nat → Prop} {P : List PyData → Nat → Prop} (h : EB c B e ρ M P1) (hr : ∀ d M1, P1 d M1 → AB c B es (B.to ρ M1) M1 (fun ds m => P (d :: ds) m)) (hs : ∀ env : PySem.Env, starEach (e :: es) env = (false, eval e env) :: starEach es env := by intro _; rfl) : AB c B (e :: es) ρ M P := fun ok β S H σ q E hK hq hb Q f =>
  wA_of (fun X hX => pa_cons (pe_w hX) (pa_w hX) (hs X.env)) (h ok β S H σ q E hK hq hb _ fun v d M1 S1 H1 hp t1 hb1 dv => hr d M1 hp (ok.to M1) β S1 H1 σ q (ok.step E hq t1 hb1) hK hq hb1 _ fun vs ds M2 S2 H2 hp2 t2 hb2 dvs =>
    f (v :: vs) (d :: ds) M2 S2 H2 hp2 (t1.trans t2 hb1.ne) hb2 (.cons (dp_ex t2.ss _ _ dv) dvs))
theorem twoB {P1 : PyData → Nat → Prop} {P : PyData → Nat → Prop} {R : R2 → Prop} {r : R2} {ok : B.Ok ρ M} (h1 : EB c B a ρ M P1) (h2 : ∀ x M1, P1 x M1 → EB c B b (B.to ρ M1) M1 (fun y m => ∃ z, R2D r x y z ∧ P z m))
    {β : Bs} {S H : Hp} {σ : L2.St} {q : Addr} (E : Env β S H σ ρ) (hK : c.Ok β) (hq : σ[B.i]? = some (some (V.ref q))) (hb : BoxAt H q M) {Q : VK} (f : ∀ v d M' S' H', P d M' → BStep q S H S' H' → BoxAt H' q M' → Dt S' v d → Q v H') : tOp r (wE c a) (wE c b) σ H Q :=
  h1 ok β S H σ q E hK hq hb _ fun v x M1 S1 H1 hp t1 hb1 dv => h2 x M1 hp (ok.to M1) β S1 H1 σ q (ok.step E hq t1 hb1) hK hq hb1 _ fun u y M2 S2 H2 ⟨z, hr, hz⟩ t2 hb2 du =>
    hr S2 H2 v u t2.sh (dp_ex t2.ss _ _ dv) du Q fun w S' H' g dw => f w z M2 S' H' hz ((t1.trans t2 hb1.ne).trans g.bstep hb2.ne) (hb2.mono g.hh) dw
/-- a op b, what is drawn on the way decides nothing of how it's reckoned: ints -/
theorem eb_add {P : PyData → Nat → Prop} {P1 : PyData → Nat → Prop} (h1 : EB c B a ρ M P1) (h2 : ∀ x M1, P1 x M1 → EB c B b (B.to ρ M1) M1 (fun y m => ∃ i j : Int, x = .int i ∧ y = .int j ∧ P (.int (i + j)) m)) : EB c B (.BinOp a .Add b pos) ρ M P := fun ok β S H σ q E hK hq hb Q f =>
  wE_of (fun X hX => pe_op op_add (pe_w hX) (pe_w hX)) (twoB (R := fun _ => True) (ok := ok) h1 (fun x M1 hp => (h2 x M1 hp).mono fun y m ⟨i, j, e1, e2, hP⟩ => ⟨.int (i + j), by subst e1 e2; exact r2_I0 fun _ => .int _, hP⟩) E hK hq hb f)
theorem tb_gt {P : Bool → Nat → Prop} {P1 : PyData → Nat → Prop} (h1 : EB c B a ρ M P1) (h2 : ∀ x M1, P1 x M1 → EB c B b (B.to ρ M1) M1 (fun y m => ∃ i j : Int, x = .int i ∧ y = .int j ∧ P (decide (j < i)) m)) : TB c B (.Compare a [.Gt] [b] pos) ρ M P := fun ok β S H σ q E hK hq hb Q f =>
  wT_of (fun X hX => pt_cmpR op_gt (pe_w hX) (pe_w hX) (nomark _)) (twoB (P := fun z m => ∃ t, z = .bool t ∧ P t m) (R := fun _ => True) (ok := ok) h1 (fun x M1 hp => (h2 x M1 hp).mono fun y m ⟨i, j, e1, e2, hP⟩ => ⟨.bool (decide (j < i)), by subst e1 e2; exact r2_I0 fun _ => .bl _, _, rfl, hP⟩) E hK hq hb fun v d M' S' H' ⟨t, e1, hP⟩ st hb' dv => by
    subst e1
    cases dv
    exact ⟨t, rfl, f t M' S' H' hP st hb'⟩)
theorem tb_eq {P : Bool → Nat → Prop} {P1 : PyData → Nat → Prop} (h1 : EB c B a ρ M P1) (h2 : ∀ x M1, P1 x M1 → EB c B b (B.to ρ M1) M1 (fun y m => ∃ i j : Int, x = .int i ∧ y = .int j ∧ P (decide (i = j)) m)) : TB c B (.Compare a [.Eq] [b] pos) ρ M P := fun ok β S H σ q E hK hq hb Q f =>
  wT_of (fun X hX => pt_cmpR op_eq (pe_w hX) (pe_w hX) (nomark _)) (twoB (P := fun z m => ∃ t, z = .bool t ∧ P t m) (R := fun _ => True) (ok := ok) h1 (fun x M1 hp => (h2 x M1 hp).mono fun y m ⟨i, j, e1, e2, hP⟩ => ⟨.bool (decide (i = j)), (by
    subst e1 e2
    intro S H v u e d1 d2 Q q
    cases d1; cases d2
    refine ⟨rfl, q _ S H (Grow.rfl e) ?_⟩
    rw [show decide (V.int i = V.int j) = decide (i = j) by rw [dec_int, Bool.beq_eq_decide_eq]]
    exact .bl _), _, rfl, hP⟩) E hK hq hb fun v d M' S' H' ⟨t, e1, hP⟩ st hb' dv => by
    subst e1
    cases dv
    exact ⟨t, rfl, f t M' S' H' hP st hb'⟩)
/-- a[b] -/
theorem eb_ix {P : PyData → Nat → Prop} {P1 : PyData → Nat → Prop} (h1 : EB c B a ρ M P1) (h2 : ∀ x M1, P1 x M1 → EB c B b (B.to ρ M1) M1 (fun y m => ∃ xs i z, seqD x = some xs ∧ y = .int i ∧ atI xs i = some z ∧ P z m)) (hs : PlainIx b := by intro _ _; rfl) : EB c B (.Subscript a b pos) ρ M P := fun ok β S H σ q E hK hq hb Q f =>
  wE_of (t := tOp (fun x y H Q => rIxL c.g.K x y H Q ∨ rIxT c.g.K x y H Q) (wE c a) (wE c b)) (fun X hX => pe_ix (hX.K ▸ ix_list.or ix_tup) (pe_w hX) (pe_w hX) hs) (twoB (R := fun _ => True) (ok := ok) h1 (fun x M1 hp => (h2 x M1 hp).mono fun y m ⟨xs, i, z, hx, e2, hi, hP⟩ => ⟨z, (by
    subst e2
    intro S H v u e d1 d2 Q q
    cases d2
    cases x with
    | list ys =>
      cases hx
      cases d1 with
      | lst hl ha =>
        obtain ⟨w, h3, h4⟩ := da_atI ha hi
        exact .inl ⟨_, _, i, w, rfl, rfl, sl_of (e _ _ hl), h3, q w S H (Grow.rfl e) h4⟩
    | tuple ys =>
      cases hx
      cases d1 with
      | tup hl ha =>
        obtain ⟨w, h3, h4⟩ := da_atI ha hi
        exact .inr ⟨_, _, i, w, rfl, rfl, st_of (e _ _ hl), h3, q w S H (Grow.rfl e) h4⟩
    | none => cases hx
    | bool _ => cases hx
    | int _ => cases hx
    | str _ => cases hx
    | dict _ => cases hx), hP⟩) E hK hq hb f)
/-- f(box, es) -/
theorem eb_call {xn bn : Str} {j n cost : Nat} {Pre : List PyData → Prop} {Post : List PyData → PyData → Prop} {P : PyData → Nat → Prop} {gb : Bool} (D : Dg c.g gb xn j (SpB n cost Pre Post))
    (ha : AB c B es ρ M (fun ds m => ds.length = n ∧ Pre ds ∧ m + cost ≤ boxMax ∧ ∀ d, Post ds d → P d (m + cost))) (hN : c.N[B.i]? = some bn := by rfl) (hj : j ≤ c.k := by exact Nat.le_of_ble_eq_true rfl) (hg : Glb c xn := by rfl) (hv : Vis c.sc bn := by first | exact Or.inl rfl | exact Or.inr (Or.inl rfl) | exact Or.inr (Or.inr rfl))
    (hdb : (xn == ("__debug__" : Str)) = false := by decide) (hd : (bn == ("__debug__" : Str)) = false := by decide) (hcd : (bn == ("__classdict__" : Str)) = false := by decide) (he : ∀ env : PySem.Env, starEach (.Name bn p2 :: es) env = (false, eval (.Name bn p2) env) :: starEach es env := by intro _; rfl)
    (hpl : ∀ env : PySem.Env, (backTo pos (starEach es env)).any (·.1) = false := by intro _; rfl) (hgd : gb = true → c.gd = true := by first | exact fun _ => rfl | exact (fun h => nomatch h)) : EB c B (.Call (.Name xn p) (.Name bn p2 :: es) [] pos) ρ M P := fun ok β S H σ q E hK hq hb Q f =>
  wE_of (fun X hX => pe_df hX D hgd hj hg hdb (he X.env) (hpl X.env)) (show wA c (.Name bn p2 :: es) σ H _ from wA_of (fun X hX => pa_cons (pe_var (by rw [hX.N]; exact hN) (by rw [hX.sc]; exact hv) hd hcd) (pa_w hX) (he X.env)) ⟨_, hq, ha ok β S H σ q E hK hq hb _ fun vs ds M1 S1 H1 ⟨hl, hp, hm, hP⟩ t1 hb1 dvs => by
    show SpB n cost Pre Post (V.ref q :: vs ++ []) H1 Q E0
    rw [List.append_nil]
    obtain ⟨q', o, e1, e2, e3, e4, _⟩ := (ok.step E hq t1 hb1).own B.i _ ((ok.to M1).2)
    rw [hq] at e1
    have e1 : V.ref q = V.ref q' := Option.some.inj (Option.some.inj e1)
    cases e1
    exact ⟨by rw [List.length_cons, da_len dvs, hl], S1, q, vs, ds, M1, rfl, t1.sh, e4, hb1, hm, dvs, hp, fun v d S2 H2 hd t2 hb2 dv => f v d _ S2 H2 (hP d hd) (t1.trans t2 hb1.ne) hb2 dv⟩⟩)
/-- f(es), a def of data, its arguments drawn -/
theorem eb_callP {xn : Str} {j n : Nat} {Pre : List PyData → Prop} {Post : List PyData → PyData → Prop} {P : PyData → Nat → Prop} {gb : Bool} (D : Dg c.g gb xn j (SpP n Pre Post))
    (ha : AB c B (e :: es) ρ M (fun ds m => ds.length = n ∧ Pre ds ∧ ∀ d, Post ds d → P d m)) (hj : j ≤ c.k := by exact Nat.le_of_ble_eq_true rfl) (hg : Glb c xn := by rfl)
    (hdb : (xn == ("__debug__" : Str)) = false := by decide) (he : ∀ env : PySem.Env, starEach (e :: es) env = (false, eval e env) :: starEach es env := by intro _; rfl)
    (hpl : ∀ env : PySem.Env, (backTo pos (starEach es env)).any (·.1) = false := by intro _; rfl) (hgd : gb = true → c.gd = true := by first | exact fun _ => rfl | exact (fun h => nomatch h)) : EB c B (.Call (.Name xn p) (e :: es) [] pos) ρ M P := fun ok β S H σ q E hK hq hb Q f =>
  wE_of (fun X hX => pe_df hX D hgd hj hg hdb (he X.env) (hpl X.env)) (ha ok β S H σ q E hK hq hb _ fun vs ds M1 S1 H1 ⟨hl, hp, hP⟩ t1 hb1 dvs => by
    show SpP n Pre Post (vs ++ []) H1 Q E0
    rw [List.append_nil]
    exact ⟨by rw [da_len dvs, hl], S1, ds, t1.sh, dvs, hp, fun v d S2 H2 hd g2 dv => f v d M1 S2 H2 (hP d hd) (t1.trans g2.bstep hb1.ne) (hb1.mono g2.hh) dv⟩)
theorem eb_if {P : PyData → Nat → Prop} {P1 : Bool → Nat → Prop} (h : TB c B tst ρ M P1) (h1 : ∀ M1, P1 true M1 → EB c B a (B.to ρ M1) M1 P) (h2 : ∀ M1, P1 false M1 → EB c B b (B.to ρ M1) M1 P) : EB c B (.IfExp tst a b pos) ρ M P := fun ok β S H σ q E hK hq hb Q f =>
  wE_of (fun X hX => pe_ifExp (pt_w hX) (pe_w hX) (pe_w hX)) (h ok β S H σ q E hK hq hb _ fun k M1 S1 H1 hk t1 hb1 => by
    cases k with
    | true => exact h1 M1 hk (ok.to M1) β S1 H1 σ q (ok.step E hq t1 hb1) hK hq hb1 Q fun w d M2 S2 H2 hp t2 hb2 dw => f w d M2 S2 H2 hp (t1.trans t2 hb1.ne) hb2 dw
    | false => exact h2 M1 hk (ok.to M1) β S1 H1 σ q (ok.step E hq t1 hb1) hK hq hb1 Q fun w d M2 S2 H2 hp t2 hb2 dw => f w d M2 S2 H2 hp (t1.trans t2 hb1.ne) hb2 dw)

/-! ### statements -/
theorem s_setB (i : Nat) {n : Str} {P : PyData → Nat → Prop} (ok : B.Ok ρ M) (h : EB c B e ρ M P) (hN : c.N.Nodup) (hn : ∀ d m, P d m → Φ.nx ((B.to ρ m).set i (Cell.d d))) (hi : c.N[i]? = some n := by rfl) (hx : Loc c.sc n := by first | exact Or.inl rfl | exact Or.inr rfl)
    (hf : c.fn n = true ∨ c.sc.names.lookup n = some .local := by first | exact Or.inl rfl | exact Or.inr rfl) (hs : ∀ env : PySem.Env, swapsWithSole [.Name n p2] e pos.line env = pure false := by intro _; rfl)
    (hw : ∀ env : PySem.Env, env.scope = c.sc → swappedStores [.Name n p2] e env = pure none := by intro _ _; rfl) : S1 c (.Assign [.Name n p2] e pos) ρ Φ := fun β S H σ D E hK kk => by
  obtain ⟨q, hq, hb⟩ := ok.at E
  exact wS_of (fun X hX => ps_asg (pe_w hX) (pg_name (by rw [hX.N]; exact hN) (by rw [hX.N]; exact hi) (by rw [hX.sc]; exact hx) (by
    rcases hf with h | h
    · exact .inl (hX.fn _ h)
    · exact .inr (by rw [hX.sc]; exact h))) (hs X.env) (hw X.env hX.sc)) (h ok β S H σ q E hK hq hb _ fun v d M1 S1 H1 hp t1 hb1 dv =>
      kk.nx _ S1 H1 _ (hn d M1 hp) t1.ss ((ok.step E hq t1 hb1).setD dv))
theorem s_retB {P : PyData → Nat → Prop} (ok : B.Ok ρ M) (h : EB c B e ρ M P) (k : ∀ d m, P d m → Φ.rt (.d d) (B.to ρ m)) : S1 c (.Return (some e) pos) ρ Φ := fun β S H σ D E hK kk => by
  obtain ⟨q, hq, hb⟩ := ok.at E
  exact wS_of (fun X hX => ps_ret (pe_w hX)) (h ok β S H σ q E hK hq hb _ fun v d M1 S1 H1 hp t1 hb1 dv => kk.rt v (.d d) σ S1 H1 _ (k d M1 hp) t1.ss (ok.step E hq t1 hb1) dv)
theorem s_ifB {P : Bool → Nat → Prop} (ok : B.Ok ρ M) (h : TB c B tst ρ M P) (h1 : ∀ m, P true m → SV c ss (B.to ρ m) Φ) (h2 : ∀ m, P false m → SV c ts (B.to ρ m) Φ) : S1 c (.If tst ss ts pos) ρ Φ := fun β S H σ D E hK kk => by
  obtain ⟨q, hq, hb⟩ := ok.at E
  exact wS_of (fun X hX => ps_if (pt_w hX) (pss_w hX) (pss_w hX)) (h ok β S H σ q E hK hq hb _ fun k M1 S1 H1 hk t1 hb1 => by
    cases k with
    | true => exact h1 M1 hk β S1 H1 σ D (ok.step E hq t1 hb1) hK (kk.mono t1.ss)
    | false => exact h2 M1 hk β S1 H1 σ D (ok.step E hq t1 hb1) hK (kk.mono t1.ss))

/-- the box opened: its three numbers -/
theorem sv_open {sts : List Stmt} (i : Nat) (h : ∀ n x k : Int, 0 ≤ n → 0 ≤ x → x < 2147483647 → 0 ≤ k → k ≤ (M : Int) → SV c sts (ρ.set i (Cell.o (.p [.int n, .int x, .int k]))) Φ) (hi : ρ[i]? = some (Cell.o (.b M)) := by rfl) : SV c sts ρ Φ := fun β S H σ D E hK kk => by
  obtain ⟨q, o, h1, h2, ⟨n, x, k, rfl, b1, b2, b3, b4, b5⟩, h4, h5⟩ := E.own i _ hi
  refine h n x k b1 b2 b3 b4 b5 β S H σ D (E.retell hi (fun p o' hp ho _ => ?_) fun p hp => hp) hK kk
  rw [h1] at hp
  have e1 : V.ref q = V.ref p := Option.some.inj (Option.some.inj hp)
  cases e1
  rw [h2] at ho
  cases ho
  exact ⟨_, rfl, .cons (.int n) (.cons (.int x) (.cons (.int k) .nil))⟩
theorem e_divmod {i j : Int} (h : ED c a ρ (.int i)) (h2 : ED c b ρ (.int j)) (hj : CDiv i j) (hm : c.g.mg "divmod" = none) (hg : Glb c "divmod" := by rfl) (he : ∀ env : PySem.Env, starEach [a, b] env = (false, eval a env) :: starEach [b] env := by intro _; rfl) (he2 : ∀ env : PySem.Env, starEach [b] env = (false, eval b env) :: starEach [] env := by intro _; rfl)
    (hpl : ∀ env : PySem.Env, (backTo pos (starEach [b] env)).any (·.1) = false := by intro _; rfl) : ED c (.Call (.Name "divmod" p) [a, b] [] pos) ρ (.tuple [.int (i / j), .int (i % j)]) := e_blt (fun X hX => call_divmod) (a_cons h (a_cons h2 a_nil he2) he) (fun S H vs e dv Q q => by
  cases dv with
  | cons d1 d2 => cases d2 with
    | cons d2 d3 => cases d3; cases d1; cases d2; exact ⟨i, j, rfl, hj, fun l hn => q _ (upd S l (.tup _)) _ (Grow.new e hn) (.tup upd_same (.cons (.int _) (.cons (.int _) .nil)))⟩) hm (by decide +kernel) hg (by decide) (by decide) he hpl
theorem s_asgD {tg : Expr} {ρ1 : List Cell} (h : ED c e ρ d) (hg : GW c tg d ρ ρ1) (hn : Φ.nx ρ1) (hs : ∀ env : PySem.Env, swapsWithSole [tg] e pos.line env = pure false := by intro _; rfl)
    (hw : ∀ env : PySem.Env, env.scope = c.sc → swappedStores [tg] e env = pure none := by intro _ _; rfl) (h1 : ∀ env : PySem.Env, (assignEach [tg] env).map (·.2) = [assign tg env] := by intro _; rfl) : S1 c (.Assign [tg] e pos) ρ Φ :=
  s_asg h (fun d' e' => ⟨ρ1, by rw [e']; exact hg, hn⟩) hs hw h1
end
end Bd
/-! Lists made of lists, enumerate; owned lists and dicts. -/
namespace Bd
open PySem PySem.Spec PyProof.Rows L2

section
variable {c : Cc} {B : Bx} {ρ : List Cell} {M : Nat} {a b e tst : Expr} {es : List Expr} {pos p p2 p3 : Pos} {x y z d : PyData} {op : Operator} {Φ : Po} {ss ts : List Stmt}

/-! ### slices -/
def cutP (xs : List PyData) (lo hi : Option Int) : List PyData := (xs.drop (HT.sIx xs.length 0 lo)).take (HT.sIx xs.length xs.length hi - HT.sIx xs.length 0 lo)
theorem da_cut {H : Hp} {vs : List V} {xs : List PyData} (h : DtAll H vs xs) (lo hi : Option Int) : DtAll H (cutV vs lo hi) (cutP xs lo hi) := by
  unfold cutV cutP
  rw [da_len h]
  exact da_take _ (da_drop _ h)
/-- an optional part of a slice -/
def OD (c : Cc) (e : Option Expr) (ρ : List Cell) (o : Option Int) : Prop := (e = none ∧ o = none) ∨ ∃ e' i, e = some e' ∧ o = some i ∧ ED c e' ρ (.int i)
def wO (c : Cc) (e : Option Expr) : TO := match e with
  | none => tNoPart
  | some e => tPart (wE c e)
theorem po_w {X : Cx} {o : Option Expr} (h : c.Has X) : PO X o (wO c o) := by
  cases o with
  | none => exact po_none
  | some e => exact po_some (pe_w h)
theorem OD.run {o : Option Expr} {lo : Option Int} (h : OD c o ρ lo) {β : Bs} {S H : Hp} {σ : L2.St} (E : Env β S H σ ρ) (hK : c.Ok β) {Q : Option Int → Hp → Prop} (q : ∀ S' H', Grow S H S' H' → Q lo H') : wO c o σ H Q := by
  rcases h with ⟨rfl, rfl⟩ | ⟨e', i, rfl, rfl, h⟩
  · exact q S H (Grow.rfl E.sh)
  · exact h β S H σ E hK _ fun v d S' H' hd g dv => by
      subst hd
      cases dv
      exact ⟨i, rfl, q S' H' g⟩
theorem o_none : OD c none ρ none := .inl ⟨rfl, rfl⟩
theorem o_some {i : Int} (h : ED c e ρ (.int i)) : OD c (some e) ρ (some i) := .inr ⟨e, i, rfl, rfl, h⟩
theorem n_slice {xs : List PyData} {l u : Option Expr} {lo hi : Option Int} (h : ED c a ρ (.list xs)) (h1 : OD c l ρ lo) (h2 : OD c u ρ hi) : EL c (.Subscript a (.Slice l u none p2) pos) ρ (cutP xs lo hi) := fun β S H σ E hK Q q =>
  wE_of (t := tSl (rSlL c.g.K) (wE c a) (wO c l) (wO c u)) (fun X hX => pe_slice (hX.K ▸ sl_list) (pe_w hX) (po_w hX) (po_w hX)) (h β S H σ E hK _ fun v d S1 H1 hd g1 dv => h1.run (E.grow g1) hK fun S2 H2 g2 => h2.run ((E.grow g1).grow g2) hK fun S3 H3 g3 => by
    subst hd
    cases dv with
    | lst hl ha =>
      have g := (g1.trans g2).trans g3
      exact ⟨_, _, rfl, sl_of ((g2.trans g3).hh _ _ (g1.sh _ _ hl)), fun r hr => q r _ _ S3 _ rfl (g.hh.back hr) upd_same (g3.sh.back hr) (da_cut (dp_exs (g2.ss.trans g3.ss) _ _ ha) lo hi) (g.trans (Grow.own g3.sh hr))⟩)
theorem e_slice {xs : List PyData} {l u : Option Expr} {lo hi : Option Int} (h : ED c a ρ (.list xs)) (h1 : OD c l ρ lo) (h2 : OD c u ρ hi) : ED c (.Subscript a (.Slice l u none p2) pos) ρ (.list (cutP xs lo hi)) := EL.ed (n_slice h h1 h2)
/-- a slice of the script -/
theorem n_sliceS (i : Nat) {n : Str} {ns : List Int} {l u : Option Expr} {lo hi : Option Int} (ho : ρ[i]? = some (Cell.s ns)) (h1 : OD c l ρ lo) (h2 : OD c u ρ hi) (hN : c.N[i]? = some n := by rfl) (hv : Vis c.sc n := by first | exact Or.inl rfl | exact Or.inr (Or.inl rfl) | exact Or.inr (Or.inr rfl))
    (hd : (n == ("__debug__" : Str)) = false := by decide) (hcd : (n == ("__classdict__" : Str)) = false := by decide) : EL c (.Subscript (.Name n p) (.Slice l u none p2) pos) ρ (cutP (ns.map .int) lo hi) := fun β S H σ E hK Q q => by
  obtain ⟨r, hr, hs⟩ := E.scr i ns ho
  refine wE_of (t := tSl (rSlL c.g.K) (tVar i) (wO c l) (wO c u)) (fun X hX => pe_slice (hX.K ▸ sl_list) (pe_var (by rw [hX.N]; exact hN) (by rw [hX.sc]; exact hv) hd hcd) (po_w hX) (po_w hX)) ⟨_, hr, h1.run E hK fun S2 H2 g2 => h2.run (E.grow g2) hK fun S3 H3 g3 => ?_⟩
  have g := g2.trans g3
  rw [hK.1] at hs
  refine ⟨r, ns.map V.int, rfl, ex_l (E.sh.trans g.hh) hs, fun t ht => q t _ _ S3 _ rfl (g.hh.back ht) upd_same (g3.sh.back ht) (da_cut (da_ints ns) lo hi) (g.trans (Grow.own g3.sh ht))⟩
/-- list(x) of a list or a tuple -/
theorem n_list {xs : List PyData} (h : ED c a ρ x) (hx : seqD x = some xs := by rfl) (hm : c.g.mg "list" = none) (hg : Glb c "list" := by rfl) (he : ∀ env : PySem.Env, starEach [a] env = (false, eval a env) :: starEach [] env := by intro _; rfl) :
    EL c (.Call (.Name "list" p) [a] [] pos) ρ xs := fun β S H σ E hK Q q =>
  wE_of (t := tCB (fun xs H Q => ∃ p ys, xs = [.ref p] ∧ (SqL c.g.K H p ys ∨ SqT c.g.K H p ys) ∧ ∀ l, H l = none → Q (.ref l) (upd H l (.lst ys))) (wA c [a])) (fun X hX => pe_callTy (hX.K ▸ call_list_of) (hX.gl hg) (by rw [hX.mg]; exact hm) (by decide +kernel) (pa_w hX) (by decide) (by decide) (he X.env) rfl)
    (a_cons h a_nil he β S H σ E hK _ fun vs ds S1 H1 e1 g1 dvs => by
      subst e1
      cases dvs with
      | cons d1 d2 =>
        cases d2
        cases x with
        | list ys =>
          cases hx
          cases d1 with
          | lst hl ha => exact ⟨_, _, rfl, .inl (sl_of (g1.sh _ _ hl)), fun l hn => q l _ _ S1 _ rfl (g1.hh.back hn) upd_same (g1.sh.back hn) ha (g1.trans (Grow.own g1.sh hn))⟩
        | tuple ys =>
          cases hx
          cases d1 with
          | tup hl ha => exact ⟨_, _, rfl, .inr (st_of (g1.sh _ _ hl)), fun l hn => q l _ _ S1 _ rfl (g1.hh.back hn) upd_same (g1.sh.back hn) ha (g1.trans (Grow.own g1.sh hn))⟩
        | none => cases hx
        | bool _ => cases hx
        | int _ => cases hx
        | str _ => cases hx
        | dict _ => cases hx)
/-- enumerate(list) -/
def enumD (xs : List PyData) : List PyData := xs.zipIdx.map fun q => .tuple [.int (q.2 : Nat), q.1]
theorem enumD_len (xs : List PyData) : (enumD xs).length = xs.length := by simp [enumD]
theorem enumD_get {xs : List PyData} {i : Nat} {d : PyData} (h : xs[i]? = some d) : (enumD xs)[i]? = some (.tuple [.int (i : Nat), d]) := by
  unfold enumD
  rw [List.getElem?_map, List.getElem?_zipIdx, h]
  simp
theorem wk_enum {K : PySem.W.Frag} {S : Hp} {q : Addr} {vs : List V} {xs : List PyData} (h : S q = some (.lst vs)) (hd : DtAll S vs xs) : WkD (Ite K q) (enumD xs) S := fun S' H' e1 e2 => by
  have hl : H' q = some (.lst vs) := e2 _ _ (e1 _ _ h)
  have hn := da_len hd
  rw [enumD_len]
  refine ⟨fun i hi => ⟨vs, vs[i]'(by omega), sl_of hl, by simp [show i < vs.length by omega]⟩, ⟨vs, sl_of hl, by omega⟩, fun i v H2 hi y => ?_⟩
  obtain ⟨T, w, rfl, hT, rfl, y⟩ := y
  obtain ⟨d, h1, h2⟩ := da_getV hd (y vs (sl_of hl))
  exact ⟨upd S' T (.tup [.int (i : Nat), w]), _, Grow.new e2 hT, enumD_get h1, .tup upd_same (.cons (.int _) (.cons (dp_ex (e1.trans (Ex.new (e2.back hT))) _ _ h2) .nil))⟩
theorem i_enum {elts : List Expr} {kk : Nat} {tpos : Pos} {xs : List PyData} (h : ED c a ρ (.list xs)) (hm : c.g.mg "enumerate" = none) (hg : Glb c "enumerate" := by rfl) (hs : ∀ env : PySem.Env, starEach [a] env = [(false, eval a env)] := by intro _; rfl) :
    ID c (.Tuple elts kk tpos) (.Call (.Name "enumerate" p) [a] [] pos) ρ (enumD xs) := fun β S H σ E hK R q =>
  wI_of (t := iEnum c.g.K (tCons (wE c a) tNil)) (fun X hX => hX.K ▸ pi_enum (hX.gl hg) (by rw [hX.mg]; exact hm) (pa_cons (pe_w hX) pa_nil (hs X.env)) (hs X.env)) (h β S H σ E hK _ fun v d S1 H1 hd g1 dv => by
    subst hd
    cases dv with
    | lst hl ha => exact ⟨_, _, rfl, sl_of (g1.sh _ _ hl), q _ S1 H1 g1 (wk_enum hl ha)⟩)
/-- x + e, x an owned list, e a new one -/
theorem n_catO (i : Nat) {n : Str} {xs : List PyData} {P : List PyData → Prop} {C : List PyData → Own} (ho : OL ρ i xs C) (h : EN c e ρ P) (hl : ∀ ys, P ys → xs.length + ys.length ≤ 1000000) (hN : c.N[i]? = some n := by rfl) (hv : Vis c.sc n := by first | exact Or.inl rfl | exact Or.inr (Or.inl rfl) | exact Or.inr (Or.inr rfl))
    (hd : (n == ("__debug__" : Str)) = false := by decide) (hcd : (n == ("__classdict__" : Str)) = false := by decide) : EN c (.BinOp (.Name n p) .Add e pos) ρ (fun zs => ∃ ys, zs = xs ++ ys ∧ P ys) := fun β S H σ E hK Q q => by
  obtain ⟨r, vs, h1, h2, h3, h4, h5⟩ := ho.get E
  refine wE_of (t := tOp rCat (tVar i) (wE c e)) (fun X hX => pe_op op_cat (pe_var (by rw [hX.N]; exact hN) (by rw [hX.sc]; exact hv) hd hcd) (pe_w hX)) ⟨_, h1, h β S H σ E hK _ fun t us ys S1 H1 hp hn hlt hs hd g => ?_⟩
  refine ⟨r, t, vs, us, rfl, rfl, g.hh _ _ h2, hlt, ?_, fun l hn2 => q l _ _ S1 _ ⟨ys, rfl, hp⟩ (g.hh.back hn2) upd_same (g.sh.back hn2) (da_app (dp_exs g.ss _ _ h3) hd) (g.trans (Grow.own g.sh hn2))⟩
  rw [da_len h3, da_len hd]
  exact Nat.le_trans (hl ys hp) (by decide)
/-- xs + ys, two lists of data -/
theorem n_cat {xs ys : List PyData} (h1 : ED c a ρ (.list xs)) (h2 : ED c b ρ (.list ys)) (hl : xs.length + ys.length ≤ 1000000) : EL c (.BinOp a .Add b pos) ρ (xs ++ ys) := fun β S H σ E hK Q q =>
  wE_of (t := tOp rCat (wE c a) (wE c b)) (fun X hX => pe_op op_cat (pe_w hX) (pe_w hX)) (h1 β S H σ E hK _ fun v d1 S1 H1 e1 g1 dv => h2 β S1 H1 σ (E.grow g1) hK _ fun u d2 S2 H2 e2 g2 du => by
    subst e1 e2
    cases dv with
    | lst hx hax =>
      cases du with
      | lst hy hay =>
        exact ⟨_, _, _, _, rfl, rfl, g2.sh _ _ (g2.ss _ _ hx), g2.sh _ _ hy, by rw [da_len hax, da_len hay]; exact Nat.le_trans hl (by decide), fun l hn => q l _ _ S2 _ rfl ((g1.trans g2).hh.back hn) upd_same (g2.sh.back hn) (da_app (dp_exs g2.ss _ _ hax) hay) ((g1.trans g2).trans (Grow.own g2.sh hn))⟩)
/-- xs * k, a list of data -/
theorem n_rep {xs : List PyData} {k : Nat} (h1 : ED c a ρ (.list xs)) (h2 : ED c b ρ (.int k)) (hk : k ≤ 1000000) (hl : xs.length * k ≤ 1000000) : EL c (.BinOp a .Mult b pos) ρ (List.replicate k xs).flatten := fun β S H σ E hK Q q =>
  wE_of (t := tOp rRep (wE c a) (wE c b)) (fun X hX => pe_op op_rep (pe_w hX) (pe_w hX)) (h1 β S H σ E hK _ fun v d1 S1 H1 e1 g1 dv => h2 β S1 H1 σ (E.grow g1) hK _ fun u d2 S2 H2 e2 g2 du => by
    subst e1 e2
    cases du
    cases dv with
    | lst hx hax =>
      refine ⟨_, _, _, rfl, rfl, g2.sh _ _ (g2.ss _ _ hx), by omega, by omega, ?_, fun l hn => ?_⟩
      · rw [da_len hax, Int.toNat_natCast]; exact Nat.le_trans hl (by decide)
      · have hd := da_rep (dp_exs g2.ss _ _ hax) k
        rw [← Int.toNat_natCast k] at hd
        exact q l _ _ S2 _ rfl ((g1.trans g2).hh.back hn) upd_same (g2.sh.back hn) (by simpa using hd) ((g1.trans g2).trans (Grow.own g2.sh hn)))

/-! ### values of the whole heap: for what only looks -/
def EH (c : Cc) (e : Expr) (ρ : List Cell) (d : PyData) : Prop :=
  ∀ (β : Bs) (S H : Hp) (σ : L2.St), Env β S H σ ρ → c.Ok β → ∀ Q : VK, (∀ v S' H', Grow S H S' H' → Dt H' v d → Q v H') → wE c e σ H Q
theorem eh_of (h : ED c e ρ d) : EH c e ρ d := fun β S H σ E hK Q q => h β S H σ E hK Q fun v d' S' H' hd g dv => q v S' H' g (by subst hd; exact dp_ex g.sh _ _ dv)
theorem eh_var (i : Nat) {n : Str} {xs : List PyData} {C : List PyData → Own} (ho : OL ρ i xs C) (hN : c.N[i]? = some n := by rfl) (hv : Vis c.sc n := by first | exact Or.inl rfl | exact Or.inr (Or.inl rfl) | exact Or.inr (Or.inr rfl))
    (hd : (n == ("__debug__" : Str)) = false := by decide) (hcd : (n == ("__classdict__" : Str)) = false := by decide) : EH c (.Name n pos) ρ (.list xs) := fun β S H σ E hK Q q => by
  obtain ⟨r, vs, h1, h2, h3, h4, h5⟩ := ho.get E
  exact wE_of (fun X hX => pe_var (by rw [hX.N]; exact hN) (by rw [hX.sc]; exact hv) hd hcd) ⟨_, h1, q _ S H (Grow.rfl E.sh) (.lst h2 (dp_exs E.sh _ _ h3))⟩
theorem twoH {r : R2} (h1 : EH c a ρ x) (h2 : EH c b ρ y) (hr : ∀ H v u, Dt H v x → Dt H u y → ∀ Q : VK, (∀ w, Dt H w z → Q w H) → r v u H Q) {β : Bs} {S H : Hp} {σ : L2.St} (E : Env β S H σ ρ) (hK : c.Ok β) {Q : VK} (q : ∀ w S' H', Grow S H S' H' → Dt H' w z → Q w H') : tOp r (wE c a) (wE c b) σ H Q :=
  h1 β S H σ E hK _ fun v S1 H1 g1 dv => h2 β S1 H1 σ (E.grow g1) hK _ fun u S2 H2 g2 du => hr H2 v u (dp_ex g2.hh _ _ dv) du Q fun w dw => q w S2 H2 (g1.trans g2) dw
theorem t_eqH (h1 : EH c a ρ x) (h2 : EH c b ρ y) (s1 : SeqAt.shaped x = true) (s2 : SeqAt.shaped y = true) : TD c (.Compare a [.Eq] [b] pos) ρ (PyData.eqv x y) := fun β S H σ E hK Q q =>
  wT_of (t := tTest (tOp (rEqD c.g.K) (wE c a) (wE c b))) (fun X hX => pt_cmpR (hX.K ▸ op_eqD hX.hu) (pe_w hX) (pe_w hX) (nomark _)) (twoH (z := .bool (PyData.eqv x y)) h1 h2 (fun H v u d1 d2 Q q => ⟨x, y, dt_dp _ _ d1, dt_dp _ _ d2, s1, s2, q _ (.bl _)⟩) E hK fun w S' H' g dw => by
    cases dw
    exact ⟨_, rfl, q _ S' H' rfl g⟩)
theorem t_neH (h1 : EH c a ρ x) (h2 : EH c b ρ y) (s1 : SeqAt.shaped x = true) (s2 : SeqAt.shaped y = true) : TD c (.Compare a [.NotEq] [b] pos) ρ (!PyData.eqv x y) := fun β S H σ E hK Q q =>
  wT_of (t := tTest (tOp (rNeD c.g.K) (wE c a) (wE c b))) (fun X hX => pt_cmpR (hX.K ▸ op_neD hX.hu) (pe_w hX) (pe_w hX) (nomark _)) (twoH (z := .bool (!PyData.eqv x y)) h1 h2 (fun H v u d1 d2 Q q => ⟨x, y, dt_dp _ _ d1, dt_dp _ _ d2, s1, s2, q _ (.bl _)⟩) E hK fun w S' H' g dw => by
    cases dw
    exact ⟨_, rfl, q _ S' H' rfl g⟩)

/-! ### what changes owned objects and comes to data -/
def XV (c : Cc) (e : Expr) (ρ : List Cell) (P : PyData → List Cell → Prop) : Prop :=
  ∀ (β : Bs) (S H : Hp) (σ : L2.St), Env β S H σ ρ → c.Ok β → ∀ Q : VK, (∀ v d ρ' S' H', P d ρ' → Env β S' H' σ ρ' → Ex S S' → Dt S' v d → Q v H') → wE c e σ H Q
def XT (c : Cc) (e : Expr) (ρ : List Cell) (P : Bool → List Cell → Prop) : Prop :=
  ∀ (β : Bs) (S H : Hp) (σ : L2.St), Env β S H σ ρ → c.Ok β → ∀ Q : Bool → Hp → Prop, (∀ t ρ' S' H', P t ρ' → Env β S' H' σ ρ' → Ex S S' → Q t H') → wT c e σ H Q
theorem xv_ev {P : PyData → List Cell → Prop} (h : EV c e ρ fun d => P d ρ) : XV c e ρ P := fun β S H σ E hK Q q => h β S H σ E hK Q fun v d S' H' hp g dv => q v d ρ S' H' hp (E.grow g) g.ss dv
theorem xv_eb {P : PyData → List Cell → Prop} (ok : B.Ok ρ M) (h : EB c B e ρ M fun d m => P d (B.to ρ m)) : XV c e ρ P := fun β S H σ E hK Q q => by
  obtain ⟨r, hr, hb⟩ := ok.at E
  exact h ok β S H σ r E hK hr hb Q fun v d m S' H' hp t hb' dv => q v d _ S' H' hp (ok.step E hr t hb') t.ss dv
theorem xt_tv {P : Bool → List Cell → Prop} (h : TV c e ρ fun d => P d ρ) : XT c e ρ P := fun β S H σ E hK Q q => h β S H σ E hK Q fun t S' H' hp g => q t ρ S' H' hp (E.grow g) g.ss
theorem xt_tb {P : Bool → List Cell → Prop} (ok : B.Ok ρ M) (h : TB c B e ρ M fun d m => P d (B.to ρ m)) : XT c e ρ P := fun β S H σ E hK Q q => by
  obtain ⟨r, hr, hb⟩ := ok.at E
  exact h ok β S H σ r E hK hr hb Q fun t m S' H' hp st hb' => q t _ S' H' hp (ok.step E hr st hb') st.ss
/-- a and b, two tests -/
theorem xt_and {P : Bool → List Cell → Prop} {P1 : Bool → List Cell → Prop} (h : XT c a ρ P1) (h1 : ∀ ρ1, P1 true ρ1 → XT c b ρ1 P) (h2 : ∀ ρ1, P1 false ρ1 → P false ρ1) : XT c (.BoolOp .And [a, b] pos) ρ P := fun β S H σ E hK Q q =>
  wT_of (fun X hX => (pw_and (pt_w hX) (pw_and1 (pt_w hX))).pt) (h β S H σ E hK _ fun t ρ1 S1 H1 hp E1 e1 => by
    cases t with
    | true => exact h1 ρ1 hp β S1 H1 σ E1 hK Q fun t ρ2 S2 H2 hp2 E2 e2 => q t ρ2 S2 H2 hp2 E2 (e1.trans e2)
    | false => exact q false ρ1 S1 H1 (h2 ρ1 hp) E1 e1)
theorem xv_if {P : PyData → List Cell → Prop} {P1 : Bool → List Cell → Prop} (h : XT c tst ρ P1) (h1 : ∀ ρ1, P1 true ρ1 → XV c a ρ1 P) (h2 : ∀ ρ1, P1 false ρ1 → XV c b ρ1 P) : XV c (.IfExp tst a b pos) ρ P := fun β S H σ E hK Q q =>
  wE_of (fun X hX => pe_ifExp (pt_w hX) (pe_w hX) (pe_w hX)) (h β S H σ E hK _ fun t ρ1 S1 H1 hp E1 e1 => by
    cases t with
    | true => exact h1 ρ1 hp β S1 H1 σ E1 hK Q fun v d ρ2 S2 H2 hp2 E2 e2 dv => q v d ρ2 S2 H2 hp2 E2 (e1.trans e2) dv
    | false => exact h2 ρ1 hp β S1 H1 σ E1 hK Q fun v d ρ2 S2 H2 hp2 E2 e2 dv => q v d ρ2 S2 H2 hp2 E2 (e1.trans e2) dv)
/-- x.pop(e), x an owned list -/
theorem xv_pop (i : Nat) {n : Str} {xs : List PyData} {C : List PyData → Own} {P : PyData → List Cell → Prop} {P1 : PyData → List Cell → Prop} (ho : OL ρ i xs C)
    (h : XV c e ρ P1) (k : ∀ d ρ1, P1 d ρ1 → OL ρ1 i xs C ∧ ∃ j z, d = .int (j : Nat) ∧ xs[j]? = some z ∧ P z (ρ1.set i (Cell.o (C (xs.eraseIdx j))))) (hl : xs.length ≤ 1000000) (hN : c.N[i]? = some n := by rfl) (hv : Vis c.sc n := by first | exact Or.inl rfl | exact Or.inr (Or.inl rfl) | exact Or.inr (Or.inr rfl))
    (hd : (n == ("__debug__" : Str)) = false := by decide) (hcd : (n == ("__classdict__" : Str)) = false := by decide) (he : ∀ env : PySem.Env, starEach [e] env = (false, eval e env) :: starEach [] env := by intro _; rfl)
    (hpl : ∀ env : PySem.Env, (backTo p3 (starEach [] env)).any (·.1) = false := by intro _; rfl) (hline : (p2.endLine == p3.line) = true := by rfl) :
    XV c (.Call (.Attribute (.Name n p) "pop" p2) [e] [] p3) ρ P := fun β S H σ E hK Q q => by
  obtain ⟨r, vs, h1, h2, h3, h4, h5⟩ := ho.get E
  refine wE_of (t := tBM c.g.K "list" rPopAt (tVar i) (tCons (wE c e) tNil)) (fun X hX => hX.K ▸ pe_bm PySem.F.plainAttrs_list PySem.F.slot_list_pop PySem.F.type_list_pop mt_popAt (pe_var (by rw [hX.N]; exact hN) (by rw [hX.sc]; exact hv) hd hcd) (pa_cons (pe_w hX) pa_nil (he X.env)) rfl (by rw [he X.env]; rfl) hline (he X.env) (hpl X.env)) ⟨_, h1, .inl ⟨rfl, _, sl_of h2⟩, h β S H σ E hK _ fun w d ρ1 S1 H1 hp E1 e1 dw => ?_⟩
  obtain ⟨ho1, j, z, rfl, hj, hP⟩ := k d ρ1 hp
  cases dw
  obtain ⟨r', vs', h1', h2', h3', h4', h5'⟩ := ho1.get E1
  rw [h1] at h1'
  have e2 : V.ref r = V.ref r' := Option.some.inj (Option.some.inj h1')
  cases e2
  obtain ⟨y, hy, dy⟩ := da_get h3' hj
  have hjl : j < vs'.length := (List.getElem?_eq_some_iff.mp hy).1
  have hlen := da_len h3'
  refine ⟨r, vs', _, j, y, rfl, rfl, h2', by omega, by omega, ?_, hy, ?_⟩
  · have := PySem.seqIndex_of (k := (j : Int)) (n := vs'.length) (by omega) (by omega)
    rw [this]; simp
  · exact q y z _ S1 _ hP (E1.updO ho1.1 h1 (OL.ok ho1.2 (da_erase j h3')) (h5' _)) e1 dy
/-- x = e, e changes owned objects -/
theorem s_setX (i : Nat) {n : Str} {P : PyData → List Cell → Prop} (h : XV c e ρ P) (hN : c.N.Nodup) (hn : ∀ d r, P d r → Φ.nx (r.set i (Cell.d d))) (hi : c.N[i]? = some n := by rfl) (hx : Loc c.sc n := by first | exact Or.inl rfl | exact Or.inr rfl)
    (hf : c.fn n = true ∨ c.sc.names.lookup n = some .local := by first | exact Or.inl rfl | exact Or.inr rfl) (hs : ∀ env : PySem.Env, swapsWithSole [.Name n p2] e pos.line env = pure false := by intro _; rfl)
    (hw : ∀ env : PySem.Env, env.scope = c.sc → swappedStores [.Name n p2] e env = pure none := by intro _ _; rfl) : S1 c (.Assign [.Name n p2] e pos) ρ Φ := fun β S H σ D E hK kk =>
  wS_of (fun X hX => ps_asg (pe_w hX) (pg_name (by rw [hX.N]; exact hN) (by rw [hX.N]; exact hi) (by rw [hX.sc]; exact hx) (by
    rcases hf with h | h
    · exact .inl (hX.fn _ h)
    · exact .inr (by rw [hX.sc]; exact h))) (hs X.env) (hw X.env hX.sc)) (h β S H σ E hK _ fun v d r S1 H1 hp E1 e1 dv =>
      kk.nx _ S1 H1 _ (hn d r hp) e1 (E1.setD dv))

/-! ### owned dicts, keys tuples of ints -/
def getD' (kvs : List (List Key × PyData)) (k : List Key) : Option PyData := (kvs.find? fun kv => decide (kv.1 = k)).map (·.2)
def putD' (kvs : List (List Key × PyData)) (k : List Key) (v : PyData) : List (List Key × PyData) :=
  if (kvs.any fun kv => decide (kv.1 = k)) = true then kvs.map (fun kv => if kv.1 = k then (kv.1, v) else kv) else kvs ++ [(k, v)]
theorem kv_any {H : Hp} {k : List Key} : ∀ {xs : List (List Key × V)} {ys : List (List Key × PyData)}, KvAll H xs ys → (xs.any fun kv => decide (kv.1 = k)) = (ys.any fun kv => decide (kv.1 = k))
  | _, _, .nil => rfl
  | _, _, .cons h t => by rw [List.any_cons, List.any_cons, kv_any t]
theorem kv_put {H : Hp} {k : List Key} {v : V} {d : PyData} (dv : Dt H v d) {xs : List (List Key × V)} {ys : List (List Key × PyData)} (h : KvAll H xs ys) : KvAll H (putK xs k v) (putD' ys k d) := by
  have hm : ∀ {xs : List (List Key × V)} {ys : List (List Key × PyData)}, KvAll H xs ys → KvAll H (xs.map fun kv => if kv.1 = k then (kv.1, v) else kv) (ys.map fun kv => if kv.1 = k then (kv.1, d) else kv) := by
    intro xs ys h
    induction h with
    | nil => exact .nil
    | @cons k1 v1 d1 xs ys h1 t ih =>
      rw [List.map_cons, List.map_cons]
      by_cases e : k1 = k
      · rw [if_pos (show (k1, v1).1 = k from e), if_pos (show (k1, d1).1 = k from e)]
        exact .cons dv ih
      · rw [if_neg (show ¬ (k1, v1).1 = k from e), if_neg (show ¬ (k1, d1).1 = k from e)]
        exact .cons h1 ih
  have ha : ∀ {xs : List (List Key × V)} {ys : List (List Key × PyData)}, KvAll H xs ys → KvAll H (xs ++ [(k, v)]) (ys ++ [(k, d)]) := by
    intro xs ys h
    induction h with
    | nil => exact .cons dv .nil
    | cons h1 t ih => exact .cons h1 ih
  unfold putK putD'
  rw [kv_any h]
  split
  · exact hm h
  · exact ha h
theorem kv_get {H : Hp} {k : List Key} {d : PyData} : ∀ {xs : List (List Key × V)} {ys : List (List Key × PyData)}, KvAll H xs ys → getD' ys k = some d → ∃ v, valV xs k = some v ∧ Dt H v d
  | _, _, .nil, h => by cases h
  | _, _, .cons (k := k1) (v := v1) (d := d1) h t, e => by
    unfold getD' at e
    rw [List.find?_cons] at e
    by_cases hk : k1 = k
    · rw [decide_eq_true (show (k1, d1).1 = k from hk)] at e
      cases e
      exact ⟨v1, valV_pos hk, h⟩
    · rw [decide_eq_false (show ¬ (k1, d1).1 = k from hk)] at e
      obtain ⟨v, h1, h2⟩ := kv_get t e
      exact ⟨v, by rw [valV_neg hk]; exact h1, h2⟩
theorem getD_put {kvs : List (List Key × PyData)} {k j : List Key} {v : PyData} : getD' (putD' kvs k v) j = if j = k then some v else getD' kvs j := by
  have map : ∀ kvs : List (List Key × PyData), getD' (kvs.map fun kv => if kv.1 = k then (kv.1, v) else kv) j = (getD' kvs j).map fun x => if j = k then v else x := by
    intro kvs
    induction kvs with
    | nil => rfl
    | cons q r ih =>
      unfold getD' at ih ⊢
      rw [List.map_cons, List.find?_cons, List.find?_cons]
      by_cases h1 : q.1 = k
      · rw [if_pos h1]
        by_cases h2 : q.1 = j
        · rw [decide_eq_true (show (q.1, v).1 = j from h2)]
          simp [show j = k from h2.symm.trans h1]
        · rw [decide_eq_false (show ¬ (q.1, v).1 = j from h2)]
          exact ih
      · rw [if_neg h1]
        by_cases h2 : q.1 = j
        · rw [decide_eq_true h2]
          simp [show ¬ j = k from fun e => h1 (h2.trans e)]
        · rw [decide_eq_false h2]
          exact ih
  have app : ∀ kvs : List (List Key × PyData), (kvs.any fun kv => decide (kv.1 = k)) = false → getD' (kvs ++ [(k, v)]) j = if j = k then some v else getD' kvs j := by
    intro kvs h
    induction kvs with
    | nil =>
      unfold getD'
      rw [List.nil_append, List.find?_cons]
      by_cases h2 : j = k
      · rw [if_pos h2, decide_eq_true (show (k, v).1 = j from h2.symm)] <;> rfl
      · rw [if_neg h2, decide_eq_false (show ¬ (k, v).1 = j from fun e => h2 e.symm)] <;> rfl
    | cons q r ih =>
      rw [List.any_cons, Bool.or_eq_false_iff] at h
      have hq : ¬ q.1 = k := of_decide_eq_false h.1
      have := ih h.2
      unfold getD' at this ⊢
      rw [List.cons_append, List.find?_cons, List.find?_cons]
      by_cases h2 : q.1 = j
      · rw [decide_eq_true h2]
        rw [if_neg (fun e : j = k => hq (h2.trans e))]
      · rw [decide_eq_false h2]
        exact this
  have isn : ∀ kvs : List (List Key × PyData), (kvs.any fun kv => decide (kv.1 = j)) = true → ∃ u, getD' kvs j = some u := by
    intro kvs h
    induction kvs with
    | nil => cases h
    | cons q r ih =>
      unfold getD'
      rw [List.find?_cons]
      by_cases h2 : q.1 = j
      · rw [decide_eq_true h2]; exact ⟨_, rfl⟩
      · rw [List.any_cons, decide_eq_false h2] at h
        rw [decide_eq_false h2]
        exact ih (by simpa using h)
  unfold putD'
  split
  · rename_i h
    rw [map]
    by_cases hj : j = k
    · subst hj
      obtain ⟨u, hu⟩ := isn kvs h
      rw [hu, if_pos rfl]; simp
    · rw [if_neg hj]
      cases getD' kvs j <;> simp [hj]
  · rename_i h
    exact app kvs (Bool.not_eq_true _ ▸ h)
theorem putD_len (kvs : List (List Key × PyData)) (k : List Key) (v : PyData) : (putD' kvs k v).length ≤ kvs.length + 1 := by
  unfold putD'
  split
  · rw [List.length_map]; omega
  · rw [List.length_append]; exact Nat.le_refl _
theorem kv_len {H : Hp} : ∀ {xs : List (List Key × V)} {ys : List (List Key × PyData)}, KvAll H xs ys → xs.length = ys.length
  | _, _, .nil => rfl
  | _, _, .cons _ t => congrArg (· + 1) (kv_len t)
/-- a key made of numbers -/
def ikey (ns : List Int) : List Key := ns.map Sum.inl
theorem ikey_kV (ns : List Int) : (ikey ns).map kV = ns.map V.int := by unfold ikey; rw [List.map_map]; rfl
theorem dt_key {H : Hp} {v : V} {ns : List Int} (h : Dt H v (.tuple (ns.map .int))) : ∃ q, v = .ref q ∧ H q = some (.tup ((ikey ns).map kV)) := by
  cases h with
  | tup hp ha => exact ⟨_, rfl, by rw [ikey_kV, ← da_ints_inv ns ha]; exact hp⟩
/-- x[k], x an owned dict -/
theorem e_dget (i : Nat) {n : Str} {kvs : List (List Key × PyData)} {ns : List Int} (ho : ρ[i]? = some (Cell.o (.m kvs))) (hk : ED c b ρ (.tuple (ns.map .int))) (hg : getD' kvs (ikey ns) = some d) (hN : c.N[i]? = some n := by rfl) (hv : Vis c.sc n := by first | exact Or.inl rfl | exact Or.inr (Or.inl rfl) | exact Or.inr (Or.inr rfl))
    (hs : NoSl b := by intro _ _; rfl) (hd : (n == ("__debug__" : Str)) = false := by decide) (hcd : (n == ("__classdict__" : Str)) = false := by decide) : ED c (.Subscript (.Name n p) b pos) ρ d := fun β S H σ E hK Q q => by
  obtain ⟨r, o, h1, h2, ⟨xs, rfl, h3⟩, h4, h5⟩ := E.own i _ ho
  refine wE_of (t := tDGet (tVar i) (wE c b)) (fun X hX => pe_dget hX.hu1 (pe_var (by rw [hX.N]; exact hN) (by rw [hX.sc]; exact hv) hd hcd) (pe_w hX) hs) ⟨_, h1, hk β S H σ E hK _ fun w d' S1 H1 e1 g1 dw => ?_⟩
  subst e1
  obtain ⟨t, rfl, ht⟩ := dt_key dw
  obtain ⟨v, hv1, hv2⟩ := kv_get (h3.ex g1.ss) hg
  refine ⟨r, v, rfl, ?_, q v d S1 H1 rfl g1 hv2⟩
  rw [← hv1]
  exact DGet.t (g1.hh _ _ h2) (g1.sh _ _ ht)
/-- x[k] = .., x an owned dict -/
theorem gw_dput (i : Nat) {n : Str} {kvs : List (List Key × PyData)} {ns : List Int} (ho : ρ[i]? = some (Cell.o (.m kvs))) (hk : ED c b ρ (.tuple (ns.map .int))) (hl : kvs.length < 1000000) (hN : c.N[i]? = some n := by rfl) (hv : Vis c.sc n := by first | exact Or.inl rfl | exact Or.inr (Or.inl rfl) | exact Or.inr (Or.inr rfl))
    (hd : (n == ("__debug__" : Str)) = false := by decide) (hcd : (n == ("__classdict__" : Str)) = false := by decide)
    (ha : ∀ (env : PySem.Env) v, assign (.Subscript (.Name n p) b p2) env v = (do
      let ov ← holding [v] (eval (.Name n p) env)
      let iv ← holding [v, ov] (eval b env)
      standAt p2
      holding [v, ov, iv] (setItem ov iv v)
      release [v, ov, iv] []) := by intro _ _; rfl) : GW c (.Subscript (.Name n p) b p2) x ρ (ρ.set i (Cell.o (.m (putD' kvs (ikey ns) x)))) := fun β S H σ v E hK dv Q q => by
  obtain ⟨r, o, h1, h2, ⟨xs, rfl, h3⟩, h4, h5⟩ := E.own i _ ho
  refine wG_of (t := gSub (tVar i) (wE c b) rSetD) (fun X hX => pg_sub (pe_var (by rw [hX.N]; exact hN) (by rw [hX.sc]; exact hv) hd hcd) (pe_w hX) (set_dict hX.hu1) (ha X.env)) ⟨_, h1, hk β S H σ E hK _ fun w d S1 H1 e1 g1 dw => ?_⟩
  subst e1
  obtain ⟨t, rfl, ht⟩ := dt_key dw
  have E1 := E.grow g1
  have h3' := h3.ex g1.ss
  refine ⟨r, _, rfl, DPut.t (g1.hh _ _ h2) (g1.sh _ _ ht) (by rw [kv_len h3]; exact Nat.lt_trans hl (by decide)), q σ S1 _ (E1.updO ho h1 ⟨_, rfl, kv_put (dp_ex g1.ss _ _ dv) h3'⟩ h5) g1.ss⟩
end
end Bd
/-! Comprehensions by turns, and ones that draw; defs that read the script; the law. -/
namespace Bd
open PySem PySem.Spec PyProof.Rows L2

section
variable {c : Cc} {B : Bx} {ρ : List Cell} {M : Nat} {a b e tst : Expr} {es : List Expr} {pos p p2 p3 : Pos} {x y z d : PyData} {op : Operator} {Φ : Po} {ss ts sts : List Stmt} {st : Stmt}
/-! ### a comprehension by turns -/
theorem lc_runI {tg iter elt : Expr} {scope : Scope} {vs : List Nat} {xs : List PyData} (hi : ID c tg iter ρ xs) (hn : xs.length ≤ 1000000) (f : Nat → PyData)
    (ht : ∀ (i : Nat) (d : PyData), xs[i]? = some d → LcTurn (c.blk scope) tg [] elt vs ρ d true (f i))
    {β : Bs} {S H : Hp} {σ : L2.St} (E : Env β S H σ ρ) (hK : c.Ok β) {Q : VK}
    (q : ∀ p ws S' H', H p = none → H' p = some (HO.lst ws) → S' p = none → DtAll S' ws ((List.range xs.length).map f) → Grow S H S' H' → Q (.ref p) H') :
    tLc (wI c tg iter) (wG (c.blk scope) tg) (wQ (c.blk scope) []) (wE (c.blk scope) elt) vs σ H Q := by
  refine hi β S H σ E hK _ fun J S1 H1 g1 wk D hD => ?_
  have E1 := E.grow g1
  have hD0 : H D = none := g1.hh.back hD
  refine ⟨fun i m H2 => i + m = xs.length ∧ ∃ S2 acc, Grow S1 H1 S2 H2 ∧ H2 D = some (.lst acc) ∧ S2 D = none ∧ DtAll S2 acc ((List.range i).map f), ⟨xs.length, by omega, S1, [], Grow.own g1.sh hD, upd_same, g1.sh.back hD, .nil⟩, fun i m H2 hW => ?_⟩
  obtain ⟨him, S2, acc, g2, hl, hs, hacc⟩ := hW
  obtain ⟨go, stop, yld⟩ := wk S2 H2 g2.ss g2.sh
  by_cases hlt : i < xs.length
  · refine .inr ⟨go i hlt, fun H' => ∃ S2 acc, Grow S1 H1 S2 H' ∧ H' D = some (.lst acc) ∧ S2 D = none ∧ DtAll S2 acc ((List.range (i + 1)).map f), fun H' hN => ⟨m - 1, by omega, by omega, hN⟩, fun v H3 hy => ?_⟩
    obtain ⟨S3, d, g3, hd, dv⟩ := yld i v H3 hlt hy
    obtain ⟨is, ρ2, hg, his, hq, hel⟩ := ht i d hd
    have E3 : Env β S3 H3 σ ρ := ((E1.grow g2).grow g3)
    have hs3 : S3 D = none := g3.fr D (by rw [hl]; simp) hs
    have hl3 : H3 D = some (.lst acc) := g3.hh _ _ hl
    refine hg β S3 H3 (L2.wipe σ vs) v (E3.wipe vs) dv _ fun σ2 E4 hw => ⟨?_, ?_⟩
    · rw [hw vs his, wipe_wipe.idem]
    · refine hq β S3 H3 σ2 E4 hK _ fun S5 H5 g5 => ?_
      have hs5 : S5 D = none := g5.fr D (by rw [hl3]; simp) hs3
      have hl5 : H5 D = some (.lst acc) := g5.hh _ _ hl3
      show wE (c.blk scope) elt σ2 H5 _
      refine hel rfl β S5 H5 σ2 (E4.grow g5) hK _ fun w r S6 H6 hr g6 dw => ?_
      subst hr
      have hs6 : S6 D = none := g6.fr D (by rw [hl5]; simp) hs5
      have hl6 : H6 D = some (.lst acc) := g6.hh _ _ hl5
      have gg := ((g2.trans g3).trans g5).trans g6
      have hacc6 := dp_exs ((g3.ss.trans g5.ss).trans g6.ss) _ _ hacc
      have hlen : acc.length ≤ xs.length := by rw [da_len hacc, List.length_map, List.length_range]; omega
      refine ⟨acc, hl6, Nat.lt_of_le_of_lt (Nat.le_trans hlen hn) (by decide), S6, acc ++ [w], ⟨gg.ss, gg.sh.wr hs6, gg.hh.wr hD, gg.fr⟩, upd_same, hs6, ?_⟩
      rw [List.range_succ, List.map_append]
      exact da_app hacc6 (.cons dw .nil)
  · have hi' : i = xs.length := by omega
    subst hi'
    exact .inl ⟨stop, q D acc S2 H2 hD0 hl hs hacc (g1.trans g2)⟩
/-- [elt for tg in iter], by the turn's number -/
theorem n_lcI {tg iter elt : Expr} {scope : Scope} (own : List (Str × Nat)) {xs : List PyData} (f : Nat → PyData) (hNd : c.N.Nodup) (hi : ID c tg iter ρ xs) (hn : xs.length ≤ 1000000)
    (ok : blkC c.N c.sc scope own = true) (ht : ∀ (i : Nat) (d : PyData), xs[i]? = some d → LcTurn (c.blk scope) tg [] elt (own.map (·.2)) ρ d true (f i))
    (hs : ∀ (env : PySem.Env) x, foldedSetIterable iter env x = pure x := by intro _ _; rfl) : EL c (.ListComp elt [⟨tg, iter, [], 0⟩] scope pos) ρ ((List.range xs.length).map f) := fun β S H σ E hK Q q =>
  wE_of (fun X hX => pe_lc hX.calm (by rw [hX.N]; exact hNd) (pi_w hX) (by rw [hX.N, hX.sc]; exact blkOk_by ok) (fun s H C cl fp => pg_w (hX.blk scope s H C cl fp)) (fun s H C cl fp => pts_w (hX.blk scope s H C cl fp)) (fun s H C cl fp => pe_w (hX.blk scope s H C cl fp)) (hs X.env))
    (lc_runI hi hn f ht E hK fun p ws S' H' h1 h2 h3 h4 h5 => q p ws _ S' H' rfl h1 h2 h3 h4 h5)
theorem s_setLcI (i : Nat) {n : Str} {lpos : Pos} {tg iter elt : Expr} {scope : Scope} (own : List (Str × Nat)) {xs : List PyData} (f : Nat → PyData) (hNd : c.N.Nodup) (hi : ID c tg iter ρ xs) (hn : xs.length ≤ 1000000)
    (ok : blkC c.N c.sc scope own = true) (ht : ∀ (i : Nat) (d : PyData), xs[i]? = some d → LcTurn (c.blk scope) tg [] elt (own.map (·.2)) ρ d true (f i))
    (hnx : Φ.nx (ρ.set i (Cell.o (.l ((List.range xs.length).map f))))) (hx : c.sc.names.lookup n = some .local := by rfl) (hin : c.N[i]? = some n := by rfl) (hk : c.sc.kind = .function := by rfl) (hl : (p2.line == lpos.line) = true := by rfl)
    (hnot : (scope.names.any fun (m, k) => m == n && (k == .local || k == .cell)) = false := by decide +kernel)
    (hs : ∀ (env : PySem.Env) x, foldedSetIterable iter env x = pure x := by intro _ _; rfl) : S1 c (.Assign [.Name n p2] (.ListComp elt [⟨tg, iter, [], 0⟩] scope lpos) pos) ρ Φ := fun β S H σ D E hK kk =>
  wS_of (fun X hX => ps_setLc hX.calm (by rw [hX.N]; exact hNd) (by rw [hX.N]; exact hin) (by rw [hX.sc]; exact hx) (sw_true (by rw [hX.sc]; exact hk) (by rw [hX.sc]; exact hx) hl hnot) (pi_w hX) (by rw [hX.N, hX.sc]; exact blkOk_by ok)
      (fun s H C cl fp => pg_w (hX.blk scope s H C cl fp)) (fun s H C cl fp => pts_w (hX.blk scope s H C cl fp)) (fun s H C cl fp => pe_w (hX.blk scope s H C cl fp)) (hs X.env))
    (show tLc _ _ _ _ _ σ H _ from lc_runI hi hn f ht E hK fun q ws S' H' h1 h2 h3 h4 h5 => kk.nx _ S' H' _ hnx h5.ss (own_new E h5 h1 h2 h3 h4 i))
theorem lc_runB {tg iter elt : Expr} {scope : Scope} (own : List (Str × Nat)) {xs : List PyData} (P : Nat → List PyData → Nat → Prop) (hi : ID c tg iter ρ xs) (hn : xs.length ≤ 1000000)
    (hB : B.i ∉ own.map (·.2)) (h0 : P 0 [] M) (ht : ∀ (i : Nat) (d : PyData) (acc : List PyData) (m : Nat), xs[i]? = some d → P i acc m → ∃ is ρ2, GD (c.blk scope) tg is d (wipeC (B.to ρ m) (own.map (·.2))) ρ2 ∧ (∀ j ∈ is, j ∈ own.map (·.2)) ∧
      B.Ok ρ2 m ∧ EB (c.blk scope) B elt ρ2 m (fun r m' => P (i + 1) (acc ++ [r]) m'))
    (okB : B.Ok ρ M) {β : Bs} {S H : Hp} {σ : L2.St} {q : Addr} (E : Env β S H σ ρ) (hK : c.Ok β) (hq : σ[B.i]? = some (some (V.ref q))) (hb : BoxAt H q M) {Q : VK}
    (k : ∀ v d M' S' H', (∃ ys, d = PyData.list ys ∧ ys.length = xs.length ∧ P xs.length ys M') → BStep q S H S' H' → BoxAt H' q M' → Dt S' v d → Q v H') :
    tLc (wI c tg iter) (wG (c.blk scope) tg) (wQ (c.blk scope) []) (wE (c.blk scope) elt) (own.map (·.2)) σ H Q := by
  refine hi β S H σ E hK _ fun J S1 H1 g1 wk D hD => ?_
  have E1 := E.grow g1
  have hb1 := hb.mono g1.hh
  have hDq : D ≠ q := fun z => hb1.ne (by rw [← z]; exact hD)
  refine ⟨fun i m H2 => i + m = xs.length ∧ ∃ S2 acc ds M2, BStep q S1 H1 S2 H2 ∧ BoxAt H2 q M2 ∧ H2 D = some (.lst acc) ∧ S2 D = none ∧ DtAll S2 acc ds ∧ ds.length = i ∧ P i ds M2,
    ⟨xs.length, by omega, S1, [], [], M, (Grow.own g1.sh hD).bstep, hb1.mono (Ex.new hD), upd_same, g1.sh.back hD, .nil, rfl, h0⟩, fun i m H2 hW => ?_⟩
  obtain ⟨him, S2, acc, ds, M2, t2, hb2, hl, hs2, hacc, hdl, hP⟩ := hW
  obtain ⟨go, stop, yld⟩ := wk S2 H2 t2.ss t2.sh
  by_cases hlt : i < xs.length
  · refine .inr ⟨go i hlt, fun H' => ∃ S2 acc ds M2, BStep q S1 H1 S2 H' ∧ BoxAt H' q M2 ∧ H' D = some (.lst acc) ∧ S2 D = none ∧ DtAll S2 acc ds ∧ ds.length = i + 1 ∧ P (i + 1) ds M2, fun H' hN => ⟨m - 1, by omega, by omega, hN⟩, fun v H3 hy => ?_⟩
    obtain ⟨S3, d, g3, hd, dv⟩ := yld i v H3 hlt hy
    obtain ⟨is, ρ2, hg, his, ok2, hel⟩ := ht i d ds M2 hd hP
    have E2 : Env β S2 H2 σ (B.to ρ M2) := okB.step E1 hq t2 hb2
    have E3 := E2.grow g3
    have hs3 : S3 D = none := g3.fr D (by rw [hl]; simp) hs2
    have hl3 : H3 D = some (.lst acc) := g3.hh _ _ hl
    have hb3 := hb2.mono g3.hh
    refine hg β S3 H3 (L2.wipe σ _) v (E3.wipe _) dv _ fun σ2 E4 hw => ⟨?_, ?_⟩
    · rw [hw _ his, wipe_wipe.idem]
    · show wQ (c.blk scope) [] σ2 H3 _
      refine q_nil (c := c.blk scope) β S3 H3 σ2 E4 hK _ fun S5 H5 g5 => ?_
      have hs5 : S5 D = none := g5.fr D (by rw [hl3]; simp) hs3
      have hl5 : H5 D = some (.lst acc) := g5.hh _ _ hl3
      have hq2 : σ2[B.i]? = some (some (V.ref q)) := by
        have h1 := hw _ his
        rw [wipe_wipe.idem] at h1
        have h2 : (L2.wipe σ2 (own.map (·.2)))[B.i]? = σ2[B.i]? := L2.wipe_out hB
        have h3 : (L2.wipe σ (own.map (·.2)))[B.i]? = σ[B.i]? := L2.wipe_out hB
        rw [← h2, h1, h3]; exact hq
      show wE (c.blk scope) elt σ2 H5 _
      refine hel ok2 β S5 H5 σ2 q (E4.grow g5) hK hq2 (hb3.mono g5.hh) _ fun w r M6 S6 H6 hr t6 hb6 dw => ?_
      have hs6 : S6 D = none := t6.fr D (by rw [hl5]; simp) hs5
      have hl6 : H6 D = some (.lst acc) := t6.hh _ _ hDq hl5
      have tt := ((t2.trans g3.bstep hb2.ne).trans g5.bstep hb3.ne).trans t6 (hb3.mono g5.hh).ne
      have hacc6 := dp_exs ((g3.ss.trans g5.ss).trans t6.ss) _ _ hacc
      have hlen := da_len hacc
      refine ⟨acc, hl6, Nat.lt_of_le_of_lt (show acc.length ≤ 1000000 by omega) (by decide), S6, acc ++ [w], ds ++ [r], M6, ⟨tt.ss, tt.sh.wr hs6, fun x o hx hxo => ?_, tt.fr⟩, ?_, upd_same, hs6, da_app hacc6 (.cons dw .nil), by rw [List.length_append]; simp [hdl], hr⟩
      · have hxD : x ≠ D := fun z => by rw [z, hD] at hxo; cases hxo
        rw [upd_ne hxD]; exact tt.hh x o hx hxo
      · obtain ⟨o, o1, o2⟩ := hb6
        exact ⟨o, by rw [upd_ne hDq.symm]; exact o1, o2⟩
  · have hi' : i = xs.length := by omega
    refine .inl ⟨by rw [hi']; exact stop, ?_⟩
    have eS : Ex S2 (upd S2 D (.lst acc)) := Ex.new hs2
    refine k (.ref D) (.list ds) M2 (upd S2 D (.lst acc)) H2 ⟨ds, rfl, by omega, by rw [← hi']; exact hP⟩ ⟨(g1.ss.trans t2.ss).trans eS, fun x u h => ?_, fun x o hx hxo => t2.hh x o hx (g1.hh x o hxo), fun x h1 h2 => ?_⟩ hb2 (.lst upd_same (dp_exs eS _ _ hacc))
    · by_cases hx : x = D
      · subst hx; rw [upd_same] at h; rw [hl]; exact h
      · rw [upd_ne hx] at h; exact t2.sh x u h
    · have hxD : x ≠ D := fun z => h1 (by rw [z]; exact g1.hh.back hD)
      rw [upd_ne hxD]
      exact t2.fr x (fun z => h1 (g1.hh.back z)) (g1.fr x h1 h2)
/-- a comprehension whose element draws: P by turns, what is made so far, the box's bound -/
theorem eb_lc {tg iter elt : Expr} {scope : Scope} (own : List (Str × Nat)) {xs : List PyData} (P : Nat → List PyData → Nat → Prop) (hNd : c.N.Nodup) (hi : ID c tg iter ρ xs) (hn : xs.length ≤ 1000000)
    (ok : blkC c.N c.sc scope own = true) (hB : B.i ∉ own.map (·.2)) (h0 : P 0 [] M) (ht : ∀ (i : Nat) (d : PyData) (acc : List PyData) (m : Nat), xs[i]? = some d → P i acc m → ∃ is ρ2, GD (c.blk scope) tg is d (wipeC (B.to ρ m) (own.map (·.2))) ρ2 ∧ (∀ j ∈ is, j ∈ own.map (·.2)) ∧
      B.Ok ρ2 m ∧ EB (c.blk scope) B elt ρ2 m (fun r m' => P (i + 1) (acc ++ [r]) m'))
    (hs : ∀ (env : PySem.Env) x, foldedSetIterable iter env x = pure x := by intro _ _; rfl) : EB c B (.ListComp elt [⟨tg, iter, [], 0⟩] scope pos) ρ M (fun d m => ∃ ys, d = .list ys ∧ ys.length = xs.length ∧ P xs.length ys m) := fun okB β S H σ q E hK hq hb Q k =>
  wE_of (fun X hX => pe_lc hX.calm (by rw [hX.N]; exact hNd) (pi_w hX) (by rw [hX.N, hX.sc]; exact blkOk_by ok) (fun s H C cl fp => pg_w (hX.blk scope s H C cl fp)) (fun s H C cl fp => pts_w (hX.blk scope s H C cl fp)) (fun s H C cl fp => pe_w (hX.blk scope s H C cl fp)) (hs X.env))
    (lc_runB own P hi hn hB h0 ht okB E hK hq hb k)
/-- x = [.. for ..], its elements draw -/
theorem s_setLcB (i : Nat) {n : Str} {lpos : Pos} {tg iter elt : Expr} {scope : Scope} (own : List (Str × Nat)) {xs : List PyData} (P : Nat → List PyData → Nat → Prop) (okB : B.Ok ρ M) (hNd : c.N.Nodup) (hi : ID c tg iter ρ xs) (hn : xs.length ≤ 1000000)
    (ok : blkC c.N c.sc scope own = true) (hB : B.i ∉ own.map (·.2)) (h0 : P 0 [] M) (ht : ∀ (i : Nat) (d : PyData) (acc : List PyData) (m : Nat), xs[i]? = some d → P i acc m → ∃ is ρ2, GD (c.blk scope) tg is d (wipeC (B.to ρ m) (own.map (·.2))) ρ2 ∧ (∀ j ∈ is, j ∈ own.map (·.2)) ∧
      B.Ok ρ2 m ∧ EB (c.blk scope) B elt ρ2 m (fun r m' => P (i + 1) (acc ++ [r]) m'))
    (hnx : ∀ ys m, ys.length = xs.length → P xs.length ys m → Φ.nx ((B.to ρ m).set i (Cell.d (.list ys)))) (hx : c.sc.names.lookup n = some .local := by rfl) (hin : c.N[i]? = some n := by rfl) (hk : c.sc.kind = .function := by rfl) (hl : (p2.line == lpos.line) = true := by rfl)
    (hnot : (scope.names.any fun (m, k) => m == n && (k == .local || k == .cell)) = false := by decide +kernel)
    (hs : ∀ (env : PySem.Env) x, foldedSetIterable iter env x = pure x := by intro _ _; rfl) : S1 c (.Assign [.Name n p2] (.ListComp elt [⟨tg, iter, [], 0⟩] scope lpos) pos) ρ Φ := fun β S H σ D E hK kk => by
  obtain ⟨q, hq, hb⟩ := okB.at E
  exact wS_of (fun X hX => ps_setLc hX.calm (by rw [hX.N]; exact hNd) (by rw [hX.N]; exact hin) (by rw [hX.sc]; exact hx) (sw_true (by rw [hX.sc]; exact hk) (by rw [hX.sc]; exact hx) hl hnot) (pi_w hX) (by rw [hX.N, hX.sc]; exact blkOk_by ok)
      (fun s H C cl fp => pg_w (hX.blk scope s H C cl fp)) (fun s H C cl fp => pts_w (hX.blk scope s H C cl fp)) (fun s H C cl fp => pe_w (hX.blk scope s H C cl fp)) (hs X.env))
    (show tLc _ _ _ _ _ σ H _ from lc_runB own P hi hn hB h0 ht okB E hK hq hb fun v d M' S' H' ⟨ys, e1, e2, e3⟩ t hb' dv => by
      subst e1
      exact kk.nx _ S' H' _ (hnx ys M' e2 e3) t.ss ((okB.step E hq t hb').setD dv))
/-! ### x, y, z = [], {}, e -/
theorem s_init3 {i j k : Nat} {n1 n2 n3 : Str} {p4 p5 p6 p7 p8 : Pos} {kk kv : Nat} {P : PyData → Nat → Prop} (ok : B.Ok ρ M) (h : EB c B e ρ M P) (hN : c.N.Nodup) (hnx : ∀ d m, P d m → Φ.nx ((((B.to ρ m).set i (Cell.o (.l []))).set j (Cell.o (.m []))).set k (Cell.d d))) (hi : c.N[i]? = some n1) (hj : c.N[j]? = some n2) (hk : c.N[k]? = some n3) (hij : i ≠ j)
    (h1 : Loc c.sc n1) (h2 : Loc c.sc n2) (h3 : Loc c.sc n3) (f1 : c.fn n1 = true) (f2 : c.fn n2 = true) (f3 : c.fn n3 = true)
    (hw : ∀ env : PySem.Env, env.scope = c.sc → swappedStores [.Tuple [.Name n1 p2, .Name n2 p3, .Name n3 p4] kk p5] (.Tuple [.List [] p6, .Dict [] [] p7, e] kv p8) env = pure none) (he : ∀ env : PySem.Env, starEach [e] env = (false, eval e env) :: starEach [] env := by intro _; rfl) :
    S1 c (.Assign [.Tuple [.Name n1 p2, .Name n2 p3, .Name n3 p4] kk p5] (.Tuple [.List [] p6, .Dict [] [] p7, e] kv p8) pos) ρ Φ := fun β S H σ D E hK kkk => by
  obtain ⟨q, hq, hb⟩ := ok.at E
  refine wS_of (t := tAsg (tTup (tCons (tLst tNil) (tCons tDNewT (tCons (wE c e) tNil)))) (gTup c.g.K 3 (gCons (gName i) (gCons (gName j) (gCons (gName k) gNil))))) (fun X hX => ps_asg (pe_tup (pa_cons (pe_lst pa_nil) (pa_cons pe_dnewT (pa_cons (pe_w hX) pa_nil (he X.env)) (by show _ = _; rfl)) rfl))
    (hX.K ▸ pg_tup hX.calm (pgs_cons (pg_name (by rw [hX.N]; exact hN) (by rw [hX.N]; exact hi) (by rw [hX.sc]; exact h1) (.inl (hX.fn _ f1))) (pgs_cons (pg_name (by rw [hX.N]; exact hN) (by rw [hX.N]; exact hj) (by rw [hX.sc]; exact h2) (.inl (hX.fn _ f2))) (pgs_cons (pg_name (by rw [hX.N]; exact hN) (by rw [hX.N]; exact hk) (by rw [hX.sc]; exact h3) (.inl (hX.fn _ f3))) pgs_nil rfl) rfl) rfl) rfl rfl) rfl (hw X.env hX.sc)) ?_
  refine ⟨Nat.zero_le _, fun l hl t ht => ?_⟩
  have g1 : Grow S H S (upd H l (.lst [])) := Grow.own E.sh hl
  have g2 : Grow S (upd H l (.lst [])) S (upd (upd H l (.lst [])) t (.dT [])) := Grow.own g1.sh ht
  have g := g1.trans g2
  have htl : t ≠ l := fun z => by rw [z, upd_same] at ht; cases ht
  refine h ok β S _ σ q (E.grow g) hK hq (hb.mono g.hh) _ fun v d m S3 H3 hp t3 hb3 dv => ?_
  have hlq : l ≠ q := fun z => hb.ne (by rw [← z]; exact hl)
  have htq : t ≠ q := fun z => (hb.mono g1.hh).ne (by rw [← z]; exact ht)
  have hl3 : H3 l = some (.lst []) := t3.hh l _ hlq (by rw [upd_ne htl.symm]; exact upd_same)
  have ht3 : H3 t = some (.dT []) := t3.hh t _ htq upd_same
  have hsl : S3 l = none := t3.fr l (by rw [upd_ne htl.symm, upd_same]; simp) (E.sh.back hl)
  have hst : S3 t = none := t3.fr t (by rw [upd_same]; simp) (E.sh.back (g1.hh.back ht))
  have E3 := ok.step (E.grow g) hq t3 hb3
  refine ⟨by show 3 ≤ sizeLine; decide, fun u hu => ?_⟩
  have hul : l ≠ u := fun z => by rw [← z, hl3] at hu; cases hu
  have hut : t ≠ u := fun z => by rw [← z, ht3] at hu; cases hu
  have E4 := E3.grow (Grow.own (o := .tup [.ref l, .ref t, v]) t3.sh hu)
  obtain ⟨n1', n2', n3'⟩ := E.new hl
  obtain ⟨m1', m2', m3'⟩ := (E.grow g1).new ht
  have cell_to : ∀ (jj : Nat) (C' : Own), (B.to ρ m)[jj]? = some (Cell.o C') → ∃ C2, ρ[jj]? = some (Cell.o C2) := fun jj C' z => by
    rcases set_get z with ⟨rfl, _, _⟩ | ⟨_, z2⟩
    · exact ⟨_, ok.2⟩
    · exact ⟨_, z2⟩
  have E5 := E4.setO (i := i) (p := l) (o := .lst []) (C := .l []) (by rw [upd_ne hul]; exact hl3) ⟨[], rfl, .nil⟩ hsl n1' (fun jj C' _ z => by
    obtain ⟨C2, z2⟩ := cell_to jj C' z
    exact n3' jj C2 z2)
  have E6 := E5.setO (i := j) (p := t) (o := .dT []) (C := .m []) (by rw [upd_ne hut]; exact ht3) ⟨[], rfl, .nil⟩ hst m1' (fun jj C' hjj z z2 => by
    rcases set_get z with ⟨rfl, _, hlen⟩ | ⟨ne, z3⟩
    · rw [List.getElem?_set_self (by rw [E4.len]; exact hlen)] at z2
      have z2 : V.ref l = V.ref t := Option.some.inj (Option.some.inj z2)
      cases z2
      exact htl rfl
    · rw [List.getElem?_set_ne (Ne.symm ne)] at z2
      obtain ⟨C2, z4⟩ := cell_to jj C' z3
      exact m3' jj C2 z4 z2)
  refine ⟨u, _, rfl, st_of upd_same, rfl, _, _, rfl, _, _, rfl, _, _, rfl, rfl, ?_⟩
  exact kkk.nx _ S3 _ _ (hnx d m hp) t3.ss (E6.setD dv)

/-! ### defs that read the script, the law -/
def SpS (n : Nat) (K : PySem.W.Frag) (Pre : List Int → List PyData → Prop) (Post : List Int → List PyData → List PyData → Prop) : Sp := fun vs H Q _ => vs.length = n + 1 ∧ ∃ S q us ns ds, vs = V.ref q :: us ∧ Ex S H ∧ SqL K S q (ns.map V.int) ∧ DtAll S us ds ∧ Pre ns ds ∧
  ∀ p ws xs S' H', Post ns ds xs → H p = none → H' p = some (HO.lst ws) → S' p = none → DtAll S' ws xs → Grow S H S' H' → Q (.ref p) H'
def rhoS (N : List Str) (ns : List Int) (ds : List PyData) : List Cell := Cell.s ns :: (ds.map Cell.d ++ List.replicate (N.length - (ds.length + 1)) Cell.u)
theorem envS {K : PySem.W.Frag} {S H : Hp} {N : List Str} {us : List V} {ds : List PyData} {q : Addr} {ns : List Int} (e : Ex S H) (d : DtAll S us ds) (h : ds.length + 1 ≤ N.length) (hs : SqL K S q (ns.map V.int)) : Env ⟨K, S, H, fun _ => False⟩ S H (L2.start N (V.ref q :: us)) (rhoS N ns ds) := by
  have hl := da_len d
  have get : ∀ {i : Nat} {c : Cell}, (rhoS N ns ds)[i + 1]? = some c → (∃ x, c = Cell.d x ∧ ds[i]? = some x) ∨ c = Cell.u := fun {i c} q => by
    unfold rhoS at q
    rw [List.getElem?_cons_succ] at q
    by_cases hi : i < ds.length
    · rw [List.getElem?_append_left (by simpa using hi), List.getElem?_map] at q
      cases z : ds[i]? with
      | none => rw [z] at q; cases q
      | some x => rw [z] at q; cases q; exact .inl ⟨x, rfl, rfl⟩
    · rw [List.getElem?_append_right (by simpa using hi), List.getElem?_replicate] at q
      split at q
      · cases q; exact .inr rfl
      · cases q
  have st0 : (L2.start N (V.ref q :: us))[0]? = some (some (V.ref q)) := start_get rfl
  refine ⟨e, Ex.rfl, fun _ _ _ h => h, fun _ h => ⟨h, fun z => z⟩, ?_, fun i x z => ?_, fun i x z => ?_, fun i C z => ?_, fun i j C C' r hne q1 q2 => ?_, fun i w z => ?_⟩
  · rw [start_len (by simp; omega)]
    unfold rhoS
    rw [List.length_cons, List.length_append, List.length_map, List.length_replicate]; omega
  · cases i with
    | zero => cases z
    | succ i =>
      rcases get z with ⟨y, e1, e2⟩ | e1
      · cases e1
        obtain ⟨v, h1, h2⟩ := da_get d e2
        exact ⟨v, start_get (by simpa using h1), h2⟩
      · cases e1
  · cases i with
    | zero => cases z; exact ⟨q, st0, hs⟩
    | succ i => rcases get z with ⟨y, e1, e2⟩ | e1 <;> cases e1
  · cases i with
    | zero => cases z
    | succ i => rcases get z with ⟨y, e1, e2⟩ | e1 <;> cases e1
  · cases i with
    | zero => cases q1
    | succ i => rcases get q1 with ⟨y, e1, e2⟩ | e1 <;> cases e1
  · cases i with
    | zero => cases z
    | succ i => rcases get z with ⟨y, e1, e2⟩ | e1 <;> cases e1
variable {g : Gc} {N ps : List Str} {qual xn : Str} {n k : Nat} {f : Addr} {fd : FuncData}
theorem fn_scr {Pre : List Int → List PyData → Prop} {Post : List Int → List PyData → List PyData → Prop} (F : Fun g.K xn qual st f fd) (S : FnScope N ps (defScope st)) (hn : ps.length = n + 1) (hN : n + 1 ≤ N.length)
    (body : ∀ ns ds, ds.length = n → Pre ns ds → SV (cc0 g N st k) (defBody st) (rhoS N ns ds) { nx := fun _ => False, rt := fun r _ => ∃ xs, r = .l xs ∧ Post ns ds xs }) : FnOk g.P g.w g.K g.mg g.base CX0 (k + 1) f fd ps (SpS n g.K Pre Post) := by
  refine F.ok S (fun vs H Q E h => by rw [hn]; exact h.1) fun cdv A outer s H vs Q E hr h => ?_
  obtain ⟨hl, S0, q, us, ns, ds, rfl, e, hs, dv, hp, kq⟩ := h
  have hds : ds.length = n := by
    have := da_len dv
    rw [List.length_cons] at hl
    omega
  refine ⟨wSs (cc0 g N st k) (defBody st), pss_w (cc0_has hr), ?_⟩
  refine body ns ds hds hp ⟨g.K, S0, H, fun _ => False⟩ S0 H _ _ (envS e dv (by omega) hs) ok_none ⟨fun σ' S' H' ρ' hn e' E' => hn.elim, fun v r σ' S' H' ρ' hr e' E' ro => ?_, fun _ _ _ _ h => h.elim, fun _ _ _ _ h => h.elim⟩
  obtain ⟨xs, rfl, hd⟩ := hr
  obtain ⟨r, vs, rfl, r1, r2, r3, r4⟩ := ro
  exact kq r vs xs S' H' hd r4 r1 r3 r2 (E'.grew rfl rfl fun _ h => h)
/-- f(script, es) -/
theorem n_callS {sn : Str} {j : Nat} {i : Nat} {Pre : List Int → List PyData → Prop} {Post : List Int → List PyData → List PyData → Prop} {ns : List Int} {ds : List PyData} {gb : Bool} (D : Dg c.g gb xn j (SpS n c.g.K Pre Post)) (ho : ρ[i]? = some (Cell.s ns)) (ha : AD c es ρ ds) (hp : Pre ns ds) (hl : ds.length = n := by rfl) (hj : j ≤ c.k := by exact Nat.le_of_ble_eq_true rfl)
    (hN : c.N[i]? = some sn := by rfl) (hg : Glb c xn := by rfl) (hv : Vis c.sc sn := by first | exact Or.inl rfl | exact Or.inr (Or.inl rfl) | exact Or.inr (Or.inr rfl)) (hdb : (xn == ("__debug__" : Str)) = false := by decide) (hd : (sn == ("__debug__" : Str)) = false := by decide) (hcd : (sn == ("__classdict__" : Str)) = false := by decide)
    (he : ∀ env : PySem.Env, starEach (.Name sn p2 :: es) env = (false, eval (.Name sn p2) env) :: starEach es env := by intro _; rfl)
    (hpl : ∀ env : PySem.Env, (backTo pos (starEach es env)).any (·.1) = false := by intro _; rfl) (hgd : gb = true → c.gd = true := by first | exact fun _ => rfl | exact (fun h => nomatch h)) : EN c (.Call (.Name xn p) (.Name sn p2 :: es) [] pos) ρ (Post ns ds) := fun β S H σ E hK Q q => by
  obtain ⟨r, hr, hs⟩ := E.scr i ns ho
  refine wE_of (fun X hX => pe_df hX D hgd hj hg hdb (he X.env) (hpl X.env)) (show wA c (.Name sn p2 :: es) σ H _ from wA_of (fun X hX => pa_cons (pe_var (by rw [hX.N]; exact hN) (by rw [hX.sc]; exact hv) hd hcd) (pa_w hX) (he X.env)) ⟨_, hr, ha β S H σ E hK _ fun vs ds' S1 H1 e1 g1 dvs => ?_⟩)
  subst e1
  show SpS n c.g.K Pre Post (V.ref r :: vs ++ []) H1 Q E0
  rw [List.append_nil]
  rw [hK.1] at hs
  exact ⟨by rw [List.length_cons, da_len dvs, hl], S1, r, vs, ns, ds', rfl, g1.sh, ex_l g1.ss hs, dvs, hp, fun p ws xs S2 H2 h1 h2 h3 h4 h5 g2 => q p ws xs S2 H2 h1 (g1.hh.back h2) h3 h4 h5 (g1.trans g2)⟩
/-- the law's promise -/
def SpLaw (K : PySem.W.Frag) : Sp := fun vs H Q _ => ∃ (q : Addr) (ns : List Int), vs = [V.ref q] ∧ SqL K H q (ns.map V.int) ∧ ns.length ≤ 63 ∧ ∀ H', Q (.bl true) H'
theorem fn_law (F : Fun g.K xn qual st f fd) (S : FnScope N ps (defScope st)) (hn : ps.length = 1) (hN : 1 ≤ N.length)
    (body : ∀ ns, ns.length ≤ 63 → SV (cc0 g N st k) (defBody st) (rhoS N ns []) { nx := fun _ => False, rt := fun r _ => r = .d (.bool true) }) : FnOk g.P g.w g.K g.mg g.base CX0 (k + 1) f fd ps (SpLaw g.K) := by
  refine F.ok S (fun vs H Q E h => ?_) fun cdv A outer s H vs Q E hr h => ?_
  · obtain ⟨q, ns, rfl, _⟩ := h
    exact hn.symm
  obtain ⟨q, ns, rfl, hs, hl, kq⟩ := h
  refine ⟨wSs (cc0 g N st k) (defBody st), pss_w (cc0_has hr), ?_⟩
  refine body ns hl ⟨g.K, H, H, fun _ => False⟩ H H _ _ (envS Ex.rfl .nil (by simpa using hN) hs) ok_none ⟨fun σ' S' H' ρ' hn e' E' => hn.elim, fun v r σ' S' H' ρ' hr e' E' ro => ?_, fun _ _ _ _ h => h.elim, fun _ _ _ _ h => h.elim⟩
  subst hr
  cases ro
  exact kq H'
end
end Bd
/-! zip, is None; data that is alike; kinds as data. -/
namespace Bd
open PySem PySem.Spec PyProof.Rows L2 RZ
section
variable {c : Cc} {B : Bx} {ρ : List Cell} {M : Nat} {a b e tst : Expr} {es : List Expr} {pos p p2 p3 : Pos} {x y z d : PyData} {op : Operator} {Φ : Po} {ss ts sts : List Stmt} {st : Stmt}
def zipD (xs ys : List PyData) : List PyData := (xs.zip ys).map fun q => .tuple [q.1, q.2]
theorem zipD_len {xs ys : List PyData} : (zipD xs ys).length = min xs.length ys.length := by simp [zipD]
theorem zipD_get {xs ys : List PyData} {i : Nat} {u v : PyData} (h1 : xs[i]? = some u) (h2 : ys[i]? = some v) : (zipD xs ys)[i]? = some (.tuple [u, v]) := by
  unfold zipD
  rw [List.getElem?_map, show (xs.zip ys)[i]? = some (u, v) from List.getElem?_zip_eq_some.mpr ⟨h1, h2⟩]
  rfl
theorem wk_zip {K : PySem.W.Frag} {S : Hp} {q r : Addr} {vs ws : List V} {xs ys : List PyData} (h : S q = some (.lst vs)) (h' : S r = some (.lst ws)) (hd : DtAll S vs xs) (hd' : DtAll S ws ys) : WkD (Itz K q r) (zipD xs ys) S := fun S' H' e1 e2 => by
  have l1 : H' q = some (.lst vs) := e2 _ _ (e1 _ _ h)
  have l2 : H' r = some (.lst ws) := e2 _ _ (e1 _ _ h')
  have n1 := da_len hd
  have n2 := da_len hd'
  rw [zipD_len]
  refine ⟨fun i hi => ⟨vs, ws, vs[i]'(by omega), ws[i]'(by omega), sl_of l1, sl_of l2, by simp [show i < vs.length by omega], by simp [show i < ws.length by omega]⟩, ⟨vs, ws, sl_of l1, sl_of l2, by omega⟩, fun i v H2 hi yl => ?_⟩
  obtain ⟨T, u, w, rfl, hT, rfl, f1, f2⟩ := yl
  obtain ⟨d1, a1, a2⟩ := da_getV hd (f1 vs (sl_of l1))
  obtain ⟨d2, b1, b2⟩ := da_getV hd' (f2 ws (sl_of l2))
  have en : Ex S (upd S' T (.tup [u, w])) := e1.trans (Ex.new (e2.back hT))
  exact ⟨upd S' T (.tup [u, w]), _, Grow.new e2 hT, zipD_get a1 b1, .tup upd_same (.cons (dp_ex en _ _ a2) (.cons (dp_ex en _ _ b2) .nil))⟩
theorem wk_zipT {K : PySem.W.Frag} {S : Hp} {q r : Addr} {vs ws : List V} {xs ys : List PyData} (h : S q = some (.tup vs)) (h' : S r = some (.tup ws)) (hd : DtAll S vs xs) (hd' : DtAll S ws ys) : WkD (ItzT K q r) (zipD xs ys) S := fun S' H' e1 e2 => by
  have l1 : H' q = some (.tup vs) := e2 _ _ (e1 _ _ h)
  have l2 : H' r = some (.tup ws) := e2 _ _ (e1 _ _ h')
  have n1 := da_len hd
  have n2 := da_len hd'
  rw [zipD_len]
  refine ⟨fun i hi => ⟨vs, ws, vs[i]'(by omega), ws[i]'(by omega), st_of l1, st_of l2, by simp [show i < vs.length by omega], by simp [show i < ws.length by omega]⟩, ⟨vs, ws, st_of l1, st_of l2, by omega⟩, fun i v H2 hi yl => ?_⟩
  obtain ⟨T, u, w, rfl, hT, rfl, f1, f2⟩ := yl
  obtain ⟨d1, a1, a2⟩ := da_getV hd (f1 vs (st_of l1))
  obtain ⟨d2, b1, b2⟩ := da_getV hd' (f2 ws (st_of l2))
  have en : Ex S (upd S' T (.tup [u, w])) := e1.trans (Ex.new (e2.back hT))
  exact ⟨upd S' T (.tup [u, w]), _, Grow.new e2 hT, zipD_get a1 b1, .tup upd_same (.cons (dp_ex en _ _ a2) (.cons (dp_ex en _ _ b2) .nil))⟩
/-- zip of two lists, or of two tuples -/
theorem i_zip {elts : List Expr} {kk : Nat} {tpos : Pos} {xs ys : List PyData} (h : ED c a ρ x) (h' : ED c b ρ y) (hxy : (x = .list xs ∧ y = .list ys) ∨ (x = .tuple xs ∧ y = .tuple ys)) (hm : c.g.mg "zip" = none) (hg : Glb c "zip" := by rfl)
    (hs : ∀ env : PySem.Env, starEach [a, b] env = [(false, eval a env), (false, eval b env)] := by intro _; rfl) (hs2 : ∀ env : PySem.Env, starEach [b] env = (false, eval b env) :: starEach [] env := by intro _; rfl) :
    ID c (.Tuple elts kk tpos) (.Call (.Name "zip" p) [a, b] [] pos) ρ (zipD xs ys) := fun β S H σ E hK R q =>
  wI_of (t := iZipA c.g.K (tCons (wE c a) (tCons (wE c b) tNil))) (fun X hX => hX.K ▸ pi_zipA (hX.gl hg) (by rw [hX.mg]; exact hm) (pa_cons (pe_w hX) (pa_cons (pe_w hX) pa_nil (hs2 X.env)) ((hs X.env).trans (by rw [hs2]; rfl))) ((hs X.env).trans (by rw [hs2]; rfl)) (by rw [hs2]; rfl)) (h β S H σ E hK _ fun v d1 S1 H1 e1 g1 dv => h' β S1 H1 σ (E.grow g1) hK _ fun u d2 S2 H2 e2 g2 du => by
    subst e1 e2
    have g := g1.trans g2
    rcases hxy with ⟨rfl, rfl⟩ | ⟨rfl, rfl⟩
    · cases dv with
      | lst hl ha =>
        cases du with
        | lst hl2 ha2 => exact ⟨_, _, _, _, rfl, .inl ⟨sl_of (g2.sh _ _ (g2.ss _ _ hl)), sl_of (g2.sh _ _ hl2), q _ S2 H2 g (wk_zip (g2.ss _ _ hl) hl2 (dp_exs g2.ss _ _ ha) ha2)⟩⟩
    · cases dv with
      | tup hl ha =>
        cases du with
        | tup hl2 ha2 => exact ⟨_, _, _, _, rfl, .inr ⟨st_of (g2.sh _ _ (g2.ss _ _ hl)), st_of (g2.sh _ _ hl2), q _ S2 H2 g (wk_zipT (g2.ss _ _ hl) hl2 (dp_exs g2.ss _ _ ha) ha2)⟩⟩)
theorem i_rangeN {tg : Expr} {n : Nat} (h : ED c a ρ (.int n)) (hm : c.g.mg "range" = none) (hn : n ≤ 1000000) (hg : Glb c "range" := by rfl)
    (hs : ∀ env : PySem.Env, starEach [a] env = [(false, eval a env)] := by intro _; rfl) : ID c tg (.Call (.Name "range" p) [a] [] pos) ρ (rngD 0 n) := by
  have h' := i_range (tg := tg) (p := p) (pos := pos) h hm ⟨by omega, by omega⟩ hg hs
  rw [Int.toNat_natCast] at h'
  exact h'
theorem rng_turn {lo : Int} {n i : Nat} {d : PyData} (h : (rngD lo n)[i]? = some d) : i < n ∧ d = .int (lo + (i : Nat)) := by
  have hi : i < n := by
    have := (List.getElem?_eq_some_iff.mp h).1
    rwa [rngD_len] at this
  rw [rngD_get hi] at h
  exact ⟨hi, (Option.some.inj h).symm⟩
theorem rng_turn0 {n i : Nat} {d : PyData} (h : (rngD 0 n)[i]? = some d) : i < n ∧ d = .int (i : Nat) := by
  obtain ⟨h1, h2⟩ := rng_turn h
  rw [Int.zero_add] at h2
  exact ⟨h1, h2⟩
def isN : PyData → Bool
  | .none => true
  | _ => false
theorem dt_isN {H : Hp} {v : V} : ∀ {d : PyData}, Dt H v d → decide (v = V.non) = isN d
  | _, .non => rfl
  | _, .bl _ => rfl
  | _, .int _ => rfl
  | _, .str _ => rfl
  | _, .lst _ _ => rfl
  | _, .tup _ _ => rfl
theorem t_isN {j : Nat} {pos' : Pos} (h : ED c a ρ x) : TD c (.Compare a [.Is] [.Constant .none j pos'] pos) ρ (isN x) := fun β S H σ E hK Q q =>
  wT_of (t := tTest (tOp (fun x y H Q => y = .non ∧ Q (.bl (decide (x = .non))) H) (wE c a) (tC .non))) (fun X hX => pt_cmpR op_isN (pe_w hX) pe_non (nomark _)) (h β S H σ E hK _ fun v d S1 H1 e1 g1 dv => by
    subst e1
    refine ⟨rfl, _, rfl, ?_⟩
    rw [dt_isN dv]
    exact q _ S1 H1 rfl g1)
theorem t_isNN {j : Nat} {pos' : Pos} (h : ED c a ρ x) : TD c (.Compare a [.IsNot] [.Constant .none j pos'] pos) ρ (!isN x) := fun β S H σ E hK Q q =>
  wT_of (t := tTest (tOp (fun x y H Q => y = .non ∧ Q (.bl (!decide (x = .non))) H) (wE c a) (tC .non))) (fun X hX => pt_cmpR op_notN (pe_w hX) pe_non (nomark _)) (h β S H σ E hK _ fun v d S1 H1 e1 g1 dv => by
    subst e1
    refine ⟨rfl, _, rfl, ?_⟩
    rw [dt_isN dv]
    exact q _ S1 H1 rfl g1)
end

/-! ### data without dicts, of some depth -/
mutual
/-- no dict within, texts well made, nested at most so deep -/
def okD : Nat → PyData → Bool
  | _, .none => true
  | _, .bool _ => true
  | _, .int _ => true
  | _, .str x => PyData.strOk x
  | 0, .list _ => false
  | 0, .tuple _ => false
  | n + 1, .list xs => okDs n xs
  | n + 1, .tuple xs => okDs n xs
  | _, .dict _ => false
def okDs : Nat → List PyData → Bool
  | _, [] => true
  | n, x :: xs => okD n x && okDs n xs
end
theorem okDs_all {n : Nat} : ∀ {xs : List PyData}, okDs n xs = true ↔ ∀ x ∈ xs, okD n x = true
  | [] => by simp [okDs]
  | x :: xs => by
    rw [okDs, Bool.and_eq_true, okDs_all (xs := xs)]
    simp
mutual
theorem okD_lay : ∀ (n : Nat) (d : PyData), okD n d = true → d.canLay0 = true ∧ d.depth ≤ n
  | _, .none, _ => ⟨rfl, Nat.zero_le _⟩
  | _, .bool _, _ => ⟨rfl, Nat.zero_le _⟩
  | _, .int _, _ => ⟨rfl, Nat.zero_le _⟩
  | _, .str x, h => ⟨by simpa [okD, PyData.canLay0] using h, Nat.zero_le _⟩
  | 0, .list _, h => by simp [okD] at h
  | 0, .tuple _, h => by simp [okD] at h
  | n + 1, .list xs, h => by
    have := okDs_lay n xs (by simpa [okD] using h)
    exact ⟨by simpa [PyData.canLay0] using this.1, by simpa [PyData.depth] using this.2⟩
  | n + 1, .tuple xs, h => by
    have := okDs_lay n xs (by simpa [okD] using h)
    exact ⟨by simpa [PyData.canLay0] using this.1, by simpa [PyData.depth] using this.2⟩
  | 0, .dict _, h => by simp [okD] at h
  | n + 1, .dict _, h => by simp [okD] at h
theorem okDs_lay : ∀ (n : Nat) (ds : List PyData), okDs n ds = true → PyData.canLayAll0 ds = true ∧ PyData.depthAll ds ≤ n
  | _, [], _ => ⟨rfl, Nat.zero_le _⟩
  | n, d :: ds, h => by
    rw [okDs, Bool.and_eq_true] at h
    have h1 := okD_lay n d h.1
    have h2 := okDs_lay n ds h.2
    exact ⟨by simp [PyData.canLayAll0, h1.1, h2.1], by rw [PyData.depthAll]; exact Nat.max_le.mpr ⟨h1.2, h2.2⟩⟩
end
theorem okD_shaped {n : Nat} {d : PyData} (h : okD n d = true) (hn : n ≤ 64 := by decide) : SeqAt.shaped d = true := by
  have := okD_lay n d h
  unfold SeqAt.shaped
  rw [this.1, decide_eq_true (Nat.le_trans this.2 hn)]; rfl
mutual
theorem eqv_self : ∀ (n : Nat) (d : PyData), okD n d = true → PyData.eqv d d = true
  | _, .none, _ => by simp [PyData.eqv]
  | _, .bool b, _ => by simp [PyData.eqv]
  | _, .int _, _ => by simp [PyData.eqv]
  | _, .str _, _ => by simp [PyData.eqv]
  | 0, .list _, h => by simp [okD] at h
  | 0, .tuple _, h => by simp [okD] at h
  | n + 1, .list xs, h => by
    have := eqvs_self n xs (by simpa [okD] using h)
    simpa [PyData.eqv] using this
  | n + 1, .tuple xs, h => by
    have := eqvs_self n xs (by simpa [okD] using h)
    simpa [PyData.eqv] using this
  | 0, .dict _, h => by simp [okD] at h
  | n + 1, .dict _, h => by simp [okD] at h
theorem eqvs_self : ∀ (n : Nat) (ds : List PyData), okDs n ds = true → PyData.eqvAll ds ds = true
  | _, [], _ => by simp [PyData.eqvAll]
  | n, d :: ds, h => by
    rw [okDs, Bool.and_eq_true] at h
    simp [PyData.eqvAll, eqv_self n d h.1, eqvs_self n ds h.2]
end
mutual
theorem okD_mono : ∀ (n m : Nat) (d : PyData), n ≤ m → okD n d = true → okD m d = true
  | _, _, .none, _, _ => by simp [okD]
  | _, _, .bool _, _, _ => by simp [okD]
  | _, _, .int _, _, _ => by simp [okD]
  | _, _, .str x, _, h => by simpa [okD] using h
  | 0, _, .list _, _, h => by simp [okD] at h
  | 0, _, .tuple _, _, h => by simp [okD] at h
  | n + 1, 0, .list xs, hm, _ => by omega
  | n + 1, 0, .tuple xs, hm, _ => by omega
  | n + 1, m + 1, .list xs, hm, h => by
    have := okDs_mono n m xs (by omega) (by simpa [okD] using h)
    simpa [okD] using this
  | n + 1, m + 1, .tuple xs, hm, h => by
    have := okDs_mono n m xs (by omega) (by simpa [okD] using h)
    simpa [okD] using this
  | 0, _, .dict _, _, h => by simp [okD] at h
  | n + 1, _, .dict _, _, h => by simp [okD] at h
theorem okDs_mono : ∀ (n m : Nat) (ds : List PyData), n ≤ m → okDs n ds = true → okDs m ds = true
  | _, _, [], _, _ => by simp [okDs]
  | n, m, d :: ds, hm, h => by
    rw [okDs, Bool.and_eq_true] at h
    rw [okDs, okD_mono n m d hm h.1, okDs_mono n m ds hm h.2]; rfl
end
/-- the same with lists in the place of all tuples -/
def toL : PyData → PyData
  | .list xs => .list (toLs xs)
  | .tuple xs => .list (toLs xs)
  | .none => .none
  | .bool b => .bool b
  | .int i => .int i
  | .str s => .str s
  | .dict kvs => .dict kvs
where toLs : List PyData → List PyData
  | [] => []
  | x :: xs => toL x :: toLs xs
theorem toLs_map : ∀ xs : List PyData, toL.toLs xs = xs.map toL
  | [] => by rw [toL.toLs]; rfl
  | x :: xs => by rw [toL.toLs, toLs_map xs]; rfl

/-! ### kinds as data -/
def pD (q : Nat × Nat) : PyData := .tuple [.int q.1, .int q.2]
def rowD (r : List (Nat × Nat)) : PyData := .tuple (r.map pD)
def kD (k : List (List (Nat × Nat))) : PyData := .tuple (k.map rowD)
def kat (k : List (List (Nat × Nat))) (r d : Nat) : Option (Nat × Nat) := k[r]?.bind fun row => row[d]?
/-- so many doors in each row, so many rests, each pair led back -/
structure GK (D R : Nat) (k : List (List (Nat × Nat))) : Prop where
  rows : k.length = R
  doors : ∀ row ∈ k, row.length = D
  back : ∀ r d e s, kat k r d = some (e, s) → kat k s e = some (d, r)
theorem GK.at {D R : Nat} {k : List (List (Nat × Nat))} (h : GK D R k) {r d : Nat} (hr : r < R) (hd : d < D) : ∃ e s, kat k r d = some (e, s) ∧ e < D ∧ s < R := by
  have hr' : r < k.length := by rw [h.rows]; exact hr
  have hrow := h.doors _ (List.getElem_mem hr')
  have hd' : d < (k[r]).length := by rw [hrow]; exact hd
  have e1 : kat k r d = some ((k[r])[d]) := by
    unfold kat
    rw [List.getElem?_eq_getElem hr']
    exact List.getElem?_eq_getElem hd'
  refine ⟨((k[r])[d]).1, ((k[r])[d]).2, e1, ?_⟩
  have e2 := h.back r d ((k[r])[d]).1 ((k[r])[d]).2 e1
  unfold kat at e2
  cases q : k[((k[r])[d]).2]? with
  | none => rw [q] at e2; cases e2
  | some row =>
    rw [q] at e2
    have hs := (List.getElem?_eq_some_iff.mp q).1
    have hm : row ∈ k := List.mem_of_getElem? q
    have he : ((k[r])[d]).1 < row.length := (List.getElem?_eq_some_iff.mp (show row[((k[r])[d]).1]? = some (d, r) from e2)).1
    rw [h.doors _ hm] at he
    rw [h.rows] at hs
    exact ⟨he, hs⟩
theorem kD_row {k : List (List (Nat × Nat))} {r : Nat} {row : List (Nat × Nat)} (h : k[r]? = some row) : atI (k.map rowD) (r : Int) = some (rowD row) := atI_nat (by rw [List.getElem?_map, h]; rfl)
theorem rowD_at {row : List (Nat × Nat)} {d : Nat} {q : Nat × Nat} (h : row[d]? = some q) : atI (row.map pD) (d : Int) = some (pD q) := atI_nat (by rw [List.getElem?_map, h]; rfl)
theorem kat_row {k : List (List (Nat × Nat))} {r d : Nat} {q : Nat × Nat} (h : kat k r d = some q) : ∃ row, k[r]? = some row ∧ row[d]? = some q := by
  unfold kat at h
  cases e : k[r]? with
  | none => rw [e] at h; cases h
  | some row => rw [e] at h; exact ⟨row, rfl, h⟩
theorem ok_pD (q : Nat × Nat) : okD 1 (pD q) = true := by simp [pD, okD, okDs]
theorem ok_rowD (r : List (Nat × Nat)) : okD 2 (rowD r) = true := by
  unfold rowD okD
  rw [okDs_all]
  intro x hx
  obtain ⟨q, _, rfl⟩ := List.mem_map.mp hx
  exact ok_pD q
theorem ok_kD (k : List (List (Nat × Nat))) : okD 3 (kD k) = true := by
  unfold kD okD
  rw [okDs_all]
  intro x hx
  obtain ⟨q, _, rfl⟩ := List.mem_map.mp hx
  exact ok_rowD q
/-! ### several targets -/
theorem swapped_subs {a1 b1 a2 b2 v1 v2 : Expr} {p1 p2 p3 p4 : Pos} {k kv : Nat} {env : PySem.Env} : swappedStores [.Tuple [.Subscript a1 b1 p1, .Subscript a2 b2 p2] k p3] (.Tuple [v1, v2] kv p4) env = pure none := by
  unfold swappedStores
  simp only []
  cases h : (env.blockKind != ScopeKind.function)
  · cases h2 : ([v1, v2].any fun | .Starred .. => true | _ => false)
    · rfl
    · rfl
  · rfl
theorem swapped_cell {n1 n2 n3 : Str} {v1 v2 v3 : Expr} {p1 p2 p3 p4 p5 : Pos} {k kv : Nat} {env : PySem.Env} (h : env.kindOf n2 = some .cell) : swappedStores [.Tuple [.Name n1 p1, .Name n2 p2, .Name n3 p3] k p4] (.Tuple [v1, v2, v3] kv p5) env = pure none := by
  unfold swappedStores
  simp only []
  cases h1 : (env.blockKind != ScopeKind.function)
  · cases h2 : ([v1, v2, v3].any fun | .Starred .. => true | _ => false)
    · have e : ∀ (line : Nat), (([Expr.Name n1 p1, .Name n2 p2, .Name n3 p3].filterMap fun | .Name id pos => if env.kindOf id == some .local && pos.line == line then some id else none | _ => none).length != 3) = true := by
        intro line
        simp only [List.filterMap_cons, List.filterMap_nil, h]
        cases (env.kindOf n1 == some NameKind.local && p1.line == line) <;> cases (env.kindOf n3 == some NameKind.local && p3.line == line) <;> rfl
      have e2 := e p1.line
      exact (if_neg (by simp)).trans ((if_neg Bool.false_ne_true).trans (if_pos (by rw [Bool.or_eq_true]; exact .inl e2)))
    · rfl
  · rfl
/-! ### isinstance of built-in types -/
theorem kb_NoneType_bool : kitB "NoneType" "bool" = some false := by decide +kernel
theorem kb_NoneType_int : kitB "NoneType" "int" = some false := by decide +kernel
theorem kb_NoneType_str : kitB "NoneType" "str" = some false := by decide +kernel
theorem kb_NoneType_list : kitB "NoneType" "list" = some false := by decide +kernel
theorem kb_NoneType_tuple : kitB "NoneType" "tuple" = some false := by decide +kernel
theorem kb_bool_bool : kitB "bool" "bool" = some true := by decide +kernel
theorem kb_bool_int : kitB "bool" "int" = some true := by decide +kernel
theorem kb_bool_str : kitB "bool" "str" = some false := by decide +kernel
theorem kb_bool_list : kitB "bool" "list" = some false := by decide +kernel
theorem kb_bool_tuple : kitB "bool" "tuple" = some false := by decide +kernel
theorem kb_int_bool : kitB "int" "bool" = some false := by decide +kernel
theorem kb_int_int : kitB "int" "int" = some true := by decide +kernel
theorem kb_int_str : kitB "int" "str" = some false := by decide +kernel
theorem kb_int_list : kitB "int" "list" = some false := by decide +kernel
theorem kb_int_tuple : kitB "int" "tuple" = some false := by decide +kernel
theorem kb_str_bool : kitB "str" "bool" = some false := by decide +kernel
theorem kb_str_int : kitB "str" "int" = some false := by decide +kernel
theorem kb_str_str : kitB "str" "str" = some true := by decide +kernel
theorem kb_str_list : kitB "str" "list" = some false := by decide +kernel
theorem kb_str_tuple : kitB "str" "tuple" = some false := by decide +kernel
theorem kb_list_bool : kitB "list" "bool" = some false := by decide +kernel
theorem kb_list_int : kitB "list" "int" = some false := by decide +kernel
theorem kb_list_str : kitB "list" "str" = some false := by decide +kernel
theorem kb_list_list : kitB "list" "list" = some true := by decide +kernel
theorem kb_list_tuple : kitB "list" "tuple" = some false := by decide +kernel
theorem kb_tuple_bool : kitB "tuple" "bool" = some false := by decide +kernel
theorem kb_tuple_int : kitB "tuple" "int" = some false := by decide +kernel
theorem kb_tuple_str : kitB "tuple" "str" = some false := by decide +kernel
theorem kb_tuple_list : kitB "tuple" "list" = some false := by decide +kernel
theorem kb_tuple_tuple : kitB "tuple" "tuple" = some true := by decide +kernel
theorem n_lcR {c : Cc} {ρ : List Cell} {pos : Pos} {tg iter elt : Expr} {scope : Scope} (own : List (Str × Nat)) {n : Nat} (f : Nat → PyData) (hNd : c.N.Nodup) (hi : ID c tg iter ρ (rngD 0 n)) (hn : n ≤ 1000000)
    (ok : blkC c.N c.sc scope own = true) (ht : ∀ i : Nat, i < n → LcTurn (c.blk scope) tg [] elt (own.map (·.2)) ρ (.int (i : Nat)) true (f i))
    (hs : ∀ (env : PySem.Env) x, foldedSetIterable iter env x = pure x := by intro _ _; rfl) : EL c (.ListComp elt [⟨tg, iter, [], 0⟩] scope pos) ρ ((List.range n).map f) := by
  have h := n_lcI (pos := pos) own f hNd hi (by rw [rngD_len]; exact hn) ok (fun i d hd => by
    obtain ⟨h1, rfl⟩ := rng_turn0 hd
    exact ht i h1) hs
  rw [rngD_len] at h
  exact h
theorem eraseIdx_mapD {α β} (f : α → β) : ∀ (l : List α) (i : Nat), (l.map f).eraseIdx i = (l.eraseIdx i).map f
  | [], i => by simp
  | a :: l, 0 => by simp
  | a :: l, i + 1 => by simp [eraseIdx_mapD f l i]
end Bd
/-! Module constants, lists unpacked, slices turned about, tests that change owned objects, the law's own box. -/
namespace Bd
open PySem PySem.Spec PyProof.Rows L2

section
variable {c : Cc} {B : Bx} {ρ : List Cell} {M : Nat} {a b e tst : Expr} {es : List Expr} {pos p p2 p3 : Pos} {x y z d : PyData} {op : Operator} {Φ : Po} {ss ts sts : List Stmt} {st : Stmt}
theorem e_glob {n : Str} {i : Int} {t : Tok} (hm : c.g.mg n = some (Value.int i t)) (hg : Glb c n := by rfl) (hd : (n == ("__debug__" : Str)) = false := by decide) : ED c (.Name n pos) ρ (.int i) := fun β S H σ E hK Q q =>
  wE_of (fun X hX => pe_glob (v := V.int i) (u := Value.int i t) (hX.gl hg) (by rw [hX.mg]; exact hm) ⟨t, rfl⟩ hd) (q (.int i) (.int i) S H rfl (Grow.rfl E.sh) (.int i))
theorem g_lst {ts : List Expr} {k : Nat} {is : List Nat} {xs : List PyData} {ρ1 : List Cell} (h : GDs c ts is xs ρ ρ1)
    (hn : ∀ env : PySem.Env, (assignEach ts env).length = xs.length := by intro _; rfl) (hst : ∀ env : PySem.Env, (assignEach ts env).findIdx? (·.1) = none := by intro _; rfl) : GD c (.Tuple ts k pos) is (.list xs) ρ ρ1 := fun β S H σ v E dv Q q => by
  cases dv with
  | lst hp hd =>
    refine wG_of (t := gUnl c.g.K xs.length (wGs c ts)) (fun X hX => hX.K ▸ pg_unl hX.calm (pgs_w hX) (hn X.env) (hst X.env)) ⟨_, _, rfl, sl_of (E.sh _ _ hp), da_len hd, h β S H σ _ E hd Q q⟩
/-- unpacking a list or a tuple -/
theorem g_seq {ts : List Expr} {k : Nat} {is : List Nat} {xs : List PyData} {ρ1 : List Cell} (h : GDs c ts is xs ρ ρ1) (hx : seqD x = some xs)
    (hn : ∀ env : PySem.Env, (assignEach ts env).length = xs.length := by intro _; rfl) (hst : ∀ env : PySem.Env, (assignEach ts env).findIdx? (·.1) = none := by intro _; rfl) : GD c (.Tuple ts k pos) is x ρ ρ1 := by
  cases x with
  | list ys => cases hx; exact g_lst h hn hst
  | tuple ys => cases hx; exact g_tup h hn hst
  | none => cases hx
  | bool _ => cases hx
  | int _ => cases hx
  | str _ => cases hx
  | dict _ => cases hx
/-- x[::-1] -/
theorem n_rev {k : Nat} {p1 pp2 pp3 : Pos} {xs : List PyData} (h : ED c a ρ (.list xs)) : EL c (.Subscript a (.Slice none none (some (.UnaryOp .USub (.Constant (.int 1) k p1) pp2)) pp3) pos) ρ xs.reverse := fun β S H σ E hK Q q =>
  wE_of (t := tRevL c.g.K (wE c a)) (fun X hX => hX.K ▸ pe_revL (pe_w hX)) (h β S H σ E hK _ fun v d S1 H1 hd g1 dv => by
    subst hd
    cases dv with
    | lst hl ha => exact ⟨_, _, rfl, sl_of (g1.sh _ _ hl), fun r hn => q r _ _ S1 _ rfl (g1.hh.back hn) upd_same (g1.sh.back hn) (da_rev ha) (g1.trans (Grow.own g1.sh hn))⟩)
/-! ### tests that change owned objects -/
theorem XV.mono {P P' : PyData → List Cell → Prop} (h : XV c e ρ P) (k : ∀ d r, P d r → P' d r) : XV c e ρ P' := fun β S H σ E hK Q q => h β S H σ E hK Q fun v d r S' H' hp => q v d r S' H' (k d r hp)
theorem XT.mono {P P' : Bool → List Cell → Prop} (h : XT c e ρ P) (k : ∀ d r, P d r → P' d r) : XT c e ρ P' := fun β S H σ E hK Q q => h β S H σ E hK Q fun v r S' H' hp => q v r S' H' (k v r hp)
theorem xt_not {P : Bool → List Cell → Prop} (h : XT c e ρ fun t r => P (!t) r) : XT c (.UnaryOp .Not e pos) ρ P := fun β S H σ E hK Q q => wT_of (fun X hX => pt_not (pt_w hX)) (h β S H σ E hK _ fun t r S' H' hp E' e' => q (!t) r S' H' hp E' e')
theorem xt_val {P : Bool → List Cell → Prop} (h : XV c e ρ fun d r => ∃ t, d = .bool t ∧ P t r) (he : ∀ (env : PySem.Env) (whole : Sem Value), isTrue e env whole = (do let v ← whole; standAt e.pos; holding [v] (truthy v)) := by intro _ _; rfl) : XT c e ρ P := fun β S H σ E hK Q q =>
  wT_of (fun X hX => pt_val (pe_w hX) (he X.env)) (h β S H σ E hK _ fun v d r S' H' ⟨t, hd, hp⟩ E' e' dv => by
    subst hd
    cases dv
    exact ⟨t, rfl, q t r S' H' hp E' e'⟩)
theorem s_ifX {P : Bool → List Cell → Prop} (h : XT c tst ρ P) (h1 : ∀ r, P true r → SV c ss r Φ) (h2 : ∀ r, P false r → SV c ts r Φ) : S1 c (.If tst ss ts pos) ρ Φ := fun β S H σ D E hK kk =>
  wS_of (fun X hX => ps_if (pt_w hX) (pss_w hX) (pss_w hX)) (h β S H σ E hK _ fun k r S1 H1 hp E1 e1 => by
    cases k with
    | true => exact h1 r hp β S1 H1 σ D E1 hK (kk.mono e1)
    | false => exact h2 r hp β S1 H1 σ D E1 hK (kk.mono e1))
theorem eb_blt {n : Str} {id : String} {r : List V → Hp → VK → Prop} {P : PyData → Nat → Prop} (hc : ∀ X, c.Has X → CallR X (.builtin id) r)
    (ha : AB c B (e :: es) ρ M fun ds m => ∃ w, P w m ∧ ∀ S H vs, Ex S H → DtAll S vs ds → ∀ Q : VK, (∀ v S' H', Grow S H S' H' → Dt S' v w → Q v H') → r vs H Q)
    (hm : c.g.mg n = none) (hb : bootBuiltins n = some (.builtin id)) (hg : Glb c n) (hnn : n ≠ "__name__") (hdb : (n == ("__debug__" : Str)) = false) (he : ∀ env : PySem.Env, starEach (e :: es) env = (false, eval e env) :: starEach es env)
    (hpl : ∀ env : PySem.Env, (backTo pos (starEach es env)).any (·.1) = false) : EB c B (.Call (.Name n p) (e :: es) [] pos) ρ M P := fun ok β S H σ q E hK hq hb' Q f =>
  wE_of (fun X hX => pe_callB (hc X hX) (hX.gl hg) (by rw [hX.mg]; exact hm) hb (pa_w hX) hnn hdb (he X.env) (hpl X.env)) (ha ok β S H σ q E hK hq hb' _ fun vs ds M1 S1 H1 ⟨w, hP, hr⟩ t1 hb1 dvs =>
    hr S1 H1 vs t1.sh dvs Q fun v S2 H2 g2 dv => f v w M1 S2 H2 hP (t1.trans g2.bstep hb1.ne) (hb1.mono g2.hh) dv)
theorem eb_all {P : PyData → Nat → Prop} (h : EB c B a ρ M fun d m => ∃ ts : List Bool, d = .list (ts.map .bool) ∧ P (.bool (ts.all id)) m) (hm : c.g.mg "all" = none) (hg : Glb c "all" := by rfl) (he : ∀ env : PySem.Env, starEach [a] env = (false, eval a env) :: starEach [] env := by intro _; rfl) :
    EB c B (.Call (.Name "all" p) [a] [] pos) ρ M P := eb_blt (fun X hX => hX.K ▸ cr_all hX.calm) (ab_cons (hs := he) h fun d m1 ⟨ts, hd, hP⟩ => ab_nil ⟨_, hP, fun S H vs e dv Q q => by
  subst hd
  cases dv with
  | cons d1 d2 =>
    cases d2
    cases d1 with
    | lst hl ha =>
      have hh := da_bls_inv ts ha
      subst hh
      exact ⟨_, ts, rfl, sl_of (e _ _ hl), q _ S H (Grow.rfl e) (.bl _)⟩⟩) hm (by decide +kernel) hg (by decide) (by decide) he (fun _ => rfl)
/-! ### the law's own box -/
theorem sv_boxed (i : Nat) {n x k : Int} {M : Nat} (h : SV c sts (ρ.set i (Cell.o (.c M))) Φ) (hi : ρ[i]? = some (Cell.o (.l [.int n, .int x, .int k]))) (h1 : 0 ≤ n) (h2 : 0 ≤ x) (h3 : x < 2147483647) (h4 : 0 ≤ k) (h5 : k ≤ (M : Int)) : SV c sts ρ Φ := fun β S H σ D E hK kk => by
  refine h β S H σ D (E.retell hi (fun p o hp ho hc => ?_) fun p hp => hp) hK kk
  obtain ⟨vs, rfl, ha⟩ := hc
  cases ha with
  | cons d1 r1 => cases r1 with
    | cons d2 r2 => cases r2 with
      | cons d3 r3 =>
        cases r3; cases d1; cases d2; cases d3
        exact ⟨n, x, k, rfl, h1, h2, h3, h4, h5⟩
/-! ### x, y = e, [] -/
theorem s_init2 {i j : Nat} {n1 n2 : Str} {p5 p6 p7 : Pos} {kk kv : Nat} (h : ED c e ρ d) (hN : c.N.Nodup) (hnx : Φ.nx ((ρ.set i (Cell.d d)).set j (Cell.o (.l [])))) (hi : c.N[i]? = some n1) (hj : c.N[j]? = some n2) (hij : i ≠ j)
    (h1 : Loc c.sc n1) (h2 : Loc c.sc n2) (f1 : c.fn n1 = true) (f2 : c.fn n2 = true)
    (hw : ∀ env : PySem.Env, env.scope = c.sc → swappedStores [.Tuple [.Name n1 p2, .Name n2 p3] kk p5] (.Tuple [e, .List [] p6] kv p7) env = pure none) (he : ∀ env : PySem.Env, starEach (e :: [.List [] p6]) env = (false, eval e env) :: starEach [.List [] p6] env := by intro _; rfl) :
    S1 c (.Assign [.Tuple [.Name n1 p2, .Name n2 p3] kk p5] (.Tuple [e, .List [] p6] kv p7) pos) ρ Φ := fun β S H σ D E hK kkk => by
  refine wS_of (t := tAsg (tTup (tCons (wE c e) (tCons (tLst tNil) tNil))) (gTup c.g.K 2 (gCons (gName i) (gCons (gName j) gNil)))) (fun X hX => ps_asg (pe_tup (pa_cons (pe_w hX) (pa_cons (pe_lst pa_nil) pa_nil (by show _ = _; rfl)) (he X.env)))
    (hX.K ▸ pg_tup hX.calm (pgs_cons (pg_name (by rw [hX.N]; exact hN) (by rw [hX.N]; exact hi) (by rw [hX.sc]; exact h1) (.inl (hX.fn _ f1))) (pgs_cons (pg_name (by rw [hX.N]; exact hN) (by rw [hX.N]; exact hj) (by rw [hX.sc]; exact h2) (.inl (hX.fn _ f2))) pgs_nil rfl) rfl) rfl rfl) rfl (hw X.env hX.sc)) ?_
  refine h β S H σ E hK _ fun v d' S1 H1 hd g1 dv => ?_
  subst hd
  refine ⟨Nat.zero_le _, fun l hl => ?_⟩
  have g2 : Grow S1 H1 S1 (upd H1 l (.lst [])) := Grow.own g1.sh hl
  have E2 := (E.grow g1).grow g2
  refine ⟨by show 2 ≤ sizeLine; decide, fun u hu => ?_⟩
  have hul : l ≠ u := fun z => by rw [← z, upd_same] at hu; cases hu
  have E3 := E2.grow (Grow.own (o := .tup [v, .ref l]) g2.sh hu)
  obtain ⟨n1', n2', n3'⟩ := (E.grow g1).new hl
  have E4 := E3.setD (i := i) dv
  have E5 := E4.setO (i := j) (p := l) (o := .lst []) (C := .l []) (by rw [upd_ne hul]; exact upd_same) ⟨[], rfl, .nil⟩ n2' n1' (fun jj C' _ z z2 => by
    rcases set_get z with ⟨rfl, z1, _⟩ | ⟨ne, z3⟩
    · cases z1
    · rw [List.getElem?_set_ne (Ne.symm ne)] at z2
      exact n3' jj C' z3 z2)
  refine ⟨u, _, rfl, st_of upd_same, rfl, _, _, rfl, _, _, rfl, rfl, ?_⟩
  exact kkk.nx _ S1 _ _ hnx g1.ss E5
theorem swapped_cell2 {n1 n2 : Str} {v1 v2 : Expr} {p1 p2 p4 p5 : Pos} {k kv : Nat} {env : PySem.Env} (h : env.kindOf n1 = some .cell) : swappedStores [.Tuple [.Name n1 p1, .Name n2 p2] k p4] (.Tuple [v1, v2] kv p5) env = pure none := by
  unfold swappedStores
  simp only []
  cases h1 : (env.blockKind != ScopeKind.function)
  · cases h2 : ([v1, v2].any fun | .Starred .. => true | _ => false)
    · have e : ∀ (line : Nat), (([Expr.Name n1 p1, .Name n2 p2].filterMap fun | .Name id pos => if env.kindOf id == some .local && pos.line == line then some id else none | _ => none).length != 2) = true := by
        intro line
        simp only [List.filterMap_cons, List.filterMap_nil, h]
        cases (env.kindOf n2 == some NameKind.local && p2.line == line) <;> rfl
      have e2 := e p1.line
      exact (if_neg (by simp)).trans ((if_neg Bool.false_ne_true).trans (if_pos (by rw [Bool.or_eq_true]; exact .inl e2)))
    · rfl
  · rfl
theorem e_callV {n : Str} {j : Nat} {Pre : List PyData → Prop} {Post : List PyData → PyData → Prop} {P1 P : PyData → Prop} {gb : Bool} (D : Dg c.g gb n j (SpP 1 Pre Post)) (h : EV c e ρ P1) (hp : ∀ d, P1 d → Pre [d]) (hP : ∀ d r, P1 d → Post [d] r → P r) (hj : j ≤ c.k := by exact Nat.le_of_ble_eq_true rfl)
    (hg : Glb c n := by rfl) (hdb : (n == ("__debug__" : Str)) = false := by decide) (he : ∀ env : PySem.Env, starEach [e] env = (false, eval e env) :: starEach [] env := by intro _; rfl)
    (hpl : ∀ env : PySem.Env, (backTo pos (starEach [] env)).any (·.1) = false := by intro _; rfl) (hgd : gb = true → c.gd = true := by first | exact fun _ => rfl | exact (fun h => nomatch h)) : EV c (.Call (.Name n p) [e] [] pos) ρ P := fun β S H σ E hK Q q =>
  wE_of (fun X hX => pe_df hX D hgd hj hg hdb (he X.env) (hpl X.env)) (show wA c [e] σ H _ from wA_of (fun X hX => pa_cons (pe_w hX) pa_nil (he X.env)) (h β S H σ E hK _ fun v d S1 H1 h1 g1 dv => by
    show SpP 1 Pre Post ([v] ++ []) H1 Q E0
    exact ⟨rfl, S1, [d], g1.sh, .cons dv .nil, hp d h1, fun w r S2 H2 hd g2 dw => q w r S2 H2 (hP d r h1 hd) (g1.trans g2) dw⟩))
/-! ### by places -/
theorem n_lcL {tg iter elt : Expr} {scope : Scope} (own : List (Str × Nat)) {xs : List PyData} {n : Nat} (f : Nat → PyData) (hNd : c.N.Nodup) (hi : ID c tg iter ρ xs) (hl : xs.length = n) (hn : n ≤ 1000000)
    (ok : blkC c.N c.sc scope own = true) (ht : ∀ (i : Nat) (d : PyData), i < n → xs[i]? = some d → LcTurn (c.blk scope) tg [] elt (own.map (·.2)) ρ d true (f i))
    (hs : ∀ (env : PySem.Env) x, foldedSetIterable iter env x = pure x := by intro _ _; rfl) : EL c (.ListComp elt [⟨tg, iter, [], 0⟩] scope pos) ρ ((List.range n).map f) := by
  subst hl
  exact n_lcI own f hNd hi hn ok (fun i d h => ht i d (List.getElem?_eq_some_iff.mp h).1 h) hs
theorem s_setLcR (i : Nat) {n : Str} {lpos : Pos} {tg iter elt : Expr} {scope : Scope} (own : List (Str × Nat)) {xs : List PyData} {m : Nat} (f : Nat → PyData) (hNd : c.N.Nodup) (hi : ID c tg iter ρ xs) (hl' : xs.length = m) (hn : m ≤ 1000000)
    (ok : blkC c.N c.sc scope own = true) (ht : ∀ (i : Nat) (d : PyData), i < m → xs[i]? = some d → LcTurn (c.blk scope) tg [] elt (own.map (·.2)) ρ d true (f i))
    (hnx : Φ.nx (ρ.set i (Cell.o (.l ((List.range m).map f))))) (hx : c.sc.names.lookup n = some .local := by rfl) (hin : c.N[i]? = some n := by rfl) (hk : c.sc.kind = .function := by rfl) (hl : (p2.line == lpos.line) = true := by rfl)
    (hnot : (scope.names.any fun (m, k) => m == n && (k == .local || k == .cell)) = false := by decide +kernel)
    (hs : ∀ (env : PySem.Env) x, foldedSetIterable iter env x = pure x := by intro _ _; rfl) : S1 c (.Assign [.Name n p2] (.ListComp elt [⟨tg, iter, [], 0⟩] scope lpos) pos) ρ Φ := by
  subst hl'
  exact s_setLcI i own f hNd hi hn ok (fun i d h => ht i d (List.getElem?_eq_some_iff.mp h).1 h) hnx hx hin hk hl hnot hs
theorem s_forR {tg iter : Expr} {body : List Stmt} {n : Nat} (hi : ID c tg iter ρ (rngD 0 n)) (I : Nat → List Cell → Prop) (h0 : I 0 ρ)
    (hs : ∀ (i : Nat) (ρi : List Cell), i < n → I i ρi → ∃ ρ2, GW c tg (.int (i : Nat)) ρi ρ2 ∧ SV c body ρ2 { nx := I (i + 1), rt := Φ.rt, bk := Φ.nx, ct := I (i + 1) }) (hd : ∀ ρ', I n ρ' → Φ.nx ρ')
    (hf : ∀ (env : PySem.Env) x, foldedSetIterable iter env x = pure x := by intro _ _; rfl) : S1 c (.For tg iter body [] pos) ρ Φ :=
  s_for hi I h0 (fun i d ρi h hI => by
    obtain ⟨h1, rfl⟩ := rng_turn0 h
    exact hs i ρi h1 hI) (fun ρ' h => hd ρ' (by rw [rngD_len] at h; exact h)) hf
/-! ### kinds by a rule -/
def mkK (D R : Nat) (f : Nat → Nat → Nat × Nat) : List (List (Nat × Nat)) := (List.range R).map fun r => (List.range D).map (f r)
theorem mkK_row {D R : Nat} {f : Nat → Nat → Nat × Nat} {r : Nat} (h : r < R) : (mkK D R f)[r]? = some ((List.range D).map (f r)) := by
  unfold mkK
  rw [List.getElem?_map, List.getElem?_range h]; rfl
theorem mkK_at {D R : Nat} {f : Nat → Nat → Nat × Nat} {r d : Nat} (h : r < R) (h2 : d < D) : kat (mkK D R f) r d = some (f r d) := by
  unfold kat
  rw [mkK_row h]
  show ((List.range D).map (f r))[d]? = _
  rw [List.getElem?_map, List.getElem?_range h2]; rfl
theorem mkK_inv {D R : Nat} {f : Nat → Nat → Nat × Nat} {r d : Nat} {q : Nat × Nat} (h : kat (mkK D R f) r d = some q) : r < R ∧ d < D ∧ q = f r d := by
  obtain ⟨row, h1, h2⟩ := kat_row h
  have hr : r < R := by
    have := (List.getElem?_eq_some_iff.mp h1).1
    simpa [mkK] using this
  rw [mkK_row hr] at h1
  have h1 := Option.some.inj h1
  subst h1
  have hd : d < D := by
    have := (List.getElem?_eq_some_iff.mp h2).1
    simpa using this
  rw [List.getElem?_map, List.getElem?_range hd] at h2
  exact ⟨hr, hd, (Option.some.inj h2).symm⟩
/-- each pair is led back -/
def Backs (D R : Nat) (f : Nat → Nat → Nat × Nat) : Prop := ∀ r d, r < R → d < D → (f r d).1 < D ∧ (f r d).2 < R ∧ f (f r d).2 (f r d).1 = (d, r)
theorem Backs.gk {D R : Nat} {f : Nat → Nat → Nat × Nat} (h : Backs D R f) : GK D R (mkK D R f) := by
  refine ⟨by simp [mkK], fun row hrow => ?_, fun r d e s hk => ?_⟩
  · unfold mkK at hrow
    obtain ⟨r, _, rfl⟩ := List.mem_map.mp hrow
    simp
  · obtain ⟨hr, hd, e1⟩ := mkK_inv hk
    obtain ⟨b1, b2, b3⟩ := h r d hr hd
    rw [← e1] at b1 b2 b3
    rw [mkK_at b2 b1, b3]
theorem GK.mk' {D R : Nat} {k : List (List (Nat × Nat))} (h : GK D R k) : ∃ f, k = mkK D R f ∧ Backs D R f := by
  refine ⟨fun r d => (kat k r d).getD (0, 0), ?_, fun r d hr hd => ?_⟩
  · apply List.ext_getElem?
    intro r
    by_cases hr : r < R
    · rw [mkK_row hr]
      have hr' : r < k.length := by rw [h.rows]; exact hr
      rw [List.getElem?_eq_getElem hr']
      have hl := h.doors _ (List.getElem_mem hr')
      congr 1
      apply List.ext_getElem?
      intro d
      by_cases hd : d < D
      · rw [List.getElem?_map, List.getElem?_range hd, List.getElem?_eq_getElem (by rw [hl]; exact hd)]
        show _ = some ((kat k r d).getD (0, 0))
        unfold kat
        rw [List.getElem?_eq_getElem hr']
        show _ = some ((k[r])[d]?.getD (0, 0))
        rw [List.getElem?_eq_getElem (by rw [hl]; exact hd)]; rfl
      · rw [List.getElem?_eq_none (by rw [hl]; omega), List.getElem?_eq_none (by simp; omega)]
    · rw [List.getElem?_eq_none (by rw [h.rows]; omega), List.getElem?_eq_none (by simp [mkK]; omega)]
  · obtain ⟨e, s, h1, h2, h3⟩ := h.at hr hd
    have h4 := h.back r d e s h1
    show ((kat k r d).getD (0, 0)).1 < D ∧ ((kat k r d).getD (0, 0)).2 < R ∧ (kat k ((kat k r d).getD (0, 0)).2 ((kat k r d).getD (0, 0)).1).getD (0, 0) = (d, r)
    rw [h1]
    refine ⟨h2, h3, ?_⟩
    show (kat k s e).getD (0, 0) = (d, r)
    rw [h4]; rfl
theorem rowD_mk {D : Nat} {g : Nat → Nat × Nat} : rowD ((List.range D).map g) = .tuple ((List.range D).map fun d => pD (g d)) := by
  unfold rowD
  rw [List.map_map]; rfl
theorem kD_mk {D R : Nat} {f : Nat → Nat → Nat × Nat} : kD (mkK D R f) = .tuple ((List.range R).map fun r => .tuple ((List.range D).map fun d => pD (f r d))) := by
  unfold kD mkK
  rw [List.map_map]
  congr 1
  apply List.map_congr_left
  intro r _
  exact rowD_mk
theorem rng_get {α : Type} {n i : Nat} {f : Nat → α} {d : α} (h : ((List.range n).map f)[i]? = some d) : i < n ∧ d = f i := by
  have hi : i < n := by
    have := (List.getElem?_eq_some_iff.mp h).1
    simpa using this
  rw [List.getElem?_map, List.getElem?_range hi] at h
  exact ⟨hi, (Option.some.inj h).symm⟩
theorem rng_at {α : Type} {n i : Nat} {f : Nat → α} (h : i < n) : ((List.range n).map f)[i]? = some (f i) := by
  rw [List.getElem?_map, List.getElem?_range h]; rfl
theorem rng_atI {n i : Nat} {f : Nat → PyData} (h : i < n) : atI ((List.range n).map f) (i : Int) = some (f i) := atI_nat (rng_at h)
theorem rng_snoc {α : Type} {n : Nat} {f : Nat → α} : (List.range (n + 1)).map f = (List.range n).map f ++ [f n] := by rw [List.range_succ, List.map_append]; rfl
end
end Bd
/-! Defs that call repr: what they promise where no repr is under way; the law itself so. -/
namespace Bd
open PySem PySem.Spec PyProof.Rows L2

section
variable {g : Gc} {N ps : List Str} {qual xn : Str} {st : Stmt} {n k : Nat} {f : Addr} {fd : FuncData} {sp : Sp}
/-- from the body -/
theorem fnG_ok (F : Fun g.K xn qual st f fd) (Sc : FnScope N ps (defScope st)) (ar : ∀ vs H Q E, sp vs H Q E → vs.length = ps.length)
    (body : ∀ (cdv : Value) (A : Around) (outer : List PySem.Env) (s : Shared) (H : Hp) (vs : List V) (Q : VK) (E : XK), A.guards = some [] → Room k (A.deeper (envOfC qual (defScope st) s.heap.objs.size f cdv)) → sp vs H Q E →
      ∃ t, PSs (cxOf CX0 g.P g.w g.K g.mg g.base N qual (defScope st) f cdv A outer s H E).nox (defBody st) t ∧ t { nx := fun _ H' => Q .non H', rt := Q } (L2.start N vs) H) : FnG g (k + 1) f fd ps sp := by
  refine ⟨ar, ?_⟩
  obtain ⟨oc, od, kV, doc, pm, an, cdv, ct, osl, e1, e2, e3⟩ := F.ex
  subst e1
  intro A outer s H args us vs Q E hgu room env0 bnd rel hs
  have nv := ar _ _ _ _ hs
  have kept : ∀ b o, g.base.get? b = some o → s.heap.get? b = some o := fun b o z => (env0.bs b o z).1
  have kin : g.K.In s.heap := env0.mod.kin.keeps kept
  have nolim : s.heap.NoLimit := env0.mod.nolimit.keeps kept
  refine codeAny_call_function room.depth (kin _ _ e2) rfl Sc.co Sc.gen rfl (PySem.W.codeRec_of kin e3) (bnd _ _ _ _ (wpAny_newFunctionEnv_cells Sc.kind ?hk fun env he s1 ic => ?go))
  case hk =>
    rintro ⟨m, v⟩ hy
    rcases Sc.par m (List.of_mem_zip hy).1 with q | q
    · exact Or.inl q
    · exact Or.inr ⟨q, PySem.W.cellsFrom_some _ _ _ (Or.inl q)⟩
  case go =>
    subst he
    refine ⟨nolim.keeps ic.toInCall.keep, codeAny_func ?_⟩
    obtain ⟨t, rd, ht⟩ := body cdv A outer s H vs Q E hgu (room.deeper _) hs
    refine wpAny_mono (rd.nox.run [] s1 (L2.start N vs) H _ (inv_start Sc room.hd env0 nv rel ic) ht) ?_ fun e s' z => z
    intro fl s' z
    cases fl with
    | next =>
      obtain ⟨σ', H', J, q⟩ := z
      exact ⟨V.non, H', J.os, J.bare, J.base, J.hok, rfl, q⟩
    | ret u =>
      obtain ⟨v, σ', H', J, rv, q⟩ := z
      exact ⟨v, H', J.os, J.bare, J.base, J.hok, rv, q⟩
    | brk => exact (let ⟨_, _, _, q⟩ := z; q : False).elim
    | cont => exact (let ⟨_, _, _, q⟩ := z; q : False).elim
end
/-! ### bodies where no repr is under way -/
def cc1 (g : Gc) (N : List Str) (st : Stmt) (k : Nat) : Cc := ⟨g, N, defScope st, fun _ => true, k, true, fun _ => none, fun _ => none⟩
section
variable {g : Gc} {N ps : List Str} {qual xn : Str} {st : Stmt} {n k : Nat} {f : Addr} {fd : FuncData} {Pre : List PyData → Prop}
theorem cc1_has {cdv : Value} {A : Around} {outer : List PySem.Env} {s : Shared} {H : Hp} {E : XK} (hg : A.guards = some []) (hr : Room k (A.deeper (envOfC qual (defScope st) s.heap.objs.size f cdv))) :
    (cc1 g N st k).Has (cxOf CX0 g.P g.w g.K g.mg g.base N qual (defScope st) f cdv A outer s H E).nox :=
  ⟨rfl, rfl, rfl, rfl, rfl, rfl, rfl, fun _ _ => rfl, rfl, hr, (fun _ => hg), rfl⟩
theorem fnG_pure {Post : List PyData → PyData → Prop} (F : Fun g.K xn qual st f fd) (S : FnScope N ps (defScope st)) (hn : ps.length = n) (hN : n ≤ N.length)
    (body : ∀ ds, ds.length = n → Pre ds → SV (cc1 g N st k) (defBody st) (rho0 N ds) { nx := fun _ => Post ds .none, rt := fun r _ => ∃ d, r = .d d ∧ Post ds d }) : FnG g (k + 1) f fd ps (SpP n Pre Post) := by
  refine fnG_ok F S (fun vs H Q E h => by rw [hn]; exact h.1) fun cdv A outer s H vs Q E hgu hr h => ?_
  obtain ⟨hl, S0, ds, e, dv, hp, q⟩ := h
  have hds : ds.length = n := by rw [← da_len dv]; exact hl
  refine ⟨wSs (cc1 g N st k) (defBody st), pss_w (cc1_has hgu hr), ?_⟩
  refine body ds hds hp ⟨g.K, S0, H, fun _ => False⟩ S0 H _ _ (env0 e dv (by omega)) ok_none ⟨fun σ' S' H' ρ' hn e' E' => ?_, fun v r σ' S' H' ρ' hr e' E' ro => ?_, fun _ _ _ _ h => h.elim, fun _ _ _ _ h => h.elim⟩
  · exact q .non .none S' H' hn (E'.grew rfl rfl fun _ h => h) .non
  · obtain ⟨d, rfl, hd⟩ := hr
    exact q v d S' H' hd (E'.grew rfl rfl fun _ h => h) ro
theorem fnG_box {cost : Nat} {Post : List PyData → PyData → Prop} (F : Fun g.K xn qual st f fd) (S : FnScope N ps (defScope st)) (hn : ps.length = n + 1) (hN : n + 1 ≤ N.length)
    (body : ∀ ds M, ds.length = n → Pre ds → M + cost ≤ boxMax → SV (cc1 g N st k) (defBody st) (rhoB N M ds) { nx := fun _ => False, rt := fun r ρ' => ∃ d C, r = .d d ∧ Post ds d ∧ ρ'[0]? = some C ∧ BoxC C (M + cost) }) :
    FnG g (k + 1) f fd ps (SpB n cost Pre Post) := by
  refine fnG_ok F S (fun vs H Q E h => by rw [hn]; exact h.1) fun cdv A outer s H vs Q E hgu hr h => ?_
  obtain ⟨hl, S0, q, us, ds, M, rfl, e, hs, hb, hM, dv, hp, kq⟩ := h
  have hds : ds.length = n := by
    have := da_len dv
    rw [List.length_cons] at hl
    omega
  refine ⟨wSs (cc1 g N st k) (defBody st), pss_w (cc1_has hgu hr), ?_⟩
  refine body ds M hds hp hM ⟨g.K, S0, H, fun a => a = q⟩ S0 H _ _ (envB e dv (by omega) hs hb) ok_none ⟨fun σ' S' H' ρ' hn e' E' => hn.elim, fun v r σ' S' H' ρ' hr e' E' ro => ?_, fun _ _ _ _ h => h.elim, fun _ _ _ _ h => h.elim⟩
  obtain ⟨d, C, rfl, hd, hC, hbx⟩ := hr
  have h0 : σ'[0]? = some (some (V.ref q)) := by
    rcases hbx with ⟨M', rfl, _⟩ | ⟨n, x, k, rfl, _⟩
    · obtain ⟨r, o, e1, e2, e3, e4, e5⟩ := E'.own 0 _ hC
      have e5 : r = q := e5
      rw [e5] at e1; exact e1
    · obtain ⟨r, o, e1, e2, e3, e4, e5⟩ := E'.own 0 _ hC
      have e5 : r = q := e5
      rw [e5] at e1; exact e1
  exact kq v d S' H' hd ⟨E'.ss, E'.sh, fun a o ha h => E'.keep a o ha h, fun a h1 h2 => (E'.fr a h1).2 h2⟩ (hbx.at E' hC h0) ro
theorem fnG_law (F : Fun g.K xn qual st f fd) (S : FnScope N ps (defScope st)) (hn : ps.length = 1) (hN : 1 ≤ N.length)
    (body : ∀ ns, ns.length ≤ 63 → SV (cc1 g N st k) (defBody st) (rhoS N ns []) { nx := fun _ => False, rt := fun r _ => r = .d (.bool true) }) : FnG g (k + 1) f fd ps (SpLaw g.K) := by
  refine fnG_ok F S (fun vs H Q E h => ?_) fun cdv A outer s H vs Q E hgu hr h => ?_
  · obtain ⟨q, ns, rfl, _⟩ := h
    exact hn.symm
  obtain ⟨q, ns, rfl, hs, hl, kq⟩ := h
  refine ⟨wSs (cc1 g N st k) (defBody st), pss_w (cc1_has hgu hr), ?_⟩
  refine body ns hl ⟨g.K, H, H, fun _ => False⟩ H H _ _ (envS Ex.rfl .nil (by simpa using hN) hs) ok_none ⟨fun σ' S' H' ρ' hn e' E' => hn.elim, fun v r σ' S' H' ρ' hr e' E' ro => ?_, fun _ _ _ _ h => h.elim, fun _ _ _ _ h => h.elim⟩
  subst hr
  cases ro
  exact kq H'
end
/-! ### the law, from behind the top -/
section
variable {P : Program} {w : World} {K : PySem.W.Frag} {mg mb : Str → Option Value} {s : Shared} {a : Addr} {H : Hp}
/-- the script alone may be tracked, as it lies there -/
structure Top (K : PySem.W.Frag) (a : Addr) (o : Obj) (xs : List V) (H : Hp) : Prop where
  one : ∀ b u, H b = some u → b = a ∧ u = .frz o (.lst xs) ∧ K.lookup a = none
  seq : SqL K H a xs
theorem top_of (K : PySem.W.Frag) (a : Addr) (vs : List Value) (xs : List V) (hv : Vals xs vs) (hl : vs.length ≤ sizeLine) (hk : ∀ o, K.lookup a = some o → o = { cls := .type "list", data := .seq vs.toArray }) :
    ∃ H, Top K a { cls := .type "list", data := .seq vs.toArray } xs H := by
  cases e : K.lookup a with
  | some o =>
    have eo := hk o e
    subst eo
    exact ⟨fun _ => none, ⟨(fun b u z => nomatch z), Or.inr ⟨_, _, _, e, rfl, rfl, rfl, by simpa using hl, by simpa using hv⟩⟩⟩
  | none =>
    refine ⟨fun b => if b = a then some (.frz { cls := .type "list", data := .seq vs.toArray } (.lst xs)) else none, ⟨fun b u z => ?_, Or.inl (Or.inr ⟨_, if_pos rfl⟩)⟩⟩
    by_cases q : b = a
    · have z := (if_pos q).symm.trans z
      exact ⟨q, (Option.some.inj z).symm, e⟩
    · have z := (if_neg q).symm.trans z
      cases z
theorem Top.env {o : Obj} {xs : List V} (T : Top K a o xs H) (ha : s.heap.get? a = some o) (hd : ∀ es ep, o.data ≠ .dict es ep) (hok : HOk P w H s.heap) (kin : K.In s.heap) (gl : s.heap.Ns mainGlobals mg) (bt : s.heap.Ns builtinsNs mb) (bb : ∀ x : Str, x ≠ "__name__" → mb x = bootBuiltins x) (nl : s.heap.NoLimit) (gs : s.gens = #[]) :
    Env0 P w K mg (hidT s.heap H) callerA [] s H := by
  have off : ∀ b ob, s.heap.get? b = some ob → (b = a → False) → (hidT s.heap H).get? b = some ob := fun b ob e1 e2 => hidT_get e1 (by
    cases q : H b with
    | none => rfl
    | some u => exact (e2 (T.one b u q).1).elim)
  have ns : ∀ (b : Addr) (m : Str → Option Value), s.heap.Ns b m → (hidT s.heap H).Ns b m := by
    rintro b m ⟨ob, es, ep, e1, e2, e3⟩
    refine ⟨ob, es, ep, off b ob e1 fun z => ?_, e2, e3⟩
    rw [z, ha] at e1
    cases e1
    exact hd _ _ e2
  refine ⟨rfl, ⟨fun b ob e1 => ?_, ns _ _ gl, ⟨mb, ns _ _ bt, bb⟩, ?_⟩, fun b ob e1 => of_hidT e1, Nat.le_of_eq (hidT_size _ _), trivial, fun b z => (List.not_mem_nil (show b ∈ ([] : List Addr) from z)).elim, hok, .of_eq gs⟩
  · refine hidT_get (kin b ob e1) ?_
    cases q : H b with
    | none => rfl
    | some u =>
      obtain ⟨q1, _, q2⟩ := T.one b u q
      rw [q1, q2] at e1
      cases e1
  · obtain ⟨mc, z1, z2⟩ := nl
    exact ⟨mc, ns _ _ z1, z2⟩
end
theorem walk_go {l : PySem.W.OpenLaw} {n k : Nat} {q : Program} {loose : List Str} {XP : (Str → Option Value) → Heap → Prop} {YP : World → Heap → Prop} {d : DefRec} {K : Params → PySem.W.Frag} {x : Str}
    (hn : l.most = some n) (hn2 : n ≤ 63) (hdf : d.params.defaults = []) (hr : Room k callerA) (hY : ∀ (w : World) (h : Heap), YP w h → (K w.params).In h)
    (F : ∀ (w : World) (mg : Str → Option Value) (fa : Addr) (h : Heap), (K w.params).In h → h.Ns mainGlobals mg → mg d.name = some (.ref fa) →
      ∃ fd : FuncData, (∀ (s : Shared) (u : Value), BindsTo s fd ⟨[u], []⟩ [(x, u)]) ∧ ∀ base : Heap, (K w.params).In base → base.Ns mainGlobals mg → FnG ⟨l.prog, w, K w.params, mg, base⟩ k fa fd [x] (SpLaw (K w.params))) :
    PySem.W.WalkO q loose XP YP l.row.toRowW d [] (fun f vs => PySem.call f vs) := by
  refine Att.attach_call hn hdf fun w s0 s mg mb fa ob pm cd doc a vs ns G Y ho hd hcd hmg hobj hints hlen hgen => ?_
  obtain ⟨fd, bnd, FG⟩ := F w mg fa s.heap (hY w _ Y) G.T.g hmg
  have rv := vals_ints hints
  have vl : vs.length = ns.length := hints.length
  obtain ⟨H, T⟩ := top_of (K w.params) a vs (ns.map V.int) rv (by have : (63 : Nat) ≤ sizeLine := by decide
                                                                  omega) (fun o e => Option.some.inj ((hY w _ Y a o e).symm.trans hobj))
  have hok : HOk l.prog w H s.heap := fun b u z => by
    obtain ⟨z1, z2, _⟩ := T.one b u z
    subst z1 z2
    exact ⟨hobj, by rw [List.length_map]; have : (63 : Nat) ≤ sizeLine := by decide
                    omega, vs, _, rv, hobj⟩
  have env := T.env hobj (fun es ep z => by cases z) hok (hY w _ Y) G.T.g G.T.b G.T.builtins G.T.nolimit hgen
  refine codeAny_mono ((FG _ env.mod.kin env.mod.glob).go callerA [] s H ⟨[.ref a], []⟩ [.ref a] [.ref a] (fun v _ => v = .bl true) E0 rfl hr env (bnd s _) (.cons rfl .nil) ⟨a, ns, rfl, T.seq, by omega, fun _ => rfl⟩) fun r s' z => ?_
  match r, z with
  | .error e, z => exact z.elim
  | .ok .next, z => exact False.elim z
  | .ok .brk, z => exact False.elim z
  | .ok .cont, z => exact False.elim z
  | .ok (.ret u), z =>
    obtain ⟨v, H', os, bare, un, hok', rl, qv⟩ := z
    subst qv
    have eu : u = Value.bool true := rl
    subst eu
    refine ⟨rfl, OldK.of_keep fun b o e => ?_, os, bare⟩
    cases qb : H b with
    | none => exact un.keep b o e qb (fun z => List.not_mem_nil (show b ∈ ([] : List Addr) from z)) (by simp)
    | some u =>
      obtain ⟨z1, z2, _⟩ := T.one b u qb
      subst z1 z2
      rw [hobj] at e
      cases e
      exact (hok' b _ (un.frzs b _ _ qb)).1
end Bd
/-! enumerate(tuple), repr, list(range(..)), several targets at once. -/
namespace Bd
open PySem PySem.Spec PyProof.Rows L2

/-! ### enumerate(tuple) -/
theorem enumT_new (a : Addr) (its : Array Value) : Meets (Builtin.«enumerate.__new__» ⟨[.type "enumerate", .ref a], []⟩) (fun _ R s => s.heap.IsTuple a its ∧
      R (.ok (.ret (.ref (s.heap.push { cls := .type "tuple_iterator", data := .fields #[.ref a, .int 0 0] }).objs.size)))
        { s with heap := (s.heap.push { cls := .type "tuple_iterator", data := .fields #[.ref a, .int 0 0] }).push { cls := .type "enumerate", data := .fields #[.none, .bool false, .ref s.heap.objs.size, rawInt 0, .none, .none] } }) :=
  .of_wp fun prog w A R s h => by
    obtain ⟨hh, gg, dd, kk, oo⟩ := s
    obtain ⟨ht, h⟩ := h
    have sub := sub_enumerate
    have walk : ∀ {A' : Around} {E Q : Value → Shared → Prop}, Q (.ref hh.objs.size) ⟨hh.push { cls := .type "tuple_iterator", data := .fields #[.ref a, .int 0 0] }, gg, dd, kk, oo⟩ → wpAny (model prog w) A' (pyIter (.ref a)) Q E ⟨hh, gg, dd, kk, oo⟩ :=
      fun {A' E Q} q => wpAny_pyIter_tuple (s := ⟨hh, gg, dd, kk, oo⟩) ht q
    wp_walk using walk
    refine wpAny_stack_any fun st => wpAny_pure ?_
    split
    · rename_i cl _ _ _ _ _
      cases (cl == Value.type "enumerate") <;> (wp_walk using walk; exact ⟨_, rfl, h⟩)
    · wp_walk using walk
      exact ⟨_, rfl, h⟩
theorem call_enumT {P : Program} {w : World} {A : Around} {E : Value → Shared → Prop} {s : Shared} {a : Addr} {its : Array Value} {Q : Value → Shared → Prop} (ht : s.heap.IsTuple a its)
    (k : ∀ h', IsEnum h' (s.heap.objs.size + 1) s.heap.objs.size 0 .none → h'.IsTupleIter s.heap.objs.size a 0 → (∀ b o, s.heap.get? b = some o → h'.get? b = some o) → Q (.ref (s.heap.objs.size + 1)) { s with heap := h' }) :
    wpAny (model P w) A (call (.type "enumerate") [.ref a]) Q E s := by
  refine callType_new F.called_enumerate (by decide) (F.typeCall_enumerate_1 _) (F.newCall_enumerate_1 _) (fun obj => F.args_object_init_2 obj _) F.entry_enumerate_new (enumT_new a its) ⟨ht, ?_⟩
  generalize hw : s.heap.push { cls := .type "tuple_iterator", data := .fields #[.ref a, .int 0 0] } = h1
  have n1 : h1.objs.size = s.heap.objs.size + 1 := by rw [← hw]; exact Heap.size_push ..
  have e1 : h1.get? s.heap.objs.size = some { cls := .type "tuple_iterator", data := .fields #[.ref a, .int 0 0] } := by rw [← hw]; exact Heap.get?_push_size _ rfl
  have e2 : ∀ b o, s.heap.get? b = some o → h1.get? b = some o := fun b o z => by rw [← hw]; exact Heap.get?_push_of_some _ z
  have e3 := Heap.get?_push_size h1 (o := { cls := .type "enumerate", data := .fields #[.none, .bool false, .ref s.heap.objs.size, rawInt 0, .none, .none] }) rfl
  rw [n1] at e3 ⊢
  exact ⟨⟨_, e3, rfl⟩, k _ e3 ⟨_, Heap.get?_push_of_some _ e1, rfl, rfl⟩ fun b o z => Heap.get?_push_of_some _ (e2 b o z)⟩
/-- the tuple at a, each item in a new pair with its number -/
def IteT (K : PySem.W.Frag) (a : Addr) : It where
  go := fun i H => ∃ (xs : List V) (x : V), SqT K H a xs ∧ xs[i]? = some x
  yld := fun i H v H' => ∃ T x, v = .ref T ∧ H T = none ∧ H' = upd H T (.tup [.int (i : Nat), x]) ∧ ∀ xs, SqT K H a xs → xs[i]? = some x
  stop := fun i H => ∃ xs : List V, SqT K H a xs ∧ xs.length ≤ i
theorem tup_end {P : Program} {w : World} {A : Around} {E : Value → Shared → Prop} {s : Shared} {e it a : Addr} {i : Nat} {its : Array Value} {old : Value} {Q : Option Value → Shared → Prop} (hh : A.handled = none) (he : IsEnum s.heap e it i old) (ti : s.heap.IsTupleIter it a i) (ht : s.heap.IsTuple a its) (hn : its[i]? = none)
    (k : ∀ h', Heap.ExtBut it s.heap h' → Q none { s with heap := h' }) : wpAny (model P w) A (pyNext (.ref e)) Q E s := by
  have D : Draws P w A.in1 it [it, a] i (fun _ _ => True) (fun j h => j = i ∧ h.IsTupleIter it a i ∧ h.IsTuple a its) := by
    refine ⟨fun j h st => ?_, fun j h h' st k => ?_, fun j s Q E hj st _ => ?_, fun s Q E st hE => ?_⟩
    · obtain ⟨_, ⟨o, ho, _⟩, _⟩ := st
      exact ⟨o, ho⟩
    · exact ⟨st.1, st.2.1.at fun o q => k it (by simp) o q, st.2.2.at fun o q => k a (by simp) o q⟩
    · exact absurd st.1 (by omega)
    · exact wpAny_nextOf_tuple_end hh st.2.1 st.2.2 hn hE
  exact wpAny_pyNext_enum_endD D he ⟨rfl, ti, ht⟩ k
theorem turn_enumT {P : Program} {w : World} {K : PySem.W.Frag} {elts : List Expr} {kk : Nat} {tpos : Pos} (a e it : Addr) :
    Turn P w K (.Tuple elts kk tpos) (IteT K a) [e, it] e (fun i h => (∃ old, IsEnum h e it ((i : Nat) : Int) old) ∧ h.IsTupleIter it a i ∧ e ≠ it) := by
  have other : ∀ {h : Heap} {its : Array Value} {old : Value} {i : Int} {n : Nat}, IsEnum h e it i old → h.IsTupleIter it a n → h.IsTuple a its → a ≠ e ∧ a ≠ it := by
    rintro h its old i n he ⟨o1, t1, t2, t3⟩ ⟨o2, u1, u2, u3⟩
    refine ⟨fun z => ?_, fun z => ?_⟩
    · subst z
      rw [he] at u1
      cases u1
      exact absurd (show Value.type "enumerate" = Value.type "tuple" from u2) (by decide)
    · subst z
      rw [t1] at u1
      cases u1
      exact absurd (t2.symm.trans u2) (by decide)
  refine ⟨List.mem_cons_self, fun i h st b hb => ?_, fun i h h' st k => ?_, ?_, ?_, fun A i s Q E st q => ?_⟩
  · obtain ⟨⟨old, he⟩, ⟨o, t1, t2, t3⟩, _⟩ := st
    rcases List.mem_cons.mp hb with z | z
    · subst z; exact ⟨_, he, fun v q => nomatch q⟩
    · have z := List.mem_singleton.mp z
      subst z; exact ⟨o, t1, fun v q => by rw [t3] at q; cases q⟩
  · obtain ⟨⟨old, he⟩, ti, hne⟩ := st
    exact ⟨⟨old, k e (by simp) _ he⟩, ti.at fun o q => k it (by simp) o q, hne⟩
  · intro X hP hw hK hc i pins s σ H E I hf st hg
    subst hP hw hK
    obtain ⟨⟨old, he⟩, ti, hne⟩ := st
    obtain ⟨xs, x, hq, hx⟩ := hg
    obtain ⟨its, rv, p, hz⟩ := I.tuple hq
    have p : s.heap.IsTuple a its.toArray := p
    obtain ⟨n1, n2⟩ := other he ti p
    have hi : i < its.toArray.size := by
      have := (List.getElem?_eq_some_iff.mp hx).1
      rw [List.size_toArray, ← rv.length]; exact this
    have lt1 : e < s.heap.objs.size := Heap.lt_size he
    have lt2 : it < s.heap.objs.size := by obtain ⟨_, q, _⟩ := ti; exact Heap.lt_size q
    refine wpAny_pyNext_enum_itemD (Draws.tuple (A := X.A.in1) (I.ok.hd hc) it a n2 its.toArray) he ⟨ti, p⟩ hi hne (by simp [hne, Ne.symm n1]) fun u h' tk hu ho hst hT hsz hk => ?_
    refine ⟨_, rfl, wpAny_letOwnedTupleGo_enum (s := { s with heap := h', toks := tk + 1 }) ho fun h2 he2 sb => ?_⟩
    obtain ⟨u', hu', ru⟩ := rv.get hx
    have eu : u = u' := by
      rw [List.getElem?_toArray] at hu
      exact Option.some.inj (hu.symm.trans hu')
    subst eu
    have hT2 : h2.get? s.heap.objs.size = some { cls := .type "tuple", data := .seq #[.int i tk, u] } := (sb.2 _ (Nat.ne_of_gt lt1)).trans hT
    have I1 : Inv X pins σ (upd H s.heap.objs.size (.tup [.int (i : Nat), x])) { s with heap := h2, toks := tk + 1 } :=
      I.turnedNew (ch := [e, it]) (fun b o hb q => (sb.2 b (fun z => hb (by simp [z]))).trans (hk b o (fun z => hb (by simp [z])) (fun z => hb (by simp [z])) q)) hf (Nat.le_refl _)
        ⟨by show 2 ≤ sizeLine; decide, [.int i tk, u], .cons ⟨_, rfl⟩ (.cons ru .nil), ⟨_, hT2, rfl, _, rfl⟩⟩
    refine ⟨.ref s.heap.objs.size, _, I1, rfl, ⟨_, x, rfl, I.hok.fresh (Nat.le_refl _), rfl, fun ys hy => by rw [I.tuple_inj hy hq]; exact hx⟩, ⟨⟨u, ?_⟩, hst.1.at fun o q => (sb.2 it (Ne.symm hne)).trans q, hne⟩, fun b hb => ?_⟩
    · rw [show ((i + 1 : Nat) : Int) = (i : Int) + 1 from by omega]; exact he2
    · have hb2 : b < s.heap.objs.size := by
        rcases List.mem_cons.mp hb with z | z
        · rw [z]; exact lt1
        · rw [List.mem_singleton.mp z]; exact lt2
      rw [upd_ne (Nat.ne_of_lt hb2)]
      exact (hf b hb).1
  · intro X hP hw hK hc i pins s σ H E I hf st hg
    subst hP hw hK
    obtain ⟨⟨old, he⟩, ti, hne⟩ := st
    obtain ⟨xs, hq, hx⟩ := hg
    obtain ⟨its, rv, p, hz⟩ := I.tuple hq
    have p : s.heap.IsTuple a its.toArray := p
    obtain ⟨f0, f1, f2, f3, f4, f5⟩ := hf it (by simp)
    have hl := rv.length
    exact tup_end (I.ok.hd hc) he ti p (by simp; omega) fun h' eb => ⟨rfl, I.turned (t' := s.toks) (fun b o hb q => eb b o hb q) f0 f1 f3 f4 f5⟩
  · obtain ⟨⟨_, he⟩, _⟩ := st
    exact wpAny_pyIter_enum he q
end Bd
/-! enumerate(tuple), repr, list(range(..)); several names at once. -/
namespace Bd
open PySem PySem.Spec PyProof.Rows L2

/-! ### several names at once: swapped stores -/
theorem swap2 {n1 n2 : Str} {v1 v2 : Expr} {p1 p2 p4 p5 : Pos} {k kv : Nat} {sc : Scope} (hk : sc.kind = .function) (h1 : sc.names.lookup n1 = some .local) (h2 : sc.names.lookup n2 = some .local) (hl : (p2.line == p1.line) = true) (hne : (n2 == n1) = false)
    (hs : ([v1, v2].any fun | .Starred .. => true | _ => false) = false) (hf : [v1, v2].all (foldedForSure 8) = false) (hc : [v1, v2].all (constantsAlone 8) = false) (env : PySem.Env) (he : env.scope = sc) :
    swappedStores [.Tuple [.Name n1 p1, .Name n2 p2] k p4] (.Tuple [v1, v2] kv p5) env = pure (some [n1, n2]) := by
  have b1 : env.kindOf n1 = some .local := by show env.scope.names.lookup n1 = _; rw [he]; exact h1
  have b2 : env.kindOf n2 = some .local := by show env.scope.names.lookup n2 = _; rw [he]; exact h2
  have hb : (env.blockKind != ScopeKind.function) = false := by
    unfold PySem.Env.blockKind
    rw [he, hk]
    rfl
  have names : ([Expr.Name n1 p1, .Name n2 p2].filterMap fun | .Name id pos => if env.kindOf id == some .local && pos.line == p1.line then some id else none | _ => none) = [n1, n2] := by
    simp only [List.filterMap_cons, List.filterMap_nil, b1, b2, hl, beq_self_eq_true, Bool.and_self, if_true]
  have dups : ([n1, n2] : List Str).eraseDups.length = 2 := by
    simp [List.eraseDups_cons, hne]
  have q1 : (!([Expr.Name n1 p1, .Name n2 p2].length == 2 || [Expr.Name n1 p1, .Name n2 p2].length == 3) || [v1, v2].length != [Expr.Name n1 p1, .Name n2 p2].length || env.blockKind != ScopeKind.function) = false := by rw [hb]; rfl
  have q2 : ([n1, n2].length != [Expr.Name n1 p1, .Name n2 p2].length || ([n1, n2] : List Str).eraseDups.length != [n1, n2].length) = false := by rw [dups]; rfl
  have q3 : (([Expr.Name n1 p1, .Name n2 p2].filterMap fun | .Name id pos => if env.kindOf id == some .local && pos.line == p1.line then some id else none | _ => none).length != 2 || ([Expr.Name n1 p1, .Name n2 p2].filterMap fun | .Name id pos => if env.kindOf id == some .local && pos.line == p1.line then some id else none | _ => none).eraseDups.length != ([Expr.Name n1 p1, .Name n2 p2].filterMap fun | .Name id pos => if env.kindOf id == some .local && pos.line == p1.line then some id else none | _ => none).length) = false := by rw [names]; exact q2
  unfold swappedStores
  dsimp only
  rw [q1]
  exact (if_neg Bool.false_ne_true).trans ((if_neg (fun z => absurd (hs.symm.trans z) Bool.false_ne_true)).trans ((if_neg (fun z => absurd (q3.symm.trans z) Bool.false_ne_true)).trans ((if_neg (fun z => absurd (hf.symm.trans z) Bool.false_ne_true)).trans ((if_neg (fun z => absurd (hc.symm.trans z) Bool.false_ne_true)).trans (congrArg (fun l => pure (some l)) names)))))
theorem swap3 {n1 n2 n3 : Str} {v1 v2 v3 : Expr} {p1 p2 p3 p4 p5 : Pos} {k kv : Nat} {sc : Scope} (hk : sc.kind = .function) (h1 : sc.names.lookup n1 = some .local) (h2 : sc.names.lookup n2 = some .local) (h3 : sc.names.lookup n3 = some .local) (hl : (p2.line == p1.line) = true) (hl3 : (p3.line == p1.line) = true) (hne : (n2 == n1) = false) (hne3 : (n3 == n1) = false) (hne4 : (n3 == n2) = false)
    (hs : ([v1, v2, v3].any fun | .Starred .. => true | _ => false) = false) (hf : [v1, v2, v3].all (foldedForSure 8) = false) (hc : [v1, v2, v3].all (constantsAlone 8) = false) (env : PySem.Env) (he : env.scope = sc) :
    swappedStores [.Tuple [.Name n1 p1, .Name n2 p2, .Name n3 p3] k p4] (.Tuple [v1, v2, v3] kv p5) env = pure (some [n1, n2, n3]) := by
  have b1 : env.kindOf n1 = some .local := by show env.scope.names.lookup n1 = _; rw [he]; exact h1
  have b2 : env.kindOf n2 = some .local := by show env.scope.names.lookup n2 = _; rw [he]; exact h2
  have b3 : env.kindOf n3 = some .local := by show env.scope.names.lookup n3 = _; rw [he]; exact h3
  have hb : (env.blockKind != ScopeKind.function) = false := by
    unfold PySem.Env.blockKind
    rw [he, hk]
    rfl
  have names : ([Expr.Name n1 p1, .Name n2 p2, .Name n3 p3].filterMap fun | .Name id pos => if env.kindOf id == some .local && pos.line == p1.line then some id else none | _ => none) = [n1, n2, n3] := by
    simp only [List.filterMap_cons, List.filterMap_nil, b1, b2, b3, hl, hl3, beq_self_eq_true, Bool.and_self, if_true]
  have dups : ([n1, n2, n3] : List Str).eraseDups.length = 3 := by
    simp [List.eraseDups_cons, hne, hne3, hne4]
  have q1 : (!([Expr.Name n1 p1, .Name n2 p2, .Name n3 p3].length == 2 || [Expr.Name n1 p1, .Name n2 p2, .Name n3 p3].length == 3) || [v1, v2, v3].length != [Expr.Name n1 p1, .Name n2 p2, .Name n3 p3].length || env.blockKind != ScopeKind.function) = false := by rw [hb]; rfl
  have q2 : ([n1, n2, n3].length != [Expr.Name n1 p1, .Name n2 p2, .Name n3 p3].length || ([n1, n2, n3] : List Str).eraseDups.length != [n1, n2, n3].length) = false := by rw [dups]; rfl
  have q3 : (([Expr.Name n1 p1, .Name n2 p2, .Name n3 p3].filterMap fun | .Name id pos => if env.kindOf id == some .local && pos.line == p1.line then some id else none | _ => none).length != 3 || ([Expr.Name n1 p1, .Name n2 p2, .Name n3 p3].filterMap fun | .Name id pos => if env.kindOf id == some .local && pos.line == p1.line then some id else none | _ => none).eraseDups.length != ([Expr.Name n1 p1, .Name n2 p2, .Name n3 p3].filterMap fun | .Name id pos => if env.kindOf id == some .local && pos.line == p1.line then some id else none | _ => none).length) = false := by rw [names]; exact q2
  unfold swappedStores
  dsimp only
  rw [q1]
  exact (if_neg Bool.false_ne_true).trans ((if_neg (fun z => absurd (hs.symm.trans z) Bool.false_ne_true)).trans ((if_neg (fun z => absurd (q3.symm.trans z) Bool.false_ne_true)).trans ((if_neg (fun z => absurd (hf.symm.trans z) Bool.false_ne_true)).trans ((if_neg (fun z => absurd (hc.symm.trans z) Bool.false_ne_true)).trans (congrArg (fun l => pure (some l)) names)))))

/-! ### values for several slots -/
/-- data, or a new list -/
inductive Mv
  | d (x : PyData)
  | l (xs : List PyData)
def Mv.cell : Mv → Cell
  | .d x => .d x
  | .l xs => .o (.l xs)
def Pd (H0 S H : Hp) (v : V) : Mv → Prop
  | .d x => Dt S v x
  | .l xs => ∃ p ws, v = .ref p ∧ H0 p = none ∧ H p = some (.lst ws) ∧ S p = none ∧ DtAll S ws xs
def PdAll (H0 S H : Hp) : List V → List Mv → Prop
  | [], [] => True
  | v :: vs, m :: ms => Pd H0 S H v m ∧ (∀ xs, m = .l xs → ∀ (k : Nat) ys, ms[k]? = some (.l ys) → vs[k]? ≠ some v) ∧ PdAll H0 S H vs ms
  | _, _ => False
theorem Pd.grow {H0 S H S' H' : Hp} {v : V} {m : Mv} (g : Grow S H S' H') (h : Pd H0 S H v m) : Pd H0 S' H' v m := by
  cases m with
  | d x => exact dp_ex g.ss _ _ h
  | l xs =>
    obtain ⟨p, ws, e, h1, h2, h3, h4⟩ := h
    exact ⟨p, ws, e, h1, g.hh _ _ h2, g.fr p (by rw [h2]; simp) h3, dp_exs g.ss _ _ h4⟩
theorem PdAll.grow {H0 S H S' H' : Hp} (g : Grow S H S' H') : ∀ {vs : List V} {ms : List Mv}, PdAll H0 S H vs ms → PdAll H0 S' H' vs ms
  | [], [], _ => trivial
  | v :: vs, m :: ms, h => ⟨h.1.grow g, h.2.1, PdAll.grow g h.2.2⟩
  | [], _ :: _, h => h.elim
  | _ :: _, [], h => h.elim
theorem Pd.back {H0 H1 S H : Hp} {v : V} {m : Mv} (e : Ex H0 H1) (h : Pd H1 S H v m) : Pd H0 S H v m := by
  cases m with
  | d x => exact h
  | l xs =>
    obtain ⟨p, ws, e', h1, h2⟩ := h
    exact ⟨p, ws, e', e.back h1, h2⟩
theorem PdAll.back {H0 H1 S H : Hp} (e : Ex H0 H1) : ∀ {vs : List V} {ms : List Mv}, PdAll H1 S H vs ms → PdAll H0 S H vs ms
  | [], [], _ => trivial
  | v :: vs, m :: ms, h => ⟨h.1.back e, h.2.1, PdAll.back e h.2.2⟩
  | [], _ :: _, h => h.elim
  | _ :: _, [], h => h.elim
theorem PdAll.get {H0 S H : Hp} : ∀ {vs : List V} {ms : List Mv} {k : Nat} {m : Mv}, PdAll H0 S H vs ms → ms[k]? = some m → ∃ v, vs[k]? = some v ∧ Pd H0 S H v m
  | [], [], _, _, _, z => by simp at z
  | v :: vs, m :: ms, 0, _, h, z => by simp at z; subst z; exact ⟨v, rfl, h.1⟩
  | v :: vs, m :: ms, k + 1, _, h, z => PdAll.get (k := k) h.2.2 (by simpa using z)
  | [], _ :: _, _, _, h, _ => h.elim
  | _ :: _, [], _, _, h, _ => h.elim
theorem PdAll.len {H0 S H : Hp} : ∀ {vs : List V} {ms : List Mv}, PdAll H0 S H vs ms → vs.length = ms.length
  | [], [], _ => rfl
  | _ :: _, _ :: _, h => congrArg (· + 1) (PdAll.len h.2.2)
  | [], _ :: _, h => h.elim
  | _ :: _, [], h => h.elim
/-- what is not yet in a slot and is owned by nobody -/
def Free (β : Bs) (σ : L2.St) (ρ : List Cell) (v : V) : Mv → Prop
  | .d _ => True
  | .l _ => ∀ p, v = .ref p → β.H0 p = none ∧ ∀ (j : Nat) (C : Own), ρ[j]? = some (Cell.o C) → σ[j]? ≠ some (some (V.ref p))
theorem Env.put {β : Bs} {S H : Hp} {σ : L2.St} {ρ : List Cell} {H0 : Hp} {v : V} {m : Mv} (E : Env β S H σ ρ) (i : Nat) (h : Pd H0 S H v m) (f : Free β σ ρ v m) : Env β S H (σ.set i (some v)) (ρ.set i m.cell) := by
  cases m with
  | d x => exact E.setD h
  | l xs =>
    obtain ⟨p, ws, rfl, h1, h2, h3, h4⟩ := h
    obtain ⟨f1, f2⟩ := f p rfl
    exact E.setO h2 ⟨ws, rfl, h4⟩ h3 f1 fun j C' _ z => f2 j C' z
theorem Free.put {β : Bs} {σ : L2.St} {ρ : List Cell} {v u : V} {m k : Mv} (f : Free β σ ρ v m) (i : Nat) (h : ∀ xs ys, m = .l xs → k = .l ys → u ≠ v) : Free β (σ.set i (some u)) (ρ.set i k.cell) v m := by
  cases m with
  | d x => trivial
  | l xs =>
    intro p hp
    obtain ⟨f1, f2⟩ := f p hp
    refine ⟨f1, fun j C z z2 => ?_⟩
    rcases set_get z with ⟨rfl, e, _⟩ | ⟨ne, e⟩
    · by_cases hl : j < σ.length
      · rw [List.getElem?_set_self hl] at z2
        cases k with
        | d y => cases e
        | l ys => exact h xs ys rfl rfl ((Option.some.inj (Option.some.inj z2)).trans hp.symm)
      · rw [List.getElem?_eq_none (by simpa using hl)] at z2; cases z2
    · rw [List.getElem?_set_ne (Ne.symm ne)] at z2
      exact f2 j C e z2
theorem Env.free {β : Bs} {S0 H0 S H : Hp} {σ : L2.St} {ρ : List Cell} {v : V} {m : Mv} (E : Env β S0 H0 σ ρ) (h : Pd H0 S H v m) : Free β σ ρ v m := by
  cases m with
  | d x => trivial
  | l xs =>
    obtain ⟨p, ws, rfl, h1, _⟩ := h
    intro q hq
    cases hq
    obtain ⟨n1, _, n3⟩ := E.new h1
    exact ⟨n1, n3⟩
/-- arguments: no owned object changes -/
def AG (c : Cc) (es : List Expr) (ρ : List Cell) (P : List Mv → Prop) : Prop :=
  ∀ (β : Bs) (S H : Hp) (σ : L2.St), Env β S H σ ρ → c.Ok β → ∀ Q : List V → Hp → Prop, (∀ vs ms S' H', P ms → Grow S H S' H' → PdAll H S' H' vs ms → Q vs H') → wA c es σ H Q
/-- arguments of which the first ones may change owned objects -/
def AX (c : Cc) (es : List Expr) (ρ : List Cell) (P : List Mv → List Cell → Prop) : Prop :=
  ∀ (β : Bs) (S H : Hp) (σ : L2.St), Env β S H σ ρ → c.Ok β → ∀ Q : List V → Hp → Prop, (∀ vs ms ρ' S1 H1 S' H', P ms ρ' → Env β S1 H1 σ ρ' → Ex S S1 → Grow S1 H1 S' H' → PdAll H1 S' H' vs ms → Q vs H') → wA c es σ H Q
section
variable {c : Cc} {B : Bx} {ρ : List Cell} {M : Nat} {a b e tst : Expr} {es : List Expr} {pos p p2 p3 : Pos} {x y z d : PyData} {op : Operator} {Φ : Po} {ss ts sts : List Stmt} {st : Stmt}
theorem ag_nil {P : List Mv → Prop} (h : P []) : AG c [] ρ P := fun β S H σ E _ Q q => wA_of (fun X hX => pa_nil) (q [] [] S H h (Grow.rfl E.sh) trivial)
theorem ag_d {P : List Mv → Prop} {P1 : PyData → Prop} (h : EV c e ρ P1) (hr : ∀ d, P1 d → AG c es ρ fun ms => P (.d d :: ms)) (hs : ∀ env : PySem.Env, starEach (e :: es) env = (false, eval e env) :: starEach es env := by intro _; rfl) : AG c (e :: es) ρ P := fun β S H σ E hK Q q =>
  wA_of (fun X hX => pa_cons (pe_w hX) (pa_w hX) (hs X.env)) (h β S H σ E hK _ fun v d S1 H1 hp g1 dv => hr d hp β S1 H1 σ (E.grow g1) hK _ fun vs ms S2 H2 hp2 g2 pd =>
    q (v :: vs) (.d d :: ms) S2 H2 hp2 (g1.trans g2) ⟨dp_ex g2.ss _ _ dv, (fun xs z => nomatch z), pd.back g1.hh⟩)
theorem ag_n {P : List Mv → Prop} {P1 : List PyData → Prop} (h : EN c e ρ P1) (hr : ∀ d, P1 d → AG c es ρ fun ms => P (.l d :: ms)) (hs : ∀ env : PySem.Env, starEach (e :: es) env = (false, eval e env) :: starEach es env := by intro _; rfl) : AG c (e :: es) ρ P := fun β S H σ E hK Q q =>
  wA_of (fun X hX => pa_cons (pe_w hX) (pa_w hX) (hs X.env)) (h β S H σ E hK _ fun r ws xs S1 H1 hp n1 n2 n3 n4 g1 => hr xs hp β S1 H1 σ (E.grow g1) hK _ fun vs ms S2 H2 hp2 g2 pd => by
    have h0 : Pd H S1 H1 (.ref r) (.l xs) := ⟨r, ws, rfl, n1, n2, n3, n4⟩
    refine q (.ref r :: vs) (.l xs :: ms) S2 H2 hp2 (g1.trans g2) ⟨h0.grow g2, fun zs _ k ys hk hv => ?_, pd.back g1.hh⟩
    obtain ⟨u, hu, p', ws', e1, e2, _⟩ := pd.get hk
    rw [hv] at hu
    have hu := Option.some.inj hu
    rw [e1] at hu
    cases hu
    rw [n2] at e2; cases e2)
theorem ax_g {P : List Mv → List Cell → Prop} (h : AG c es ρ fun ms => P ms ρ) : AX c es ρ P := fun β S H σ E hK Q q => h β S H σ E hK _ fun vs ms S' H' hp g pd => q vs ms ρ S H S' H' hp E Ex.rfl g pd
theorem ax_x {P : List Mv → List Cell → Prop} {P1 : PyData → List Cell → Prop} (h : XV c e ρ P1) (hr : ∀ d r, P1 d r → AX c es r fun ms r' => P (.d d :: ms) r') (hs : ∀ env : PySem.Env, starEach (e :: es) env = (false, eval e env) :: starEach es env := by intro _; rfl) : AX c (e :: es) ρ P := fun β S H σ E hK Q q =>
  wA_of (fun X hX => pa_cons (pe_w hX) (pa_w hX) (hs X.env)) (h β S H σ E hK _ fun v d r S1 H1 hp E1 e1 dv => hr d r hp β S1 H1 σ E1 hK _ fun vs ms r' S2 H2 S3 H3 hp2 E2 e2 g pd =>
    q (v :: vs) (.d d :: ms) r' S2 H2 S3 H3 hp2 E2 (e1.trans e2) g ⟨dp_ex (e2.trans g.ss) _ _ dv, (fun xs z => nomatch z), pd⟩)
/-- x, y = a, b, plain local names -/
theorem s_par2 (i j : Nat) {n1 n2 : Str} {p1 p2 p4 p5 : Pos} {k kv : Nat} {P : List Mv → List Cell → Prop} (h : AX c [a, b] ρ P) (hN : c.N.Nodup) (hn : ∀ ms r, P ms r → ∃ m1 m2, ms = [m1, m2] ∧ Φ.nx ((r.set i m1.cell).set j m2.cell))
    (hi : c.N[i]? = some n1 := by rfl) (hj : c.N[j]? = some n2 := by rfl) (hij : i ≠ j := by decide) (h1 : c.sc.names.lookup n1 = some .local := by rfl) (h2 : c.sc.names.lookup n2 = some .local := by rfl) (hk : c.sc.kind = .function := by rfl) (hl : (p2.line == p1.line) = true := by rfl) (hne : (n2 == n1) = false := by decide)
    (hs : ([a, b].any fun | .Starred .. => true | _ => false) = false := by rfl) (hf : [a, b].all (foldedForSure 8) = false := by rfl) (hc : [a, b].all (constantsAlone 8) = false := by rfl)
    (hw : ∀ env : PySem.Env, swapsWithSole [.Tuple [.Name n1 p1, .Name n2 p2] k p4] (.Tuple [a, b] kv p5) pos.line env = pure false := by intro _; rfl) :
    S1 c (.Assign [.Tuple [.Name n1 p1, .Name n2 p2] k p4] (.Tuple [a, b] kv p5) pos) ρ Φ := fun β S H σ D E hK kk =>
  wS_of (fun X hX => ps_par hX.calm (by rw [hX.N]; exact hN) (by rw [hX.N]; exact hi) (by rw [hX.N]; exact hj) hij (by rw [hX.sc]; exact h1) (by rw [hX.sc]; exact h2) (pa_w hX) (swap2 hk h1 h2 hl hne hs hf hc X.env hX.sc) (hw X.env)) (h β S H σ E hK _ fun vs ms r S1 H1 S2 H2 hp E1 e1 g pd => by
    obtain ⟨m1, m2, rfl, hnx⟩ := hn ms r hp
    match vs, pd with
    | [v1, v2], pd =>
      obtain ⟨d1, a1, d2, _⟩ := pd
      have E2 := E1.grow g
      have f1 := E1.free d1
      have f2 := E1.free d2
      have E3 := E2.put i d1 f1
      have E4 := E3.put j d2 (f2.put i fun xs ys z1 z2 z3 => a1 ys z2 0 xs (by rw [z1]; rfl) (by rw [z3]; rfl))
      exact ⟨v1, v2, rfl, kk.nx _ S2 H2 _ hnx (e1.trans g.ss) E4⟩)
theorem s_par3 (i j l : Nat) {n1 n2 n3 : Str} {p1 p2 p3 p4 p5 : Pos} {k kv : Nat} {cc : Expr} {P : List Mv → List Cell → Prop} (h : AX c [a, b, cc] ρ P) (hN : c.N.Nodup) (hn : ∀ ms r, P ms r → ∃ m1 m2 m3, ms = [m1, m2, m3] ∧ Φ.nx (((r.set i m1.cell).set j m2.cell).set l m3.cell))
    (hi : c.N[i]? = some n1 := by rfl) (hj : c.N[j]? = some n2 := by rfl) (hl : c.N[l]? = some n3 := by rfl) (hij : i ≠ j := by decide) (hil : i ≠ l := by decide) (hjl : j ≠ l := by decide) (h1 : c.sc.names.lookup n1 = some .local := by rfl) (h2 : c.sc.names.lookup n2 = some .local := by rfl) (h3 : c.sc.names.lookup n3 = some .local := by rfl) (hk : c.sc.kind = .function := by rfl) (hl2 : (p2.line == p1.line) = true := by rfl) (hl3 : (p3.line == p1.line) = true := by rfl) (hne : (n2 == n1) = false := by decide) (hne3 : (n3 == n1) = false := by decide) (hne4 : (n3 == n2) = false := by decide)
    (hs : ([a, b, cc].any fun | .Starred .. => true | _ => false) = false := by rfl) (hf : [a, b, cc].all (foldedForSure 8) = false := by rfl) (hc : [a, b, cc].all (constantsAlone 8) = false := by rfl)
    (hw : ∀ env : PySem.Env, swapsWithSole [.Tuple [.Name n1 p1, .Name n2 p2, .Name n3 p3] k p4] (.Tuple [a, b, cc] kv p5) pos.line env = pure false := by intro _; rfl) :
    S1 c (.Assign [.Tuple [.Name n1 p1, .Name n2 p2, .Name n3 p3] k p4] (.Tuple [a, b, cc] kv p5) pos) ρ Φ := fun β S H σ D E hK kk =>
  wS_of (fun X hX => ps_par3 hX.calm (by rw [hX.N]; exact hN) (by rw [hX.N]; exact hi) (by rw [hX.N]; exact hj) (by rw [hX.N]; exact hl) hij hil hjl (by rw [hX.sc]; exact h1) (by rw [hX.sc]; exact h2) (by rw [hX.sc]; exact h3) (pa_w hX) (swap3 hk h1 h2 h3 hl2 hl3 hne hne3 hne4 hs hf hc X.env hX.sc) (hw X.env)) (h β S H σ E hK _ fun vs ms r S1 H1 S2 H2 hp E1 e1 g pd => by
    obtain ⟨m1, m2, m3, rfl, hnx⟩ := hn ms r hp
    match vs, pd with
    | [v1, v2, v3], pd =>
      obtain ⟨d1, a1, d2, a2, d3, _⟩ := pd
      have E2 := E1.grow g
      have f1 := E1.free d1
      have f2 := E1.free d2
      have f3 := E1.free d3
      have E3 := E2.put i d1 f1
      have E4 := E3.put j d2 (f2.put i fun xs ys z1 z2 z3 => a1 ys z2 0 xs (by rw [z1]; rfl) (by rw [z3]; rfl))
      have E5 := E4.put l d3 ((f3.put i fun xs ys z1 z2 z3 => a1 ys z2 1 xs (by rw [z1]; rfl) (by rw [z3]; rfl)).put j fun xs ys z1 z2 z3 => a2 ys z2 0 xs (by rw [z1]; rfl) (by rw [z3]; rfl))
      exact ⟨v1, v2, v3, rfl, kk.nx _ S2 H2 _ hnx (e1.trans g.ss) E5⟩)
end
end Bd
/-! enumerate(tuple) walked, list(range(..)), repr. -/
namespace Bd
open PySem PySem.Spec PyProof.Rows L2
theorem pi_enumT {X : Cx} {e : Expr} {ta : TA} {p pos tpos : Pos} {elts : List Expr} {kk : Nat} (hg : Gl X "enumerate") (hm : X.mg "enumerate" = none) (ha : PA X [e] ta) (hs : starEach [e] X.env = [(false, eval e X.env)]) :
    PI X (.Tuple elts kk tpos) (.Call (.Name "enumerate" p) [e] [] pos) (fun σ H R => ta σ H fun vs H1 => ∃ a xs, vs = [.ref a] ∧ SqT X.K H1 a xs ∧ R (IteT X.K a) H1) := by
  constructor
  intro pins s σ H R I h
  refine Call_ (ld_blt I hg hm boot_enumerate (PyProof.Rows.callWith_type1 (thn (ha.run pos pins s σ H _ I h) ?_) hs rfl))
  rintro us s1 ⟨vs, H1, I1, rel, a, xs, rfl, hq, q⟩
  cases rel with
  | cons r1 r2 =>
    cases r2
    cases r1
    obtain ⟨its, rv, p', hz⟩ := I1.tuple hq
    refine call_enumT (show s1.heap.IsTuple a its.toArray from p') fun h' he ti keep => wpAny_pyIter_enum he ?_
    refine ⟨_, [s1.heap.objs.size + 1, s1.heap.objs.size], _, _, H1, rfl, I1.kept (t' := s1.toks) keep, turn_enumT a (s1.heap.objs.size + 1) s1.heap.objs.size, ⟨⟨.none, he⟩, ti, Nat.succ_ne_self _⟩, fun b hb => ?_, q⟩
    have above : s1.heap.objs.size ≤ b := by
      rcases List.mem_cons.mp hb with z | z
      · rw [z]; exact Nat.le_add_right _ _
      · rw [List.mem_singleton.mp z]; exact Nat.le_refl _
    exact I1.fpOk above (I1.hok.fresh above)
theorem wk_enumT {K : PySem.W.Frag} {S : Hp} {q : Addr} {vs : List V} {xs : List PyData} (h : S q = some (.tup vs)) (hd : DtAll S vs xs) : WkD (IteT K q) (enumD xs) S := fun S' H' e1 e2 => by
  have hl : H' q = some (.tup vs) := e2 _ _ (e1 _ _ h)
  have hn := da_len hd
  rw [enumD_len]
  refine ⟨fun i hi => ⟨vs, vs[i]'(by omega), st_of hl, by simp [show i < vs.length by omega]⟩, ⟨vs, st_of hl, by omega⟩, fun i v H2 hi y => ?_⟩
  obtain ⟨T, w, rfl, hT, rfl, y⟩ := y
  obtain ⟨d, h1, h2⟩ := da_getV hd (y vs (st_of hl))
  exact ⟨upd S' T (.tup [.int (i : Nat), w]), _, Grow.new e2 hT, enumD_get h1, .tup upd_same (.cons (.int _) (.cons (dp_ex (e1.trans (Ex.new (e2.back hT))) _ _ h2) .nil))⟩
theorem da_rng {S : Hp} (f : Nat → Int) : ∀ m : Nat, DtAll S ((List.range m).map fun i => V.int (f i)) ((List.range m).map fun i => PyData.int (f i))
  | 0 => .nil
  | m + 1 => by
    rw [List.range_succ, List.map_append, List.map_append]
    exact da_app (da_rng f m) (.cons (.int _) .nil)
section
variable {c : Cc} {B : Bx} {ρ : List Cell} {M : Nat} {a b e tst : Expr} {es : List Expr} {pos p p2 p3 : Pos} {x y z d : PyData} {op : Operator} {Φ : Po} {ss ts sts : List Stmt} {st : Stmt}
theorem i_enumT {elts : List Expr} {kk : Nat} {tpos : Pos} {xs : List PyData} (h : ED c a ρ (.tuple xs)) (hm : c.g.mg "enumerate" = none) (hg : Glb c "enumerate" := by rfl) (hs : ∀ env : PySem.Env, starEach [a] env = [(false, eval a env)] := by intro _; rfl) :
    ID c (.Tuple elts kk tpos) (.Call (.Name "enumerate" p) [a] [] pos) ρ (enumD xs) := fun β S H σ E hK R q =>
  wI_of (t := fun σ H R => (tCons (wE c a) tNil) σ H fun vs H1 => ∃ r xs, vs = [.ref r] ∧ SqT c.g.K H1 r xs ∧ R (IteT c.g.K r) H1) (fun X hX => hX.K ▸ pi_enumT (hX.gl hg) (by rw [hX.mg]; exact hm) (pa_cons (pe_w hX) pa_nil (hs X.env)) (hs X.env)) (h β S H σ E hK _ fun v d S1 H1 hd g1 dv => by
    subst hd
    cases dv with
    | tup hl ha => exact ⟨_, _, rfl, st_of (g1.sh _ _ hl), q _ S1 H1 g1 (wk_enumT hl ha)⟩)
/-- enumerate(list or tuple) -/
theorem i_enumS {elts : List Expr} {kk : Nat} {tpos : Pos} {xs : List PyData} (h : ED c a ρ x) (hx : seqD x = some xs) (hm : c.g.mg "enumerate" = none) (hg : Glb c "enumerate" := by rfl) (hs : ∀ env : PySem.Env, starEach [a] env = [(false, eval a env)] := by intro _; rfl) :
    ID c (.Tuple elts kk tpos) (.Call (.Name "enumerate" p) [a] [] pos) ρ (enumD xs) := by
  cases x with
  | list ys => cases hx; exact i_enum h hm hg hs
  | tuple ys => cases hx; exact i_enumT h hm hg hs
  | none => cases hx
  | bool _ => cases hx
  | int _ => cases hx
  | str _ => cases hx
  | dict _ => cases hx
theorem i_seq {tg : Expr} {xs : List PyData} (h : ED c e ρ x) (hx : seqD x = some xs) : ID c tg e ρ xs := by
  cases x with
  | list ys => cases hx; exact i_list h
  | tuple ys => cases hx; exact i_tup h
  | none => cases hx
  | bool _ => cases hx
  | int _ => cases hx
  | str _ => cases hx
  | dict _ => cases hx
/-- list(range(n)) -/
theorem n_listR {n : Nat} {pp p4 : Pos} (h : ED c a ρ (.int n)) (hml : c.g.mg "list" = none) (hmr : c.g.mg "range" = none) (hn : n ≤ 1000000) (hgl : Glb c "list" := by rfl) (hgr : Glb c "range" := by rfl) (hs : ∀ env : PySem.Env, starEach [a] env = (false, eval a env) :: starEach [] env := by intro _; rfl)
    (hs2 : ∀ env : PySem.Env, starEach [.Call (.Name "range" p4) [a] [] pp] env = (false, eval (.Call (.Name "range" p4) [a] [] pp) env) :: starEach [] env := by intro _; rfl) : EL c (.Call (.Name "list" p) [.Call (.Name "range" p4) [a] [] pp] [] pos) ρ (rngD 0 n) := fun β S H σ E hK Q q =>
  wE_of (fun X hX => pe_listRg hX.calm (hX.gl hgl) (by rw [hX.mg]; exact hml) (prg_1 (hX.gl hgr) (by rw [hX.mg]; exact hmr) (pe_w hX) (hs X.env)) (hs2 X.env)) (h β S H σ E hK _ fun v d S1 H1 hd g1 dv => by
    subst hd
    cases dv
    refine ⟨n, rfl, ?_, fun r hr => q r _ _ S1 _ rfl (g1.hh.back hr) upd_same (g1.sh.back hr) ?_ (g1.trans (Grow.own g1.sh hr))⟩
    · exact RgOk.of_le (by decide) (by omega) (by decide) (by omega)
    · unfold rgV rngD
      rw [show ((n : Int) - 0).toNat = n from by omega]
      exact da_rng _ _)
/-! ### repr -/
/-- what repr shows: no dict, short ints, short texts -/
structure ShowOk (d : PyData) : Prop where
  sh : d.showable = true
  nd : d.hasDict = false
  dp : d.depth ≤ 60
  sz : d.shown.length ≤ sizeLine
theorem cr_repr {X : Cx} (hX : c.Has X) (hgd : c.gd = true) : CallR X (.builtin "repr") (fun vs H Q => ∃ r d, vs = [.ref r] ∧ Dp X.K H (.ref r) d ∧ ShowOk d ∧ Q (.str d.shown) H) := by
  intro pins s σ H xs us Q I rel h
  obtain ⟨r, d, rfl, hd, ok, q⟩ := h
  cases rel with
  | cons r1 r2 =>
    cases r2
    obtain ⟨as, rd⟩ := Dp.reads I d _ _ hd r1
    cases r1
    refine PySem.repr_of_reads' rd ok.sh (PyData.noDict_hsm ok.nd) (hX.gd hgd) ?_ (fun _ _ z => z) (fun h' u tk keep => ⟨.str d.shown, H, I.kept keep, ⟨u, rfl⟩, q⟩) ok.sz
    have := hX.hu
    have := ok.dp
    omega
theorem e_repr {xs : List PyData} (h : ED c a ρ x) (hx : seqD x = some xs) (ok : ShowOk x) (hgd : c.gd = true := by rfl) (hm : c.g.mg "repr" = none) (hg : Glb c "repr" := by rfl) (he : ∀ env : PySem.Env, starEach [a] env = (false, eval a env) :: starEach [] env := by intro _; rfl) :
    ED c (.Call (.Name "repr" p) [a] [] pos) ρ (.str x.shown) := e_blt (id := "repr") (fun X hX => hX.K ▸ cr_repr hX hgd) (a_cons h a_nil he) (fun S H vs e dv Q q => by
  cases dv with
  | cons d1 d2 =>
    cases d2
    have hdp := dt_dp (K := c.g.K) _ _ (dp_ex e _ _ d1)
    cases d1 with
    | lst hl _ => exact ⟨_, _, rfl, hdp, ok, q _ S H (Grow.rfl e) (.str _)⟩
    | tup hl _ => exact ⟨_, _, rfl, hdp, ok, q _ S H (Grow.rfl e) (.str _)⟩
    | non => cases hx
    | bl _ => cases hx
    | int _ => cases hx
    | str _ => cases hx) hm (by decide +kernel) hg (by decide) (by decide) he (fun _ => rfl)
end
end Bd
/-! What repr shows of kinds; texts that are alike; kinds by a rule. -/
namespace Bd
open PySem PySem.Spec PyProof.Rows L2
theorem rows_mk {D R : Nat} {f : Nat → Nat → Nat × Nat} : (mkK D R f).map rowD = (List.range R).map fun r => PyData.tuple ((List.range D).map fun d => pD (f r d)) := by
  have h := kD_mk (D := D) (R := R) (f := f)
  unfold kD at h
  injection h
theorem rng_rev {α : Type} {n i : Nat} {f : Nat → α} (h : i < n) : (((List.range n).map f).reverse)[i]? = some (f (n - 1 - i)) := by
  rw [List.getElem?_reverse (by simpa using h)]
  rw [List.length_map, List.length_range]
  exact rng_at (by omega)
theorem rng_app {α : Type} {a b : Nat} {f : Nat → α} : (List.range (a + b)).map f = (List.range a).map f ++ (List.range b).map fun i => f (a + i) := by
  rw [List.range_add, List.map_append, List.map_map]; rfl
def kindPostP (ds : List PyData) (d : PyData) : Prop := ∃ D R f, d = kD (mkK D R f) ∧ Backs D R f ∧ 1 ≤ D ∧ D ≤ 12 ∧ 1 ≤ R ∧ R ≤ 200
def truePost (_ : List PyData) (d : PyData) : Prop := d = .bool true
section
variable {c : Cc}
theorem c_eqS {i j : Str} : CmpD c .Eq (.str i) (.str j) (.bool (decide (i = j))) := ⟨_, fun _ _ => op_eq, fun S H v u e d1 d2 Q q => by
  cases d1; cases d2
  refine ⟨rfl, q _ S H (Grow.rfl e) ?_⟩
  rw [show decide (V.str i = V.str j) = decide (i = j) by simp]
  exact .bl _⟩
theorem c_neS {i j : Str} : CmpD c .NotEq (.str i) (.str j) (.bool (!decide (i = j))) := ⟨_, fun _ _ => op_ne, fun S H v u e d1 d2 Q q => by
  cases d1; cases d2
  refine ⟨rfl, q _ S H (Grow.rfl e) ?_⟩
  rw [show decide (V.str i = V.str j) = decide (i = j) by simp]
  exact .bl _⟩
end
/-! ### what repr shows -/
/-- short ints, no texts, no dicts -/
def smD : PyData → Bool
  | .int i => decide (i.natAbs < 10 ^ 12)
  | .none => true
  | .bool _ => true
  | .list xs => smDs xs
  | .tuple xs => smDs xs
  | .str _ => false
  | .dict _ => false
where smDs : List PyData → Bool
  | [] => true
  | x :: xs => smD x && smDs xs
theorem smDs_all : ∀ {xs : List PyData}, smD.smDs xs = true ↔ ∀ x ∈ xs, smD x = true
  | [] => by simp [smD.smDs]
  | x :: xs => by rw [smD.smDs, Bool.and_eq_true, smDs_all (xs := xs)]; simp
theorem log2_small {i : Int} (h : i.natAbs < 10 ^ 12) : i.natAbs.log2 < 1920 := by
  by_cases z : i.natAbs = 0
  · rw [z]; decide
  · have h2 : i.natAbs < 2 ^ 40 := Nat.lt_trans h (by decide)
    have := (Nat.log2_lt z).mpr h2
    omega
mutual
theorem smD_sh : ∀ (d : PyData), smD d = true → d.showable = true ∧ d.leavesShort 13 = true
  | .none, _ => ⟨rfl, rfl⟩
  | .bool _, _ => ⟨rfl, rfl⟩
  | .int i, h => by
    have h := of_decide_eq_true (show decide (i.natAbs < 10 ^ 12) = true from h)
    exact ⟨decide_eq_true (log2_small h), decide_eq_true (PyData.shown_int_le h)⟩
  | .list xs, h => smDs_sh xs h
  | .tuple xs, h => smDs_sh xs h
  | .str _, h => nomatch h
  | .dict _, h => nomatch h
theorem smDs_sh : ∀ (xs : List PyData), smD.smDs xs = true → PyData.showableAll xs = true ∧ PyData.leavesShortAll 13 xs = true
  | [], _ => ⟨rfl, rfl⟩
  | x :: xs, h => by
    rw [smD.smDs, Bool.and_eq_true] at h
    obtain ⟨a1, a2⟩ := smD_sh x h.1
    obtain ⟨b1, b2⟩ := smDs_sh xs h.2
    exact ⟨by rw [PyData.showableAll, a1, b1]; rfl, by rw [PyData.leavesShortAll, a2, b2]; rfl⟩
end
theorem show_of {n : Nat} {d : PyData} (h1 : okD n d = true) (h2 : smD d = true) (h3 : d.bulk ≤ 2 ^ 20) (hn : n ≤ 60 := by decide) : ShowOk d := by
  obtain ⟨a1, a2⟩ := okD_lay n d h1
  obtain ⟨b1, b2⟩ := smD_sh d h2
  exact ⟨b1, PyData.hasDict_of_canLay d a1, Nat.le_trans a2 hn, PyData.shown_fits_bulk (by decide) (by decide) b2 h3⟩
theorem bulkAll_le {b : Nat} : ∀ (xs : List PyData), (∀ x ∈ xs, x.bulk ≤ b) → PyData.bulkAll xs ≤ xs.length * (b + 1)
  | [], _ => Nat.zero_le _
  | x :: xs, h => by
    have h1 := h x List.mem_cons_self
    have h2 := bulkAll_le xs fun y hy => h y (List.mem_cons_of_mem _ hy)
    rw [PyData.bulkAll, List.length_cons, Nat.add_mul]
    omega
theorem bulk_kD {D R : Nat} {f : Nat → Nat → Nat × Nat} : (kD (mkK D R f)).bulk ≤ R * (D * 3 + 1) := by
  rw [kD_mk]
  show PyData.bulkAll _ ≤ _
  refine Nat.le_trans (bulkAll_le (b := D * 3) _ fun x hx => ?_) (by simp)
  obtain ⟨r, _, rfl⟩ := List.mem_map.mp hx
  show PyData.bulkAll _ ≤ _
  refine Nat.le_trans (bulkAll_le (b := 2) _ fun x hx => ?_) (by simp)
  obtain ⟨d, _, rfl⟩ := List.mem_map.mp hx
  exact Nat.le_of_eq rfl
theorem sm_kD {D R : Nat} {f : Nat → Nat → Nat × Nat} (hB : Backs D R f) (h1 : D ≤ 1000000) (h2 : R ≤ 1000000) : smD (kD (mkK D R f)) = true := by
  rw [kD_mk]
  refine smDs_all.mpr fun x hx => ?_
  obtain ⟨r, hr, rfl⟩ := List.mem_map.mp hx
  refine smDs_all.mpr fun x hx => ?_
  obtain ⟨d, hd, rfl⟩ := List.mem_map.mp hx
  obtain ⟨b1, b2, _⟩ := hB r d (List.mem_range.mp hr) (List.mem_range.mp hd)
  have e1 : ((f r d).1 : Int).natAbs < 10 ^ 12 := by
    have : (10 : Nat) ^ 12 = 1000000000000 := by decide
    omega
  have e2 : ((f r d).2 : Int).natAbs < 10 ^ 12 := by
    have : (10 : Nat) ^ 12 = 1000000000000 := by decide
    omega
  show (decide _ && (decide _ && true)) = true
  rw [decide_eq_true e1, decide_eq_true e2]; rfl
/-! ### kinds told by data are one -/
theorem pD_inj {a b : Nat × Nat} (h : pD a = pD b) : a = b := by
  unfold pD at h
  simp only [PyData.tuple.injEq, List.cons.injEq, PyData.int.injEq, and_true] at h
  exact Prod.ext (by omega) (by omega)
theorem map_inj {α β : Type} {f : α → β} (hf : ∀ a b, f a = f b → a = b) : ∀ {xs ys : List α}, xs.map f = ys.map f → xs = ys
  | [], [], _ => rfl
  | [], _ :: _, h => by simp at h
  | _ :: _, [], h => by simp at h
  | x :: xs, y :: ys, h => by
    rw [List.map_cons, List.map_cons, List.cons.injEq] at h
    rw [hf _ _ h.1, map_inj hf h.2]
theorem rowD_inj {a b : List (Nat × Nat)} (h : rowD a = rowD b) : a = b := by
  unfold rowD at h
  rw [PyData.tuple.injEq] at h
  exact map_inj (fun _ _ => pD_inj) h
theorem kD_inj {a b : List (List (Nat × Nat))} (h : kD a = kD b) : a = b := by
  unfold kD at h
  rw [PyData.tuple.injEq] at h
  exact map_inj (fun _ _ => rowD_inj) h
theorem mkK_eq {D R D' R' : Nat} {f f' : Nat → Nat → Nat × Nat} (h : kD (mkK D R f) = kD (mkK D' R' f')) (hR : 0 < R) : D = D' ∧ R = R' ∧ ∀ r d, r < R → d < D → f r d = f' r d := by
  have h := kD_inj h
  have e1 : R = R' := by
    have := congrArg List.length h
    simpa [mkK] using this
  subst e1
  have rows : ∀ r, r < R → (List.range D).map (f r) = (List.range D').map (f' r) := fun r hr => by
    have := congrArg (fun k => k[r]?) h
    simp only [mkK_row hr] at this
    exact Option.some.inj this
  have e2 : D = D' := by
    have := congrArg List.length (rows 0 hR)
    simpa using this
  subst e2
  refine ⟨rfl, rfl, fun r d hr hd => ?_⟩
  have := congrArg (fun k => k[d]?) (rows r hr)
  simp only [rng_at hd] at this
  exact Option.some.inj this
theorem mkK_congr {D R : Nat} {f g : Nat → Nat → Nat × Nat} (h : ∀ r d, r < R → d < D → f r d = g r d) : mkK D R f = mkK D R g := by
  unfold mkK
  refine List.map_congr_left fun r hr => List.map_congr_left fun d hd => h r d (List.mem_range.mp hr) (List.mem_range.mp hd)
end Bd
/-! Comprehensions of two sources, chained comparisons, tests of sequences, x, *xs = .. -/
namespace Bd
open PySem PySem.Spec PyProof.Rows L2
/-- what a comprehension of two sources has made behind i turns of the first one -/
def out2 (m : Nat → Nat) (f : Nat → Nat → PyData) (i : Nat) : List PyData := (List.range i).flatMap fun r => (List.range (m r)).map (f r)
theorem out2_succ {m : Nat → Nat} {f : Nat → Nat → PyData} {i : Nat} : out2 m f (i + 1) = out2 m f i ++ (List.range (m i)).map (f i) := by
  unfold out2
  rw [List.range_succ, List.flatMap_append, List.flatMap_cons, List.flatMap_nil, List.append_nil]
theorem out2_le {m : Nat → Nat} {f : Nat → Nat → PyData} {b : Nat} (h : ∀ i, m i ≤ b) : ∀ i, (out2 m f i).length ≤ i * b
  | 0 => Nat.zero_le _
  | i + 1 => by
    have := out2_le (f := f) h i
    have := h i
    rw [out2_succ, List.length_append, List.length_map, List.length_range, Nat.add_mul]
    omega
/-! ### one list that nobody owns, kept apart -/
def Bs.pin (β : Bs) (D : Addr) (o : HO) : Bs := ⟨β.K, β.S0, fun a => if a = D then some o else β.H0 a, fun a => β.mu a ∧ a ≠ D⟩
theorem pin_own {β : Bs} {D p : Addr} {o : HO} {C : Own} (h : ownAt (β.pin D o) C p) : p ≠ D := by
  have l : (β.pin D o).H0 p = none → p ≠ D := fun z e => by
    subst e
    have z : (if p = p then some o else β.H0 p) = none := z
    rw [if_pos rfl] at z; cases z
  cases C with
  | l xs => exact l h
  | p xs => exact h.2
  | b n => exact h.2
  | c n => exact l h
  | m kvs => exact l h
theorem own_pin {β : Bs} {D p : Addr} {o : HO} {C : Own} (h : ownAt β C p) (hne : p ≠ D) : ownAt (β.pin D o) C p := by
  have l : β.H0 p = none → (β.pin D o).H0 p = none := fun z => by show (if p = D then some o else β.H0 p) = none; rw [if_neg hne]; exact z
  cases C with
  | l xs => exact l h
  | p xs => exact ⟨h, hne⟩
  | b n => exact ⟨h, hne⟩
  | c n => exact l h
  | m kvs => exact l h
theorem own_repin {β : Bs} {D p : Addr} {o o' : HO} {C : Own} (h : ownAt (β.pin D o) C p) : ownAt (β.pin D o') C p := by
  have hne := pin_own h
  have l : (β.pin D o).H0 p = none → (β.pin D o').H0 p = none := fun z => by
    have z : (if p = D then some o else β.H0 p) = none := z
    rw [if_neg hne] at z
    show (if p = D then some o' else β.H0 p) = none
    rw [if_neg hne]; exact z
  cases C with
  | l xs => exact l h
  | p xs => exact h
  | b n => exact h
  | c n => exact l h
  | m kvs => exact l h
theorem ok_pin {c : Cc} {β : Bs} {D : Addr} {o : HO} (h : c.Ok β) (hD : β.H0 D = none) : c.Ok (β.pin D o) := by
  refine ⟨h.1, h.2.1, fun a vs z => ?_⟩
  obtain ⟨h1, h2, h3⟩ := h.2.2 a vs z
  have hne : a ≠ D := fun e => by rw [e, hD] at h1; cases h1
  exact ⟨by show (if a = D then some o else β.H0 a) = _; rw [if_neg hne]; exact h1, fun w => h2 w.1, h3⟩
/-- nobody owns the new object at D: it may be pinned -/
theorem Env.pin {β : Bs} {S H : Hp} {σ : L2.St} {ρ : List Cell} {D : Addr} {o : HO} (E : Env β S H σ ρ) (hD : H D = some o) (hs : S D = none) (hn : ∀ (j : Nat) (C : Own), ρ[j]? = some (Cell.o C) → σ[j]? ≠ some (some (V.ref D))) : Env (β.pin D o) S H σ ρ where
  sh := E.sh
  ss := E.ss
  keep := fun a u h e => by
    have e : (if a = D then some o else β.H0 a) = some u := e
    by_cases q : a = D
    · rw [if_pos q] at e
      rw [q, hD]; exact e
    · rw [if_neg q] at e
      exact E.keep a u (fun z => h ⟨z, q⟩) e
  fr := fun a h => by
    by_cases q : a = D
    · subst q
      exact ⟨by rw [hD]; simp, fun _ => hs⟩
    · have h : (if a = D then some o else β.H0 a) ≠ none := h
      rw [if_neg q] at h
      exact E.fr a h
  len := E.len
  dat := E.dat
  scr := E.scr
  own := fun i C h => by
    obtain ⟨p, u, e1, e2, e3, e4, e5⟩ := E.own i C h
    exact ⟨p, u, e1, e2, e3, e4, own_pin e5 fun z => hn i C h (by rw [e1, z])⟩
  apart := E.apart
  val := E.val
/-- the pinned list changes -/
theorem Env.tick {β : Bs} {S H : Hp} {σ : L2.St} {ρ : List Cell} {D : Addr} {o o' : HO} (E : Env (β.pin D o) S H σ ρ) (hs : S D = none) : Env (β.pin D o') S (upd H D o') σ ρ where
  sh := E.sh.wr hs
  ss := E.ss
  keep := fun a u h e => by
    have e : (if a = D then some o' else β.H0 a) = some u := e
    by_cases q : a = D
    · rw [if_pos q] at e
      rw [q, upd_same]; exact e
    · rw [if_neg q] at e
      rw [upd_ne q]
      exact E.keep a u h (by show (if a = D then some o else β.H0 a) = some u; rw [if_neg q]; exact e)
  fr := fun a h => by
    by_cases q : a = D
    · subst q
      exact ⟨by rw [upd_same]; simp, fun _ => hs⟩
    · have h : (if a = D then some o' else β.H0 a) ≠ none := h
      rw [if_neg q] at h
      rw [upd_ne q]
      exact E.fr a (by show (if a = D then some o else β.H0 a) ≠ none; rw [if_neg q]; exact h)
  len := E.len
  dat := E.dat
  scr := E.scr
  own := fun i C h => by
    obtain ⟨p, u, e1, e2, e3, e4, e5⟩ := E.own i C h
    exact ⟨p, u, e1, by rw [upd_ne (pin_own e5)]; exact e2, e3, e4, own_repin e5⟩
  apart := E.apart
  val := E.val
section
variable {c : Cc} {B : Bx} {ρ : List Cell} {M : Nat} {a b e tst : Expr} {es : List Expr} {pos p p2 p3 : Pos} {x y z d : PyData} {op : Operator} {Φ : Po} {ss ts sts : List Stmt} {st : Stmt}
theorem n_lc2 {tg iter tg1 iter1 elt : Expr} {scope : Scope} (own : List (Str × Nat)) (vs1 : List Nat) {xs : List PyData} {n : Nat} (m : Nat → Nat) (bnd : Nat) (f : Nat → Nat → PyData) (hNd : c.N.Nodup) (hi : ID c tg iter ρ xs) (hl : xs.length = n) (hm : ∀ i, m i ≤ bnd) (hn : n * bnd ≤ 1000000) (hb : bnd ≤ 1000000)
    (ok : blkC c.N c.sc scope own = true) (hv : ∀ i ∈ vs1, i ∈ own.map (·.2))
    (ht : ∀ (i : Nat) (d : PyData), i < n → xs[i]? = some d → ∃ is ρ2 ys, GD (c.blk scope) tg is d (wipeC ρ (own.map (·.2))) ρ2 ∧ (∀ j ∈ is, j ∈ own.map (·.2)) ∧ ID (c.blk scope) tg1 iter1 ρ2 ys ∧ ys.length = m i ∧
      ∀ (j : Nat) (e : PyData), j < m i → ys[j]? = some e → ∃ is1 ρ3, GD (c.blk scope) tg1 is1 e (wipeC ρ2 vs1) ρ3 ∧ (∀ k ∈ is1, k ∈ vs1) ∧ ED (c.blk scope) elt ρ3 (f i j))
    (hs : ∀ (env : PySem.Env) x, foldedSetIterable iter env x = pure x := by intro _ _; rfl) (hs1 : ∀ (env : PySem.Env) x, foldedSetIterable iter1 env x = pure x := by intro _ _; rfl) : EL c (.ListComp elt [⟨tg, iter, [], 0⟩, ⟨tg1, iter1, [], 0⟩] scope pos) ρ (out2 m f n) := fun β S H σ E hK Q q => by
  subst hl
  refine wE_of (fun X hX => pe_lc2 hX.calm (by rw [hX.N]; exact hNd) (pi_w hX) (by rw [hX.N, hX.sc]; exact blkOk_by ok) hv (fun s H C cl fp => pg_w (hX.blk scope s H C cl fp)) (fun s H C cl fp => pts_w (hX.blk scope s H C cl fp)) (fun s H C cl fp => pi_w (hX.blk scope s H C cl fp))
    (fun s H C cl fp => pg_w (hX.blk scope s H C cl fp)) (fun s H C cl fp => pts_w (hX.blk scope s H C cl fp)) (fun s H C cl fp => pe_w (hX.blk scope s H C cl fp)) (hs X.env) hs1) ?_
  refine hi β S H σ E hK _ fun J S1 H1 g1 wk D hD => ?_
  have E1 := E.grow g1
  have hD0 : H D = none := g1.hh.back hD
  have own0 := (E1.new hD).2.2
  have hKp : ∀ o, (c.blk scope).Ok (β.pin D o) := fun o => ok_pin hK (E1.new hD).1
  have small : ∀ i, i ≤ xs.length → (out2 m f i).length ≤ 1000000 := fun i hi2 => Nat.le_trans (out2_le hm i) (Nat.le_trans (Nat.mul_le_mul_right bnd hi2) hn)
  refine ⟨fun i k H2 => i + k = xs.length ∧ ∃ S2 acc, Grow S1 H1 S2 H2 ∧ H2 D = some (.lst acc) ∧ S2 D = none ∧ DtAll S2 acc (out2 m f i), ⟨xs.length, by omega, S1, [], Grow.own g1.sh hD, upd_same, g1.sh.back hD, .nil⟩, fun i k H2 hW => ?_⟩
  obtain ⟨hik, S2, acc, g2, hld, hsd, hacc⟩ := hW
  obtain ⟨go, stop, yld⟩ := wk S2 H2 g2.ss g2.sh
  by_cases hlt : i < xs.length
  · refine .inr ⟨go i hlt, fun H' => ∃ S2 acc, Grow S1 H1 S2 H' ∧ H' D = some (.lst acc) ∧ S2 D = none ∧ DtAll S2 acc (out2 m f (i + 1)), fun H' hN => ⟨k - 1, by omega, by omega, hN⟩, fun v H3 hy => ?_⟩
    obtain ⟨S3, d, g3, hd, dv⟩ := yld i v H3 hlt hy
    obtain ⟨is, ρ2, ys, hg, his, hit, hyl, hel⟩ := ht i d hlt hd
    have hs3 : S3 D = none := g3.fr D (by rw [hld]; simp) hsd
    have hl3 : H3 D = some (.lst acc) := g3.hh _ _ hld
    have E3 : Env (β.pin D (.lst acc)) S3 H3 σ ρ := ((E1.grow g2).grow g3).pin hl3 hs3 own0
    refine hg _ S3 H3 (L2.wipe σ _) v (E3.wipe _) dv _ fun σ2 E4 hw => ⟨?_, ?_⟩
    · rw [hw _ his, wipe_wipe.idem]
    refine q_nil (c := c.blk scope) _ S3 H3 σ2 E4 (hKp _) _ fun S5 H5 g5 => ?_
    have hs5 : S5 D = none := g5.fr D (by rw [hl3]; simp) hs3
    have hl5 : H5 D = some (.lst acc) := g5.hh _ _ hl3
    show wI (c.blk scope) tg1 iter1 σ2 H5 _
    refine hit _ S5 H5 σ2 (E4.grow g5) (hKp _) _ fun J1 S6 H6 g6 wk1 => ?_
    have gg := ((g2.trans g3).trans g5).trans g6
    have E6 := (E4.grow g5).grow g6
    refine ⟨fun j k H' => j + k = m i ∧ ∃ S' acc', Ex S6 S' ∧ Grow S1 H1 S' H' ∧ Env (β.pin D (.lst acc')) S' H' σ2 ρ2 ∧ H' D = some (.lst acc') ∧ S' D = none ∧ DtAll S' acc' (out2 m f i ++ (List.range j).map (f i)),
      ⟨m i, by omega, S6, acc, Ex.rfl, gg, E6, g6.hh _ _ hl5, g6.fr D (by rw [hl5]; simp) hs5, by rw [List.range_zero, List.map_nil, List.append_nil]; exact dp_exs ((g3.ss.trans g5.ss).trans g6.ss) _ _ hacc⟩, fun j k H7 hW1 => ?_⟩
    obtain ⟨hjk, S7, acc7, x7, gt7, E7, hl7, hs7, ha7⟩ := hW1
    obtain ⟨go1, stop1, yld1⟩ := wk1 S7 H7 x7 gt7.sh
    by_cases hjl : j < m i
    · refine .inr ⟨go1 j (by omega), fun H' => ∃ S' acc', Ex S6 S' ∧ Grow S1 H1 S' H' ∧ Env (β.pin D (.lst acc')) S' H' σ2 ρ2 ∧ H' D = some (.lst acc') ∧ S' D = none ∧ DtAll S' acc' (out2 m f i ++ (List.range (j + 1)).map (f i)), fun H' hN => ⟨k - 1, by omega, by omega, hN⟩, fun v1 H8 hy1 => ?_⟩
      obtain ⟨S8, e', g8, he', dv1⟩ := yld1 j v1 H8 (by omega) hy1
      obtain ⟨is1, ρ3, hg1, his1, hel1⟩ := hel j e' hjl he'
      have hs8 : S8 D = none := g8.fr D (by rw [hl7]; simp) hs7
      have hl8 : H8 D = some (.lst acc7) := g8.hh _ _ hl7
      have E8 := E7.grow g8
      refine hg1 _ S8 H8 (L2.wipe σ2 vs1) v1 (E8.wipe vs1) dv1 _ fun σ3 E9 hw1 => ⟨?_, ?_⟩
      · rw [hw1 _ his1, wipe_wipe.idem]
      refine q_nil (c := c.blk scope) _ S8 H8 σ3 E9 (hKp _) _ fun S9 H9 g9 => ?_
      have hs9 : S9 D = none := g9.fr D (by rw [hl8]; simp) hs8
      have hl9 : H9 D = some (.lst acc7) := g9.hh _ _ hl8
      show wE (c.blk scope) elt σ3 H9 _
      refine hel1 _ S9 H9 σ3 (E9.grow g9) (hKp _) _ fun w r SA HA hr gA dw => ?_
      subst hr
      have hsA : SA D = none := gA.fr D (by rw [hl9]; simp) hs9
      have hlA : HA D = some (.lst acc7) := gA.hh _ _ hl9
      have e1 := (g8.trans g9).trans gA
      have haA : DtAll SA acc7 (out2 m f i ++ (List.range j).map (f i)) := dp_exs e1.ss _ _ ha7
      have gD : Grow S1 H1 SA (upd HA D (.lst (acc7 ++ [w]))) := by
        have t := gt7.trans e1
        exact ⟨t.ss, t.sh.wr hsA, t.hh.wr hD, t.fr⟩
      refine ⟨acc7, hlA, ?_, SA, acc7 ++ [w], x7.trans e1.ss, gD, (E7.grow e1).tick hsA, upd_same, hsA, ?_⟩
      · have h1 : acc7.length = (out2 m f i).length + j := by rw [da_len ha7, List.length_append, List.length_map, List.length_range]
        have h2 := small (i + 1) (by omega)
        rw [out2_succ, List.length_append, List.length_map, List.length_range] at h2
        have h3 : (1000000 : Nat) < sizeLine := by decide
        omega
      · rw [rng_snoc, ← List.append_assoc]
        exact da_app haA (.cons dw .nil)
    · have hj : j = m i := by omega
      subst hj
      refine .inl ⟨by rw [← hyl]; exact stop1, S7, acc7, gt7, hl7, hs7, ?_⟩
      rw [out2_succ]; exact ha7
  · have hi' : i = xs.length := by omega
    subst hi'
    exact .inl ⟨stop, q D acc _ S2 H2 rfl hD0 hld hsd hacc (g1.trans g2)⟩
end
end Bd
/-! x, *xs = .., chained comparisons, tests of sequences. -/
namespace Bd
open PySem PySem.Spec PyProof.Rows L2
/-! ### x, *xs -/
section
variable {P : Program} {w : World} {A : Around} {E : Value → Shared → Prop} {s : Shared} {a : Addr} {v0 : Value} {vs : List Value} {Q : List Value → Shared → Prop}
/-- behind the iterator's first item -/
theorem star_end {T : String} {St : Nat → Heap → Prop} {h1 : Heap} (hT : T = "str_ascii_iterator" ∨ T = "str_iterator" ∨ T = "list_iterator" ∨ T = "tuple_iterator")
    (W : Walks P w A.in1 s.heap.objs.size [s.heap.objs.size, a] [s.heap.objs.size] (v0 :: vs).toArray.size (fun i v => (v0 :: vs).toArray[i]? = some v) St) (tp : ∀ i (u : Shared), St i u.heap → u.TypeIs (.ref s.heap.objs.size) T) (st : St 1 h1)
    (l1 : s.heap.objs.size < h1.objs.size) (l2 : a < h1.objs.size) (old : ∀ b o, s.heap.get? b = some o → h1.get? b = some o) (hz : (v0 :: vs).length ≤ sizeLine)
    (k : ∀ (h2 : Heap) (tk : Nat), (∀ b o, s.heap.get? b = some o → h2.get? b = some o) → Q [v0, .ref h2.objs.size] { s with heap := h2.push { cls := .type "list", data := .seq vs.toArray }, toks := tk }) :
    wpAny (model P w) A (do
      let rest ← holding [v0] (collect (.ref s.heap.objs.size))
      let after := 2 - 1 - 1
      if rest.length < after then
        rule "unpack.star.too-few"
        raiseError "ValueError" s!"not enough values to unpack (expected at least {2 - 1}, got {1 + rest.length})"
      let mid := rest.length - after
      return [v0] ++ [← newList (rest.take mid)] ++ rest.drop mid) Q E { s with heap := h1 } := by
  have sz : (v0 :: vs).toArray.size = vs.length + 1 := by simp
  refine wpAny_bind (wpAny_holding (PySem.W.kun_collect (s := { s with heap := h1 }) (items := (v0 :: vs).toArray) (k := 1) hT W tp (by rw [sz]; omega) st l1 l2 (fun h2 tk keep => ?_) (by rw [sz]; exact hz)))
  have hr : (v0 :: vs).toArray.toList.drop 1 = vs := rfl
  rw [hr]
  show wpAny _ _ (if vs.length < 0 then _ else _) _ _ _
  rw [if_neg (Nat.not_lt_zero _)]
  show wpAny _ _ (newList (vs.take (vs.length - 0)) >>= fun d => pure ([v0] ++ [d] ++ vs.drop (vs.length - 0))) _ _ _
  rw [Nat.sub_zero, List.take_length, List.drop_length]
  unfold newList
  refine wpAny_bind (wpAny_newObj_type (wpAny_pure ?_) (by show vs.toArray.size ≤ sizeLine; rw [List.size_toArray]; rw [List.length_cons] at hz; omega))
  exact k h2 tk fun b o e => keep b o (fun z => by rw [z] at e; exact absurd (Heap.lt_size e) (Nat.lt_irrefl _)) (old b o e)
theorem star_tup (hh : A.handled = none) (ht : IsTup s.heap a (v0 :: vs).toArray) (hz : (v0 :: vs).length ≤ sizeLine)
    (k : ∀ (h2 : Heap) (tk : Nat), (∀ b o, s.heap.get? b = some o → h2.get? b = some o) → Q [v0, .ref h2.objs.size] { s with heap := h2.push { cls := .type "list", data := .seq vs.toArray }, toks := tk }) : wpAny (model P w) A (unpackItems (.ref a) 2 (some 1)) Q E s := by
  have al : a < s.heap.objs.size := by obtain ⟨o, ho, _⟩ := ht; exact Heap.lt_size ho
  unfold unpackItems
  refine wpAny_bind ?_
  unfold notIterableAtAll
  refine wpAny_bind (wpAny_specialOf ht.typeIs slot_tuple_iter.lookup (wpAny_pure ?_))
  simp only [Bool.false_eq_true, if_false]
  refine wpAny_bind (wpAny_holding (iter_tuple ht ?_))
  refine wpAny_bind (wpAny_holding (draw_tuple (Nat.ne_of_lt al) 1 0 _ _ ⟨_, Heap.get?_push_size _ rfl, rfl, rfl⟩ (ht.push _) (by simp) fun h1 hi hs => ?_))
  show wpAny _ _ (if [v0].length < 1 then _ else _) _ _ _
  rw [if_neg (show ¬ ([v0].length < 1) from Nat.lt_irrefl 1)]
  have t1 : IsTup h1 a (v0 :: vs).toArray := (ht.push _).extBut hs.extBut (Nat.ne_of_lt al)
  have l1 : s.heap.objs.size < h1.objs.size := by obtain ⟨o, ho, _⟩ := hi; exact Heap.lt_size ho
  exact star_end (T := "tuple_iterator") (.inr (.inr (.inr rfl))) (Walks.tuple (A := A.in1) hh _ a (Nat.ne_of_lt al) _) (fun j u st => st.1.typeIs) ⟨hi, t1⟩ l1 (Nat.lt_trans al l1) (fun b o e => hs.extBut b o (Nat.ne_of_lt (Heap.lt_size e)) (Heap.get?_push_of_some _ e)) hz k
theorem star_lst (hh : A.handled = none) (ht : s.heap.IsList a (v0 :: vs).toArray) (hz : (v0 :: vs).length ≤ sizeLine)
    (k : ∀ (h2 : Heap) (tk : Nat), (∀ b o, s.heap.get? b = some o → h2.get? b = some o) → Q [v0, .ref h2.objs.size] { s with heap := h2.push { cls := .type "list", data := .seq vs.toArray }, toks := tk }) : wpAny (model P w) A (unpackItems (.ref a) 2 (some 1)) Q E s := by
  have al : a < s.heap.objs.size := by obtain ⟨o, ho, _⟩ := ht; exact Heap.lt_size ho
  unfold unpackItems
  refine wpAny_bind ?_
  unfold notIterableAtAll
  refine wpAny_bind (wpAny_specialOf ht.typeIs slot_list_iter.lookup (wpAny_pure ?_))
  simp only [Bool.false_eq_true, if_false]
  refine wpAny_bind (wpAny_holding (wpAny_pyIter_list ht ?_))
  refine wpAny_bind (wpAny_holding (PySem.W.kun_draw (Nat.ne_of_lt al) 1 0 _ _ ⟨_, Heap.get?_push_size _ rfl, rfl, rfl⟩ (ht.push _) (by simp) fun h1 hi hs => ?_))
  show wpAny _ _ (if [v0].length < 1 then _ else _) _ _ _
  rw [if_neg (show ¬ ([v0].length < 1) from Nat.lt_irrefl 1)]
  have t1 : h1.IsList a (v0 :: vs).toArray := (ht.push _).extBut hs.extBut (Nat.ne_of_lt al)
  have l1 : s.heap.objs.size < h1.objs.size := by obtain ⟨o, ho, _⟩ := hi; exact Heap.lt_size ho
  exact star_end (T := "list_iterator") (.inr (.inr (.inl rfl))) (Walks.list (A := A.in1) hh _ a (Nat.ne_of_lt al) _) (fun j u st => st.1.typeIs) ⟨hi, t1⟩ l1 (Nat.lt_trans al l1) (fun b o e => hs.extBut b o (Nat.ne_of_lt (Heap.lt_size e)) (Heap.get?_push_of_some _ e)) hz k
end
theorem pgs_star {X : Cx} {e : Expr} {p : Pos} {t : TG} (h : PG X e t) (h1 : (assignEach [e] X.env).map (·.2) = [assign e X.env]) (hs : (assignEach [.Starred e p] X.env).map (·.2) = [assign e X.env]) : PGs X [.Starred e p] (gCons t gNil) := by
  have k := pgs_cons h pgs_nil (by rw [h1]; rfl)
  refine ⟨fun pins s σ H vs us Q I r hw => ?_⟩
  have z := k.run pins s σ H vs us Q I r hw
  rw [hs]
  rw [h1] at z
  exact z
/-- x, *xs = a sequence: the store -/
def gStar (K : PySem.W.Frag) (t : TGs) : TG := fun v σ H Q => ∃ a x xs, v = .ref a ∧ (SqT K H a (x :: xs) ∨ SqL K H a (x :: xs)) ∧ ∀ D, H D = none → t [x, .ref D] σ (upd H D (.lst xs)) Q
theorem pg_star {X : Cx} {es : List Expr} {k : Nat} {pos : Pos} {t : TGs} (hc : X.calm = true) (h : PGs X es t) (hn : (assignEach es X.env).length = 2) (hst : (assignEach es X.env).findIdx? (·.1) = some 1) : PG X (.Tuple es k pos) (gStar X.K t) := by
  refine ⟨fun pins s σ H v u Q I r hw => ?_⟩
  obtain ⟨a, x, xs, rfl, hq, hw⟩ := hw
  cases r
  rw [PyProof.Rows.assign_Tuple]
  refine wpAny_bind (wpAny_standAt ?_)
  unfold unpack
  rw [hn, hst]
  have fin : ∀ (u0 : Value) (us : List Value), RelV x u0 → Vals xs us → xs.length ≤ sizeLine → ∀ (h2 : Heap) (tk : Nat), (∀ b o, s.heap.get? b = some o → h2.get? b = some o) →
      wpAny (model X.prog X.w) X.A (assignInOrder ((assignEach es X.env).map (·.2)) [u0, .ref h2.objs.size]) (fun _ s' => ∃ σ' H', Inv X pins σ' H' s' ∧ Q σ' H') X.xe { s with heap := h2.push { cls := .type "list", data := .seq us.toArray }, toks := tk } := by
    intro u0 us r0 rs hz h2 tk keep
    have I1 : Inv X pins σ H { s with heap := h2, toks := tk } := I.kept keep
    have fr : H h2.objs.size = none := I1.hok.fresh (Nat.le_refl _)
    have I2 : Inv X pins σ (upd H h2.objs.size (.lst xs)) { s with heap := h2.push { cls := .type "list", data := .seq us.toArray }, toks := tk } :=
      I1.laid (t' := tk) (o := .lst xs) (fun b o e => Heap.get?_push_of_some _ e) (Nat.le_refl _) ⟨hz, us, 0, rs, Heap.get?_push_size _ rfl⟩
    exact h.run pins _ σ _ [x, .ref h2.objs.size] [u0, .ref h2.objs.size] Q I2 (.cons r0 (.cons rfl .nil)) (hw _ fr)
  rcases hq with hq | hq
  · obtain ⟨its, rv, p, hz⟩ := I.tuple hq
    cases rv with
    | cons r0 rs =>
      rw [List.length_cons] at hz
      exact wpAny_bind (wpAny_holding (star_tup (I.ok.hd hc) p (by rw [List.length_cons, ← rs.length]; exact hz) (fin _ _ r0 rs (by omega))))
  · obtain ⟨its, rv, p, hz⟩ := I.list hq
    cases rv with
    | cons r0 rs =>
      rw [List.length_cons] at hz
      exact wpAny_bind (wpAny_holding (star_lst (I.ok.hd hc) p.isList (by rw [List.length_cons, ← rs.length]; exact hz) (fin _ _ r0 rs (by omega))))
section
variable {c : Cc} {B : Bx} {ρ : List Cell} {M : Nat} {a b e tst : Expr} {es : List Expr} {pos p p2 p3 p4 : Pos} {x y z d : PyData} {op : Operator} {Φ : Po} {ss ts sts : List Stmt} {st : Stmt}
theorem gw_star (i j : Nat) {n1 n2 : Str} {k : Nat} {x0 : PyData} {xs : List PyData} (hx : seqD x = some (x0 :: xs)) (hN : c.N.Nodup) (hi : c.N[i]? = some n1 := by rfl) (hj : c.N[j]? = some n2 := by rfl) (h1 : Loc c.sc n1 := by first | exact Or.inl rfl | exact Or.inr rfl) (h2 : Loc c.sc n2 := by first | exact Or.inl rfl | exact Or.inr rfl)
    (f1 : c.fn n1 = true := by rfl) (f2 : c.fn n2 = true := by rfl) : GW c (.Tuple [.Name n1 p, .Starred (.Name n2 p2) p3] k p4) x ρ ((ρ.set i (Cell.d x0)).set j (Cell.o (.l xs))) := fun β S H σ v E hK dv Q q => by
  have core : ∀ (r : Addr) (v0 : V) (vs : List V), Dt S v0 x0 → DtAll S vs xs → (SqT c.g.K H r (v0 :: vs) ∨ SqL c.g.K H r (v0 :: vs)) → wG c (.Tuple [.Name n1 p, .Starred (.Name n2 p2) p3] k p4) (.ref r) σ H Q := by
    intro r v0 vs d0 ds hq
    refine wG_of (t := gStar c.g.K (gCons (gName i) (gCons (gName j) gNil))) (fun X hX => hX.K ▸ pg_star hX.calm (pgs_cons (pg_name (by rw [hX.N]; exact hN) (by rw [hX.N]; exact hi) (by rw [hX.sc]; exact h1) (.inl (hX.fn _ f1))) (pgs_star (pg_name (by rw [hX.N]; exact hN) (by rw [hX.N]; exact hj) (by rw [hX.sc]; exact h2) (.inl (hX.fn _ f2))) rfl rfl) rfl) rfl rfl)
      ⟨r, v0, vs, rfl, hq, fun D hD => ?_⟩
    obtain ⟨m1, m2, m3⟩ := E.new hD
    have g : Grow S H S (upd H D (.lst vs)) := Grow.own E.sh hD
    have E2 := (E.grow g).setD (i := i) d0
    have E3 := E2.setO (i := j) (p := D) (o := .lst vs) (C := .l xs) upd_same ⟨vs, rfl, ds⟩ m2 m1 (fun jj C' _ z z2 => by
      rcases set_get z with ⟨rfl, z1, _⟩ | ⟨ne, z3⟩
      · cases z1
      · rw [List.getElem?_set_ne (Ne.symm ne)] at z2
        exact m3 jj C' z3 z2)
    exact ⟨v0, [.ref D], rfl, .ref D, [], rfl, rfl, q _ S _ E3 Ex.rfl⟩
  cases x with
  | list ys =>
    cases hx
    cases dv with
    | lst hl ha => cases ha with
      | cons d0 ds => exact core _ _ _ d0 ds (.inr (sl_of (E.sh _ _ hl)))
  | tuple ys =>
    cases hx
    cases dv with
    | tup hl ha => cases ha with
      | cons d0 ds => exact core _ _ _ d0 ds (.inl (st_of (E.sh _ _ hl)))
  | none => cases hx
  | bool _ => cases hx
  | int _ => cases hx
  | str _ => cases hx
  | dict _ => cases hx
/-! ### i <= j < k -/
theorem e_chain {op op' : CmpOp} {cc : Expr} {t u : Bool} (h1 : ED c a ρ x) (h2 : ED c b ρ y) (r1 : CmpD c op x y (.bool t)) (h3 : t = true → ED c cc ρ z) (r2 : t = true → CmpD c op' y z (.bool u)) (hm : lastMarks [op, op'] [b, cc] = false := by with_unfolding_all rfl)
    (ho' : ∃ r', (∀ X, c.Has X → OpR X (compareOp op') r') ∧ (t = true → R2D r' y z (.bool u))) : ED c (.Compare a [op, op'] [b, cc] pos) ρ (.bool (t && u)) := fun β S H σ E hK Q q => by
  obtain ⟨r, ho, hr⟩ := r1
  obtain ⟨r', ho2, hr'⟩ := ho'
  refine wE_of (fun X hX => pe_chain (ho X hX) (ho2 X hX) (pe_w hX) (pe_w hX) (pe_w hX) hm) ?_
  refine h1 β S H σ E hK _ fun v d1 S1 H1 e1 g1 dv => h2 β S1 H1 σ (E.grow g1) hK _ fun w d2 S2 H2 e2 g2 dw => ?_
  subst e1 e2
  refine hr S2 H2 v w g2.sh (dp_ex g2.ss _ _ dv) dw _ fun k S3 H3 g3 dk => ?_
  cases dk
  refine ⟨t, rfl, ?_⟩
  have E3 := ((E.grow g1).grow g2).grow g3
  have g := (g1.trans g2).trans g3
  cases t with
  | false => exact q _ _ _ _ rfl g (.bl false)
  | true =>
    rw [if_pos rfl]
    refine h3 rfl β S3 H3 σ E3 hK _ fun w3 d3 S4 H4 e3 g4 d3' => ?_
    subst e3
    exact hr' rfl S4 H4 w w3 g4.sh (dp_ex (g3.ss.trans g4.ss) _ _ dw) d3' _ fun k S5 H5 g5 dk => q k _ S5 H5 (by rw [Bool.true_and]) ((g.trans g4).trans g5) dk
/-- i <= j < k, of ints -/
theorem e_within {i j k : Int} {cc : Expr} (h1 : ED c a ρ (.int i)) (h2 : ED c b ρ (.int j)) (h3 : ED c cc ρ (.int k)) (hm : lastMarks [.LtE, .Lt] [b, cc] = false := by with_unfolding_all rfl) : ED c (.Compare a [.LtE, .Lt] [b, cc] pos) ρ (.bool (decide (i ≤ j) && decide (j < k))) :=
  e_chain h1 h2 c_le (fun _ => h3) (fun _ => c_lt) hm ⟨_, fun _ _ => op_lt, fun _ => r2_I0 fun _ => .bl _⟩
/-! ### a sequence as a test -/
theorem t_seq {xs : List PyData} (h : ED c e ρ x) (hx : seqD x = some xs) (he : ∀ (env : PySem.Env) (whole : Sem Value), isTrue e env whole = (do let v ← whole; standAt e.pos; holding [v] (truthy v)) := by intro _ _; rfl) : TD c e ρ (!xs.isEmpty) := fun β S H σ E hK Q q =>
  wT_of (t := fun σ H Q => wE c e σ H fun x H' => ∃ k, TruV c.g.K x H' k ∧ Q k H') (fun X hX => hX.K ▸ pt_truth (pe_w hX) (he X.env)) (h β S H σ E hK _ fun v d S1 H1 hd g1 dv => by
    subst hd
    have emp : ∀ {vs : List V}, DtAll S1 vs xs → vs.isEmpty = xs.isEmpty := fun dd => by cases dd <;> rfl
    cases d with
    | list ys =>
      cases hx
      cases dv with
      | lst hl ha => exact ⟨_, .inl ⟨_, sl_of (g1.sh _ _ hl), by rw [emp ha]⟩, q _ S1 H1 rfl g1⟩
    | tuple ys =>
      cases hx
      cases dv with
      | tup hl ha => exact ⟨_, .inr (.inl ⟨_, st_of (g1.sh _ _ hl), by rw [emp ha]⟩), q _ S1 H1 rfl g1⟩
    | none => cases hx
    | bool _ => cases hx
    | int _ => cases hx
    | str _ => cases hx
    | dict _ => cases hx)
/-- an owned list as a test -/
theorem t_seqO (i : Nat) {n : Str} {xs : List PyData} {C : List PyData → Own} (ho : OL ρ i xs C) (hN : c.N[i]? = some n := by rfl) (hv : Vis c.sc n := by first | exact Or.inl rfl | exact Or.inr (Or.inl rfl) | exact Or.inr (Or.inr rfl))
    (hd : (n == ("__debug__" : Str)) = false := by decide) (hcd : (n == ("__classdict__" : Str)) = false := by decide) : TD c (.Name n p) ρ (!xs.isEmpty) := fun β S H σ E hK Q q => by
  obtain ⟨r, vs, h1, h2, h3, h4, h5⟩ := ho.get E
  refine wT_of (t := fun σ H Q => tVar i σ H fun x H' => ∃ k, TruV c.g.K x H' k ∧ Q k H') (fun X hX => hX.K ▸ pt_truth (pe_var (by rw [hX.N]; exact hN) (by rw [hX.sc]; exact hv) hd hcd) (fun _ => rfl)) ⟨_, h1, _, .inl ⟨_, sl_of h2, ?_⟩, q _ S H rfl (Grow.rfl E.sh)⟩
  cases h3 <;> rfl
end
end Bd
/-! is None, is of truths, tuple(sequence) as values. -/
namespace Bd
open PySem PySem.Spec PyProof.Rows L2
section
variable {c : Cc} {B : Bx} {ρ : List Cell} {M : Nat} {a b e tst : Expr} {es : List Expr} {pos p p2 p3 p4 : Pos} {x y z d : PyData} {op : Operator} {Φ : Po} {ss ts sts : List Stmt} {st : Stmt}
theorem e_isN {j : Nat} {pos' : Pos} (h : ED c a ρ x) : ED c (.Compare a [.Is] [.Constant .none j pos'] pos) ρ (.bool (isN x)) := fun β S H σ E hK Q q =>
  wE_of (t := tOp (fun x y H Q => y = .non ∧ Q (.bl (decide (x = .non))) H) (wE c a) (tC .non)) (fun X hX => pe_cmpR op_isN (pe_w hX) pe_non (nomark _)) (h β S H σ E hK _ fun v d S1 H1 e1 g1 dv => by
    subst e1
    refine ⟨rfl, ?_⟩
    rw [dt_isN dv]
    exact q _ _ S1 H1 rfl g1 (.bl _))
theorem e_isNN {j : Nat} {pos' : Pos} (h : ED c a ρ x) : ED c (.Compare a [.IsNot] [.Constant .none j pos'] pos) ρ (.bool (!isN x)) := fun β S H σ E hK Q q =>
  wE_of (t := tOp (fun x y H Q => y = .non ∧ Q (.bl (!decide (x = .non))) H) (wE c a) (tC .non)) (fun X hX => pe_cmpR op_notN (pe_w hX) pe_non (nomark _)) (h β S H σ E hK _ fun v d S1 H1 e1 g1 dv => by
    subst e1
    refine ⟨rfl, ?_⟩
    rw [dt_isN dv]
    exact q _ _ S1 H1 rfl g1 (.bl _))
theorem c_isB {t u : Bool} : CmpD c .Is (.bool t) (.bool u) (.bool (decide (t = u))) := ⟨_, fun _ _ => op_isBl, fun S H v w e d1 d2 Q q => by
  cases d1; cases d2
  exact ⟨t, u, rfl, rfl, q _ S H (Grow.rfl e) (.bl _)⟩⟩
theorem c_isnB {t u : Bool} : CmpD c .IsNot (.bool t) (.bool u) (.bool (!decide (t = u))) := ⟨_, fun _ _ => op_notBl, fun S H v w e d1 d2 Q q => by
  cases d1; cases d2
  exact ⟨t, u, rfl, rfl, q _ S H (Grow.rfl e) (.bl _)⟩⟩
/-- tuple(list or tuple) -/
theorem e_tupleS {xs : List PyData} (h : ED c a ρ x) (hx : seqD x = some xs) (hm : c.g.mg "tuple" = none) (hg : Glb c "tuple" := by rfl) (he : ∀ env : PySem.Env, starEach [a] env = (false, eval a env) :: starEach [] env := by intro _; rfl) :
    ED c (.Call (.Name "tuple" p) [a] [] pos) ρ (.tuple xs) := by
  cases x with
  | list ys => cases hx; exact e_tuple h hm hg he
  | tuple ys =>
    cases hx
    exact e_typ (fun X hX => hX.K ▸ call_tuple_of) (a_cons h a_nil he) (fun S H vs e dv Q q => by
      cases dv with
      | cons d1 d2 =>
        cases d2
        cases d1 with
        | tup hl ha => exact ⟨_, _, rfl, .inr ⟨st_of (e _ _ hl), q _ S H (Grow.rfl e) (.tup hl ha)⟩⟩) hm boot_tuple hg (by decide) (by decide) he (fun _ => rfl)
  | none => cases hx
  | bool _ => cases hx
  | int _ => cases hx
  | str _ => cases hx
  | dict _ => cases hx
theorem e_oneE {op : PySem.BoolOp} {P : PyData → Prop} (h : EV c a ρ P) : EV c (.BoolOp op [a] pos) ρ P := fun β S H σ E hK Q q => wE_of (fun X hX => pe_one (pe_w hX)) (h β S H σ E hK Q q)
theorem e_oneV {op : PySem.BoolOp} {P : Bool → Prop} {P2 : PyData → Prop} (h : EV c a ρ fun d => ∃ t, d = .bool t ∧ P t) (k : ∀ t, P t → P2 (.bool t)) : EV c (.BoolOp op [a] pos) ρ P2 := e_oneE (EV.mono h fun d ⟨t, e, ht⟩ => by rw [e]; exact k t ht)
theorem e_andV {P1 : Bool → Prop} {P : PyData → Prop} (h : EV c a ρ fun d => ∃ t, d = .bool t ∧ P1 t) (h1 : P1 true → EV c (.BoolOp .And (b :: es) pos) ρ P) (h2 : P1 false → P (.bool false)) : EV c (.BoolOp .And (a :: b :: es) pos) ρ P := fun β S H σ E hK Q q =>
  wE_of (fun X hX => pe_and (pe_w hX) (pe_w hX)) (h β S H σ E hK _ fun v k S1 H1 ⟨t, hk, ht⟩ g dv => by
    subst hk
    cases dv
    refine ⟨t, rfl, ?_⟩
    cases t with
    | true => exact h1 ht β S1 H1 σ (E.grow g) hK Q fun w b S2 H2 hb g2 dw => q w b S2 H2 hb (g.trans g2) dw
    | false => exact q _ _ S1 H1 (h2 ht) g (.bl false))
theorem e_isNV {j : Nat} {pos' : Pos} {P : Bool → Prop} (h : EV c a ρ fun d => P (isN d)) : EV c (.Compare a [.Is] [.Constant .none j pos'] pos) ρ (fun d => ∃ t, d = .bool t ∧ P t) := fun β S H σ E hK Q q =>
  wE_of (t := tOp (fun x y H Q => y = .non ∧ Q (.bl (decide (x = .non))) H) (wE c a) (tC .non)) (fun X hX => pe_cmpR op_isN (pe_w hX) pe_non (nomark _)) (h β S H σ E hK _ fun v d S1 H1 e1 g1 dv => by
    refine ⟨rfl, ?_⟩
    rw [dt_isN dv]
    exact q _ _ S1 H1 ⟨_, rfl, e1⟩ g1 (.bl _))
/-- tuple + tuple, neither empty -/
theorem b_catT {xs ys : List PyData} (h1 : xs ≠ []) (h2 : ys ≠ []) (hl : xs.length + ys.length ≤ 1000000) : BinD c .Add (.tuple xs) (.tuple ys) (.tuple (xs ++ ys)) := ⟨_, fun X hX => hX.K ▸ op_catT, fun S H v u e d1 d2 Q q => by
  cases d1 with
  | tup a1 a2 => cases d2 with
    | tup b1 b2 =>
      refine ⟨_, _, _, _, rfl, rfl, st_of (e _ _ a1), st_of (e _ _ b1), fun z => ?_, ?_, fun z => ?_, fun _ l hn => ?_⟩
      · subst z; cases a2; exact h1 rfl
      · rw [da_len a2, da_len b2]; exact Nat.le_trans hl (by decide)
      · subst z; cases b2; exact (h2 rfl).elim
      · exact q _ (upd S l (.tup _)) _ (Grow.new e hn) (.tup upd_same (dp_exs (Ex.new (e.back hn)) _ _ (da_app a2 b2)))⟩
end
/-! ### a kind told by lists or tuples, in any mix -/
structure KG (D R : Nat) (f : Nat → Nat → Nat × Nat) (x : PyData) : Prop where
  ex : ∃ xs, seqD x = some xs ∧ xs.length = R ∧ ∀ r, r < R → ∃ y ys, xs[r]? = some y ∧ seqD y = some ys ∧ ys.length = D ∧ ∀ d, d < D → ∃ p, ys[d]? = some p ∧ seqD p = some [.int (f r d).1, .int (f r d).2]
theorem KG_mk {D R : Nat} {f : Nat → Nat → Nat × Nat} : KG D R f (kD (mkK D R f)) := by
  refine ⟨?_⟩
  rw [kD_mk]
  exact ⟨_, rfl, by simp, fun r hr => ⟨_, _, rng_at hr, rfl, by simp, fun d hd => ⟨_, rng_at hd, rfl⟩⟩⟩
theorem KG_mkL {D R : Nat} {f : Nat → Nat → Nat × Nat} : KG D R f (toL (kD (mkK D R f))) := by
  refine ⟨?_⟩
  rw [kD_mk, toL, toLs_map, List.map_map]
  refine ⟨_, rfl, by simp, fun r hr => ⟨_, (List.range D).map fun d => toL (pD (f r d)), rng_at hr, ?_, by simp, fun d hd => ⟨_, rng_at hd, ?_⟩⟩⟩
  · show seqD (toL (.tuple _)) = _
    rw [toL, toLs_map, List.map_map]; rfl
  · show seqD (toL (.tuple [.int (f r d).1, .int (f r d).2])) = _
    rw [toL, toLs_map]; rfl
end Bd
/-! Two names at once of which one is a cell; calls on a new box. -/
namespace Bd
open PySem PySem.Spec PyProof.Rows L2
theorem swapped_cell2b {n1 n2 : Str} {v1 v2 : Expr} {p1 p2 p4 p5 : Pos} {k kv : Nat} {env : PySem.Env} (h : env.kindOf n2 = some .cell) : swappedStores [.Tuple [.Name n1 p1, .Name n2 p2] k p4] (.Tuple [v1, v2] kv p5) env = pure none := by
  unfold swappedStores
  simp only []
  cases h1 : (env.blockKind != ScopeKind.function)
  · cases h2 : ([v1, v2].any fun | .Starred .. => true | _ => false)
    · have e : ∀ (line : Nat), (([Expr.Name n1 p1, .Name n2 p2].filterMap fun | .Name id pos => if env.kindOf id == some .local && pos.line == line then some id else none | _ => none).length != 2) = true := by
        intro line
        simp only [List.filterMap_cons, List.filterMap_nil, h]
        cases (env.kindOf n1 == some NameKind.local && p1.line == line) <;> rfl
      have e2 := e p1.line
      exact (if_neg (by simp)).trans ((if_neg Bool.false_ne_true).trans (if_pos (by rw [Bool.or_eq_true]; exact .inl e2)))
    · rfl
  · rfl
section
variable {c : Cc} {B : Bx} {ρ : List Cell} {M : Nat} {a b e tst : Expr} {es : List Expr} {pos p p2 p3 p4 : Pos} {x y z d : PyData} {op : Operator} {Φ : Po} {ss ts sts : List Stmt} {st : Stmt}
/-- x, y = a, b, one of the names a cell: a tuple is made and taken apart -/
theorem s_tup2 (i j : Nat) {n1 n2 : Str} {p1 p2 p4 p5 : Pos} {k kv : Nat} {P : List Mv → List Cell → Prop} (h : AX c [a, b] ρ P) (hN : c.N.Nodup) (hn : ∀ ms r, P ms r → ∃ m1 m2, ms = [m1, m2] ∧ Φ.nx ((r.set i m1.cell).set j m2.cell))
    (hw : ∀ env : PySem.Env, env.scope = c.sc → swappedStores [.Tuple [.Name n1 p1, .Name n2 p2] k p4] (.Tuple [a, b] kv p5) env = pure none)
    (hi : c.N[i]? = some n1 := by rfl) (hj : c.N[j]? = some n2 := by rfl) (h1 : Loc c.sc n1 := by first | exact Or.inl rfl | exact Or.inr rfl) (h2 : Loc c.sc n2 := by first | exact Or.inl rfl | exact Or.inr rfl) (f1 : c.fn n1 = true := by rfl) (f2 : c.fn n2 = true := by rfl)
    (hs : ∀ env : PySem.Env, swapsWithSole [.Tuple [.Name n1 p1, .Name n2 p2] k p4] (.Tuple [a, b] kv p5) pos.line env = pure false := by intro _; rfl) :
    S1 c (.Assign [.Tuple [.Name n1 p1, .Name n2 p2] k p4] (.Tuple [a, b] kv p5) pos) ρ Φ := fun β S H σ D E hK kk =>
  wS_of (t := tAsg (tTup (wA c [a, b])) (gTup c.g.K 2 (gCons (gName i) (gCons (gName j) gNil)))) (fun X hX => ps_asg (pe_tup (pa_w hX)) (hX.K ▸ pg_tup hX.calm (pgs_cons (pg_name (by rw [hX.N]; exact hN) (by rw [hX.N]; exact hi) (by rw [hX.sc]; exact h1) (.inl (hX.fn _ f1))) (pgs_cons (pg_name (by rw [hX.N]; exact hN) (by rw [hX.N]; exact hj) (by rw [hX.sc]; exact h2) (.inl (hX.fn _ f2))) pgs_nil rfl) rfl) rfl rfl) (hs X.env) (hw X.env hX.sc)) (h β S H σ E hK _ fun vs ms r S1 H1 S2 H2 hp E1 e1 g pd => by
    obtain ⟨m1, m2, rfl, hnx⟩ := hn ms r hp
    match vs, pd with
    | [v1, v2], pd =>
      obtain ⟨d1, a1, d2, _⟩ := pd
      refine ⟨by show 2 ≤ sizeLine; decide, fun u hu => ?_⟩
      have gu : Grow S2 H2 S2 (upd H2 u (.tup [v1, v2])) := Grow.own g.sh hu
      have d1' := d1.grow gu
      have d2' := d2.grow gu
      have E2 := (E1.grow g).grow gu
      have f1 := E1.free d1
      have f2 := E1.free d2
      have E3 := E2.put i d1' f1
      have E4 := E3.put j d2' (f2.put i fun xs ys z1 z2 z3 => a1 ys z2 0 xs (by rw [z1]; rfl) (by rw [z3]; rfl))
      exact ⟨u, _, rfl, st_of upd_same, rfl, _, _, rfl, _, _, rfl, rfl, kk.nx _ S2 _ _ hnx (e1.trans g.ss) E4⟩)
/-- f(e), e a new box, f draws from it -/
theorem e_callBN {xn : Str} {j cost : Nat} {Pre : List PyData → Prop} {Post : List PyData → PyData → Prop} {P1 : List PyData → Prop} {gb : Bool} (D : Dg c.g gb xn j (SpB 0 cost Pre Post)) (h : EN c e ρ P1) (hb : ∀ xs, P1 xs → ∃ n x : Int, xs = [.int n, .int x, .int 0] ∧ 0 ≤ n ∧ 0 ≤ x ∧ x < 2147483647)
    (hp : Pre []) (hc : cost ≤ boxMax) (hj : j ≤ c.k := by exact Nat.le_of_ble_eq_true rfl) (hg : Glb c xn := by rfl)
    (hdb : (xn == ("__debug__" : Str)) = false := by decide) (he : ∀ env : PySem.Env, starEach [e] env = (false, eval e env) :: starEach [] env := by intro _; rfl)
    (hpl : ∀ env : PySem.Env, (backTo pos (starEach [] env)).any (·.1) = false := by intro _; rfl) (hgd : gb = true → c.gd = true := by first | exact fun _ => rfl | exact (fun h => nomatch h)) : EV c (.Call (.Name xn p) [e] [] pos) ρ (Post []) := fun β S H σ E hK Q q =>
  wE_of (fun X hX => pe_df hX D hgd hj hg hdb (he X.env) (hpl X.env)) (show wA c [e] σ H _ from wA_of (fun X hX => pa_cons (pe_w hX) pa_nil (he X.env)) (h β S H σ E hK _ fun r vs xs S1 H1 hx n1 n2 n3 n4 g1 => by
    obtain ⟨n, x, rfl, b1, b2, b3⟩ := hb xs hx
    show SpB 0 cost Pre Post ([V.ref r] ++ []) H1 Q E0
    refine ⟨rfl, S1, r, [], [], 0, rfl, g1.sh, n3, ⟨.lst vs, n2, ?_⟩, by omega, .nil, hp, fun v d S2 H2 hd t hb2 dv => q v d S2 H2 hd ⟨g1.ss.trans t.ss, t.sh, fun a o z => t.hh a o (fun w => by rw [w, n1] at z; cases z) (g1.hh a o z), fun a z1 z2 => t.fr a (fun w => z1 (g1.hh.back w)) (g1.fr a z1 z2)⟩ dv⟩
    cases n4 with
    | cons d1 r1 => cases r1 with
      | cons d2 r2 => cases r2 with
        | cons d3 r3 =>
          cases r3; cases d1; cases d2; cases d3
          exact ⟨n, x, 0, rfl, b1, b2, b3, by decide, by decide⟩))
end
end Bd
/-! Told trees: new lists within what is told, which may be changed. -/
namespace Bd
open PySem PySem.Spec PyProof.Rows L2

/-! ### trees -/
mutual
theorem tr_dt {S H : Hp} {f : Addr → Option (List V)} (e : Ex S H) (p : ∀ a vs, f a = some vs → H a = some (.lst vs)) : ∀ {v : V} {x : PyData} {as : List Addr}, Tr S f v x as → Dt H v x
  | _, _, _, .d h _ => dp_ex e _ _ h
  | _, _, _, .l h t => .lst (p _ _ h) (trs_dt e p t)
  | _, _, _, .t h t => .tup (e _ _ h) (trs_dt e p t)
theorem trs_dt {S H : Hp} {f : Addr → Option (List V)} (e : Ex S H) (p : ∀ a vs, f a = some vs → H a = some (.lst vs)) : ∀ {vs : List V} {xs : List PyData} {as : List Addr}, TrAll S f vs xs as → DtAll H vs xs
  | _, _, _, .nil => .nil
  | _, _, _, .cons h t => .cons (tr_dt e p h) (trs_dt e p t)
end
mutual
theorem tr_ex {S S' : Hp} {f f' : Addr → Option (List V)} (e : Ex S S') (p : ∀ a vs, f a = some vs → f' a = some vs) : ∀ {v : V} {x : PyData} {as : List Addr}, Tr S f v x as → Tr S' f' v x as
  | _, _, _, .d h n => .d (dp_ex e _ _ h) n
  | _, _, _, .l h t => .l (p _ _ h) (trs_ex e p t)
  | _, _, _, .t h t => .t (e _ _ h) (trs_ex e p t)
theorem trs_ex {S S' : Hp} {f f' : Addr → Option (List V)} (e : Ex S S') (p : ∀ a vs, f a = some vs → f' a = some vs) : ∀ {vs : List V} {xs : List PyData} {as : List Addr}, TrAll S f vs xs as → TrAll S' f' vs xs as
  | _, _, _, .nil => .nil
  | _, _, _, .cons h t => .cons (tr_ex e p h) (trs_ex e p t)
end
theorem trs_d {S : Hp} {f : Addr → Option (List V)} : ∀ {vs : List V} {xs : List PyData}, DtAll S vs xs → noLs xs = true → TrAll S f vs xs []
  | _, _, .nil, _ => .nil
  | _, _, .cons h t, n => by
    simp only [noLs, Bool.and_eq_true] at n
    exact .cons (as := []) (bs := []) (.d h n.1) (trs_d t n.2)
theorem trs_len {S : Hp} {f : Addr → Option (List V)} : ∀ {vs : List V} {xs : List PyData} {as : List Addr}, TrAll S f vs xs as → vs.length = xs.length
  | _, _, _, .nil => rfl
  | _, _, _, .cons _ t => by simp [trs_len t]
/-- a told pair of a list and data without lists -/
theorem tr_pair {S : Hp} {f : Addr → Option (List V)} {v : V} {xs : List PyData} {d : PyData} {as : List Addr} (h : Tr S f v (.tuple [.list xs, d]) as) : ∃ t l w ws, v = .ref t ∧ S t = some (.tup [.ref l, w]) ∧ f l = some ws ∧ ws.length = xs.length := by
  cases h with
  | d _ n => simp [noL, noLs] at n
  | t h t =>
    cases t with
    | cons h1 t1 =>
      cases h1 with
      | d _ n => simp [noL] at n
      | l h2 t2 =>
        cases t1 with
        | cons h3 t3 =>
          cases t3 with
          | nil => exact ⟨_, _, _, _, rfl, h, h2, trs_len t2⟩
/-- the new lists f, at H' -/
def Fresh (f : Addr → Option (List V)) (H S' H' : Hp) : Prop := ∀ a vs, f a = some vs → H a = none ∧ H' a = some (.lst vs) ∧ S' a = none
/-- e comes to a new tree of which P is true -/
def ET (c : Cc) (e : Expr) (ρ : List Cell) (P : PyData → Prop) : Prop :=
  ∀ (β : Bs) (S H : Hp) (σ : L2.St), Env β S H σ ρ → c.Ok β → ∀ Q : VK, (∀ v x S' H' f as, P x → Grow S H S' H' → Fresh f H S' H' → Tr S' f v x as → Q v H') → wE c e σ H Q
/-- what a def that tells a tree promises -/
def SpT (n : Nat) (Pre : List PyData → Prop) (Post : List PyData → PyData → Prop) : Sp := fun vs H Q _ => vs.length = n ∧ ∃ S ds, Ex S H ∧ DtAll S vs ds ∧ Pre ds ∧
  ∀ v x S' H' f as, Post ds x → Grow S H S' H' → Fresh f H S' H' → Tr S' f v x as → Q v H'
/-- the pinned lists let go -/
def Cc.out (c : Cc) (β : Bs) : Bs := ⟨β.K, β.S0, fun a => if (c.pf a).isSome then none else β.H0 a, β.mu⟩
theorem own_out {c : Cc} {β : Bs} {C : Own} {p : Addr} (h : ownAt β C p) : ownAt (c.out β) C p := by
  have l : β.H0 p = none → (c.out β).H0 p = none := fun z => by
    show (if (c.pf p).isSome then none else β.H0 p) = none
    split
    · rfl
    · exact z
  cases C with
  | l xs => exact l h
  | p xs => exact h
  | b n => exact h
  | c n => exact l h
  | m kvs => exact l h
theorem Env.out {c : Cc} {β : Bs} {S H : Hp} {σ : L2.St} {ρ : List Cell} (E : Env β S H σ ρ) : Env (c.out β) S H σ ρ where
  sh := E.sh
  ss := E.ss
  keep := fun a o h e => by
    have e : (if (c.pf a).isSome then none else β.H0 a) = some o := e
    split at e
    · cases e
    · exact E.keep a o h e
  fr := fun a h => E.fr a fun z => h (by
    show (if (c.pf a).isSome then none else β.H0 a) = none
    split
    · rfl
    · exact z)
  len := E.len
  dat := E.dat
  scr := E.scr
  own := fun i C h => by
    obtain ⟨p, o, h1, h2, h3, h4, h5⟩ := E.own i C h
    exact ⟨p, o, h1, h2, h3, h4, own_out h5⟩
  apart := E.apart
  val := E.val
theorem res_out {c : Cc} {β : Bs} {S H : Hp} {v : V} {r : Res} (h : ResOk β S H v r) : ResOk (c.out β) S H v r := by
  cases r with
  | d x => exact h
  | l xs =>
    obtain ⟨p, vs, h1, h2, h3, h4, h5⟩ := h
    exact ⟨p, vs, h1, h2, h3, h4, own_out (C := .l xs) h5⟩
  | t x =>
    obtain ⟨f, as, h1, h2⟩ := h
    exact ⟨f, as, fun a vs z => ⟨own_out (C := .l []) (h1 a vs z).1, (h1 a vs z).2⟩, h2⟩
def Cc.know (c : Cc) (S1 : Hp) (f : Addr → Option (List V)) : Cc := { c with S1 := S1, pf := f }
def Cc.bare (c : Cc) : Cc := c.know (fun _ => none) fun _ => none
/-- a body's beginning moved to where new lists f are pinned -/
def Bs.at (β : Bs) (S : Hp) (f : Addr → Option (List V)) : Bs := ⟨β.K, S, fun a => match f a with | some vs => some (.lst vs) | none => β.H0 a, fun a => β.mu a ∧ f a = none⟩
theorem at_some {β : Bs} {S : Hp} {f : Addr → Option (List V)} {a : Addr} {vs : List V} (h : f a = some vs) : (β.at S f).H0 a = some (.lst vs) := by
  show (match f a with | some vs => some (HO.lst vs) | none => β.H0 a) = _
  rw [h]
theorem at_none {β : Bs} {S : Hp} {f : Addr → Option (List V)} {a : Addr} (h : f a = none) : (β.at S f).H0 a = β.H0 a := by
  show (match f a with | some vs => some (HO.lst vs) | none => β.H0 a) = _
  rw [h]
theorem Env.setV {β : Bs} {S H : Hp} {σ : L2.St} {ρ : List Cell} (E : Env β S H σ ρ) {i : Nat} {v : V} : Env β S H (σ.set i (some v)) (ρ.set i (Cell.v v)) where
  sh := E.sh
  ss := E.ss
  keep := E.keep
  fr := E.fr
  len := by simp [E.len]
  dat := fun j y e => by
    rcases set_get e with ⟨rfl, e2, _⟩ | ⟨ne, e2⟩
    · cases e2
    · rw [List.getElem?_set_ne (Ne.symm ne)]; exact E.dat j y e2
  scr := fun j y e => by
    rcases set_get e with ⟨rfl, e2, _⟩ | ⟨ne, e2⟩
    · cases e2
    · rw [List.getElem?_set_ne (Ne.symm ne)]; exact E.scr j y e2
  own := fun j C e => by
    rcases set_get e with ⟨rfl, e2, _⟩ | ⟨ne, e2⟩
    · cases e2
    · rw [List.getElem?_set_ne (Ne.symm ne)]; exact E.own j C e2
  apart := fun j k C C' p hne e1 e2 s1 s2 => by
    rcases set_get e1 with ⟨rfl, z, _⟩ | ⟨n1, e1⟩
    · cases z
    rcases set_get e2 with ⟨rfl, z, _⟩ | ⟨n2, e2⟩
    · cases z
    rw [List.getElem?_set_ne (Ne.symm n1)] at s1
    rw [List.getElem?_set_ne (Ne.symm n2)] at s2
    exact E.apart j k C C' p hne e1 e2 s1 s2
  val := fun j w e => by
    rcases set_get e with ⟨rfl, e2, hl⟩ | ⟨ne, e2⟩
    · cases e2
      rw [List.getElem?_set_self (by rw [E.len]; exact hl)]
    · rw [List.getElem?_set_ne (Ne.symm ne)]; exact E.val j w e2
theorem Env.at {β : Bs} {S H : Hp} {σ : L2.St} {ρ : List Cell} {f : Addr → Option (List V)} (E : Env β S H σ ρ) (fr : ∀ a vs, f a = some vs → H a = some (.lst vs) ∧ S a = none ∧ ∀ (j : Nat) (C : Own), ρ[j]? = some (Cell.o C) → σ[j]? ≠ some (some (V.ref a))) : Env (β.at S f) S H σ ρ where
  sh := E.sh
  ss := Ex.rfl
  keep := fun a o h e => by
    cases q : f a with
    | some vs =>
      rw [at_some q] at e
      rw [(fr a vs q).1]; exact e
    | none =>
      rw [at_none q] at e
      exact E.keep a o (fun z => h ⟨z, q⟩) e
  fr := fun a h => by
    cases q : f a with
    | some vs => exact ⟨by rw [(fr a vs q).1]; simp, fun z => z⟩
    | none =>
      rw [at_none q] at h
      exact ⟨(E.fr a h).1, fun z => z⟩
  len := E.len
  dat := E.dat
  scr := E.scr
  own := fun i C h => by
    obtain ⟨p, u, e1, e2, e3, e4, e5⟩ := E.own i C h
    have q : f p = none := by
      cases q : f p with
      | none => rfl
      | some vs => exact ((fr p vs q).2.2 i C h e1).elim
    refine ⟨p, u, e1, e2, e3, e4, ?_⟩
    cases C with
    | l xs => exact (at_none q).trans e5
    | p xs => exact ⟨e5, q⟩
    | b n => exact ⟨e5, q⟩
    | c n => exact (at_none q).trans e5
    | m kvs => exact (at_none q).trans e5
  apart := E.apart
  val := E.val
/-- back from there -/
theorem Env.unat {β : Bs} {c : Cc} {S1 S H : Hp} {σ σ1 : L2.St} {ρ ρ1 : List Cell} {H1 : Hp} {f : Addr → Option (List V)} (E1 : Env β S1 H1 σ1 ρ1) (fr : ∀ a vs, f a = some vs → β.H0 a = none) (E : Env ((c.know S1 f).out (β.at S1 f)) S H σ ρ) : Env β S H σ ρ where
  sh := E.sh
  ss := E1.ss.trans E.ss
  keep := fun a o h e => by
    have q : f a = none := by
      cases q : f a with
      | none => rfl
      | some vs => rw [fr a vs q] at e; cases e
    refine E.keep a o (fun z => h z.1) ?_
    show (if (f a).isSome then none else (β.at S1 f).H0 a) = some o
    rw [q, at_none q]; exact e
  fr := fun a h => by
    have q : f a = none := by
      cases q : f a with
      | none => rfl
      | some vs => exact absurd (fr a vs q) h
    have r := E.fr a (by
      show (if (f a).isSome then none else (β.at S1 f).H0 a) ≠ none
      rw [q, at_none q]; exact h)
    exact ⟨r.1, fun z => r.2 ((E1.fr a h).2 z)⟩
  len := E.len
  dat := E.dat
  scr := E.scr
  own := fun i C h => by
    obtain ⟨p, u, e1, e2, e3, e4, e5⟩ := E.own i C h
    refine ⟨p, u, e1, e2, e3, e4, ?_⟩
    have l : (if (f p).isSome then none else (β.at S1 f).H0 p) = none → β.H0 p = none := fun z => by
      cases q : f p with
      | none => rw [q, at_none q] at z; exact z
      | some vs => exact fr p vs q
    cases C with
    | l xs => exact l e5
    | p xs => exact e5.1
    | b n => exact e5.1
    | c n => exact l e5
    | m kvs => exact l e5
  apart := E.apart
  val := E.val
theorem res_unat {β : Bs} {c : Cc} {S1 S H : Hp} {f : Addr → Option (List V)} (fr : ∀ a vs, f a = some vs → β.H0 a = none) {v : V} {r : Res} (h : ResOk ((c.know S1 f).out (β.at S1 f)) S H v r) : ResOk β S H v r := by
  cases r with
  | d x => exact h
  | l xs =>
    obtain ⟨p, vs, h1, h2, h3, h4, h5⟩ := h
    refine ⟨p, vs, h1, h2, h3, h4, ?_⟩
    have h5 : (if (f p).isSome then none else (β.at S1 f).H0 p) = none := h5
    cases q : f p with
    | none => rw [q, at_none q] at h5; exact h5
    | some vs => exact fr p vs q
  | t x =>
    obtain ⟨f2, as, h1, h2⟩ := h
    refine ⟨f2, as, fun a vs z => ⟨?_, (h1 a vs z).2⟩, h2⟩
    have h5 : (if (f a).isSome then none else (β.at S1 f).H0 a) = none := (h1 a vs z).1
    cases q : f a with
    | none => rw [q, at_none q] at h5; exact h5
    | some us => exact fr a us q
/-- statements while lists are pinned, up to where they are let go -/
def SVp (c : Cc) (sts : List Stmt) (ρ : List Cell) (Φ : Po) : Prop := ∀ (β : Bs) (S H : Hp) (σ : L2.St) (D : L2.Ends), Env β S H σ ρ → c.Ok β → Φ.Ends (c.out β) S D → wSs c sts D σ H
section
variable {c : Cc} {ρ : List Cell} {a b e : Expr} {es : List Expr} {pos p p2 p3 : Pos} {x y z d : PyData} {st : Stmt} {sts : List Stmt} {Φ : Po}
theorem wSs_cx {c c' : Cc} (hg : c'.g = c.g) (hN : c'.N = c.N) (hs : c'.sc = c.sc) (hf : c'.fn = c.fn) (hk : c'.k = c.k) (hd : c'.gd = c.gd) {D : L2.Ends} {σ : L2.St} {H : Hp} (h : wSs c' sts D σ H) : wSs c sts D σ H := fun X hX =>
  h X ⟨by rw [hg]; exact hX.P, by rw [hg]; exact hX.w, by rw [hg]; exact hX.K, by rw [hg]; exact hX.mg, by rw [hg]; exact hX.base, by rw [hN]; exact hX.N, by rw [hs]; exact hX.sc, by rw [hf]; exact hX.fn, hX.calm, by rw [hk]; exact hX.room, by rw [hd]; exact hX.gd, hX.xe⟩
theorem svp_cons (M : List Cell → Prop) (h1 : S1 c st ρ (Φ.to M)) (h2 : ∀ ρ', M ρ' → SVp c sts ρ' Φ) : SVp c (st :: sts) ρ Φ := fun β S H σ D E hK k =>
  wSs_of (fun X hX => pss_cons (ps_w hX) (pss_w hX)) (h1 β S H σ { D with nx := wSs c sts D } E hK ⟨fun σ' S' H' ρ' hm e E' => h2 ρ' hm β S' H' σ' D E' hK (k.mono e),
    fun v r σ' S' H' ρ' hr e E' ro => k.rt v r σ' S' H' ρ' hr e E'.out (res_out ro), fun σ' S' H' ρ' hr e E' => k.bk σ' S' H' ρ' hr e E'.out, fun σ' S' H' ρ' hr e E' => k.ct σ' S' H' ρ' hr e E'.out⟩)
theorem svp_to {ρ1 : List Cell} (h1 : S1 c st ρ (Φ.to fun r => r = ρ1)) (h2 : SVp c sts ρ1 Φ) : SVp c (st :: sts) ρ Φ := svp_cons _ h1 fun _ e => e ▸ h2
/-- nothing is to be changed any more -/
theorem svp_sv (h : SV c.bare sts ρ Φ) : SVp c sts ρ Φ := fun β S H σ D E hK k =>
  wSs_cx (c := c) (c' := c.bare) rfl rfl rfl rfl rfl rfl (h (c.out β) S H σ D E.out ⟨hK.1, (fun _ _ z => nomatch z), fun _ _ z => nomatch z⟩ k)
/-- x = e, e tells a new tree -/
theorem sv_setT (i : Nat) {n : Str} {P : PyData → Prop} (h : ET c e ρ P) (hN : c.N.Nodup) (k : ∀ v x S1 f as, P x → Tr S1 f v x as → SVp (c.know S1 f) sts (ρ.set i (Cell.v v)) Φ) (hi : c.N[i]? = some n := by rfl) (hx : Loc c.sc n := by first | exact Or.inl rfl | exact Or.inr rfl)
    (hf : c.fn n = true ∨ c.sc.names.lookup n = some .local := by first | exact Or.inl rfl | exact Or.inr rfl) (hs : ∀ env : PySem.Env, swapsWithSole [.Name n p2] e pos.line env = pure false := by intro _; rfl)
    (hw : ∀ env : PySem.Env, env.scope = c.sc → swappedStores [.Name n p2] e env = pure none := by intro _ _; rfl) : SV c (.Assign [.Name n p2] e pos :: sts) ρ Φ := fun β S H σ D E hK kk =>
  wSs_of (fun X hX => pss_cons (ps_asg (pe_w hX) (pg_name (by rw [hX.N]; exact hN) (by rw [hX.N]; exact hi) (by rw [hX.sc]; exact hx) (by
    rcases hf with h | h
    · exact .inl (hX.fn _ h)
    · exact .inr (by rw [hX.sc]; exact h))) (hs X.env) (hw X.env hX.sc)) (pss_w hX)) (h β S H σ E hK _ fun v x S' H' f as hp g fr tr => by
      have fr0 : ∀ a vs, f a = some vs → β.H0 a = none := fun a vs q => (E.new (fr a vs q).1).1
      have E1 := E.grow g
      refine wSs_cx (c := c) (c' := c.know S' f) rfl rfl rfl rfl rfl rfl (k v x S' f as hp tr (β.at S' f) S' H' _ D ((E1.at fun a vs q => ⟨(fr a vs q).2.1, (fr a vs q).2.2, (E.new (fr a vs q).1).2.2⟩).setV) ⟨hK.1, Ex.rfl, fun a vs q => ⟨at_some q, (fun z => by have q' : f a = some vs := q; rw [z.2] at q'; cases q'), (fr a vs q).2.2⟩⟩ ?_)
      exact ⟨fun σ' S'' H'' ρ' hn e E' => kk.nx σ' S'' H'' ρ' hn (g.ss.trans e) (E1.unat fr0 E'), fun v r σ' S'' H'' ρ' hr e E' ro => kk.rt v r σ' S'' H'' ρ' hr (g.ss.trans e) (E1.unat fr0 E') (res_unat fr0 ro),
        fun σ' S'' H'' ρ' hn e E' => kk.bk σ' S'' H'' ρ' hn (g.ss.trans e) (E1.unat fr0 E'), fun σ' S'' H'' ρ' hn e E' => kk.ct σ' S'' H'' ρ' hn (g.ss.trans e) (E1.unat fr0 E')⟩)
/-- a tree as data: its lists are never changed -/
theorem ET.ev {P : PyData → Prop} (h : ET c e ρ P) : EV c e ρ P := fun β S H σ E hK Q q => h β S H σ E hK Q fun v x S' H' f as hp g fr tr => by
  let S2 : Hp := fun a => match f a with | some vs => some (.lst vs) | none => S' a
  have e2 : Ex S' S2 := fun a o z => by
    show (match f a with | some vs => some (HO.lst vs) | none => S' a) = some o
    cases q : f a with
    | none => exact z
    | some vs => rw [(fr a vs q).2.2] at z; cases z
  have e3 : Ex S2 H' := fun a o z => by
    have z : (match f a with | some vs => some (HO.lst vs) | none => S' a) = some o := z
    cases q : f a with
    | none => rw [q] at z; exact g.sh a o z
    | some vs => rw [q] at z; rw [(fr a vs q).2.1]; exact z
  refine q v x S2 H' hp ⟨g.ss.trans e2, e3, g.hh, fun a h1 h2 => ?_⟩ (tr_dt e2 (fun a vs q => ?_) tr)
  · show (match f a with | some vs => some (HO.lst vs) | none => S' a) = none
    cases q : f a with
    | none => exact g.fr a h1 h2
    | some vs => exact absurd (fr a vs q).1 h1
  · show (match f a with | some vs => some (HO.lst vs) | none => S' a) = _
    rw [q]
theorem et_call {xn : Str} {j n : Nat} {Pre : List PyData → Prop} {Post : List PyData → PyData → Prop} {ds : List PyData} {gb : Bool} (D : Dg c.g gb xn j (SpT n Pre Post)) (ha : AD c (e :: es) ρ ds) (hp : Pre ds) (hl : ds.length = n := by rfl) (hj : j ≤ c.k := by exact Nat.le_of_ble_eq_true rfl)
    (hg : Glb c xn := by rfl) (hdb : (xn == ("__debug__" : Str)) = false := by decide) (he : ∀ env : PySem.Env, starEach (e :: es) env = (false, eval e env) :: starEach es env := by intro _; rfl)
    (hpl : ∀ env : PySem.Env, (backTo pos (starEach es env)).any (·.1) = false := by intro _; rfl) (hgd : gb = true → c.gd = true := by first | exact fun _ => rfl | exact (fun h => nomatch h)) : ET c (.Call (.Name xn p) (e :: es) [] pos) ρ (Post ds) := fun β S H σ E hK Q q =>
  wE_of (fun X hX => pe_df hX D hgd hj hg hdb (he X.env) (hpl X.env)) (ha β S H σ E hK _ fun vs ds' S1 H1 e1 g1 dvs => by
    subst e1
    show SpT n Pre Post (vs ++ []) H1 Q E0
    rw [List.append_nil]
    exact ⟨by rw [da_len dvs, hl], S1, ds', g1.sh, dvs, hp, fun v x S2 H2 f as hd g2 fr tr => q v x S2 H2 f as hd (g1.trans g2) (fun a vs z => ⟨g1.hh.back (fr a vs z).1, (fr a vs z).2⟩) tr⟩)
/-- a told tree, looked at -/
theorem eh_v (i : Nat) {n : Str} {w : V} {as : List Addr} (ho : ρ[i]? = some (Cell.v w)) (ht : Tr c.S1 c.pf w d as) (hN : c.N[i]? = some n := by rfl) (hv : Vis c.sc n := by first | exact Or.inl rfl | exact Or.inr (Or.inl rfl) | exact Or.inr (Or.inr rfl))
    (hd : (n == ("__debug__" : Str)) = false := by decide) (hcd : (n == ("__classdict__" : Str)) = false := by decide) : EH c (.Name n p) ρ d := fun β S H σ E hK Q q =>
  wE_of (fun X hX => pe_var (by rw [hX.N]; exact hN) (by rw [hX.sc]; exact hv) hd hcd) ⟨w, E.val i w ho, q w S H (Grow.rfl E.sh) (tr_dt ((hK.2.1.trans E.ss).trans E.sh) (fun a vs z => E.keep a _ (hK.2.2 a vs z).2.1 (hK.2.2 a vs z).1) ht)⟩
/-- arguments of the whole heap -/
def AH (c : Cc) (es : List Expr) (ρ : List Cell) (ds : List PyData) : Prop :=
  ∀ (β : Bs) (S H : Hp) (σ : L2.St), Env β S H σ ρ → c.Ok β → ∀ Q : List V → Hp → Prop, (∀ vs S' H', Grow S H S' H' → DtAll H' vs ds → Q vs H') → wA c es σ H Q
theorem ah_nil : AH c [] ρ [] := fun β S H σ E hK Q q => wA_of (fun X hX => pa_nil) (q [] S H (Grow.rfl E.sh) .nil)
theorem ah_cons {ds : List PyData} (h : EH c e ρ d) (hr : AH c es ρ ds) (hs : ∀ env : PySem.Env, starEach (e :: es) env = (false, eval e env) :: starEach es env := by intro _; rfl) : AH c (e :: es) ρ (d :: ds) := fun β S H σ E hK Q q =>
  wA_of (fun X hX => pa_cons (pe_w hX) (pa_w hX) (hs X.env)) (h β S H σ E hK _ fun v S1 H1 g1 dv => hr β S1 H1 σ (E.grow g1) hK _ fun vs S2 H2 g2 dvs => q (v :: vs) S2 H2 (g1.trans g2) (.cons (dp_ex g2.hh _ _ dv) dvs))
theorem eh_lst {ds : List PyData} (h : AH c es ρ ds) (hl : ds.length ≤ 1000000 := by simp) : EH c (.List es pos) ρ (.list ds) := fun β S H σ E hK Q q =>
  wE_of (fun X hX => pe_lst (pa_w hX)) (h β S H σ E hK _ fun vs S1 H1 g1 dvs => ⟨by rw [da_len dvs]; exact Nat.le_trans hl (by decide), fun r hr => q (.ref r) S1 _ (g1.trans (Grow.own g1.sh hr)) (.lst upd_same (dp_exs (Ex.new hr) _ _ dvs))⟩)
theorem eh_tup {ds : List PyData} {n : Nat} (h : AH c es ρ ds) (hl : ds.length ≤ 1000000 := by simp) : EH c (.Tuple es n pos) ρ (.tuple ds) := fun β S H σ E hK Q q =>
  wE_of (fun X hX => pe_tup (pa_w hX)) (h β S H σ E hK _ fun vs S1 H1 g1 dvs => ⟨by rw [da_len dvs]; exact Nat.le_trans hl (by decide), fun r hr => q (.ref r) S1 _ (g1.trans (Grow.own g1.sh hr)) (.tup upd_same (dp_exs (Ex.new hr) _ _ dvs))⟩)
/-- no list, no tuple -/
def atomD : PyData → Bool
  | .none => true
  | .bool _ => true
  | .int _ => true
  | .str _ => true
  | _ => false
theorem dt_atom {S S' : Hp} {v : V} : ∀ {d : PyData}, atomD d = true → Dt S v d → Dt S' v d
  | .none, _, h => by cases h; exact .non
  | .bool _, _, h => by cases h; exact .bl _
  | .int _, _, h => by cases h; exact .int _
  | .str _, _, h => by cases h; exact .str _
  | .list _, z, _ => nomatch z
  | .tuple _, z, _ => nomatch z
  | .dict _, z, _ => nomatch z
/-- f(es), what is handed in may be owned, what comes back is no sequence -/
theorem e_callH {xn : Str} {j n : Nat} {Pre : List PyData → Prop} {Post : List PyData → PyData → Prop} {ds : List PyData} {gb : Bool} (D : Dg c.g gb xn j (SpP n Pre Post)) (ha : AH c (e :: es) ρ ds) (hp : Pre ds) (hat : ∀ d, Post ds d → atomD d = true) (hl : ds.length = n := by rfl) (hj : j ≤ c.k := by exact Nat.le_of_ble_eq_true rfl)
    (hg : Glb c xn := by rfl) (hdb : (xn == ("__debug__" : Str)) = false := by decide) (he : ∀ env : PySem.Env, starEach (e :: es) env = (false, eval e env) :: starEach es env := by intro _; rfl)
    (hpl : ∀ env : PySem.Env, (backTo pos (starEach es env)).any (·.1) = false := by intro _; rfl) (hgd : gb = true → c.gd = true := by first | exact fun _ => rfl | exact (fun h => nomatch h)) : EV c (.Call (.Name xn p) (e :: es) [] pos) ρ (Post ds) := fun β S H σ E hK Q q =>
  wE_of (fun X hX => pe_df hX D hgd hj hg hdb (he X.env) (hpl X.env)) (ha β S H σ E hK _ fun vs S1 H1 g1 dvs => by
    show SpP n Pre Post (vs ++ []) H1 Q E0
    rw [List.append_nil]
    exact ⟨by rw [da_len dvs, hl], H1, ds, Ex.rfl, dvs, hp, fun v d S2 H2 hd g2 dv => q v d S1 H2 hd (g1.trans ⟨Ex.rfl, g1.sh.trans g2.hh, g2.hh, fun _ _ z => z⟩) (dt_atom (hat d hd) dv)⟩)
/-- return (x, e), x an owned list -/
theorem s_retT (i : Nat) {n : Str} {m : Nat} {xs : List PyData} (ho : ρ[i]? = some (Cell.o (.l xs))) (h : ED c e ρ d) (hnx : noLs xs = true) (hnd : noL d = true) (k : Φ.rt (.t (.tuple [.list xs, d])) ρ) (hN : c.N[i]? = some n := by rfl) (hv : Vis c.sc n := by first | exact Or.inl rfl | exact Or.inr (Or.inl rfl) | exact Or.inr (Or.inr rfl))
    (hd : (n == ("__debug__" : Str)) = false := by decide) (hcd : (n == ("__classdict__" : Str)) = false := by decide) (he : ∀ env : PySem.Env, starEach [.Name n p, e] env = (false, eval (.Name n p) env) :: starEach [e] env := by intro _; rfl) (he2 : ∀ env : PySem.Env, starEach [e] env = (false, eval e env) :: starEach [] env := by intro _; rfl) :
    S1 c (.Return (some (.Tuple [.Name n p, e] m pos)) p2) ρ Φ := fun β S H σ D E hK kk => by
  obtain ⟨r, o, h1, h2, ⟨vs, rfl, h3⟩, h4, h5⟩ := E.own i _ ho
  refine wS_of (fun X hX => ps_ret (pe_tup (pa_cons (pe_var (by rw [hX.N]; exact hN) (by rw [hX.sc]; exact hv) hd hcd) (pa_cons (pe_w hX) pa_nil (he2 X.env)) (he X.env)))) ⟨_, h1, h β S H σ E hK _ fun v d' S1 H1 e1 g1 dv => ?_⟩
  subst e1
  refine ⟨by show 2 ≤ sizeLine; decide, fun u hu => ?_⟩
  have gu : Grow S1 H1 (upd S1 u (.tup [.ref r, v])) (upd H1 u (.tup [.ref r, v])) := Grow.new g1.sh hu
  have g := g1.trans gu
  have hr1 : H1 r = some (.lst vs) := g1.hh _ _ h2
  refine kk.rt (.ref u) _ σ _ _ ρ k g.ss (E.grow g) ⟨fun a => if a = r then some vs else none, [r], fun a ws z => ?_, .t upd_same (TrAll.cons (as := [r]) (bs := []) (Tr.l (as := []) (if_pos rfl) ?_) (TrAll.cons (as := []) (bs := []) (.d (dp_ex gu.ss _ _ dv) hnd) .nil))⟩
  · by_cases q : a = r
    · subst q
      have z : (if a = a then some vs else none) = some ws := z
      rw [if_pos rfl] at z
      cases z
      exact ⟨h5, gu.hh _ _ hr1, g.fr a (by rw [h2]; simp) h4⟩
    · have z : (if a = r then some vs else none) = some ws := z
      rw [if_neg q] at z; cases z
  · exact trs_d (dp_exs g.ss _ _ h3) hnx
end
section
variable {g : Gc} {N ps : List Str} {qual xn : Str} {st : Stmt} {n k : Nat} {f : Addr} {fd : FuncData} {Pre : List PyData → Prop}
theorem fn_told {Post : List PyData → PyData → Prop} (F : Fun g.K xn qual st f fd) (S : FnScope N ps (defScope st)) (hn : ps.length = n) (hN : n ≤ N.length)
    (body : ∀ ds, ds.length = n → Pre ds → SV (cc0 g N st k) (defBody st) (rho0 N ds) { nx := fun _ => False, rt := fun r _ => ∃ x, r = .t x ∧ Post ds x }) : FnOk g.P g.w g.K g.mg g.base CX0 (k + 1) f fd ps (SpT n Pre Post) := by
  refine F.ok S (fun vs H Q E h => by rw [hn]; exact h.1) fun cdv A outer s H vs Q E hr h => ?_
  obtain ⟨hl, S0, ds, e, dv, hp, q⟩ := h
  have hds : ds.length = n := by rw [← da_len dv]; exact hl
  refine ⟨wSs (cc0 g N st k) (defBody st), pss_w (cc0_has hr), ?_⟩
  refine body ds hds hp ⟨g.K, S0, H, fun _ => False⟩ S0 H _ _ (env0 e dv (by omega)) ok_none ⟨fun σ' S' H' ρ' hn e' E' => hn.elim, fun v r σ' S' H' ρ' hr e' E' ro => ?_, fun _ _ _ _ h => h.elim, fun _ _ _ _ h => h.elim⟩
  obtain ⟨x, rfl, hd⟩ := hr
  obtain ⟨ff, as, h1, h2⟩ := ro
  exact q v x S' H' ff as hd (E'.grew rfl rfl fun _ h => h) h1 h2
end
section
variable {c : Cc} {ρ : List Cell} {a b e : Expr} {es : List Expr} {pos p p2 p3 : Pos} {x y z d : PyData} {st : Stmt} {sts : List Stmt} {Φ : Po}
/-- x, y = a, b, plain local names; a tells a tree, b a new list -/
theorem sv_parT (i j : Nat) {n1 n2 : Str} {p1 p2 p4 p5 : Pos} {kt kv : Nat} {P1 : PyData → Prop} {P2 : List PyData → Prop} (ha : ET c a ρ P1) (hb : EN c b ρ P2) (hN : c.N.Nodup)
    (k : ∀ v x S1 f as ys, P1 x → P2 ys → Tr S1 f v x as → SVp (c.know S1 f) sts ((ρ.set i (Cell.v v)).set j (Cell.o (.l ys))) Φ)
    (hi : c.N[i]? = some n1 := by rfl) (hj : c.N[j]? = some n2 := by rfl) (hij : i ≠ j := by decide) (h1 : c.sc.names.lookup n1 = some .local := by rfl) (h2 : c.sc.names.lookup n2 = some .local := by rfl) (hk : c.sc.kind = .function := by rfl) (hl : (p2.line == p1.line) = true := by rfl) (hne : (n2 == n1) = false := by decide)
    (hs : ([a, b].any fun | .Starred .. => true | _ => false) = false := by rfl) (hf : [a, b].all (foldedForSure 8) = false := by rfl) (hc : [a, b].all (constantsAlone 8) = false := by rfl)
    (hw : ∀ env : PySem.Env, swapsWithSole [.Tuple [.Name n1 p1, .Name n2 p2] kt p4] (.Tuple [a, b] kv p5) pos.line env = pure false := by intro _; rfl)
    (he : ∀ env : PySem.Env, starEach [a, b] env = (false, eval a env) :: starEach [b] env := by intro _; rfl) (he2 : ∀ env : PySem.Env, starEach [b] env = (false, eval b env) :: starEach [] env := by intro _; rfl) :
    SV c (.Assign [.Tuple [.Name n1 p1, .Name n2 p2] kt p4] (.Tuple [a, b] kv p5) pos :: sts) ρ Φ := fun β S H σ D E hK kk =>
  wSs_of (fun X hX => pss_cons (ps_par hX.calm (by rw [hX.N]; exact hN) (by rw [hX.N]; exact hi) (by rw [hX.N]; exact hj) hij (by rw [hX.sc]; exact h1) (by rw [hX.sc]; exact h2) (pa_cons (pe_w hX) (pa_cons (pe_w hX) pa_nil (he2 X.env)) (he X.env)) (swap2 hk h1 h2 hl hne hs hf hc X.env hX.sc) (hw X.env)) (pss_w hX))
    (ha β S H σ E hK _ fun v x S1 H1 f as hp g1 fr tr => hb β S1 H1 σ (E.grow g1) hK _ fun q ws ys S2 H2 hy q1 q2 q3 q4 g2 => by
      have g := g1.trans g2
      have fr0 : ∀ a vs, f a = some vs → β.H0 a = none := fun a vs z => (E.new (fr a vs z).1).1
      have E1 := E.grow g
      have fr2 : ∀ a vs, f a = some vs → H2 a = some (.lst vs) ∧ S2 a = none := fun a vs z => ⟨g2.hh _ _ (fr a vs z).2.1, g2.fr a (by rw [(fr a vs z).2.1]; simp) (fr a vs z).2.2⟩
      have fq : f q = none := by
        cases z : f q with
        | none => rfl
        | some vs => rw [(fr q vs z).2.1] at q1; cases q1
      obtain ⟨m1, m2, m3⟩ := (E.grow g1).new q1
      have Ea := (E1.at fun a vs z => ⟨(fr2 a vs z).1, (fr2 a vs z).2, (E.new (fr a vs z).1).2.2⟩).setV (i := i) (v := v)
      have Eb := Ea.setO (i := j) (p := q) (o := .lst ws) (C := .l ys) q2 ⟨ws, rfl, q4⟩ q3 ((at_none fq).trans m1) (fun jj C' _ z z2 => by
        rcases set_get z with ⟨rfl, z1, _⟩ | ⟨ne, z3⟩
        · cases z1
        · rw [List.getElem?_set_ne (Ne.symm ne)] at z2
          exact m3 jj C' z3 z2)
      refine ⟨v, .ref q, rfl, wSs_cx (c := c) (c' := c.know S2 f) rfl rfl rfl rfl rfl rfl (k v x S2 f as ys hp hy (tr_ex g2.ss (fun _ _ z => z) tr) (β.at S2 f) S2 H2 _ D Eb ⟨hK.1, Ex.rfl, fun a vs z => ⟨at_some z, (fun w => by have z' : f a = some vs := z; rw [w.2] at z'; cases z'), (fr2 a vs z).2⟩⟩ ?_)⟩
      exact ⟨fun σ' S'' H'' ρ' hn e E' => kk.nx σ' S'' H'' ρ' hn (g.ss.trans e) (E1.unat fr0 E'), fun v r σ' S'' H'' ρ' hr e E' ro => kk.rt v r σ' S'' H'' ρ' hr (g.ss.trans e) (E1.unat fr0 E') (res_unat fr0 ro),
        fun σ' S'' H'' ρ' hn e E' => kk.bk σ' S'' H'' ρ' hn (g.ss.trans e) (E1.unat fr0 E'), fun σ' S'' H'' ρ' hn e E' => kk.ct σ' S'' H'' ρ' hn (g.ss.trans e) (E1.unat fr0 E')⟩)
/-- x[k].append(e), x a told tuple: from there nothing is known of the tree -/
theorem svp_app (i : Nat) {n : Str} {t l : Addr} {vs ws : List V} {j : Nat} {k : Int} {pk ps pa : Pos} {jj : Nat} (ho : ρ[i]? = some (Cell.v (.ref t))) (ht : c.S1 t = some (.tup vs)) (hv : atI vs k = some (.ref l)) (hp : c.pf l = some ws) (h : ED c e ρ d) (hl : ws.length < 1000000) (hk : SV c.bare sts ρ Φ) (hN : c.N[i]? = some n := by rfl) (hvis : Vis c.sc n := by first | exact Or.inl rfl | exact Or.inr (Or.inl rfl) | exact Or.inr (Or.inr rfl))
    (hd : (n == ("__debug__" : Str)) = false := by decide) (hcd : (n == ("__classdict__" : Str)) = false := by decide) (he : ∀ env : PySem.Env, starEach [e] env = (false, eval e env) :: starEach [] env := by intro _; rfl)
    (hpl : ∀ env : PySem.Env, (backTo p3 (starEach [] env)).any (·.1) = false := by intro _; rfl) (hline : (pa.endLine == p3.line) = true := by rfl) :
    SVp c (.Expr (.Call (.Attribute (.Subscript (.Name n p) (.Constant (.int k) jj pk) ps) "append" pa) [e] [] p3) pos :: sts) ρ Φ := fun β S H σ D E hK kk => by
  have hlP := hK.2.2 l ws hp
  have hlH : H l = some (.lst ws) := E.keep l _ hlP.2.1 hlP.1
  have hlS : S l = none := (E.fr l (by rw [hlP.1]; simp)).2 hlP.2.2
  have htH : H t = some (.tup vs) := E.sh _ _ (E.ss _ _ (hK.2.1 _ _ ht))
  refine wSs_of (fun X hX => pss_cons (t := tDrop (tBM c.g.K "list" rAppend (tOp (rIxT c.g.K) (tVar i) (tC (.int k))) (tCons (wE c e) tNil))) (ps_expr (hX.K ▸ pe_bm PySem.F.plainAttrs_list PySem.F.slot_list_append PySem.F.type_list_append mt_append (pe_ix ix_tup (pe_var (by rw [hX.N]; exact hN) (by rw [hX.sc]; exact hvis) hd hcd) pe_int (by intro _ _; rfl)) (pa_cons (pe_w hX) pa_nil (he X.env)) rfl (by rw [he X.env]; rfl) hline (he X.env) (hpl X.env))) (pss_w hX)) ?_
  refine ⟨_, E.val i _ ho, t, vs, k, .ref l, rfl, rfl, st_of htH, hv, .inl ⟨rfl, _, sl_of hlH⟩, h β S H σ E hK _ fun w d' S1 H1 e1 g1 dw => ?_⟩
  subst e1
  refine ⟨l, ws, w, rfl, rfl, g1.hh _ _ hlH, Nat.lt_trans hl (by decide), ?_⟩
  have h0 : (c.out β).H0 l = none := by
    show (if (c.pf l).isSome then none else β.H0 l) = none
    rw [hp]; rfl
  have no : ∀ (C : Own) (q : Addr), ownAt β C q → q ≠ l := fun C q z e => by
    subst e
    cases C with
    | l xs => have z : β.H0 q = none := z; rw [hlP.1] at z; cases z
    | p xs => exact hlP.2.1 z
    | b n => exact hlP.2.1 z
    | c n => have z : β.H0 q = none := z; rw [hlP.1] at z; cases z
    | m kvs => have z : β.H0 q = none := z; rw [hlP.1] at z; cases z
  have hs1 : S1 l = none := g1.fr l (by rw [hlH]; simp) hlS
  have E1 := E.grow g1
  have E2 : Env (c.out β) S1 (upd H1 l (.lst (ws ++ [w]))) σ ρ := { E1.out (c := c) with
    sh := E1.sh.wr hs1
    keep := fun a u h e => by
      have q : a ≠ l := fun z => by rw [z, h0] at e; cases e
      rw [upd_ne q]; exact (E1.out (c := c)).keep a u h e
    fr := fun a h => by
      have q : a ≠ l := fun z => h (by rw [z]; exact h0)
      rw [upd_ne q]; exact (E1.out (c := c)).fr a h
    own := fun i C h => by
      obtain ⟨q, u, e1, e2, e3, e4, e5⟩ := E1.own i C h
      exact ⟨q, u, e1, by rw [upd_ne (no C q e5)]; exact e2, e3, e4, own_out e5⟩ }
  exact wSs_cx (c := c) (c' := c.bare) rfl rfl rfl rfl rfl rfl (hk (c.out β) S1 _ σ D E2 ⟨hK.1, (fun _ _ z => nomatch z), fun _ _ z => nomatch z⟩ (kk.mono g1.ss))
end
end Bd
namespace Law
open PySem PySem.Spec PyProof.Rows L2 Bd
def topS (i : Nat) : Stmt := PySem.Challenge.pw_ballways_k24_rows_sent_and_brought_back.main.body.getD i (.Pass ⟨0, 0, 0, 0⟩)
abbrev S_sent : Stmt := topS 1
abbrev S_back_row : Stmt := topS 2
abbrev S_law_box : Stmt := topS 4
abbrev S_law_take : Stmt := topS 5
abbrev S_law_folded : Stmt := topS 6
abbrev S_law_same : Stmt := topS 7
abbrev S_law_lists : Stmt := topS 8
abbrev S_law_of : Stmt := topS 9
abbrev S_law_kind : Stmt := topS 10
abbrev S_law_gone : Stmt := topS 11
abbrev S_law_row_right : Stmt := topS 12
abbrev S_law_right : Stmt := topS 13
abbrev S_law : Stmt := topS 14
/-! ### the law's box, its numbers, its cells -/
abbrev N_law_box : List Str := ["_law_script", "_law_k", "_law_cell"]
theorem sc_law_box : FnScope N_law_box ["_law_script", "_law_k"] (defScope S_law_box) := ⟨rfl, rfl, rfl, by decide +kernel, rfl, by decide +kernel, by decide +kernel⟩
theorem b01 (t : Bool) : -(2 ^ 64) < (if t = true then (1 : Int) else 0) ∧ (if t = true then (1 : Int) else 0) < 2 ^ 64 := by cases t <;> decide
theorem b01n (t : Bool) : 0 ≤ (if t = true then (1 : Int) else 0) := by cases t <;> decide
def boxPre (ds : List PyData) : Prop := ∃ (ns : List Int) (k : Nat), ds = [.list (ns.map .int), .int k] ∧ k ≤ 1000
def boxPost (_ : List PyData) (xs : List PyData) : Prop := ∃ n x : Int, xs = [.int n, .int x, .int 0] ∧ 0 ≤ n ∧ 0 ≤ x ∧ x < 2147483647
theorem ok_law_box {g : Gc} {k : Nat} {f : Addr} {fd : FuncData} (F : Fun g.K "_law_box" "_law_box" S_law_box f fd) (ml : g.mg "len" = none) (ma : g.mg "abs" = none) (mi : g.mg "int" = none) : FnOk g.P g.w g.K g.mg g.base CX0 (k + 1) f fd ["_law_script", "_law_k"] (SpL 2 boxPre boxPost) := by
  refine fn_list (N := N_law_box) F sc_law_box rfl (by decide) fun ds hl hp => ?_
  obtain ⟨ns, j, rfl, hj⟩ := hp
  refine sv_cons (fun r => ∃ z : Int, r = [Cell.d (.list (ns.map .int)), .d (.int j), .d (.int z)]) (s_setV 2 (P := fun d => ∃ z : Int, d = .int z) (e_if (t_cmp (e_var 1) (e_len (e_var 0) rfl ml) c_lt) (fun ht => ?_) (fun ht => e_int.mono fun d e => ⟨0, e⟩)) sc_law_box.nd fun d ⟨z, e⟩ => ⟨z, by subst e; rfl⟩) ?_
  · have hlt : (j : Int) < ((ns.map PyData.int).length : Nat) := of_decide_eq_true ht
    have hj2 : j < ns.length := by rw [List.length_map] at hlt; omega
    exact (e_ix (xs := ns.map .int) (z := .int ns[j]) (e_var 0) (e_var 1) rfl (atI_nat (by rw [List.getElem?_map, List.getElem?_eq_getElem hj2]; rfl))).mono fun d e => ⟨_, e⟩
  · rintro r ⟨z, rfl⟩
    refine sv_one (s_retL (n_lst (a_cons (e_bin (e_abs (e_var 2) ma) (e_intB (e_cmp (e_abs (e_var 2) ma) (e_bin e_int e_int (b_pow ⟨by decide, by decide, by decide⟩)) c_ge) mi) (b_mul (.inr (b01 _)))) (a_cons (e_bin (e_bin (e_bin (e_bin (e_bin (e_var 2) e_int (b_mod (by decide))) (e_bin e_int (e_var 1) (b_mul (.inl ⟨by decide, by decide⟩))) b_add) e_int b_add) e_int (b_mul (.inr ⟨by decide, by decide⟩))) e_int (b_mod (by decide))) (a_cons e_int a_nil)))) fun xs hx => ?_)
    · refine ⟨xs, rfl, _, _, hx, ?_, Int.emod_nonneg _ (by decide), Int.emod_lt_of_pos _ (by decide)⟩
      exact Int.mul_nonneg (by split <;> omega) (b01n _)
abbrev N_law_take : List Str := ["_law_box_here", "_law_size", "_law_found", "_law_step", "_law_once", "_law_twice"]
theorem sc_law_take : FnScope N_law_take ["_law_box_here", "_law_size"] (defScope S_law_take) := ⟨rfl, rfl, rfl, by decide +kernel, rfl, by decide +kernel, by decide +kernel⟩
def takePre (ds : List PyData) : Prop := ∃ s : Int, ds = [.int s] ∧ 1 ≤ s ∧ s ≤ 10000000
def takePost (ds : List PyData) (d : PyData) : Prop := ∃ s r : Int, ds = [.int s] ∧ d = .int r ∧ 0 ≤ r ∧ r < s
theorem ok_law_take {g : Gc} {k : Nat} {f : Addr} {fd : FuncData} (F : Fun g.K "_law_take" "_law_take" S_law_take f fd) (md : g.mg "divmod" = none) : FnOk g.P g.w g.K g.mg g.base CX0 (k + 1) f fd ["_law_box_here", "_law_size"] (SpB 1 1 takePre takePost) := by
  refine fn_box (N := N_law_take) F sc_law_take rfl (by decide) fun ds M hl hp hM => ?_
  obtain ⟨s, rfl, h1, h2⟩ := hp
  refine sv_open 0 fun n x k hn hx hx2 hk hkM => ?_
  have hk2 : k ≤ 1000000000 := by unfold boxMax at hM; omega
  have oB : ∀ {r : List Cell} {xs : List PyData}, r[0]? = some (Cell.o (.p xs)) → OL r 0 xs Own.p := fun h => ⟨h, .inr rfl⟩
  refine sv_cons (fun r => r = [Cell.o (.p [.int n, .int x, .int k]), .d (.int s), .u, .u, .u, .u] ∧ n = 0) (s_if (t_cmp (e_ixO 0 (oB rfl) e_int rfl) e_int c_gt) (fun ht => ?_) (fun ht => ?_)) ?_
  · have hn0 : 0 < n := of_decide_eq_true ht
    refine sv_to (s_asgD (e_divmod (e_ixO 0 (oB rfl) e_int rfl) (e_var 1) ⟨by omega, by omega⟩ md) (gw_tup (gws_cons (gw_sub 0 (j := 0) (oB rfl) e_int rfl) (gws_cons (gw_name 2 sc_law_take.nd) gws_nil))) rfl) ?_
    refine sv_one (s_retD (e_var 2) ?_)
    refine ⟨_, _, rfl, ⟨s, n % s, rfl, rfl, Int.emod_nonneg _ (by omega), Int.emod_lt_of_pos _ (by omega)⟩, rfl, .inr ⟨_, _, _, rfl, ?_, hx, hx2, hk, by omega⟩⟩
    exact Int.ediv_nonneg hn (by omega)
  · have hn0 : ¬ 0 < n := of_decide_eq_false ht
    exact sv_nil ⟨rfl, by omega⟩
  · rintro r ⟨rfl, hn0⟩
    subst hn0
    refine sv_to (ρ1 := [Cell.o (.p [.int 0, .int x, .int k]), .d (.int s), .u, .u, .u, .u]) (s_if (t_cmp (e_var 1) (e_bin e_int e_int (b_pow ⟨by decide, by decide, by decide⟩)) c_gt) (fun ht => ?_) (fun ht => sv_nil rfl)) ?_
    · have : (10 : Int) ^ (7 : Int).toNat < s := of_decide_eq_true ht
      have e : (10 : Int) ^ (7 : Int).toNat = 10000000 := by decide
      omega
    refine sv_to (ρ1 := [Cell.o (.p [.int 0, .int x, .int (k + 1)]), .d (.int s), .u, .u, .u, .u]) (s_asgD (e_bin (e_ixO 0 (oB rfl) e_int rfl) e_int b_add) (gw_sub 0 (j := 2) (oB rfl) e_int rfl) rfl) ?_
    have hk3 : 0 ≤ k + 1 ∧ k + 1 ≤ 1000000001 := by omega
    generalize hk1 : k + 1 = k1 at hk3 ⊢
    refine sv_to (s_set 3 (e_bin e_int (e_bin (e_ixO 0 (oB rfl) e_int rfl) (e_ixO 0 (oB rfl) e_int rfl) (b_mul (.inl ⟨by omega, by omega⟩))) b_add) sc_law_take.nd rfl) ?_
    refine sv_to (s_set 4 (e_bin (e_bin (e_bin (e_ixO 0 (oB rfl) e_int rfl) (e_bin e_int (e_ixO 0 (oB rfl) e_int rfl) (b_mul (.inl ⟨by omega, by omega⟩))) b_add) (e_var 3) (b_mul (.inl ⟨by omega, by omega⟩))) e_int (b_mod (by decide))) sc_law_take.nd rfl) ?_
    generalize hon : (x + 39373 * k1) * (69621 + k1 * k1) % 2147483587 = on
    have hon2 : 0 ≤ on ∧ on < 2147483587 := by rw [← hon]; exact ⟨Int.emod_nonneg _ (by decide), Int.emod_lt_of_pos _ (by decide)⟩
    refine sv_to (s_set 5 (e_bin (e_bin (e_bin (e_var 4) (e_bin (e_bin (e_var 4) e_int (b_mod (by decide))) e_int b_add) (b_mul (.inl ⟨by omega, by omega⟩))) (e_ixO 0 (oB rfl) e_int rfl) b_add) e_int (b_mod (by decide))) sc_law_take.nd rfl) ?_
    generalize htw : (on * (on % 30011 + 5) + k1) % 2147483563 = tw
    have htw2 : 0 ≤ tw ∧ tw < 2147483563 := by rw [← htw]; exact ⟨Int.emod_nonneg _ (by decide), Int.emod_lt_of_pos _ (by decide)⟩
    refine sv_one (s_retD (e_bin (e_bin (e_bin (e_bin (e_var 5) (e_bin (e_bin (e_var 5) e_int (b_mod (by decide))) e_int b_add) (b_mul (.inl ⟨by omega, by omega⟩))) e_int (b_mod (by decide))) e_int (b_div ⟨by decide, by decide⟩)) (e_var 1) (b_mod (by omega))) ?_)
    exact ⟨_, _, rfl, ⟨s, _, rfl, rfl, Int.emod_nonneg _ (by omega), Int.emod_lt_of_pos _ (by omega)⟩, rfl, .inr ⟨_, _, _, rfl, by decide, hx, hx2, by omega, by push_cast; omega⟩⟩
/-- a draw below s -/
theorem eb_take {g : Gc} {j : Nat} (DT : Df g "_law_take" j (SpB 1 1 takePre takePost)) {B : Bx} {bn : Str} {c : Cc} {r : List Cell} {m : Nat} {P : PyData → Nat → Prop} {e : Expr} {pos p p2 : Pos} (hg : c.g = g)
    (ha : AB c B [e] r m (fun ds m' => ∃ s : Int, ds = [.int s] ∧ 1 ≤ s ∧ s ≤ 10000000 ∧ m' + 1 ≤ boxMax ∧ ∀ z : Int, 0 ≤ z → z < s → P (.int z) (m' + 1)))
    (hN : c.N[B.i]? = some bn := by rfl) (hk : j ≤ c.k := by exact Nat.le_of_ble_eq_true rfl) (hG : Glb c "_law_take" := by rfl) (hV : Vis c.sc bn := by first | exact Or.inl rfl | exact Or.inr (Or.inl rfl) | exact Or.inr (Or.inr rfl))
    (hd : (bn == ("__debug__" : Str)) = false := by decide) (hcd : (bn == ("__classdict__" : Str)) = false := by decide)
    (he : ∀ env : PySem.Env, starEach [.Name bn p2, e] env = (false, eval (.Name bn p2) env) :: starEach [e] env := by intro _; rfl) (hpl : ∀ env : PySem.Env, (backTo pos (starEach [e] env)).any (·.1) = false := by intro _; rfl) : EB c B (.Call (.Name "_law_take" p) [.Name bn p2, e] [] pos) r m P := by
  subst hg
  refine eb_call DT (fun ok β S H σ q E hK hq hb Q k => ha ok β S H σ q E hK hq hb Q fun vs ds m' S' H' ⟨s, e1, e2, e3, e4, e5⟩ => k vs ds m' S' H' ⟨by rw [e1]; rfl, ⟨s, e1, e2, e3⟩, e4, fun d ⟨s', z, q1, q2, q3, q4⟩ => ?_⟩) hN hk hG hV (by decide) hd hcd he hpl
  rw [e1] at q1
  cases q1
  subst q2
  exact e5 z q3 q4
/-- a draw below a number told by data -/
theorem eb_takeD {g : Gc} {j : Nat} (DT : Df g "_law_take" j (SpB 1 1 takePre takePost)) {B : Bx} {bn : Str} {c : Cc} {r : List Cell} {m : Nat} {s : Int} {e : Expr} {pos p p2 : Pos} (hg : c.g = g)
    (ha : ED c e r (.int s)) (h1 : 1 ≤ s) (h2 : s ≤ 10000000) (hm : m + 1 ≤ boxMax)
    (hN : c.N[B.i]? = some bn := by rfl) (hk : j ≤ c.k := by exact Nat.le_of_ble_eq_true rfl) (hG : Glb c "_law_take" := by rfl) (hV : Vis c.sc bn := by first | exact Or.inl rfl | exact Or.inr (Or.inl rfl) | exact Or.inr (Or.inr rfl))
    (hd : (bn == ("__debug__" : Str)) = false := by decide) (hcd : (bn == ("__classdict__" : Str)) = false := by decide) (he0 : ∀ env : PySem.Env, starEach [e] env = (false, eval e env) :: starEach [] env := by intro _; rfl)
    (he : ∀ env : PySem.Env, starEach [.Name bn p2, e] env = (false, eval (.Name bn p2) env) :: starEach [e] env := by intro _; rfl) (hpl : ∀ env : PySem.Env, (backTo pos (starEach [e] env)).any (·.1) = false := by intro _; rfl) :
    EB c B (.Call (.Name "_law_take" p) [.Name bn p2, e] [] pos) r m (fun d m' => m' = m + 1 ∧ ∃ z : Int, d = .int z ∧ 0 ≤ z ∧ z < s) :=
  eb_take DT hg (ab_cons (hs := he0) (eb_ev ha) fun d m1 ⟨e1, e2⟩ => ab_nil ⟨s, by rw [e1], h1, h2, by omega, fun z z0 z1 => ⟨by rw [e2], z, rfl, z0, z1⟩⟩) hN hk hG hV hd hcd he hpl
abbrev N_law_folded : List Str := ["_law_script", "_law_size", "_law_cells", "_law_k", "_law_cell"]
theorem sc_law_folded : FnScope N_law_folded ["_law_script", "_law_size"] (defScope S_law_folded) := ⟨rfl, rfl, rfl, by decide +kernel, rfl, by decide +kernel, by decide +kernel⟩
def foldPre (ns : List Int) (ds : List PyData) : Prop := ns.length ≤ 63 ∧ ∃ s : Nat, ds = [.int s] ∧ 1 ≤ s ∧ s ≤ 8
def foldPost (ns : List Int) (ds : List PyData) (xs : List PyData) : Prop := ∃ (s : Nat) (ms : List Int), ds = [.int s] ∧ xs = ms.map .int ∧ ms.length = min ns.length s
theorem cut_front (ns : List Int) (s : Nat) : cutP (ns.map PyData.int) none (some (s : Int)) = (ns.take s).map PyData.int := by
  unfold cutP
  rw [HT.sIx_none, HT.sIx_nat, List.drop_zero, Nat.sub_zero, List.map_take, List.take_eq_take_iff]
  simp
theorem cut_mid (ns : List Int) (s : Nat) (h : ns.length ≤ 63) : cutP (ns.map PyData.int) (some (s : Int)) (some 63) = (ns.drop s).map PyData.int := by
  unfold cutP
  rw [HT.sIx_nat, show (63 : Int) = ((63 : Nat) : Int) from rfl, HT.sIx_nat, List.length_map, List.map_drop]
  by_cases hs : s ≤ ns.length
  · rw [Nat.min_eq_left hs, Nat.min_eq_right h]
    exact List.take_of_length_le (by simp)
  · rw [Nat.min_eq_right (show ns.length ≤ s by omega), Nat.min_eq_right h, Nat.sub_self, List.take_zero, List.drop_eq_nil_of_le (by simp; omega)]
theorem ok_law_folded {g : Gc} {k : Nat} {f : Addr} {fd : FuncData} (F : Fun g.K "_law_folded" "_law_folded" S_law_folded f fd) (ml : g.mg "list" = none) (me : g.mg "enumerate" = none) : FnOk g.P g.w g.K g.mg g.base CX0 (k + 1) f fd ["_law_script", "_law_size"] (SpS 1 g.K foldPre foldPost) := by
  refine fn_scr (N := N_law_folded) F sc_law_folded rfl (by decide) fun ns ds hl hp => ?_
  obtain ⟨hn, s, rfl, h1, h2⟩ := hp
  refine sv_cons (fun r => r = [Cell.s ns, .d (.int s), .o (.l ((ns.take s).map .int)), .u, .u]) (s_setN 2 (n_list (EL.ed (n_sliceS 0 rfl o_none (o_some (e_var 1)))) rfl ml) sc_law_folded.nd fun xs hx => ?_) ?_
  · rw [hx, cut_front]; rfl
  rintro r rfl
  refine sv_cons (fun r => ∃ (ms : List Int) (c3 c4 : Cell), r = [Cell.s ns, .d (.int s), .o (.l (ms.map .int)), c3, c4] ∧ ms.length = min ns.length s) (s_for (i_enum (EL.ed (n_sliceS 0 rfl (o_some (e_var 1)) (o_some e_int))) me) (fun i r => ∃ (ms : List Int) (c3 c4 : Cell), r = [Cell.s ns, .d (.int s), .o (.l (ms.map .int)), c3, c4] ∧ ms.length = min ns.length s)
    ⟨ns.take s, .u, .u, rfl, by rw [List.length_take]; omega⟩ (fun i d ρi hd hI => ?_) (fun ρ' h => h)) ?_
  · obtain ⟨ms, c3, c4, rfl, hm⟩ := hI
    rw [cut_mid ns s hn] at hd
    have hi : i < (ns.drop s).length := by
      have := (List.getElem?_eq_some_iff.mp hd).1
      rw [enumD_len, List.length_map] at this
      exact this
    rw [List.length_drop] at hi
    have hdr : ((ns.drop s).map PyData.int)[i]? = some (.int ((ns.drop s)[i]'(by rw [List.length_drop]; exact hi))) := by rw [List.getElem?_map, List.getElem?_eq_getElem (by rw [List.length_drop]; exact hi)]; rfl
    rw [enumD_get hdr] at hd
    have hd := (Option.some.inj hd).symm
    subst hd
    generalize (ns.drop s)[i]'(by rw [List.length_drop]; exact hi) = v
    refine ⟨_, gw_tup (gws_cons (gw_name 3 sc_law_folded.nd) (gws_cons (gw_name 4 sc_law_folded.nd) gws_nil)), ?_⟩
    have hs : (i : Int) % (s : Int) = ((i % s : Nat) : Int) := by omega
    have hlt : i % s < ms.length := by
      rw [hm]
      have := Nat.mod_lt i (show 0 < s by omega)
      omega
    have hat : atI (ms.map PyData.int) ((i : Int) % (s : Int)) = some (.int ms[i % s]) := by
      rw [hs]
      exact atI_nat (by rw [List.getElem?_map, List.getElem?_eq_getElem hlt]; rfl)
    have hix : ixN (ms.map PyData.int).length ((i : Int) % (s : Int)) = some (i % s) := by
      rw [hs, List.length_map]
      unfold ixN
      rw [if_pos (by omega), if_pos (by omega), Int.toNat_natCast]
    refine sv_one (s_asgD (e_bin (e_ixO 2 ⟨rfl, .inl rfl⟩ (e_bin (e_var 3) (e_var 1) (b_mod (by omega))) hat) (e_bin (e_var 4) (e_bin (e_var 3) e_int b_add) (b_mul (.inr ⟨by omega, by omega⟩))) b_add) (gw_sub 2 ⟨rfl, .inl rfl⟩ (e_bin (e_var 3) (e_var 1) (b_mod (by omega))) hix) ⟨ms.set (i % s) (ms[i % s] + v * ((i : Int) + 2)), .d (.int i), .d (.int v), ?_, by rw [List.length_set]; exact hm⟩)
    rw [List.map_set]; rfl
  · rintro r ⟨ms, c3, c4, rfl, hm⟩
    exact sv_one (s_retO 2 rfl ⟨_, rfl, s, ms, rfl, rfl, hm⟩)
/-! ### data with lists for tuples -/
abbrev N_law_lists : List Str := ["_law_thing", "_law_one"]
theorem sc_law_lists : FnScope N_law_lists ["_law_thing"] (defScope S_law_lists) := ⟨rfl, rfl, rfl, by decide +kernel, rfl, by decide +kernel, by decide +kernel⟩
/-- no list or tuple within is longer than a million -/
def szD : PyData → Bool
  | .list xs => decide (xs.length ≤ 1000000) && szDs xs
  | .tuple xs => decide (xs.length ≤ 1000000) && szDs xs
  | _ => true
where szDs : List PyData → Bool
  | [] => true
  | x :: xs => szD x && szDs xs
theorem szDs_all : ∀ {xs : List PyData}, szD.szDs xs = true ↔ ∀ x ∈ xs, szD x = true
  | [] => by simp [szD.szDs]
  | x :: xs => by rw [szD.szDs, Bool.and_eq_true, szDs_all (xs := xs)]; simp
def listsPre (n : Nat) (ds : List PyData) : Prop := ∃ x, ds = [x] ∧ okD n x = true ∧ szD x = true
def listsPost (ds : List PyData) (d : PyData) : Prop := ∃ x, ds = [x] ∧ d = toL x
theorem ok_law_lists {g : Gc} {f : Addr} {fd : FuncData} (F : Fun g.K "_law_lists" "_law_lists" S_law_lists f fd) (hf : g.mg "_law_lists" = some (.ref f)) (hb : Binds g.K fd ["_law_thing"] []) (mi : g.mg "isinstance" = none) (ml : g.mg "list" = none) (mt : g.mg "tuple" = none) :
    ∀ n : Nat, FnOk g.P g.w g.K g.mg g.base CX0 (n + 1) f fd ["_law_thing"] (SpP 1 (listsPre n) listsPost) := by
  have main : ∀ (n : Nat) (rec : ∀ m, n = m + 1 → Df g "_law_lists" n (SpP 1 (listsPre m) listsPost)), FnOk g.P g.w g.K g.mg g.base CX0 (n + 1) f fd ["_law_thing"] (SpP 1 (listsPre n) listsPost) := by
    intro n rec
    refine fn_pure (N := N_law_lists) F sc_law_lists rfl (by decide) fun ds hl hp => ?_
    obtain ⟨x, rfl, hx, hz⟩ := hp
    have leaf : kitB (tyD x) "list" = some false → kitB (tyD x) "tuple" = some false → toL x = x → SV (cc0 g N_law_lists S_law_lists n) (defBody S_law_lists) (rho0 N_law_lists [x]) { nx := fun _ => listsPost [x] .none, rt := fun r _ => ∃ d, r = .d d ∧ listsPost [x] d } := fun k1 k2 e =>
      sv_one (s_retD (d := x) (e_if (t_valD (e_isi2 (e_var 0) k1 k2 boot_list boot_tuple ml mt mi)) (fun ht => nomatch ht) (fun _ => e_var 0)) ⟨x, rfl, x, rfl, e.symm⟩)
    have node : ∀ (xs : List PyData) (m : Nat) (t u : Bool), n = m + 1 → okDs m xs = true → szD.szDs xs = true → xs.length ≤ 1000000 → (∀ (c : Cc) (ρ : List Cell), c.g = g → ∀ tg e, ED c e ρ x → ID c tg e ρ xs) → kitB (tyD x) "list" = some t → kitB (tyD x) "tuple" = some u → (t || u) = true → toL x = .list (toL.toLs xs) →
        SV (cc0 g N_law_lists S_law_lists n) (defBody S_law_lists) (rho0 N_law_lists [x]) { nx := fun _ => listsPost [x] .none, rt := fun r _ => ∃ d, r = .d d ∧ listsPost [x] d } := fun xs m t u hm h1 h2 h3 hI kt ku htu e => by
      have D := rec m hm
      refine sv_one (s_retD (d := .list (xs.map toL)) (e_if (t_valD (e_isi2 (e_var 0) kt ku boot_list boot_tuple ml mt mi)) (fun _ => ?_) (fun ht => by rw [htu] at ht; cases ht)) ⟨_, rfl, x, rfl, by rw [e, toLs_map]⟩)
      refine EL.ed (n_lcA [("_law_one", 1)] toL sc_law_lists.nd (hI _ _ rfl _ _ (e_var 0)) h3 rfl fun i d hd => ?_)
      refine ⟨[1], _, g_name 1 sc_law_lists.nd, fun j hj => hj, q_nil, fun _ => (e_call D (a_cons (e_var 1) a_nil) ⟨d, rfl, okDs_all.mp h1 d (List.mem_of_getElem? hd), szDs_all.mp h2 d (List.mem_of_getElem? hd)⟩ rfl (Nat.le_refl _)).mono fun r hr => ?_⟩
      obtain ⟨y, e1, e2⟩ := hr
      cases e1
      exact e2
    cases x with
    | none => exact leaf kb_NoneType_list kb_NoneType_tuple (by rw [toL])
    | bool b => exact leaf kb_bool_list kb_bool_tuple (by rw [toL])
    | int i => exact leaf kb_int_list kb_int_tuple (by rw [toL])
    | str s => exact leaf kb_str_list kb_str_tuple (by rw [toL])
    | list xs =>
      cases n with
      | zero => simp [okD] at hx
      | succ m =>
        rw [szD, Bool.and_eq_true] at hz
        exact node xs m true false rfl (by simpa [okD] using hx) hz.2 (of_decide_eq_true hz.1) (fun c ρ _ tg e h => i_list h) kb_list_list kb_list_tuple rfl (by rw [toL])
    | tuple xs =>
      cases n with
      | zero => simp [okD] at hx
      | succ m =>
        rw [szD, Bool.and_eq_true] at hz
        exact node xs m false true rfl (by simpa [okD] using hx) hz.2 (of_decide_eq_true hz.1) (fun c ρ _ tg e h => i_tup h) kb_tuple_list kb_tuple_tuple rfl (by rw [toL])
    | dict kvs => cases n <;> simp [okD] at hx
  intro n
  induction n with
  | zero => exact main 0 fun m h => nomatch h
  | succ n ih =>
    refine main (n + 1) fun m h => ?_
    obtain rfl : n = m := by omega
    exact ⟨f, fd, ["_law_thing"], hf, F.kp, hb, ih⟩
theorem sz_kD {D R : Nat} {f : Nat → Nat → Nat × Nat} (h1 : D ≤ 1000000) (h2 : R ≤ 1000000) : szD (kD (mkK D R f)) = true := by
  rw [kD_mk, szD, Bool.and_eq_true]
  refine ⟨by simpa using h2, szDs_all.mpr fun x hx => ?_⟩
  obtain ⟨r, _, rfl⟩ := List.mem_map.mp hx
  rw [szD, Bool.and_eq_true]
  refine ⟨by simpa using h1, szDs_all.mpr fun x hx => ?_⟩
  obtain ⟨d, _, rfl⟩ := List.mem_map.mp hx
  rfl
theorem ok_toL : ∀ (n : Nat) (d : PyData), okD n d = true → okD n (toL d) = true := by
  intro n
  induction n with
  | zero => intro d h; cases d <;> first | (simp [okD] at h; done) | (rw [toL]; exact h)
  | succ n ih =>
    intro d h
    have all : ∀ xs : List PyData, okDs n xs = true → okDs n (toL.toLs xs) = true := fun xs h => by
      rw [toLs_map, okDs_all]
      intro x hx
      obtain ⟨y, hy, rfl⟩ := List.mem_map.mp hx
      exact ih y (okDs_all.mp h y hy)
    cases d with
    | list xs => rw [toL]; simp [okD] at h ⊢; exact all xs h
    | tuple xs => rw [toL]; simp [okD] at h ⊢; exact all xs h
    | dict kvs => simp [okD] at h
    | none => rw [toL]; exact h
    | bool b => rw [toL]; exact h
    | int b => rw [toL]; exact h
    | str b => rw [toL]; exact h
/-! ### drawn kinds: the mathematics -/
def pk (q : Nat × Nat) : List Key := ikey [(q.1 : Int), (q.2 : Int)]
theorem pk_inj {q v : Nat × Nat} (h : pk q = pk v) : q = v := by
  unfold pk ikey at h
  simp only [List.map_cons, List.map_nil, List.cons.injEq, Sum.inl.injEq, and_true] at h
  exact Prod.ext (by omega) (by omega)
def allP (D R : Nat) : List (Nat × Nat) := (List.range R).flatMap fun r => (List.range D).map fun d => (d, r)
theorem mem_allP {D R : Nat} {q : Nat × Nat} : q ∈ allP D R ↔ q.1 < D ∧ q.2 < R := by
  unfold allP
  simp only [List.mem_flatMap, List.mem_range, List.mem_map]
  constructor
  · rintro ⟨r, hr, d, hd, rfl⟩
    exact ⟨hd, hr⟩
  · rintro ⟨h1, h2⟩
    exact ⟨q.2, h2, q.1, h1, rfl⟩
theorem allP_succ (D R : Nat) : allP D (R + 1) = allP D R ++ (List.range D).map fun d => (d, R) := by
  unfold allP
  rw [List.range_succ, List.flatMap_append, List.flatMap_cons, List.flatMap_nil, List.append_nil]
theorem len_allP (D R : Nat) : (allP D R).length = D * R := by
  induction R with
  | zero => rfl
  | succ R ih => rw [allP_succ, List.length_append, ih, List.length_map, List.length_range, Nat.mul_succ]
theorem nd_allP (D R : Nat) : (allP D R).Nodup := by
  induction R with
  | zero => exact List.nodup_nil
  | succ R ih =>
    rw [allP_succ, List.nodup_append]
    refine ⟨ih, ?_, fun a ha b hb => ?_⟩
    · refine List.Pairwise.map _ (fun a b h e => h (by cases e; rfl)) List.nodup_range
    · rintro rfl
      obtain ⟨d, _, rfl⟩ := List.mem_map.mp hb
      have := (mem_allP.mp ha).2
      omega
structure KInv (D R : Nat) (L : List (Nat × Nat)) (kvs : List (List Key × PyData)) : Prop where
  nd : L.Nodup
  sub : ∀ q ∈ L, q.1 < D ∧ q.2 < R
  led : ∀ q : Nat × Nat, q.1 < D → q.2 < R → q ∉ L → ∃ v : Nat × Nat, v.1 < D ∧ v.2 < R ∧ v ∉ L ∧ getD' kvs (pk q) = some (pD v) ∧ getD' kvs (pk v) = some (pD q)
theorem KInv.start (D R : Nat) : KInv D R (allP D R) [] := ⟨nd_allP D R, fun q h => mem_allP.mp h, fun q h1 h2 h3 => absurd (mem_allP.mpr ⟨h1, h2⟩) h3⟩
theorem mem_erase {L : List (Nat × Nat)} (h : L.Nodup) {i : Nat} {q : Nat × Nat} (hi : L[i]? = some q) : ∀ x, x ∈ L.eraseIdx i ↔ x ∈ L ∧ x ≠ q := by
  intro x
  obtain ⟨hl, rfl⟩ := List.getElem?_eq_some_iff.mp hi
  constructor
  · intro hx
    obtain ⟨j, hj, e⟩ := List.mem_eraseIdx_iff_getElem?.mp hx
    refine ⟨List.mem_of_getElem? e, fun z => ?_⟩
    subst z
    obtain ⟨hjl, ej⟩ := List.getElem?_eq_some_iff.mp e
    exact hj ((List.getElem_inj h).mp ej)
  · rintro ⟨hx, hne⟩
    obtain ⟨j, hj, rfl⟩ := List.mem_iff_getElem.mp hx
    refine List.mem_eraseIdx_iff_getElem?.mpr ⟨j, fun e => hne (by subst e; rfl), List.getElem?_eq_getElem hj⟩
theorem KInv.step {D R : Nat} {L L2 : List (Nat × Nat)} {kvs : List (List Key × PyData)} {one other : Nat × Nat} (I : KInv D R L kvs) (h1 : one ∈ L) (h2 : other ∈ L) (n2 : L2.Nodup) (hm : ∀ x, x ∈ L2 ↔ x ∈ L ∧ x ≠ one ∧ x ≠ other) :
    KInv D R L2 (putD' (putD' kvs (pk one) (pD other)) (pk other) (pD one)) := by
  have gput : ∀ q, getD' (putD' (putD' kvs (pk one) (pD other)) (pk other) (pD one)) (pk q) = if q = other then some (pD one) else if q = one then some (pD other) else getD' kvs (pk q) := by
    intro q
    rw [getD_put, getD_put]
    by_cases e1 : q = other
    · rw [if_pos (by rw [e1]), if_pos e1]
    · rw [if_neg (fun e => e1 (pk_inj e)), if_neg e1]
      by_cases e2 : q = one
      · rw [if_pos (by rw [e2]), if_pos e2]
      · rw [if_neg (fun e => e2 (pk_inj e)), if_neg e2]
  have g1 : getD' (putD' (putD' kvs (pk one) (pD other)) (pk other) (pD one)) (pk one) = some (pD other) := by
    rw [gput]
    by_cases e : one = other
    · rw [if_pos e, e]
    · rw [if_neg e, if_pos rfl]
  have g2 : getD' (putD' (putD' kvs (pk one) (pD other)) (pk other) (pD one)) (pk other) = some (pD one) := by rw [gput, if_pos rfl]
  refine ⟨n2, fun q hq => I.sub q ((hm q).mp hq).1, fun q hq1 hq2 hq => ?_⟩
  by_cases e1 : q = one
  · subst e1
    exact ⟨other, (I.sub _ h2).1, (I.sub _ h2).2, fun z => ((hm _).mp z).2.2 rfl, g1, g2⟩
  by_cases e2 : q = other
  · subst e2
    exact ⟨one, (I.sub _ h1).1, (I.sub _ h1).2, fun z => ((hm _).mp z).2.1 rfl, g2, g1⟩
  have hqL : q ∉ L := fun z => hq ((hm q).mpr ⟨z, e1, e2⟩)
  obtain ⟨v, v1, v2, v3, v4, v5⟩ := I.led q hq1 hq2 hqL
  have n1 : v ≠ one := fun z => v3 (by rw [z]; exact h1)
  have n3 : v ≠ other := fun z => v3 (by rw [z]; exact h2)
  refine ⟨v, v1, v2, fun z => v3 ((hm v).mp z).1, ?_, ?_⟩
  · rw [gput, if_neg e2, if_neg e1]; exact v4
  · rw [gput, if_neg n3, if_neg n1]; exact v5
/-- the kind that a table tells -/
def tabT (kvs : List (List Key × PyData)) (q : Nat × Nat) : Nat × Nat := match getD' kvs (pk q) with
  | some (.tuple [.int a, .int b]) => (a.toNat, b.toNat)
  | _ => (0, 0)
def tabK (D R : Nat) (kvs : List (List Key × PyData)) : List (List (Nat × Nat)) := (List.range R).map fun r => (List.range D).map fun d => tabT kvs (d, r)
theorem tabT_eq {kvs : List (List Key × PyData)} {q v : Nat × Nat} (h : getD' kvs (pk q) = some (pD v)) : tabT kvs q = v := by
  unfold tabT
  rw [h]
  simp [pD]
theorem kat_tab {D R : Nat} {kvs : List (List Key × PyData)} {r d : Nat} {v : Nat × Nat} (h : kat (tabK D R kvs) r d = some v) : r < R ∧ d < D ∧ v = tabT kvs (d, r) := by
  obtain ⟨row, h1, h2⟩ := kat_row h
  unfold tabK at h1
  rw [List.getElem?_map] at h1
  by_cases hr : r < R
  · rw [List.getElem?_range hr] at h1
    have h1 := Option.some.inj h1
    subst h1
    rw [List.getElem?_map] at h2
    by_cases hd : d < D
    · rw [List.getElem?_range hd] at h2
      exact ⟨hr, hd, (Option.some.inj h2).symm⟩
    · rw [List.getElem?_eq_none (by simpa using hd)] at h2; cases h2
  · rw [List.getElem?_eq_none (by simpa using hr)] at h1; cases h1
theorem tab_kat {D R : Nat} {kvs : List (List Key × PyData)} {r d : Nat} (hr : r < R) (hd : d < D) : kat (tabK D R kvs) r d = some (tabT kvs (d, r)) := by
  unfold kat tabK
  rw [List.getElem?_map, List.getElem?_range hr]
  show ((List.range D).map fun d => tabT kvs (d, r))[d]? = _
  rw [List.getElem?_map, List.getElem?_range hd]; rfl
theorem KInv.kind {D R : Nat} {kvs : List (List Key × PyData)} (I : KInv D R [] kvs) : GK D R (tabK D R kvs) ∧ ∀ r d, r < R → d < D → getD' kvs (pk (d, r)) = some (pD (tabT kvs (d, r))) := by
  have look : ∀ r d, r < R → d < D → ∃ v : Nat × Nat, v.1 < D ∧ v.2 < R ∧ getD' kvs (pk (d, r)) = some (pD v) ∧ getD' kvs (pk v) = some (pD (d, r)) := fun r d hr hd => by
    obtain ⟨v, v1, v2, _, v4, v5⟩ := I.led (d, r) hd hr (by simp)
    exact ⟨v, v1, v2, v4, v5⟩
  refine ⟨⟨by simp [tabK], fun row hrow => ?_, fun r d e s h => ?_⟩, fun r d hr hd => ?_⟩
  · unfold tabK at hrow
    obtain ⟨r, _, rfl⟩ := List.mem_map.mp hrow
    simp
  · obtain ⟨hr, hd, hv⟩ := kat_tab h
    obtain ⟨v, v1, v2, v4, v5⟩ := look r d hr hd
    rw [tabT_eq v4] at hv
    subst hv
    rw [tab_kat v2 v1, tabT_eq v5]
  · obtain ⟨v, v1, v2, v4, v5⟩ := look r d hr hd
    rw [tabT_eq v4, v4]
/-! ### drawn kinds: the walk -/
abbrev N_law_kind : List Str := ["_law_box_here", "_law_doors", "_law_rests", "_law_left", "_law_to", "_law_often", "_law_rest", "_law_turn", "_law_one", "_law_other", "_law_door"]
theorem sc_law_kind : FnScope N_law_kind ["_law_box_here", "_law_doors", "_law_rests"] (defScope S_law_kind) := ⟨rfl, rfl, rfl, by decide +kernel, rfl, by decide +kernel, by decide +kernel⟩
def kindPre (ds : List PyData) : Prop := ∃ D R : Nat, ds = [.int D, .int R] ∧ 1 ≤ D ∧ D ≤ 12 ∧ 1 ≤ R ∧ R ≤ 64
def kindPost (ds : List PyData) (d : PyData) : Prop := ∃ (D R : Nat) (k : List (List (Nat × Nat))), ds = [.int D, .int R] ∧ d = kD k ∧ GK D R k
theorem natD_len {L : List (Nat × Nat)} : (L.map pD).length = L.length := List.length_map _
theorem ok_law_kind {g : Gc} {f : Addr} {fd : FuncData} (F : Fun g.K "_law_kind" "_law_kind" S_law_kind f fd) {j : Nat} (hj : j = 1) (DT : Df g "_law_take" j (SpB 1 1 takePre takePost)) (mr : g.mg "range" = none) (ml : g.mg "len" = none) (mt : g.mg "tuple" = none) :
    FnOk g.P g.w g.K g.mg g.base CX0 2 f fd ["_law_box_here", "_law_doors", "_law_rests"] (SpB 2 4000 kindPre kindPost) := by
  subst hj
  refine fn_box (N := N_law_kind) F sc_law_kind rfl (by decide) fun ds M hl hp hM => ?_
  obtain ⟨D, R, rfl, hD1, hD2, hR1, hR2⟩ := hp
  have hDR : D * R ≤ 768 := Nat.le_trans (Nat.mul_le_mul hD2 hR2) (by decide)
  have ok0 : ∀ {r : List Cell} {m : Nat}, r[0]? = some (Cell.o (.b m)) → Bx.Ok ⟨0, Own.b⟩ r m := fun h => ⟨.inl rfl, h⟩
  have take : ∀ {c : Cc} {r : List Cell} {m : Nat} {P : PyData → Nat → Prop} {es : List Expr} {pos p p2 : Pos} (_ : c.g = g) (_ : 1 ≤ c.k) (_ : c.N[0]? = some ("_law_box_here" : Str)) (_ : Glb c "_law_take") (_ : Vis c.sc "_law_box_here")
      (_ : ∀ env : PySem.Env, starEach (.Name "_law_box_here" p2 :: es) env = (false, eval (.Name "_law_box_here" p2) env) :: starEach es env) (_ : ∀ env : PySem.Env, (backTo pos (starEach es env)).any (·.1) = false)
      (_ : AB c ⟨0, Own.b⟩ es r m (fun ds m' => ∃ s : Int, ds = [.int s] ∧ 1 ≤ s ∧ s ≤ 10000000 ∧ m' + 1 ≤ boxMax ∧ ∀ z : Int, 0 ≤ z → z < s → P (.int z) (m' + 1))), EB c ⟨0, Own.b⟩ (.Call (.Name "_law_take" p) (.Name "_law_box_here" p2 :: es) [] pos) r m P := by
    intro c r m P es pos p p2 hg hk hN hG hV he hpl ha
    subst hg
    refine eb_call DT (fun ok β S H σ q E hK hq hb Q k => ha ok β S H σ q E hK hq hb Q fun vs ds m' S' H' ⟨s, e1, e2, e3, e4, e5⟩ => k vs ds m' S' H' ⟨by rw [e1]; rfl, ⟨s, e1, e2, e3⟩, e4, fun d ⟨s', z, q1, q2, q3, q4⟩ => ?_⟩) hN hk hG hV (by decide) (by decide) (by decide) he hpl
    rw [e1] at q1
    cases q1
    subst q2
    exact e5 z q3 q4
  -- left, to, often
  refine sv_cons (fun r => ∃ o : Int, r = [Cell.o (.b (M + 1)), .d (.int D), .d (.int R), .o (.l []), .o (.m []), .d (.int o), .u, .u, .u, .u, .u] ∧ 2 ≤ o ∧ o ≤ 9)
    (s_init3 (i := 3) (j := 4) (k := 5) (ok0 rfl) (P := fun d m => ∃ o : Int, d = .int o ∧ 2 ≤ o ∧ o ≤ 9 ∧ m = M + 1)
      (eb_ix (eb_ev (e_lst (a_cons e_int (a_cons e_int (a_cons e_int a_nil))))) fun x M1 hx => ?_) sc_law_kind.nd (fun d m ⟨o, e1, e2, e3, e4⟩ => ⟨o, by subst e1 e4; rfl, e2, e3⟩) rfl rfl rfl (by decide) (.inl rfl) (.inr rfl) (.inl rfl) rfl rfl rfl
      (fun env h => swapped_cell (by show env.scope.names.lookup _ = _; rw [h]; rfl))) ?_
  · obtain ⟨rfl, rfl⟩ := hx
    refine take rfl (Nat.le_refl 1) rfl rfl (.inl rfl) (fun _ => rfl) (fun _ => rfl) (ab_cons (eb_ev e_int) fun d m1 ⟨e1, e2⟩ => ab_nil ?_)
    subst e1 e2
    refine ⟨3, rfl, by decide, by decide, by unfold boxMax at hM ⊢; omega, fun z h0 h3 => ?_⟩
    have hz : z = 0 ∨ z = 1 ∨ z = 2 := by omega
    rcases hz with rfl | rfl | rfl
    · exact ⟨_, 0, .int 2, rfl, rfl, rfl, 2, rfl, by decide, by decide, rfl⟩
    · exact ⟨_, 1, .int 5, rfl, rfl, rfl, 5, rfl, by decide, by decide, rfl⟩
    · exact ⟨_, 2, .int 9, rfl, rfl, rfl, 9, rfl, by decide, by decide, rfl⟩
  rintro r ⟨o, rfl, ho1, ho2⟩
  -- all doors at all rests
  refine sv_cons (fun r => ∃ c6 : Cell, r = [Cell.o (.b (M + 1)), .d (.int D), .d (.int R), .o (.l ((allP D R).map pD)), .o (.m []), .d (.int o), c6, .u, .u, .u, .u])
    (s_for (i_rangeN (e_var 2) mr (by omega)) (fun i r => ∃ c6 : Cell, r = [Cell.o (.b (M + 1)), .d (.int D), .d (.int R), .o (.l ((allP D i).map pD)), .o (.m []), .d (.int o), c6, .u, .u, .u, .u]) ⟨.u, rfl⟩ (fun i d ρi hd hI => ?_) (fun ρ' h => ?_)) ?_
  · obtain ⟨c6, rfl⟩ := hI
    obtain ⟨hi, rfl⟩ := rng_turn0 hd
    refine ⟨_, gw_name 6 sc_law_kind.nd, sv_one (s_setN 3 (n_catO 3 ⟨rfl, .inl rfl⟩ (n_lcI [("_law_door", 10)] (fun j => pD (j, i)) sc_law_kind.nd (i_rangeN (e_var 1) mr (by omega)) (by rw [rngD_len]; omega) rfl fun j d hd => ?_) (fun ys hy => ?_)) sc_law_kind.nd fun xs hx => ?_)⟩
    · obtain ⟨hj, rfl⟩ := rng_turn0 hd
      exact ⟨_, _, g_name 10 sc_law_kind.nd, fun _ h => h, q_nil, fun _ => e_tup (a_cons (e_var 10) (a_cons (e_var 6) a_nil))⟩
    · subst hy
      rw [List.length_map, len_allP, List.length_map, List.length_range, rngD_len]
      have : D * i ≤ D * R := Nat.mul_le_mul_left D (by omega)
      omega
    · obtain ⟨ys, rfl, rfl⟩ := hx
      refine ⟨.d (.int (i : Nat)), ?_⟩
      rw [rngD_len, allP_succ, List.map_append, List.map_map]
      rfl
  · rw [rngD_len] at h
    exact h
  rintro r ⟨c6, rfl⟩
  have shL : ∀ L' : List (Nat × Nat), SeqAt.shaped (.list (L'.map pD)) = true := fun L' => okD_shaped (n := 2) (by
    unfold okD
    rw [okDs_all]
    intro x hx
    obtain ⟨q, _, rfl⟩ := List.mem_map.mp hx
    exact ok_pD q)
  have neL : ∀ L' : List (Nat × Nat), (!PyData.eqv (.list (L'.map pD)) (.list [])) = decide (L' ≠ []) := fun L' => by
    cases L' with
    | nil => simp [PyData.eqv, PyData.eqvAll]
    | cons q r => simp [PyData.eqv, PyData.eqvAll]
  -- pairs
  refine sv_cons (fun r => ∃ (kvs : List (List Key × PyData)) (m : Nat) (c6 c7 c8 c9 : Cell), r = [Cell.o (.b m), .d (.int D), .d (.int R), .o (.l []), .o (.m kvs), .d (.int o), c6, c7, c8, c9, .u] ∧ KInv D R [] kvs ∧ m ≤ M + 4000)
    (s_for (i_rangeN (n := D * R) (EV.eq (e_bin (e_var 1) (e_var 2) (b_mul (.inl ⟨by omega, by omega⟩))) (by rw [Int.natCast_mul])) mr (by omega)) (fun t r => ∃ (L : List (Nat × Nat)) (kvs : List (List Key × PyData)) (m : Nat) (c6 c7 c8 c9 : Cell), r = [Cell.o (.b m), .d (.int D), .d (.int R), .o (.l (L.map pD)), .o (.m kvs), .d (.int o), c6, c7, c8, c9, .u] ∧ KInv D R L kvs ∧ (L = [] ∨ L.length + t ≤ D * R) ∧ m ≤ M + 1 + 3 * t ∧ kvs.length ≤ 2 * t)
      ⟨allP D R, [], M + 1, c6, .u, .u, .u, rfl, KInv.start D R, .inr (by rw [len_allP]; omega), by omega, by simp⟩ (fun t d ρi hd hI => ?_) (fun ρ' h => ?_)) ?_
  · obtain ⟨L, kvs, m, c6, c7, c8, c9, rfl, hK, hL, hm, hkv⟩ := hI
    obtain ⟨ht, rfl⟩ := rng_turn0 hd
    refine ⟨_, gw_name 7 sc_law_kind.nd, sv_one (s_if (TD.eq (t_neH (eh_var 3 ⟨rfl, .inl rfl⟩) (eh_of (e_lst a_nil)) (shL L) rfl) (neL L)) (fun hb => ?_) (fun hb => ?_))⟩
    · have hne : L ≠ [] := of_decide_eq_true hb
      have hL' : L.length + t ≤ D * R := hL.resolve_left hne
      have hpos : 0 < L.length := List.length_pos_iff.mpr hne
      -- one = left.pop(take(box, len(left)))
      refine sv_cons (fun r => ∃ (i : Nat) (q : Nat × Nat), L[i]? = some q ∧ r = [Cell.o (.b (m + 1)), .d (.int D), .d (.int R), .o (.l ((L.eraseIdx i).map pD)), .o (.m kvs), .d (.int o), c6, .d (.int (t : Nat)), .d (pD q), c9, .u])
        (s_setX 8 (P := fun d r => ∃ (i : Nat) (q : Nat × Nat), L[i]? = some q ∧ d = pD q ∧ r = [Cell.o (.b (m + 1)), .d (.int D), .d (.int R), .o (.l ((L.eraseIdx i).map pD)), .o (.m kvs), .d (.int o), c6, .d (.int (t : Nat)), c8, c9, .u])
          (xv_pop (C := Own.l) (P1 := fun d r => ∃ i : Nat, d = .int i ∧ i < L.length ∧ r = [Cell.o (.b (m + 1)), .d (.int D), .d (.int R), .o (.l (L.map pD)), .o (.m kvs), .d (.int o), c6, .d (.int (t : Nat)), c8, c9, .u]) 3 ⟨rfl, .inl rfl⟩
            (xv_eb (B := ⟨0, Own.b⟩) (ok0 rfl) (take rfl (Nat.le_refl 1) rfl rfl (.inl rfl) (fun _ => rfl) (fun _ => rfl) (ab_cons (eb_ev (e_lenO 3 ⟨rfl, .inl rfl⟩ ml)) fun d' m1 ⟨e1, e2⟩ => ab_nil ?_))) (fun d1 r1 ⟨i, e1, e2, e3⟩ => ?_) (by rw [List.length_map]; omega)) sc_law_kind.nd fun d1 r1 ⟨i, q, h1, h2, h3⟩ => ⟨i, q, h1, by rw [h2, h3]; rfl⟩) ?_
      · subst e1 e2
        rw [List.length_map]
        refine ⟨(L.length : Nat), rfl, by omega, by omega, by unfold boxMax at hM ⊢; omega, fun z h0 h1 => ⟨z.toNat, by rw [Int.toNat_of_nonneg h0], by omega, rfl⟩⟩
      · subst e1 e3
        refine ⟨⟨rfl, .inl rfl⟩, i, pD L[i], rfl, by rw [List.getElem?_map, List.getElem?_eq_getElem e2]; rfl, i, L[i], List.getElem?_eq_getElem e2, rfl, ?_⟩
        rw [eraseIdx_mapD]; rfl
      rintro r ⟨i, one, hone, rfl⟩
      have hoL : one ∈ L := List.mem_of_getElem? hone
      have nd1 : (L.eraseIdx i).Nodup := hK.nd.sublist (List.eraseIdx_sublist L i)
      have me1 := mem_erase hK.nd hone
      have len1 : (L.eraseIdx i).length + 1 = L.length := by
        have := (List.getElem?_eq_some_iff.mp hone).1
        rw [List.length_eraseIdx, if_pos this]; omega
      -- other
      refine sv_cons (fun r => ∃ (other : Nat × Nat) (L2 : List (Nat × Nat)) (m2 : Nat), other ∈ L ∧ L2.Nodup ∧ (∀ x, x ∈ L2 ↔ x ∈ L ∧ x ≠ one ∧ x ≠ other) ∧ L2.length + 1 ≤ L.length ∧ m2 ≤ m + 3 ∧ r = [Cell.o (.b m2), .d (.int D), .d (.int R), .o (.l (L2.map pD)), .o (.m kvs), .d (.int o), c6, .d (.int (t : Nat)), .d (pD one), .d (pD other), .u])
        (s_setX 9 (P := fun d r => ∃ (other : Nat × Nat) (L2 : List (Nat × Nat)) (m2 : Nat), other ∈ L ∧ L2.Nodup ∧ (∀ x, x ∈ L2 ↔ x ∈ L ∧ x ≠ one ∧ x ≠ other) ∧ L2.length + 1 ≤ L.length ∧ m2 ≤ m + 3 ∧ d = pD other ∧ r = [Cell.o (.b m2), .d (.int D), .d (.int R), .o (.l (L2.map pD)), .o (.m kvs), .d (.int o), c6, .d (.int (t : Nat)), .d (pD one), c9, .u])
          (xv_if (P1 := fun b r => (b = true → L.eraseIdx i ≠ []) ∧ ∃ m2, m2 ≤ m + 2 ∧ r = [Cell.o (.b m2), .d (.int D), .d (.int R), .o (.l ((L.eraseIdx i).map pD)), .o (.m kvs), .d (.int o), c6, .d (.int (t : Nat)), .d (pD one), c9, .u])
            (xt_and (P1 := fun b r => b = decide (L.eraseIdx i ≠ []) ∧ r = [Cell.o (.b (m + 1)), .d (.int D), .d (.int R), .o (.l ((L.eraseIdx i).map pD)), .o (.m kvs), .d (.int o), c6, .d (.int (t : Nat)), .d (pD one), c9, .u])
              (xt_tv (TV.mono (t_neH (eh_var 3 ⟨rfl, .inl rfl⟩) (eh_of (e_lst a_nil)) (shL _) rfl) fun b e => ⟨by rw [e, neL], rfl⟩)) (fun r1 ⟨e1, e2⟩ => ?_) (fun r1 ⟨e1, e2⟩ => ⟨(fun h => nomatch h), m + 1, by omega, e2⟩)) (fun r1 ⟨e1, m2, e2, e3⟩ => ?_) (fun r1 ⟨e1, m2, e2, e3⟩ => ?_)) sc_law_kind.nd fun d1 r1 ⟨other, L2, m2, h1, h2, h3, h4, h5, h6, h7⟩ => ⟨other, L2, m2, h1, h2, h3, h4, h5, by rw [h6, h7]; rfl⟩) ?_
      · subst e2
        refine xt_tb (B := ⟨0, Own.b⟩) (ok0 rfl) (tb_gt (P1 := fun x m1 => ∃ z : Int, x = .int z ∧ m1 = m + 2) (take rfl (Nat.le_refl 1) rfl rfl (.inl rfl) (fun _ => rfl) (fun _ => rfl) (ab_cons (eb_ev (e_var 5)) fun d' m1 hq => ab_nil ?_)) fun x m1 ⟨z, q1, q2⟩ => EB.mono (eb_ev e_int) fun y m3 ⟨q3, q4⟩ => ⟨z, 0, q1, q3, fun _ => of_decide_eq_true e1.symm, m + 2, by omega, by rw [q4, q2]; rfl⟩)
        obtain ⟨q1, q2⟩ := hq
        subst q1 q2
        exact ⟨o, rfl, by omega, by omega, by unfold boxMax at hM ⊢; omega, fun z _ _ => ⟨z, rfl, rfl⟩⟩
      · subst e3
        have hne2 := e1 rfl
        have hpos2 : 0 < (L.eraseIdx i).length := List.length_pos_iff.mpr hne2
        refine xv_pop (C := Own.l) (P1 := fun d r => ∃ j : Nat, d = .int j ∧ j < (L.eraseIdx i).length ∧ r = [Cell.o (.b (m2 + 1)), .d (.int D), .d (.int R), .o (.l ((L.eraseIdx i).map pD)), .o (.m kvs), .d (.int o), c6, .d (.int (t : Nat)), .d (pD one), c9, .u]) 3 ⟨rfl, .inl rfl⟩
          (xv_eb (B := ⟨0, Own.b⟩) (ok0 rfl) (take rfl (Nat.le_refl 1) rfl rfl (.inl rfl) (fun _ => rfl) (fun _ => rfl) (ab_cons (eb_ev (e_lenO 3 ⟨rfl, .inl rfl⟩ ml)) fun d' m1 ⟨q1, q2⟩ => ab_nil ?_))) (fun d1 r1 ⟨j, q1, q2, q3⟩ => ?_) (by rw [List.length_map]; omega)
        · subst q1 q2
          rw [List.length_map]
          exact ⟨((L.eraseIdx i).length : Nat), rfl, by omega, by omega, by unfold boxMax at hM ⊢; omega, fun z h0 h1 => ⟨z.toNat, by rw [Int.toNat_of_nonneg h0], by omega, rfl⟩⟩
        · subst q1 q3
          have hj := List.getElem?_eq_getElem q2
          have me2 := mem_erase nd1 hj
          refine ⟨⟨rfl, .inl rfl⟩, j, pD (L.eraseIdx i)[j], rfl, by rw [List.getElem?_map, hj]; rfl, (L.eraseIdx i)[j], (L.eraseIdx i).eraseIdx j, m2 + 1, ((me1 _).mp (List.getElem_mem q2)).1, nd1.sublist (List.eraseIdx_sublist _ j), fun x => ?_, ?_, by omega, rfl, ?_⟩
          · rw [me2, me1]
            exact ⟨fun h => ⟨h.1.1, h.1.2, h.2⟩, fun h => ⟨⟨h.1, h.2.1⟩, h.2.2⟩⟩
          · rw [List.length_eraseIdx, if_pos q2]; omega
          · rw [eraseIdx_mapD]; rfl
      · subst e3
        exact xv_ev (EV.mono (e_var 8) fun d' hd' => ⟨one, L.eraseIdx i, m2, hoL, nd1, fun x => by rw [me1]; exact ⟨fun h => ⟨h.1, h.2, h.2⟩, fun h => ⟨h.1, h.2.1⟩⟩, by omega, by omega, hd', rfl⟩)
      rintro r ⟨other, L2, m2, h1, h2, h3, h4, h5, rfl⟩
      refine sv_one (s_asgD (e_tup (a_cons (e_var 9) (a_cons (e_var 8) a_nil))) (gw_tup (gws_cons (gw_dput 4 (ns := [(one.1 : Int), (one.2 : Int)]) rfl (e_var 8) (by omega)) (gws_cons (gw_dput 4 (ns := [(other.1 : Int), (other.2 : Int)]) rfl (e_var 9) ?_) gws_nil))) ?_ (fun _ => rfl) (fun env _ => swapped_subs))
      · have := putD_len kvs (ikey [(one.1 : Int), (one.2 : Int)]) (pD other)
        omega
      · refine ⟨L2, putD' (putD' kvs (pk one) (pD other)) (pk other) (pD one), m2, c6, _, _, _, rfl, hK.step hoL h1 h2 h3, .inr (by omega), by omega, ?_⟩
        have q1 := putD_len kvs (pk one) (pD other)
        have q2 := putD_len (putD' kvs (pk one) (pD other)) (pk other) (pD one)
        omega
    · have : L = [] := by simpa using hb
      exact sv_nil ⟨L, kvs, m, c6, _, c8, c9, rfl, hK, .inl this, by omega, by omega⟩
  · obtain ⟨L, kvs, m, c6, c7, c8, c9, rfl, hK, hL, hm, hkv⟩ := h
    rw [rngD_len] at hL hm
    have : L = [] := by
      rcases hL with h | h
      · exact h
      · exact List.eq_nil_of_length_eq_zero (by omega)
    subst this
    exact ⟨kvs, m, c6, c7, c8, c9, rfl, hK, by omega⟩
  rintro r ⟨kvs, m, c6, c7, c8, c9, rfl, hK, hm⟩
  obtain ⟨gk, look⟩ := hK.kind
  refine sv_one (s_retD (d := kD (tabK D R kvs)) (e_tuple (EL.ed ?_) mt) ⟨_, _, rfl, ⟨D, R, tabK D R kvs, rfl, rfl, gk⟩, rfl, .inl ⟨m, rfl, hm⟩⟩)
  unfold tabK
  rw [List.map_map]
  refine n_lcR [("_law_rest", 6)] (fun i => rowD ((List.range D).map fun j => tabT kvs (j, i))) sc_law_kind.nd (i_rangeN (e_var 2) mr (by omega)) (by omega) rfl fun i hi => ?_
  refine ⟨_, _, g_name 6 sc_law_kind.nd, fun _ h => h, q_nil, fun _ => e_tuple (EL.ed ?_) mt⟩
  rw [List.map_map]
  refine n_lcR [("_law_door", 10)] (fun j => pD (tabT kvs (j, i))) sc_law_kind.nd (i_rangeN (e_var 1) mr (by omega)) (by omega) rfl fun j hj => ?_
  exact ⟨_, _, g_name 10 sc_law_kind.nd, fun _ h => h, q_nil, fun _ => e_dget 4 (ns := [(j : Int), (i : Int)]) rfl (e_tup (a_cons (e_var 10) (a_cons (e_var 6) a_nil))) (look i j hi hj)⟩
/-! ### alike, kind by kind: of data and itself -/
abbrev N_law_same : List Str := ["_law_found", "_law_due", "_law_one", "_law_other"]
theorem sc_law_same : FnScope N_law_same ["_law_found", "_law_due"] (defScope S_law_same) := ⟨rfl, rfl, rfl, by decide +kernel, rfl, by decide +kernel, by decide +kernel⟩
def samePre (n : Nat) (ds : List PyData) : Prop := ∃ x, ds = [x, x] ∧ okD n x = true ∧ szD x = true
def samePost (_ : List PyData) (d : PyData) : Prop := d = .bool true
theorem all_true (n : Nat) : ((List.range n).map fun _ => true).all id = true := by simp
theorem c_neB {c : Cc} {a b : Bool} : CmpD c .NotEq (.bool a) (.bool b) (.bool (!(a == b))) := by
  have h := c_ne (c := c) (x := .bool a) (y := .bool b) rfl rfl
  rw [show PyData.eqv (.bool a) (.bool b) = (a == b) from by simp [PyData.eqv]] at h
  exact h
theorem c_eqB {c : Cc} {a b : Bool} : CmpD c .Eq (.bool a) (.bool b) (.bool (a == b)) := by
  have h := c_eq (c := c) (x := .bool a) (y := .bool b) rfl rfl
  rw [show PyData.eqv (.bool a) (.bool b) = (a == b) from by simp [PyData.eqv]] at h
  exact h
theorem c_self {c : Cc} {n : Nat} {x : PyData} (h : okD n x = true) (hn : n ≤ 64) : CmpD c .Eq x x (.bool true) := by
  have h' := c_eq (c := c) (okD_shaped h hn) (okD_shaped h hn)
  rw [eqv_self n x h] at h'
  exact h'
theorem ok_law_same {g : Gc} {f : Addr} {fd : FuncData} (F : Fun g.K "_law_same" "_law_same" S_law_same f fd) (hf : g.mg "_law_same" = some (.ref f)) (hb : Binds g.K fd ["_law_found", "_law_due"] []) (mi : g.mg "isinstance" = none) (ml : g.mg "list" = none) (mt : g.mg "tuple" = none) (mlen : g.mg "len" = none) (ma : g.mg "all" = none) (mz : g.mg "zip" = none) (ms : g.mg "str" = none) (mint : g.mg "int" = none) (mb : g.mg "bool" = none) :
    ∀ n : Nat, n ≤ 60 → FnOk g.P g.w g.K g.mg g.base CX0 (n + 1) f fd ["_law_found", "_law_due"] (SpP 2 (samePre n) samePost) := by
  have main : ∀ (n : Nat) (hn : n ≤ 60) (rec : ∀ m, n = m + 1 → Df g "_law_same" n (SpP 2 (samePre m) samePost)), FnOk g.P g.w g.K g.mg g.base CX0 (n + 1) f fd ["_law_found", "_law_due"] (SpP 2 (samePre n) samePost) := by
    intro n hn rec
    refine fn_pure (N := N_law_same) F sc_law_same rfl (by decide) fun ds hl hp => ?_
    obtain ⟨x, rfl, hx, hz⟩ := hp
    have node : ∀ (xs : List PyData) (m : Nat) (t u : Bool), n = m + 1 → okDs m xs = true → szD.szDs xs = true → xs.length ≤ 1000000 → ((x = .list xs ∧ x = .list xs) ∨ (x = .tuple xs ∧ x = .tuple xs)) → kitB (tyD x) "list" = some t → kitB (tyD x) "tuple" = some u → (t || u) = true → seqD x = some xs →
        SV (cc0 g N_law_same S_law_same n) (defBody S_law_same) (rho0 N_law_same [x, x]) { nx := fun _ => samePost [x, x] .none, rt := fun r _ => ∃ d, r = .d d ∧ samePost [x, x] d } := fun xs m t u hm h1 h2 h3 hI kt ku htu hs => by
      have D := rec m hm
      refine sv_cons (fun _ => False) (s_if (t_valD (e_isi2 (e_var 1) kt ku boot_list boot_tuple ml mt mi)) (fun _ => ?_) (fun ht => by rw [htu] at ht; cases ht)) fun _ h => h.elim
      refine sv_to (ρ1 := rho0 N_law_same [x, x]) (s_if (t_chain (w_or (t_cmp (e_isi (e_var 0) kt boot_list ml mi) (e_isi (e_var 1) kt boot_list ml mi) c_neB) (fun _ => w_or1 (t_cmp (e_isi (e_var 0) ku boot_tuple mt mi) (e_isi (e_var 1) ku boot_tuple mt mi) c_neB)))) (fun ht => by simp at ht) (fun _ => sv_nil rfl)) ?_
      refine sv_one (s_retD (e_and (e_cmp (e_len (e_var 0) hs mlen) (e_len (e_var 1) hs mlen) c_eqI) fun _ => e_one (e_all (ts := (List.range (zipD xs xs).length).map fun _ => true) ?_ ma)) ⟨_, rfl, by rw [all_true, decide_eq_true rfl]; rfl⟩)
      refine EL.ed (xs := ((List.range (zipD xs xs).length).map fun _ => true).map PyData.bool) ?_
      rw [List.map_map]
      refine n_lcI [("_law_one", 2), ("_law_other", 3)] (fun _ => .bool true) sc_law_same.nd (i_zip (e_var 0) (e_var 1) hI mz) (by rw [zipD_len, Nat.min_self]; exact h3) rfl fun i d hd => ?_
      have hi : i < xs.length := by
        have := (List.getElem?_eq_some_iff.mp hd).1
        rw [zipD_len, Nat.min_self] at this
        exact this
      have hxi : xs[i]? = some xs[i] := List.getElem?_eq_getElem hi
      rw [zipD_get hxi hxi] at hd
      have hd := (Option.some.inj hd).symm
      subst hd
      refine ⟨_, _, g_tup (gs_cons (g_name 2 sc_law_same.nd) (gs_cons (g_name 3 sc_law_same.nd) gs_nil)), fun j hj => hj, q_nil, fun _ => (e_call D (a_cons (e_var 2) (a_cons (e_var 3) a_nil)) ⟨_, rfl, okDs_all.mp h1 _ (List.getElem_mem hi), szDs_all.mp h2 _ (List.getElem_mem hi)⟩ rfl (Nat.le_refl _)).mono fun r hr => hr⟩
    have leafN : ∀ (b : Bool) (u : Bool), kitB (tyD x) "list" = some false → kitB (tyD x) "tuple" = some false → isN x = b → kitB (tyD x) "str" = some u → (b || u) = true →
        SV (cc0 g N_law_same S_law_same n) (defBody S_law_same) (rho0 N_law_same [x, x]) { nx := fun _ => samePost [x, x] .none, rt := fun r _ => ∃ d, r = .d d ∧ samePost [x, x] d } := fun b u k1 k2 hb ku hbu => by
      refine sv_to (ρ1 := rho0 N_law_same [x, x]) (s_if (t_valD (e_isi2 (e_var 1) k1 k2 boot_list boot_tuple ml mt mi)) (fun ht => nomatch ht) (fun _ => sv_nil rfl)) ?_
      refine sv_cons (fun _ => False) (s_if (t_chain (w_or ((t_isN (e_var 1)).eq hb) (fun _ => w_or1 (t_valD (e_isi (e_var 1) ku (by decide +kernel) ms mi))))) (fun _ => ?_) (fun ht => by rw [hbu] at ht; cases ht)) fun _ h => h.elim
      refine sv_one (s_retD (e_and (e_cmp (e_var 0) (e_var 1) (c_self hx (by omega))) fun _ => e_one (e_cmp (e_isi (e_var 0) ku (by decide +kernel) ms mi) (e_isi (e_var 1) ku (by decide +kernel) ms mi) c_eqB)) ⟨_, rfl, by show PyData.bool (true && (u == u)) = .bool true; simp⟩)
    have leafI : ∀ (b : Bool), kitB (tyD x) "list" = some false → kitB (tyD x) "tuple" = some false → isN x = false → kitB (tyD x) "str" = some false → kitB (tyD x) "int" = some true → kitB (tyD x) "bool" = some b →
        SV (cc0 g N_law_same S_law_same n) (defBody S_law_same) (rho0 N_law_same [x, x]) { nx := fun _ => samePost [x, x] .none, rt := fun r _ => ∃ d, r = .d d ∧ samePost [x, x] d } := fun b k1 k2 hb ku ki kb => by
      refine sv_to (ρ1 := rho0 N_law_same [x, x]) (s_if (t_valD (e_isi2 (e_var 1) k1 k2 boot_list boot_tuple ml mt mi)) (fun ht => nomatch ht) (fun _ => sv_nil rfl)) ?_
      refine sv_to (ρ1 := rho0 N_law_same [x, x]) (s_if (t_chain (w_or ((t_isN (e_var 1)).eq hb) (fun _ => w_or1 (t_valD (e_isi (e_var 1) ku (by decide +kernel) ms mi))))) (fun ht => nomatch ht) (fun _ => sv_nil rfl)) ?_
      refine sv_one (s_retD (e_and (e_isi (e_var 0) ki (by decide +kernel) mint mi) fun _ => e_and (e_cmp (e_isi (e_var 0) kb (by decide +kernel) mb mi) (e_isi (e_var 1) kb (by decide +kernel) mb mi) c_eqB) fun _ => e_one (e_cmp (e_var 0) (e_var 1) (c_self hx (by omega)))) ⟨_, rfl, by show PyData.bool (true && ((b == b) && true)) = .bool true; simp⟩)
    cases x with
    | none => exact leafN true false kb_NoneType_list kb_NoneType_tuple rfl kb_NoneType_str rfl
    | bool b => exact leafI true kb_bool_list kb_bool_tuple rfl kb_bool_str kb_bool_int kb_bool_bool
    | int i => exact leafI false kb_int_list kb_int_tuple rfl kb_int_str kb_int_int kb_int_bool
    | str s => exact leafN false true kb_str_list kb_str_tuple rfl kb_str_str rfl
    | list xs =>
      cases n with
      | zero => simp [okD] at hx
      | succ m =>
        rw [szD, Bool.and_eq_true] at hz
        exact node xs m true false rfl (by simpa [okD] using hx) hz.2 (of_decide_eq_true hz.1) (.inl ⟨rfl, rfl⟩) kb_list_list kb_list_tuple rfl rfl
    | tuple xs =>
      cases n with
      | zero => simp [okD] at hx
      | succ m =>
        rw [szD, Bool.and_eq_true] at hz
        exact node xs m false true rfl (by simpa [okD] using hx) hz.2 (of_decide_eq_true hz.1) (.inr ⟨rfl, rfl⟩) kb_tuple_list kb_tuple_tuple rfl rfl
    | dict kvs => cases n <;> simp [okD] at hx
  intro n
  induction n with
  | zero => exact fun _ => main 0 (by omega) fun m h => nomatch h
  | succ n ih =>
    intro hn
    refine main (n + 1) hn fun m h => ?_
    obtain rfl : n = m := by omega
    exact ⟨f, fd, ["_law_found", "_law_due"], hf, F.kp, hb, ih (by omega)⟩
/-! ### the pair at a place -/
/-- the pair at a rest and a door -/
def pairAt (x : PyData) (r d : Nat) (a b : PyData) : Prop := ∃ xs y ys z, seqD x = some xs ∧ xs[r]? = some y ∧ seqD y = some ys ∧ ys[d]? = some z ∧ seqD z = some [a, b]
theorem pair_one {x : PyData} {r d : Nat} {a b a' b' : PyData} (h : pairAt x r d a b) (h' : pairAt x r d a' b') : a = a' ∧ b = b' := by
  obtain ⟨xs, y, ys, z, h1, h2, h3, h4, h5⟩ := h
  obtain ⟨xs', y', ys', z', g1, g2, g3, g4, g5⟩ := h'
  rw [h1] at g1; cases g1
  rw [h2] at g2; cases g2
  rw [h3] at g3; cases g3
  rw [h4] at g4; cases g4
  rw [h5] at g5; cases g5
  exact ⟨rfl, rfl⟩
theorem mk_pair {D R : Nat} {f : Nat → Nat → Nat × Nat} {r d : Nat} (hr : r < R) (hd : d < D) : pairAt (kD (mkK D R f)) r d (.int (f r d).1) (.int (f r d).2) := by
  rw [kD_mk]
  exact ⟨_, _, _, _, rfl, rng_at hr, rfl, rng_at hd, rfl⟩
theorem mk_pairL {D R : Nat} {f : Nat → Nat → Nat × Nat} {r d : Nat} (hr : r < R) (hd : d < D) : pairAt (toL (kD (mkK D R f))) r d (.int (f r d).1) (.int (f r d).2) := by
  rw [kD_mk, toL, toLs_map, List.map_map]
  refine ⟨_, _, (List.range D).map fun d => toL (pD (f r d)), toL (pD (f r d)), rfl, rng_at hr, ?_, rng_at hd, ?_⟩
  · show seqD (toL (.tuple _)) = _
    rw [toL, toLs_map, List.map_map]; rfl
  · show seqD (toL (.tuple [.int (f r d).1, .int (f r d).2])) = _
    rw [toL, toLs_map]; rfl
/-! ### rows of balls: what one walk through a kind comes to -/
inductive Went (x : PyData) : Nat → List Nat → List Nat → Nat → Prop
  | nil {r : Nat} : Went x r [] [] r
  | cons {r d o b r2 : Nat} {ds os : List Nat} : pairAt x r d (.int o) (.int b) → Went x b ds os r2 → Went x r (d :: ds) (o :: os) r2
theorem Went.len {x : PyData} {r : Nat} {ds os : List Nat} {r2 : Nat} (h : Went x r ds os r2) : os.length = ds.length := by
  induction h with
  | nil => rfl
  | cons _ _ ih => simp [ih]
theorem Went.one {x : PyData} {r : Nat} {ds os : List Nat} {r2 : Nat} (h : Went x r ds os r2) : ∀ {os' : List Nat} {r2' : Nat}, Went x r ds os' r2' → os = os' ∧ r2 = r2' := by
  induction h with
  | nil => intro os' r2' h; cases h; exact ⟨rfl, rfl⟩
  | cons h1 _ ih =>
    intro os' r2' h
    cases h with
    | cons g1 g2 =>
      obtain ⟨e1, e2⟩ := pair_one h1 g1
      have e1 := Int.ofNat.inj (PyData.int.inj e1)
      have e2 := Int.ofNat.inj (PyData.int.inj e2)
      subst e1 e2
      obtain ⟨e3, e4⟩ := ih g2
      exact ⟨by rw [e3], e4⟩
abbrev intsD (ns : List Nat) : List PyData := ns.map fun n => PyData.int (n : Nat)
theorem noLs_ints : ∀ ns : List Nat, noLs (intsD ns) = true
  | [] => rfl
  | _ :: ns => noLs_ints ns
def wentPre (ds : List PyData) : Prop := ∃ (x y : PyData) (r r2 : Nat) (row outs : List Nat), ds = [x, .int r, y] ∧ seqD y = some (intsD row) ∧ Went x r row outs r2 ∧ row.length ≤ 1000
def wentPost (ds : List PyData) (e : PyData) : Prop := ∀ (x y : PyData) (r r2 : Nat) (row outs : List Nat), ds = [x, .int r, y] → seqD y = some (intsD row) → Went x r row outs r2 → e = .tuple [.list (intsD outs), .int r2]
theorem ints_inj {a b : List Nat} (h : intsD a = intsD b) : a = b := by
  induction a generalizing b with
  | nil => cases b with
    | nil => rfl
    | cons _ _ => cases h
  | cons p a ih => cases b with
    | nil => cases h
    | cons q b =>
      simp only [intsD, List.map_cons, List.cons.injEq, PyData.int.injEq] at h
      obtain ⟨h1, h2⟩ := h
      have : p = q := by omega
      rw [this, ih h2]
theorem wentPost_of {x y : PyData} {r r2 : Nat} {row outs : List Nat} (hy : seqD y = some (intsD row)) (h : Went x r row outs r2) : wentPost [x, .int r, y] (.tuple [.list (intsD outs), .int r2]) := by
  intro x' y' r' r2' row' outs' e hy' h'
  simp only [List.cons.injEq, PyData.int.injEq, and_true] at e
  obtain ⟨rfl, e2, rfl⟩ := e
  have e2 : r = r' := by omega
  subst e2
  rw [hy] at hy'
  have := ints_inj (Option.some.inj hy')
  subst this
  obtain ⟨e3, e4⟩ := h.one h'
  rw [e3, e4]
/-- one turn of the walk -/
theorem went_turn {x : PyData} {r r2 i : Nat} {row os : List Nat} {d : PyData} (hd : (intsD row)[i]? = some d) (h : Went x r (row.drop i) os r2) : ∃ n o b os2, d = .int (n : Nat) ∧ pairAt x r n (.int (o : Nat)) (.int (b : Nat)) ∧ os = o :: os2 ∧ Went x b (row.drop (i + 1)) os2 r2 := by
  rw [List.getElem?_map] at hd
  cases q : row[i]? with
  | none => rw [q] at hd; cases hd
  | some n =>
    rw [q] at hd
    obtain ⟨hi, e⟩ := List.getElem?_eq_some_iff.mp q
    rw [List.drop_eq_getElem_cons hi, e] at h
    cases h with
    | cons h1 h2 => exact ⟨n, _, _, _, (Option.some.inj hd).symm, h1, rfl, h2⟩
abbrev N_law_gone : List Str := ["_law_kind_here", "_law_rest", "_law_row", "_law_outs", "_law_here", "_law_door", "_law_pair"]
theorem sc_law_gone : FnScope N_law_gone ["_law_kind_here", "_law_rest", "_law_row"] (defScope S_law_gone) := ⟨rfl, rfl, rfl, by decide +kernel, rfl, by decide +kernel, by decide +kernel⟩
theorem ok_law_gone {g : Gc} {k : Nat} {f : Addr} {fd : FuncData} (F : Fun g.K "_law_gone" "_law_gone" S_law_gone f fd) :
    FnOk g.P g.w g.K g.mg g.base CX0 (k + 1) f fd ["_law_kind_here", "_law_rest", "_law_row"] (SpP 3 wentPre wentPost) := by
  refine fn_pure (N := N_law_gone) F sc_law_gone rfl (by decide) fun ds hl hp => ?_
  obtain ⟨x, y, r, r2, row, outs, rfl, hy, hW, hlen⟩ := hp
  have nd := sc_law_gone.nd
  have hol := hW.len
  refine sv_to (ρ1 := [Cell.d x, .d (.int r), .d y, .o (.l []), .d (.int r), .u, .u])
    (s_par2 3 4 (P := fun ms ρ => ms = [.l [], .d (.int r)] ∧ ρ = rho0 N_law_gone [x, .int r, y]) (ax_g (ag_n (n_lst a_nil) fun xs h1 => ag_d (e_var 1) fun d2 h2 => ag_nil ⟨by rw [h1, h2], rfl⟩)) nd (fun ms ρ h => ⟨_, _, h.1, by rw [h.2]; rfl⟩)) ?_
  refine sv_cons (fun ρ => ∃ c5 c6, ρ = [Cell.d x, .d (.int r), .d y, .o (.l (intsD outs)), .d (.int r2), c5, c6])
    (s_for (i_seq (e_var 2) hy) (fun i ρ => ∃ os1 os2 b c5 c6, ρ = [Cell.d x, .d (.int r), .d y, .o (.l (intsD os1)), .d (.int (b : Nat)), c5, c6] ∧ outs = os1 ++ os2 ∧ Went x b (row.drop i) os2 r2) ⟨[], outs, r, _, _, rfl, rfl, hW⟩ (fun i d ρi hd hI => ?_) (fun ρ h => ?_)) ?_
  · obtain ⟨os1, os2, b, c5, c6, rfl, ho, hw⟩ := hI
    obtain ⟨n, o, b2, os3, rfl, hpa, rfl, hw2⟩ := went_turn hd hw
    obtain ⟨xs, yy, ys, z, h1, h2, h3, h4, h5⟩ := hpa
    have hls : os1.length ≤ 1000 := by
      have := congrArg List.length ho
      simp at this; omega
    refine ⟨_, gw_name 5 nd, ?_⟩
    refine sv_to (s_set 6 (d := z) (e_ix (e_ix (e_var 0) (e_var 4) h1 (atI_nat h2)) (e_var 5) h3 (atI_nat h4)) nd rfl) ?_
    refine sv_to (s_append 3 (P := fun d => d = .int (o : Nat)) ⟨rfl, .inl rfl⟩ (e_ix (e_var 6) e_int h5 (atI_nat (j := 0) rfl)) (by simp; omega) fun d hd => by subst hd; rfl) ?_
    refine sv_one (s_set 4 (d := .int (b2 : Nat)) (e_ix (e_var 6) e_int h5 (atI_nat (j := 1) rfl)) nd ⟨os1 ++ [o], os3, b2, .d (.int (n : Nat)), .d z, ?_, by rw [ho]; simp, hw2⟩)
    show [_, _, _, Cell.o (.l (_ ++ _)), _, _, _] = _
    rw [show intsD (os1 ++ [o]) = intsD os1 ++ [.int (o : Nat)] from by simp [intsD]]
  · obtain ⟨os1, os2, b, c5, c6, rfl, ho, hw⟩ := h
    rw [show (intsD row).length = row.length from by simp [intsD], List.drop_length] at hw
    cases hw
    rw [ho, List.append_nil]
    exact ⟨_, _, rfl⟩
  · rintro ρ ⟨c5, c6, rfl⟩
    refine sv_freeze 3 ?_
    exact sv_one (s_retD (e_tup (a_cons (e_var 3) (a_cons (e_var 4) a_nil))) ⟨_, rfl, wentPost_of hy hW⟩)
/-! ### sent -/
abbrev N_sent : List Str := ["kind", "rest", "row", "outs", "stands_at", "door", "out"]
theorem sc_sent : FnScope N_sent ["kind", "rest", "row"] (defScope S_sent) := ⟨rfl, rfl, rfl, by decide +kernel, rfl, by decide +kernel, by decide +kernel⟩
theorem ok_sent {g : Gc} {k : Nat} {f : Addr} {fd : FuncData} (F : Fun g.K "sent" "sent" S_sent f fd) :
    FnOk g.P g.w g.K g.mg g.base CX0 (k + 1) f fd ["kind", "rest", "row"] (SpT 3 wentPre wentPost) := by
  refine fn_told (N := N_sent) F sc_sent rfl (by decide) fun ds hl hp => ?_
  obtain ⟨x, y, r, r2, row, outs, rfl, hy, hW, hlen⟩ := hp
  have nd := sc_sent.nd
  have hol := hW.len
  refine sv_to (ρ1 := [Cell.d x, .d (.int r), .d y, .o (.l []), .d (.int r), .u, .u])
    (s_par2 3 4 (P := fun ms ρ => ms = [.l [], .d (.int r)] ∧ ρ = rho0 N_sent [x, .int r, y]) (ax_g (ag_n (n_lst a_nil) fun xs h1 => ag_d (e_var 1) fun d2 h2 => ag_nil ⟨by rw [h1, h2], rfl⟩)) nd (fun ms ρ h => ⟨_, _, h.1, by rw [h.2]; rfl⟩)) ?_
  refine sv_cons (fun ρ => ∃ c5 c6, ρ = [Cell.d x, .d (.int r), .d y, .o (.l (intsD outs)), .d (.int r2), c5, c6])
    (s_for (i_seq (e_var 2) hy) (fun i ρ => ∃ os1 os2 b c5 c6, ρ = [Cell.d x, .d (.int r), .d y, .o (.l (intsD os1)), .d (.int (b : Nat)), c5, c6] ∧ outs = os1 ++ os2 ∧ Went x b (row.drop i) os2 r2) ⟨[], outs, r, _, _, rfl, rfl, hW⟩ (fun i d ρi hd hI => ?_) (fun ρ h => ?_)) ?_
  · obtain ⟨os1, os2, b, c5, c6, rfl, ho, hw⟩ := hI
    obtain ⟨n, o, b2, os3, rfl, hpa, rfl, hw2⟩ := went_turn hd hw
    obtain ⟨xs, yy, ys, z, h1, h2, h3, h4, h5⟩ := hpa
    have hls : os1.length ≤ 1000 := by
      have := congrArg List.length ho
      simp at this; omega
    refine ⟨_, gw_name 5 nd, ?_⟩
    refine sv_to (s_asgD (e_ix (e_ix (e_var 0) (e_var 4) h1 (atI_nat h2)) (e_var 5) h3 (atI_nat h4)) (GD.gw (g_seq (gs_cons (g_name 6 nd) (gs_cons (g_name 4 nd) gs_nil)) h5)) rfl) ?_
    refine sv_one (s_append 3 (P := fun d => d = .int (o : Nat)) ⟨rfl, .inl rfl⟩ (e_var 6) (by simp; omega) fun d hd => ⟨os1 ++ [o], os3, b2, .d (.int (n : Nat)), .d (.int (o : Nat)), ?_, by rw [ho]; simp, hw2⟩)
    subst hd
    show [_, _, _, Cell.o (.l (_ ++ _)), _, _, _] = _
    rw [show intsD (os1 ++ [o]) = intsD os1 ++ [.int (o : Nat)] from by simp [intsD]]
  · obtain ⟨os1, os2, b, c5, c6, rfl, ho, hw⟩ := h
    rw [show (intsD row).length = row.length from by simp [intsD], List.drop_length] at hw
    cases hw
    rw [ho, List.append_nil]
    exact ⟨_, _, rfl⟩
  · rintro ρ ⟨c5, c6, rfl⟩
    exact sv_one (s_retT 3 rfl (e_var 4) (noLs_ints _) rfl ⟨_, rfl, wentPost_of hy hW⟩)
/-! ### back_row -/
abbrev N_back_row : List Str := ["kind", "rest", "row", "outs", "behind"]
theorem sc_back_row : FnScope N_back_row ["kind", "rest", "row"] (defScope S_back_row) := ⟨rfl, rfl, rfl, by decide +kernel, rfl, by decide +kernel, by decide +kernel⟩
def backPost (ds : List PyData) (xs : List PyData) : Prop := ∀ (x y : PyData) (r r2 : Nat) (row outs : List Nat), ds = [x, .int r, y] → seqD y = some (intsD row) → Went x r row outs r2 → xs = intsD outs.reverse
theorem ok_back_row {g : Gc} {f : Addr} {fd : FuncData} (F : Fun g.K "back_row" "back_row" S_back_row f fd) (D : Df g "sent" 1 (SpT 3 wentPre wentPost)) :
    FnOk g.P g.w g.K g.mg g.base CX0 2 f fd ["kind", "rest", "row"] (SpL 3 wentPre backPost) := by
  refine fn_list (N := N_back_row) F sc_back_row rfl (by decide) fun ds hl hp => ?_
  obtain ⟨x, y, r, r2, row, outs, rfl, hy, hW, hlen⟩ := hp
  have nd := sc_back_row.nd
  refine sv_to (s_asgD (EV.mono (ET.ev (et_call D (a_cons (e_var 0) (a_cons (e_var 1) (a_cons (e_var 2) a_nil))) ⟨x, y, r, r2, row, outs, rfl, hy, hW, hlen⟩)) fun v hv => hv _ _ _ _ _ _ rfl hy hW) (GD.gw (g_tup (gs_cons (g_name 3 nd) (gs_cons (g_name 4 nd) gs_nil)))) rfl) ?_
  refine sv_one (s_retL (n_rev (e_var 3)) fun xs hx => ⟨xs, rfl, fun x' y' r' r2' row' outs' e hy' h' => ?_⟩)
  have := wentPost_of hy hW x' y' r' r2' row' outs' e hy' h'
  rw [hx]
  simp only [PyData.tuple.injEq, List.cons.injEq, PyData.list.injEq] at this
  rw [ints_inj this.1]
  simp [intsD]
/-! ### going by a rule -/
def goF (f : Nat → Nat → Nat × Nat) : Nat → List Nat → List Nat × Nat
  | r, [] => ([], r)
  | r, d :: ds => ((f r d).1 :: (goF f (f r d).2 ds).1, (goF f (f r d).2 ds).2)
theorem went_go {D R : Nat} {f : Nat → Nat → Nat × Nat} {x : PyData} (hx : ∀ r d, r < R → d < D → pairAt x r d (.int (f r d).1) (.int (f r d).2)) (hB : Backs D R f) : ∀ (row : List Nat) (r : Nat), r < R → (∀ d ∈ row, d < D) → Went x r row (goF f r row).1 (goF f r row).2 ∧ (goF f r row).2 < R ∧ (goF f r row).1.length = row.length ∧ (∀ d ∈ (goF f r row).1, d < D) ∧ Went x (goF f r row).2 (goF f r row).1.reverse row.reverse r
  | [], r, hr, _ => ⟨.nil, hr, rfl, (fun _ h => nomatch h), .nil⟩
  | d :: ds, r, hr, hd => by
    have h0 := hd d (by simp)
    obtain ⟨b1, b2, b3⟩ := hB r d hr h0
    obtain ⟨h1, h2, h3, h4, h5⟩ := went_go hx hB ds (f r d).2 b2 fun e he => hd e (by simp [he])
    refine ⟨.cons (hx r d hr h0) h1, h2, by simp [goF, h3], fun e he => ?_, ?_⟩
    · rcases List.mem_cons.mp he with rfl | he
      · exact b1
      · exact h4 e he
    · show Went x (goF f (f r d).2 ds).2 ((f r d).1 :: (goF f (f r d).2 ds).1).reverse (d :: ds).reverse r
      rw [List.reverse_cons, List.reverse_cons]
      refine went_app h5 (.cons ?_ .nil)
      have := hx (f r d).2 (f r d).1 b2 b1
      rw [b3] at this
      exact this
where
  went_app {x : PyData} {r b r2 : Nat} {ds os ds' os' : List Nat} (h : Went x r ds os b) (h' : Went x b ds' os' r2) : Went x r (ds ++ ds') (os ++ os') r2 := by
    induction h with
    | nil => exact h'
    | cons h1 _ ih => exact .cons h1 (ih h')
theorem ok_ints (ns : List Nat) : ∀ n, okDs n (intsD ns) = true := fun n => by
  induction ns with
  | nil => rfl
  | cons a ns ih => show (okD n (.int _) && okDs n (intsD ns)) = true; rw [ih]; cases n <;> rfl
theorem szDs_ints : ∀ ns : List Nat, szD.szDs (intsD ns) = true
  | [] => rfl
  | _ :: ns => szDs_ints ns
theorem smDs_ints (ns : List Nat) (h : ∀ n ∈ ns, n < 1000000) : smD.smDs (intsD ns) = true := smDs_all.mpr fun x hx => by
  obtain ⟨n, hn, rfl⟩ := List.mem_map.mp hx
  have := h n hn
  simp [smD]; omega
abbrev N_law_row_right : List Str := ["_law_kind_here", "_law_rest", "_law_row", "_law_due", "_law_kept", "_law_some", "_law_balls", "_law_found", "_law_home"]
theorem sc_law_row_right : FnScope N_law_row_right ["_law_kind_here", "_law_rest", "_law_row"] (defScope S_law_row_right) := ⟨rfl, rfl, rfl, by decide +kernel, rfl, by decide +kernel, by decide +kernel⟩
def rowPre (ds : List PyData) : Prop := ∃ (D R r : Nat) (f : Nat → Nat → Nat × Nat) (row : List Nat), ds = [kD (mkK D R f), .int r, .list (intsD row)] ∧ Backs D R f ∧ D ≤ 6 ∧ R ≤ 8 ∧ r < R ∧ (∀ d ∈ row, d < D) ∧ row.length ≤ 60
theorem ok_law_row_right {g : Gc} {f : Addr} {fd : FuncData} (F : Fun g.K "_law_row_right" "_law_row_right" S_law_row_right f fd) (DG : Df g "_law_gone" 1 (SpP 3 wentPre wentPost)) (DSn : Df g "sent" 1 (SpT 3 wentPre wentPost)) (DB : Df g "back_row" 2 (SpL 3 wentPre backPost)) (DS : Df g "_law_same" 5 (SpP 2 (samePre 4) samePost)) (DL : Df g "_law_lists" 4 (SpP 1 (listsPre 3) listsPost)) (mt : g.mg "tuple" = none) (mre : g.mg "repr" = none) :
    FnG g 6 f fd ["_law_kind_here", "_law_rest", "_law_row"] (SpP 3 rowPre samePost) := by
  refine fnG_pure (N := N_law_row_right) F sc_law_row_right rfl (by decide) fun ds hl hp => ?_
  obtain ⟨D, R, r, fn, row, rfl, hB, hD, hR, hr, hrow, hlen⟩ := hp
  have nd := sc_law_row_right.nd
  let outs := (goF fn r row).1
  let r2 := (goF fn r row).2
  have K1 := went_go (fun r d hr hd => mk_pair hr hd) hB row r hr hrow
  have K2 := went_go (fun r d hr hd => mk_pairL (f := fn) hr hd) hB row r hr hrow
  have hol : outs.length = row.length := K1.2.2.1
  let due : PyData := .tuple [.list (intsD outs), .int r2]
  let kept := (PyData.list [kD (mkK D R fn), .list (intsD row)]).shown
  have both : ShowOk (.list [kD (mkK D R fn), .list (intsD row)]) := by
    refine show_of (n := 4) ?_ ?_ ?_
    · show okDs 3 _ = true
      have := ok_ints row 2
      simp [okDs, ok_kD, okD, this]
    · show (smD _ && (smD _ && true)) = true
      rw [sm_kD hB (by omega) (by omega)]
      have := smDs_ints row (fun n hn => by have := hrow n hn; omega)
      simp [smD, this]
    · show PyData.bulk _ + 1 + (PyData.bulk _ + 1 + 0) ≤ 2 ^ 20
      have a1 := bulk_kD (D := D) (R := R) (f := fn)
      have a3 : R * (D * 3 + 1) ≤ 8 * 19 := Nat.mul_le_mul hR (by omega)
      have a4 : PyData.bulk (.list (intsD row)) ≤ row.length * (0 + 1) := by
        have := bulkAll_le (b := 0) (intsD row) fun x hx => by
          obtain ⟨n, _, rfl⟩ := List.mem_map.mp hx
          exact Nat.le_refl 0
        rw [List.length_map] at this
        exact this
      have : (2 : Nat) ^ 20 = 1048576 := by decide
      omega
  have lk : listsPre 3 [kD (mkK D R fn)] := ⟨_, rfl, ok_kD _, sz_kD (by omega) (by omega)⟩
  refine sv_to (ρ1 := [Cell.d (kD (mkK D R fn)), .d (.int r), .d (.list (intsD row)), .d due, .d (.str kept), .u, .u, .u, .u])
    (s_par2 3 4 (P := fun ms ρ => ms = [.d due, .d (.str kept)] ∧ ρ = rho0 N_law_row_right [kD (mkK D R fn), .int r, .list (intsD row)])
      (ax_g (ag_d (e_call DG (a_cons (e_var 0) (a_cons (e_var 1) (a_cons (e_var 2) a_nil))) ⟨_, _, r, r2, row, outs, rfl, rfl, K1.1, by omega⟩) fun d1 h1 => ag_d (e_repr (e_lst (a_cons (e_var 0) (a_cons (e_var 2) a_nil))) rfl both rfl mre) fun d2 h2 => ag_nil ⟨by rw [h1 _ _ _ _ _ _ rfl rfl K1.1, h2], rfl⟩)) nd (fun ms ρ h => ⟨_, _, h.1, by rw [h.2]; rfl⟩)) ?_
  have due0 : ∀ {c : Cc} {ρ : List Cell} {a : Expr} {p p2 : Pos} {j : Nat}, ED c a ρ due → ED c (.Subscript a (.Constant (.int 0) j p) p2) ρ (.list (intsD outs)) := fun h => e_ix h e_int rfl (atI_nat (j := 0) rfl)
  have due1 : ∀ {c : Cc} {ρ : List Cell} {a : Expr} {p p2 : Pos} {j : Nat}, ED c a ρ due → ED c (.Subscript a (.Constant (.int 1) j p) p2) ρ (.int (r2 : Nat)) := fun h => e_ix h e_int rfl (atI_nat (j := 1) rfl)
  have rb : (intsD outs).reverse = intsD outs.reverse := by simp [intsD]
  have okt : okD 4 (.list [due, .list (intsD outs.reverse)]) = true := by
    have h0 : okD 4 (.list [due, .list (intsD outs.reverse)]) = (okDs 1 (intsD outs) && true && (okDs 2 (intsD outs.reverse) && true)) := rfl
    rw [h0, ok_ints, ok_ints]; rfl
  have szt : szD (.list [due, .list (intsD outs.reverse)]) = true := by
    simp only [due, szD, szD.szDs, szDs_ints, Bool.and_true, Bool.and_eq_true, decide_eq_true_eq, List.length_map, List.length_reverse, List.length_cons, List.length_nil]
    omega
  have okb : okD 4 (.tuple [.list (intsD row.reverse), .int r]) = true := by
    have h2 : okD 4 (.tuple [.list (intsD row.reverse), .int r]) = (okDs 2 (intsD row.reverse) && true) := rfl
    rw [h2, ok_ints]; rfl
  have szb : szD (.tuple [.list (intsD row.reverse), .int r]) = true := by
    simp only [szD, szD.szDs, szDs_ints, Bool.and_true, Bool.and_eq_true, decide_eq_true_eq, List.length_map, List.length_reverse, List.length_cons, List.length_nil]
    omega
  have at5 : ∀ d, samePost [.list [due, .list (intsD outs.reverse)], .list [due, .list (intsD outs.reverse)]] d → atomD d = true := fun d h => by rw [h]; rfl
  refine sv_cons (fun ρ => ∃ c5 c6 c7 c8 : Cell, ρ = [Cell.d (kD (mkK D R fn)), .d (.int r), .d (.list (intsD row)), .d due, .d (.str kept), c5, c6, c7, c8])
    (s_for (xs := [.tuple [kD (mkK D R fn), .list (intsD row)], .tuple [toL (kD (mkK D R fn)), .tuple (intsD row)]]) (i_seq (e_tup (a_cons (e_tup (a_cons (e_var 0) (a_cons (e_var 2) a_nil))) (a_cons (e_tup (a_cons (EV.mono (e_call DL (a_cons (e_var 0) a_nil) lk) fun d hd => by obtain ⟨x, e1, e2⟩ := hd; cases e1; exact e2) (a_cons (e_tuple (e_var 2) mt) a_nil))) a_nil))) rfl)
      (fun i ρ => ∃ c5 c6 c7 c8 : Cell, ρ = [Cell.d (kD (mkK D R fn)), .d (.int r), .d (.list (intsD row)), .d due, .d (.str kept), c5, c6, c7, c8]) ⟨_, _, _, _, rfl⟩ (fun i d ρi hd hI => ?_) (fun ρ h => h)) ?_
  · obtain ⟨c5, c6, c7, c8, rfl⟩ := hI
    have hxy : ∃ x y, d = .tuple [x, y] ∧ seqD y = some (intsD row) ∧ Went x r row outs r2 ∧ Went x r2 outs.reverse row.reverse r := by
      match i, hd with
      | 0, hd => exact ⟨_, _, (Option.some.inj hd).symm, rfl, K1.1, K1.2.2.2.2⟩
      | 1, hd => exact ⟨_, _, (Option.some.inj hd).symm, rfl, K2.1, K2.2.2.2.2⟩
      | n + 2, hd => cases hd
    obtain ⟨x, y, rfl, hy, hW, hWb⟩ := hxy
    refine ⟨_, GD.gw (g_tup (gs_cons (g_name 5 nd) (gs_cons (g_name 6 nd) gs_nil))), ?_⟩
    refine sv_parT 7 8 (et_call DSn (a_cons (e_var 5) (a_cons (e_var 1) (a_cons (e_var 6) a_nil))) ⟨x, y, r, r2, row, outs, rfl, hy, hW, by omega⟩)
      (n_call DB (a_cons (e_var 5) (a_cons (e_var 1) (a_cons (e_var 6) a_nil))) ⟨x, y, r, r2, row, outs, rfl, hy, hW, by omega⟩) nd fun v x' S1 ff as ys hx hys tr => ?_
    have hx := hx _ _ _ _ _ _ rfl hy hW
    have hys := hys _ _ _ _ _ _ rfl hy hW
    subst hx
    subst hys
    refine svp_to (s_if (TD.eq (u := false) (t_not (t_valD (EV.mono (e_callH DS (ah_cons (eh_lst (ah_cons (eh_v 7 rfl tr) (ah_cons (eh_var 8 ⟨rfl, .inl rfl⟩) ah_nil))) (ah_cons (eh_of (e_lst (a_cons (e_var 3) (a_cons (EV.eq (EL.ed (n_rev (due0 (e_var 3)))) (by rw [rb])) a_nil)))) ah_nil)) ⟨_, rfl, okt, szt⟩ at5) fun d hd => hd))) rfl) (fun h => nomatch h) (fun _ => sv_nil rfl)) ?_
    refine svp_to (s_if (TD.eq (u := false) (t_not (t_valD (EV.mono (e_call DS (a_cons (EV.mono (ET.ev (et_call DSn (a_cons (e_var 5) (a_cons (due1 (e_var 3)) (a_cons (e_tupO 8 ⟨rfl, .inl rfl⟩ mt) a_nil))) ⟨x, _, r2, r, outs.reverse, row.reverse, rfl, rfl, hWb, by rw [List.length_reverse]; omega⟩)) fun d hd => hd _ _ _ _ _ _ rfl rfl hWb) (a_cons (e_tup (a_cons (EV.eq (EL.ed (n_rev (e_var 2))) (by simp [intsD])) (a_cons (e_var 1) a_nil))) a_nil)) ⟨_, rfl, okb, szb⟩) fun d hd => hd))) rfl) (fun h => nomatch h) (fun _ => sv_nil rfl)) ?_
    obtain ⟨t, l, w, ws, rfl, ht, hf, hws⟩ := tr_pair tr
    refine svp_app 7 (j := 0) (k := 0) rfl ht rfl hf e_int (by rw [hws, List.length_map]; omega) ?_
    refine sv_to (s_append 8 (P := fun d => d = .int 7) ⟨rfl, .inl rfl⟩ e_int (by simp; omega) fun d hd => by subst hd; rfl) ?_
    refine sv_one (s_if (TD.eq (u := false) (t_not (t_valD (EV.mono (e_call DS (a_cons (e_lst (a_cons (EV.mono (ET.ev (et_call DSn (a_cons (e_var 5) (a_cons (e_var 1) (a_cons (e_var 6) a_nil))) ⟨x, y, r, r2, row, outs, rfl, hy, hW, by omega⟩)) fun d hd => hd _ _ _ _ _ _ rfl hy hW) (a_cons (EV.mono (EN.ev (n_call DB (a_cons (e_var 5) (a_cons (e_var 1) (a_cons (e_var 6) a_nil))) ⟨x, y, r, r2, row, outs, rfl, hy, hW, by omega⟩)) fun d ⟨xs, e, h⟩ => by rw [e, h _ _ _ _ _ _ rfl hy hW]) a_nil))) (a_cons (e_lst (a_cons (e_var 3) (a_cons (EV.eq (EL.ed (n_rev (due0 (e_var 3)))) (by rw [rb])) a_nil))) a_nil)) ⟨_, rfl, okt, szt⟩) fun d hd => hd))) rfl) (fun h => nomatch h) (fun _ => sv_nil ⟨_, _, _, _, rfl⟩))
  · rintro ρ ⟨c5, c6, c7, c8, rfl⟩
    refine sv_one (s_retD (d := .bool true) (EV.eq (e_cmp (e_repr (e_lst (a_cons (e_var 0) (a_cons (e_var 2) a_nil))) rfl both rfl mre) (e_var 4) c_eqS) ?_) ⟨_, rfl, rfl⟩)
    rw [decide_eq_true rfl]
/-! ### the law's own asking -/
def truePost (_ : List PyData) (d : PyData) : Prop := d = .bool true
abbrev N_law_right : List Str := ["_law_box_here", "_law_kind_here", "_law_turn", "_law_many", "_law_rest", "_law_ball"]
theorem sc_law_right : FnScope N_law_right ["_law_box_here"] (defScope S_law_right) := ⟨rfl, rfl, rfl, by decide +kernel, rfl, by decide +kernel, by decide +kernel⟩
theorem ok_law_right {g : Gc} {f : Addr} {fd : FuncData} (F : Fun g.K "_law_right" "_law_right" S_law_right f fd) (DT : Df g "_law_take" 1 (SpB 1 1 takePre takePost)) (DK : Df g "_law_kind" 2 (SpB 2 4000 kindPre kindPost)) (DR : Dg g true "_law_row_right" 6 (SpP 3 rowPre samePost)) (mr : g.mg "range" = none) (ml : g.mg "len" = none) :
    FnG g 7 f fd ["_law_box_here"] (SpB 0 30000 (fun ds => ds = []) truePost) := by
  refine fnG_box (N := N_law_right) F sc_law_right rfl (by decide) fun ds M hl hp hM => ?_
  subst hp
  have nd := sc_law_right.nd
  have ok0 : ∀ {r : List Cell} {m : Nat}, r[0]? = some (Cell.o (.b m)) → Bx.Ok ⟨0, Own.b⟩ r m := fun h => ⟨.inl rfl, h⟩
  unfold boxMax at hM
  have one : ∀ {c : Cc} {r : List Cell} {m : Nat} {s a : Int} {p1 p2 p3 p4 p5 p6 : Pos} {j1 j2 : Nat} (_ : c.g = g) (_ : 1 ≤ c.k) (_ : c.N[0]? = some ("_law_box_here" : Str)) (_ : Glb c "_law_take") (_ : Vis c.sc "_law_box_here") (_ : 1 ≤ s) (_ : s ≤ 10000000) (_ : m + 1 ≤ 1000000000),
      EB c ⟨0, Own.b⟩ (.BinOp (.Constant (.int a) j1 p1) .Add (.Call (.Name "_law_take" p2) [.Name "_law_box_here" p3, .Constant (.int s) j2 p4] [] p5) p6) r m (fun d m' => m' = m + 1 ∧ ∃ z : Int, d = .int (a + z) ∧ 0 ≤ z ∧ z < s) := by
    intro c r m s a p1 p2 p3 p4 p5 p6 j1 j2 hg hk hN hG hV h1 h2 hm
    refine eb_add (eb_ev e_int) fun x m1 ⟨e1, e2⟩ => EB.mono (eb_takeD DT (B := ⟨0, Own.b⟩) (s := s) hg e_int h1 h2 (by unfold boxMax; omega) hN hk hG hV (by decide) (by decide)) fun y m2 ⟨e3, z, e4, z0, z1⟩ => ⟨a, z, e1, e4, by omega, z, rfl, z0, z1⟩
  -- a kind by draws
  have kind : ∀ {c : Cc} {r : List Cell} {m : Nat} {s t : Int} {p1 p2 p3 p4 p5 p6 p7 p8 p9 p10 p11 p12 p13 p14 p15 : Pos} {j1 j2 j3 j4 : Nat} (_ : c.g = g) (_ : 2 ≤ c.k) (_ : c.N[0]? = some ("_law_box_here" : Str)) (_ : Glb c "_law_take") (_ : Glb c "_law_kind") (_ : Vis c.sc "_law_box_here") (_ : 1 ≤ s) (_ : s ≤ 12) (_ : 1 ≤ t) (_ : t ≤ 64) (_ : m + 5000 ≤ 1000000000),
      EB c ⟨0, Own.b⟩ (.Call (.Name "_law_kind" p7) [.Name "_law_box_here" p8, .BinOp (.Constant (.int 1) j1 p1) .Add (.Call (.Name "_law_take" p2) [.Name "_law_box_here" p3, .Constant (.int s) j2 p4] [] p5) p6, .BinOp (.Constant (.int 1) j3 p9) .Add (.Call (.Name "_law_take" p10) [.Name "_law_box_here" p11, .Constant (.int t) j4 p12] [] p13) p14] [] p15) r m
        (fun d m' => ∃ D R fn, d = kD (mkK D R fn) ∧ Backs D R fn ∧ 1 ≤ D ∧ (D : Int) ≤ s ∧ 1 ≤ R ∧ (R : Int) ≤ t ∧ m' = m + 4002) := by
    intro c r m s t p1 p2 p3 p4 p5 p6 p7 p8 p9 p10 p11 p12 p13 p14 p15 j1 j2 j3 j4 hg hk hN hG hG2 hV s1 s2 t1 t2 hm
    have hg' := hg
    subst hg
    refine eb_call DK (ab_cons (one rfl (by omega) hN hG hV s1 (by omega) (by omega)) fun d1 m1 ⟨q1, y, q2, y0, y1⟩ => ab_cons (one rfl (by show 1 ≤ c.k; omega) hN hG hV t1 (by omega) (by omega)) fun d2 m2 ⟨q3, y', q4, y2, y3⟩ => ab_nil ?_) hN hk hG2 hV (by decide) (by decide) (by decide) (fun _ => rfl) (fun _ => rfl)
    refine ⟨rfl, ⟨(1 + y).toNat, (1 + y').toNat, by rw [q2, q4, Int.toNat_of_nonneg (by omega), Int.toNat_of_nonneg (by omega)], by omega, by omega, by omega, by omega⟩, by unfold boxMax; omega, fun d hd => ?_⟩
    obtain ⟨D', R', k, e1, e2, e3⟩ := hd
    rw [q2, q4] at e1
    simp only [List.cons.injEq, PyData.int.injEq, and_true] at e1
    obtain ⟨fn, rfl, hB⟩ := e3.mk'
    exact ⟨D', R', fn, e2, hB, by omega, by omega, by omega, by omega, by omega⟩
  refine sv_cons (fun r => ∃ D1 R1 f1, r = [Cell.o (.b (M + 4002)), .d (kD (mkK D1 R1 f1)), .u, .u, .u, .u] ∧ Backs D1 R1 f1 ∧ 1 ≤ D1 ∧ D1 ≤ 6 ∧ 1 ≤ R1 ∧ R1 ≤ 8)
    (s_setB 1 (ok0 rfl) (kind (s := 6) (t := 8) rfl (by show 2 ≤ 6; decide) rfl rfl rfl (.inr (.inl rfl)) (by decide) (by decide) (by decide) (by decide) (by omega)) nd fun d m ⟨D, R, fn, h1, h2, h3, h4, h5, h6, h7⟩ => ⟨D, R, fn, by subst h1 h7; rfl, h2, h3, by omega, h5, by omega⟩) ?_
  rintro r ⟨D, R, fn, rfl, hB, hD, hD', hR, hR'⟩
  have len1 : ((mkK D R fn).map rowD).length = R := by simp [mkK]
  have row0 : ((mkK D R fn).map rowD)[0]? = some (.tuple ((List.range D).map fun d => pD (fn 0 d))) := by rw [rows_mk]; exact rng_at (by omega)
  refine sv_cons (fun r => ∃ m c2 c3 c4, r = [Cell.o (.b m), .d (kD (mkK D R fn)), c2, c3, c4, .u] ∧ m ≤ M + 4002 + 4 * 64)
    (s_forR (n := 4) (i_rangeN (n := 4) e_int mr (by decide)) (fun i r => ∃ m c2 c3 c4, r = [Cell.o (.b m), .d (kD (mkK D R fn)), c2, c3, c4, .u] ∧ m ≤ M + 4002 + i * 64) ⟨_, _, _, _, rfl, by omega⟩ (fun i ρi hi hI => ?_) (fun r h => h)) ?_
  · obtain ⟨m, c2, c3, c4, rfl, hm⟩ := hI
    refine ⟨_, gw_name 2 nd, ?_⟩
    refine sv_cons (fun r => ∃ a b : Nat, r = [Cell.o (.b (m + 3)), .d (kD (mkK D R fn)), .d (.int (i : Nat)), .d (.int (a : Nat)), .d (.int (b : Nat)), .u] ∧ a ≤ 60 ∧ b < R)
      (s_par2 3 4 (P := fun ms r => ∃ a b : Nat, ms = [.d (.int (a : Nat)), .d (.int (b : Nat))] ∧ r = [Cell.o (.b (m + 3)), .d (kD (mkK D R fn)), .d (.int (i : Nat)), c3, c4, .u] ∧ a ≤ 60 ∧ b < R)
        (ax_x (P1 := fun d r => ∃ a : Nat, d = .int (a : Nat) ∧ r = [Cell.o (.b (m + 2)), .d (kD (mkK D R fn)), .d (.int (i : Nat)), c3, c4, .u] ∧ a ≤ 60) (xv_eb (B := ⟨0, Own.b⟩) (ok0 rfl) (eb_take DT rfl (ab_cons (P1 := fun d m' => ∃ s : Int, d = .int s ∧ 1 ≤ s ∧ s ≤ 61 ∧ m' = m + 1) ?_ fun d m' ⟨s, e1, e2, e3, e4⟩ => ab_nil ⟨s, by rw [e1], e2, by omega, by unfold boxMax; omega, fun z z0 z1 => ⟨z.toNat, by rw [Int.toNat_of_nonneg z0], by subst e4; rfl, by omega⟩⟩))) fun d r ⟨a, h1, h2, h3⟩ => by
          subst h1 h2
          refine ax_x (P1 := fun d r => ∃ b : Nat, d = .int (b : Nat) ∧ r = [Cell.o (.b (m + 3)), .d (kD (mkK D R fn)), .d (.int (i : Nat)), c3, c4, .u] ∧ b < R) (xv_eb (B := ⟨0, Own.b⟩) (ok0 rfl) (EB.mono (eb_takeD DT (s := ((R : Nat) : Int)) rfl (EV.eq (e_len (e_var 1) rfl ml) (by rw [len1])) (by omega) (by omega) (by unfold boxMax; omega)) fun d m' ⟨e1, z, e2, z0, z1⟩ => ⟨z.toNat, by rw [e2, Int.toNat_of_nonneg z0], by subst e1; rfl, by omega⟩)) fun d r ⟨b, h1, h2, h4⟩ => ?_
          subst h1 h2
          exact ax_g (ag_nil ⟨a, b, rfl, rfl, h3, h4⟩)) nd (fun ms r h => ?_)) ?_
    · refine eb_ix (eb_ev (e_lst (a_cons e_int (a_cons e_int (a_cons e_int a_nil))))) fun x M1 hx => ?_
      obtain ⟨rfl, rfl⟩ := hx
      refine EB.mono (eb_takeD DT (s := 3) rfl e_int (by decide) (by decide) (by unfold boxMax; omega)) fun d m' ⟨e1, z, e2, h0, h3⟩ => ?_
      subst e1 e2
      have hz : z = 0 ∨ z = 1 ∨ z = 2 := by omega
      rcases hz with rfl | rfl | rfl
      · exact ⟨_, 0, .int 5, rfl, rfl, rfl, 5, rfl, by decide, by decide, rfl⟩
      · exact ⟨_, 1, .int 13, rfl, rfl, rfl, 13, rfl, by decide, by decide, rfl⟩
      · exact ⟨_, 2, .int 61, rfl, rfl, rfl, 61, rfl, by decide, by decide, rfl⟩
    · obtain ⟨a, b, h1, h2, h3, h4⟩ := h
      exact ⟨_, _, h1, a, b, by rw [h2]; rfl, h3, h4⟩
    rintro r ⟨a, b, rfl, ha, hb⟩
    refine sv_one (s_ifX (P := fun t r => t = false ∧ r = [Cell.o (.b (m + 3 + a)), .d (kD (mkK D R fn)), .d (.int (i : Nat)), .d (.int (a : Nat)), .d (.int (b : Nat)), .u]) (xt_not (xt_val (xv_eb (B := ⟨0, Own.b⟩) (ok0 rfl) (eb_callP DR
      (ab_cons (P1 := fun d m' => d = kD (mkK D R fn) ∧ m' = m + 3) (eb_ev (e_var 1)) fun d1 m1 ⟨q1, q2⟩ => ab_cons (P1 := fun d m' => d = .int (b : Nat) ∧ m' = m + 3) (EB.mono (eb_ev (e_var 4)) fun d m' ⟨h1, h2⟩ => ⟨h1, h2.trans q2⟩) fun d2 m2 ⟨q3, q4⟩ =>
        ab_cons (P1 := fun d m' => ∃ row : List Nat, d = .list (intsD row) ∧ row.length = a ∧ (∀ x ∈ row, x < D) ∧ m' = m + 3 + a) (EB.mono (eb_lc [("_law_ball", 5)] (fun j acc m' => ∃ ns : List Nat, acc = intsD ns ∧ ns.length = j ∧ (∀ x ∈ ns, x < D) ∧ m' = m + 3 + j) nd (i_rangeN (n := a) (e_var 3) mr (by omega)) (by rw [rngD_len]; omega) rfl (by decide) ⟨[], rfl, rfl, (fun _ h => nomatch h), q4⟩ fun j d acc m' hd ⟨ns, h1, h2, h3, h4⟩ => ?_) fun d m' ⟨ys, e1, e2, ns, e3, e4, e5, e6⟩ => ⟨ns, by rw [e1, e3], by rw [e4, rngD_len], e5, by rw [e6, rngD_len]⟩)
        fun d3 m3 ⟨row, q5, q6, q7, q8⟩ => ab_nil ⟨rfl, ⟨D, R, b, fn, row, by rw [q1, q3, q5], hB, hD', hR', hb, q7, by omega⟩, fun e he => ⟨true, he, rfl, by subst q8; rfl⟩⟩)))))
      (fun r h => (by have := h.1; cases this)) (fun r h => sv_nil ⟨_, _, _, _, h.2, by omega⟩))
    obtain ⟨hj, rfl⟩ := rng_turn0 hd
    refine ⟨_, _, g_name 5 nd, fun _ h => h, ok0 rfl, EB.mono (eb_takeD DT (s := ((D : Nat) : Int)) rfl (EV.eq (e_len (e_ix (e_var 1) e_int rfl (atI_nat (j := 0) row0)) rfl ml) (by rw [List.length_map, List.length_range])) (by omega) (by omega) (by unfold boxMax; omega)) fun e m'' ⟨e1, z, e2, z0, z1⟩ => ⟨ns ++ [z.toNat], ?_, by simp [h2], fun x hx => ?_, by omega⟩⟩
    · rw [h1, e2]
      show _ = (ns ++ [z.toNat]).map fun n => PyData.int (n : Nat)
      rw [List.map_append]
      show _ = _ ++ [PyData.int ((z.toNat : Nat) : Int)]
      rw [Int.toNat_of_nonneg z0]
    · rcases List.mem_append.mp hx with w | w
      · exact h3 x w
      · rw [List.mem_singleton.mp w]; omega
  · rintro r ⟨m, c2, c3, c4, rfl, hm⟩
    exact sv_one (s_retD e_bool ⟨_, _, rfl, rfl, rfl, .inl ⟨m, rfl, by omega⟩⟩)
/-! ### the law -/
abbrev N_law : List Str := ["_law_script", "_law_cells", "_law_k"]
theorem sc_law : FnScope N_law ["_law_script"] (defScope S_law) := ⟨rfl, rfl, rfl, by decide +kernel, rfl, by decide +kernel, by decide +kernel⟩
theorem ok_law {g : Gc} {f : Addr} {fd : FuncData} (F : Fun g.K "law" "law" S_law f fd) (DF : Df g "_law_folded" 1 (SpS 1 g.K foldPre foldPost)) (DB : Df g "_law_box" 1 (SpL 2 boxPre boxPost)) (DR : Dg g true "_law_right" 7 (SpB 0 30000 (fun ds => ds = []) truePost)) (mr : g.mg "range" = none) (mm : g.mg "max" = none) (ml : g.mg "len" = none) (ma : g.mg "all" = none) :
    FnG g 8 f fd ["_law_script"] (SpLaw g.K) := by
  refine fnG_law (N := N_law) F sc_law rfl (by decide) fun ns hns => ?_
  refine sv_cons (fun r => ∃ ms : List Int, r = [Cell.s ns, .o (.l (ms.map .int)), .u] ∧ ms.length ≤ 63) (s_setN 1 (n_callS (i := 0) DF rfl (a_cons e_int a_nil) ⟨hns, 4, rfl, by decide, by decide⟩) sc_law.nd fun xs ⟨s, ms, e1, e2, e3⟩ => ⟨ms, by rw [e2]; rfl, by omega⟩) ?_
  rintro r ⟨ms, rfl, hms⟩
  refine sv_freeze 1 ?_
  refine sv_one (s_retD (EV.eq (e_all (ts := (List.range (max 2 ms.length)).map fun _ => true) (EL.ed ?_) ma) (by rw [show ((List.range (max 2 ms.length)).map fun _ => true).all id = true from by simp])) rfl)
  rw [List.map_map]
  refine n_lcR (n := max 2 ms.length) [("_law_k", 2)] (fun _ => .bool true) sc_law.nd (i_rangeN (EV.eq (e_max2 e_int (e_len (e_var 1) rfl ml) mm) (by rw [List.length_map]; congr 1; split <;> omega)) mr (by omega)) (by omega) rfl fun i hi => ?_
  exact ⟨_, _, g_name 2 sc_law.nd, fun _ h => h, q_nil, fun _ => EV.mono (e_callBN DR (n_call DB (a_cons (e_var 1) (a_cons (e_var 2) a_nil)) ⟨ms, i, rfl, by omega⟩) (fun xs ⟨n, x, e1, e2⟩ => ⟨n, x, e1, e2⟩) rfl (by decide)) fun d hd => hd⟩
/-! ### what the top has written, the statement -/
theorem all_mk {l : PySem.W.OpenLaw} {w : World} {K : PySem.W.Frag} {h : Heap} {mg : Str → Option Value} {fa : Addr} (X : K.In h) (G : h.Ns mainGlobals mg) (hfa : mg "law" = some (.ref fa))
    {f0 : Addr} {od0 an0 : Option Addr} {sl0 : Array (Option Value)} {oc0 kV0 dc0 pm0 cd0 ct0 : Value}
    (a0 : PySem.W.nsIn K mainGlobals "sent" = some (some (.ref f0))) (l0 : K.lookup f0 = some ⟨oc0, od0, .func (PySem.W.fnOf "sent" "sent" (defArgs S_sent) (defBody S_sent) (defScope S_sent) .none kV0 dc0 pm0 an0 cd0 ct0), sl0⟩) (c0 : PySem.W.codeIn K cd0 "sent" = true) (k0 : PySem.W.keepIn K (.ref f0) = true)
    {f1 : Addr} {od1 an1 : Option Addr} {sl1 : Array (Option Value)} {oc1 kV1 dc1 pm1 cd1 ct1 : Value}
    (a1 : PySem.W.nsIn K mainGlobals "back_row" = some (some (.ref f1))) (l1 : K.lookup f1 = some ⟨oc1, od1, .func (PySem.W.fnOf "back_row" "back_row" (defArgs S_back_row) (defBody S_back_row) (defScope S_back_row) .none kV1 dc1 pm1 an1 cd1 ct1), sl1⟩) (c1 : PySem.W.codeIn K cd1 "back_row" = true) (k1 : PySem.W.keepIn K (.ref f1) = true)
    {f2 : Addr} {od2 an2 : Option Addr} {sl2 : Array (Option Value)} {oc2 kV2 dc2 pm2 cd2 ct2 : Value}
    (a2 : PySem.W.nsIn K mainGlobals "_law_box" = some (some (.ref f2))) (l2 : K.lookup f2 = some ⟨oc2, od2, .func (PySem.W.fnOf "_law_box" "_law_box" (defArgs S_law_box) (defBody S_law_box) (defScope S_law_box) .none kV2 dc2 pm2 an2 cd2 ct2), sl2⟩) (c2 : PySem.W.codeIn K cd2 "_law_box" = true) (k2 : PySem.W.keepIn K (.ref f2) = true)
    {f3 : Addr} {od3 an3 : Option Addr} {sl3 : Array (Option Value)} {oc3 kV3 dc3 pm3 cd3 ct3 : Value}
    (a3 : PySem.W.nsIn K mainGlobals "_law_take" = some (some (.ref f3))) (l3 : K.lookup f3 = some ⟨oc3, od3, .func (PySem.W.fnOf "_law_take" "_law_take" (defArgs S_law_take) (defBody S_law_take) (defScope S_law_take) .none kV3 dc3 pm3 an3 cd3 ct3), sl3⟩) (c3 : PySem.W.codeIn K cd3 "_law_take" = true) (k3 : PySem.W.keepIn K (.ref f3) = true)
    {f4 : Addr} {od4 an4 : Option Addr} {sl4 : Array (Option Value)} {oc4 kV4 dc4 pm4 cd4 ct4 : Value}
    (a4 : PySem.W.nsIn K mainGlobals "_law_folded" = some (some (.ref f4))) (l4 : K.lookup f4 = some ⟨oc4, od4, .func (PySem.W.fnOf "_law_folded" "_law_folded" (defArgs S_law_folded) (defBody S_law_folded) (defScope S_law_folded) .none kV4 dc4 pm4 an4 cd4 ct4), sl4⟩) (c4 : PySem.W.codeIn K cd4 "_law_folded" = true) (k4 : PySem.W.keepIn K (.ref f4) = true)
    {f5 : Addr} {od5 an5 : Option Addr} {sl5 : Array (Option Value)} {oc5 kV5 dc5 pm5 cd5 ct5 : Value}
    (a5 : PySem.W.nsIn K mainGlobals "_law_same" = some (some (.ref f5))) (l5 : K.lookup f5 = some ⟨oc5, od5, .func (PySem.W.fnOf "_law_same" "_law_same" (defArgs S_law_same) (defBody S_law_same) (defScope S_law_same) .none kV5 dc5 pm5 an5 cd5 ct5), sl5⟩) (c5 : PySem.W.codeIn K cd5 "_law_same" = true) (k5 : PySem.W.keepIn K (.ref f5) = true)
    {f6 : Addr} {od6 an6 : Option Addr} {sl6 : Array (Option Value)} {oc6 kV6 dc6 pm6 cd6 ct6 : Value}
    (a6 : PySem.W.nsIn K mainGlobals "_law_lists" = some (some (.ref f6))) (l6 : K.lookup f6 = some ⟨oc6, od6, .func (PySem.W.fnOf "_law_lists" "_law_lists" (defArgs S_law_lists) (defBody S_law_lists) (defScope S_law_lists) .none kV6 dc6 pm6 an6 cd6 ct6), sl6⟩) (c6 : PySem.W.codeIn K cd6 "_law_lists" = true) (k6 : PySem.W.keepIn K (.ref f6) = true)
    {f7 : Addr} {od7 an7 : Option Addr} {sl7 : Array (Option Value)} {oc7 kV7 dc7 pm7 cd7 ct7 : Value}
    (a7 : PySem.W.nsIn K mainGlobals "_law_kind" = some (some (.ref f7))) (l7 : K.lookup f7 = some ⟨oc7, od7, .func (PySem.W.fnOf "_law_kind" "_law_kind" (defArgs S_law_kind) (defBody S_law_kind) (defScope S_law_kind) .none kV7 dc7 pm7 an7 cd7 ct7), sl7⟩) (c7 : PySem.W.codeIn K cd7 "_law_kind" = true) (k7 : PySem.W.keepIn K (.ref f7) = true)
    {f8 : Addr} {od8 an8 : Option Addr} {sl8 : Array (Option Value)} {oc8 kV8 dc8 pm8 cd8 ct8 : Value}
    (a8 : PySem.W.nsIn K mainGlobals "_law_gone" = some (some (.ref f8))) (l8 : K.lookup f8 = some ⟨oc8, od8, .func (PySem.W.fnOf "_law_gone" "_law_gone" (defArgs S_law_gone) (defBody S_law_gone) (defScope S_law_gone) .none kV8 dc8 pm8 an8 cd8 ct8), sl8⟩) (c8 : PySem.W.codeIn K cd8 "_law_gone" = true) (k8 : PySem.W.keepIn K (.ref f8) = true)
    {f9 : Addr} {od9 an9 : Option Addr} {sl9 : Array (Option Value)} {oc9 kV9 dc9 pm9 cd9 ct9 : Value}
    (a9 : PySem.W.nsIn K mainGlobals "_law_row_right" = some (some (.ref f9))) (l9 : K.lookup f9 = some ⟨oc9, od9, .func (PySem.W.fnOf "_law_row_right" "_law_row_right" (defArgs S_law_row_right) (defBody S_law_row_right) (defScope S_law_row_right) .none kV9 dc9 pm9 an9 cd9 ct9), sl9⟩) (c9 : PySem.W.codeIn K cd9 "_law_row_right" = true) (k9 : PySem.W.keepIn K (.ref f9) = true)
    {f10 : Addr} {od10 an10 : Option Addr} {sl10 : Array (Option Value)} {oc10 kV10 dc10 pm10 cd10 ct10 : Value}
    (a10 : PySem.W.nsIn K mainGlobals "_law_right" = some (some (.ref f10))) (l10 : K.lookup f10 = some ⟨oc10, od10, .func (PySem.W.fnOf "_law_right" "_law_right" (defArgs S_law_right) (defBody S_law_right) (defScope S_law_right) .none kV10 dc10 pm10 an10 cd10 ct10), sl10⟩) (c10 : PySem.W.codeIn K cd10 "_law_right" = true) (k10 : PySem.W.keepIn K (.ref f10) = true)
    {f11 : Addr} {od11 an11 : Option Addr} {sl11 : Array (Option Value)} {oc11 kV11 dc11 pm11 cd11 ct11 : Value}
    (a11 : PySem.W.nsIn K mainGlobals "law" = some (some (.ref f11))) (l11 : K.lookup f11 = some ⟨oc11, od11, .func (PySem.W.fnOf "law" "law" (defArgs S_law) (defBody S_law) (defScope S_law) .none kV11 dc11 pm11 an11 cd11 ct11), sl11⟩) (c11 : PySem.W.codeIn K cd11 "law" = true) (k11 : PySem.W.keepIn K (.ref f11) = true)
    (z_len : PySem.W.nsIn K mainGlobals "len" = some none)
    (z_abs : PySem.W.nsIn K mainGlobals "abs" = some none)
    (z_int : PySem.W.nsIn K mainGlobals "int" = some none)
    (z_divmod : PySem.W.nsIn K mainGlobals "divmod" = some none)
    (z_list : PySem.W.nsIn K mainGlobals "list" = some none)
    (z_enumerate : PySem.W.nsIn K mainGlobals "enumerate" = some none)
    (z_isinstance : PySem.W.nsIn K mainGlobals "isinstance" = some none)
    (z_tuple : PySem.W.nsIn K mainGlobals "tuple" = some none)
    (z_all : PySem.W.nsIn K mainGlobals "all" = some none)
    (z_zip : PySem.W.nsIn K mainGlobals "zip" = some none)
    (z_str : PySem.W.nsIn K mainGlobals "str" = some none)
    (z_bool : PySem.W.nsIn K mainGlobals "bool" = some none)
    (z_range : PySem.W.nsIn K mainGlobals "range" = some none)
    (z_max : PySem.W.nsIn K mainGlobals "max" = some none)
    (z_repr : PySem.W.nsIn K mainGlobals "repr" = some none)
    : ∃ fd : FuncData, (∀ (s : Shared) (v : Value), BindsTo s fd ⟨[v], []⟩ [("_law_script", v)]) ∧ ∀ base : Heap, K.In base → base.Ns mainGlobals mg → FnG ⟨l.prog, w, K, mg, base⟩ 8 fa fd ["_law_script"] (SpLaw K) := by
  have e := hfa.symm.trans (PySem.W.mg_of X G a11)
  cases e
  have m_len := PySem.W.mg_none_of X G z_len
  have m_abs := PySem.W.mg_none_of X G z_abs
  have m_int := PySem.W.mg_none_of X G z_int
  have m_divmod := PySem.W.mg_none_of X G z_divmod
  have m_list := PySem.W.mg_none_of X G z_list
  have m_enumerate := PySem.W.mg_none_of X G z_enumerate
  have m_isinstance := PySem.W.mg_none_of X G z_isinstance
  have m_tuple := PySem.W.mg_none_of X G z_tuple
  have m_all := PySem.W.mg_none_of X G z_all
  have m_zip := PySem.W.mg_none_of X G z_zip
  have m_str := PySem.W.mg_none_of X G z_str
  have m_bool := PySem.W.mg_none_of X G z_bool
  have m_range := PySem.W.mg_none_of X G z_range
  have m_max := PySem.W.mg_none_of X G z_max
  have m_repr := PySem.W.mg_none_of X G z_repr
  have F_sent := fun_mk (st := S_sent) l0 c0 k0
  have h_sent := PySem.W.mg_of X G a0
  have b_sent := F_sent.binds (ps := ["kind", "rest", "row"]) fun _ _ _ _ _ _ us hl => match us, hl with | [_, _, _], _ => rfl
  have F_back_row := fun_mk (st := S_back_row) l1 c1 k1
  have h_back_row := PySem.W.mg_of X G a1
  have b_back_row := F_back_row.binds (ps := ["kind", "rest", "row"]) fun _ _ _ _ _ _ us hl => match us, hl with | [_, _, _], _ => rfl
  have F__law_box := fun_mk (st := S_law_box) l2 c2 k2
  have h__law_box := PySem.W.mg_of X G a2
  have b__law_box := F__law_box.binds (ps := ["_law_script", "_law_k"]) fun _ _ _ _ _ _ us hl => match us, hl with | [_, _], _ => rfl
  have F__law_take := fun_mk (st := S_law_take) l3 c3 k3
  have h__law_take := PySem.W.mg_of X G a3
  have b__law_take := F__law_take.binds (ps := ["_law_box_here", "_law_size"]) fun _ _ _ _ _ _ us hl => match us, hl with | [_, _], _ => rfl
  have F__law_folded := fun_mk (st := S_law_folded) l4 c4 k4
  have h__law_folded := PySem.W.mg_of X G a4
  have b__law_folded := F__law_folded.binds (ps := ["_law_script", "_law_size"]) fun _ _ _ _ _ _ us hl => match us, hl with | [_, _], _ => rfl
  have F__law_same := fun_mk (st := S_law_same) l5 c5 k5
  have h__law_same := PySem.W.mg_of X G a5
  have b__law_same := F__law_same.binds (ps := ["_law_found", "_law_due"]) fun _ _ _ _ _ _ us hl => match us, hl with | [_, _], _ => rfl
  have F__law_lists := fun_mk (st := S_law_lists) l6 c6 k6
  have h__law_lists := PySem.W.mg_of X G a6
  have b__law_lists := F__law_lists.binds (ps := ["_law_thing"]) fun _ _ _ _ _ _ us hl => match us, hl with | [_], _ => rfl
  have F__law_kind := fun_mk (st := S_law_kind) l7 c7 k7
  have h__law_kind := PySem.W.mg_of X G a7
  have b__law_kind := F__law_kind.binds (ps := ["_law_box_here", "_law_doors", "_law_rests"]) fun _ _ _ _ _ _ us hl => match us, hl with | [_, _, _], _ => rfl
  have F__law_gone := fun_mk (st := S_law_gone) l8 c8 k8
  have h__law_gone := PySem.W.mg_of X G a8
  have b__law_gone := F__law_gone.binds (ps := ["_law_kind_here", "_law_rest", "_law_row"]) fun _ _ _ _ _ _ us hl => match us, hl with | [_, _, _], _ => rfl
  have F__law_row_right := fun_mk (st := S_law_row_right) l9 c9 k9
  have h__law_row_right := PySem.W.mg_of X G a9
  have b__law_row_right := F__law_row_right.binds (ps := ["_law_kind_here", "_law_rest", "_law_row"]) fun _ _ _ _ _ _ us hl => match us, hl with | [_, _, _], _ => rfl
  have F__law_right := fun_mk (st := S_law_right) l10 c10 k10
  have h__law_right := PySem.W.mg_of X G a10
  have b__law_right := F__law_right.binds (ps := ["_law_box_here"]) fun _ _ _ _ _ _ us hl => match us, hl with | [_], _ => rfl
  have F_law := fun_mk (st := S_law) l11 c11 k11
  have h_law := PySem.W.mg_of X G a11
  refine ⟨PySem.W.fnOf "law" "law" (defArgs S_law) (defBody S_law) (defScope S_law) .none kV11 dc11 pm11 an11 cd11 ct11, fun s v => .of_eq rfl, fun base _ _ => ?_⟩
  have D_sent :  Dg ⟨l.prog, w, K, mg, base⟩ false "sent" 1 (SpT 3 wentPre wentPost) :=  ⟨_, _, ["kind", "rest", "row"], h_sent, F_sent.kp, b_sent, ok_sent (g := ⟨l.prog, w, K, mg, base⟩) F_sent⟩
  have D_back_row :  Dg ⟨l.prog, w, K, mg, base⟩ false "back_row" 2 (SpL 3 wentPre backPost) :=  ⟨_, _, ["kind", "rest", "row"], h_back_row, F_back_row.kp, b_back_row, ok_back_row (g := ⟨l.prog, w, K, mg, base⟩) F_back_row D_sent⟩
  have D__law_box :  Dg ⟨l.prog, w, K, mg, base⟩ false "_law_box" 1 (SpL 2 boxPre boxPost) :=  ⟨_, _, ["_law_script", "_law_k"], h__law_box, F__law_box.kp, b__law_box, ok_law_box (g := ⟨l.prog, w, K, mg, base⟩) F__law_box m_len m_abs m_int⟩
  have D__law_take :  Dg ⟨l.prog, w, K, mg, base⟩ false "_law_take" 1 (SpB 1 1 takePre takePost) :=  ⟨_, _, ["_law_box_here", "_law_size"], h__law_take, F__law_take.kp, b__law_take, ok_law_take (g := ⟨l.prog, w, K, mg, base⟩) F__law_take m_divmod⟩
  have D__law_folded :  Dg ⟨l.prog, w, K, mg, base⟩ false "_law_folded" 1 (SpS 1 K foldPre foldPost) :=  ⟨_, _, ["_law_script", "_law_size"], h__law_folded, F__law_folded.kp, b__law_folded, ok_law_folded (g := ⟨l.prog, w, K, mg, base⟩) F__law_folded m_list m_enumerate⟩
  have D__law_same :  Dg ⟨l.prog, w, K, mg, base⟩ false "_law_same" 5 (SpP 2 (samePre 4) samePost) :=  ⟨_, _, ["_law_found", "_law_due"], h__law_same, F__law_same.kp, b__law_same, ok_law_same (g := ⟨l.prog, w, K, mg, base⟩) F__law_same h__law_same b__law_same m_isinstance m_list m_tuple m_len m_all m_zip m_str m_int m_bool 4 (by decide)⟩
  have D__law_lists :  Dg ⟨l.prog, w, K, mg, base⟩ false "_law_lists" 4 (SpP 1 (listsPre 3) listsPost) :=  ⟨_, _, ["_law_thing"], h__law_lists, F__law_lists.kp, b__law_lists, ok_law_lists (g := ⟨l.prog, w, K, mg, base⟩) F__law_lists h__law_lists b__law_lists m_isinstance m_list m_tuple 3⟩
  have D__law_kind :  Dg ⟨l.prog, w, K, mg, base⟩ false "_law_kind" 2 (SpB 2 4000 kindPre kindPost) :=  ⟨_, _, ["_law_box_here", "_law_doors", "_law_rests"], h__law_kind, F__law_kind.kp, b__law_kind, ok_law_kind (g := ⟨l.prog, w, K, mg, base⟩) F__law_kind rfl D__law_take m_range m_len m_tuple⟩
  have D__law_gone :  Dg ⟨l.prog, w, K, mg, base⟩ false "_law_gone" 1 (SpP 3 wentPre wentPost) :=  ⟨_, _, ["_law_kind_here", "_law_rest", "_law_row"], h__law_gone, F__law_gone.kp, b__law_gone, ok_law_gone (g := ⟨l.prog, w, K, mg, base⟩) F__law_gone⟩
  have D__law_row_right :  Dg ⟨l.prog, w, K, mg, base⟩ true "_law_row_right" 6 (SpP 3 rowPre samePost) :=  ⟨_, _, ["_law_kind_here", "_law_rest", "_law_row"], h__law_row_right, F__law_row_right.kp, b__law_row_right, ok_law_row_right (g := ⟨l.prog, w, K, mg, base⟩) F__law_row_right D__law_gone D_sent D_back_row D__law_same D__law_lists m_tuple m_repr⟩
  have D__law_right :  Dg ⟨l.prog, w, K, mg, base⟩ true "_law_right" 7 (SpB 0 30000 (fun ds => ds = []) truePost) :=  ⟨_, _, ["_law_box_here"], h__law_right, F__law_right.kp, b__law_right, ok_law_right (g := ⟨l.prog, w, K, mg, base⟩) F__law_right D__law_take D__law_kind D__law_row_right m_range m_len⟩
  exact ok_law (g := ⟨l.prog, w, K, mg, base⟩) F_law D__law_folded D__law_box D__law_right m_range m_max m_len m_all
end Law
open PySem PySem.W PyProof.Rows
set_option maxHeartbeats 0 in
theorem PySem.Challenge.cw_ballways_k24_rows_sent_and_brought_back_holds : PySem.Challenge.rw_ballways_k24_rows_sent_and_brought_back.Holds := by
  w_on; o_law; k_head; (case hw => w_witness2)
  k_fill
  refine Bd.walk_go (l := PySem.Challenge.rw_ballways_k24_rows_sent_and_brought_back) (n := 63) (k := 8) (x := "_law_script") rfl (by decide) rfl ⟨rfl, by decide, by decide⟩ (fun w h Y => PySem.W.kIn_of Y) ?F
  case F =>
    intro w mg fa h KX G hmg
    refine' Law.all_mk KX G hmg ?a0 ?l0 ?c0 ?k0 ?a1 ?l1 ?c1 ?k1 ?a2 ?l2 ?c2 ?k2 ?a3 ?l3 ?c3 ?k3 ?a4 ?l4 ?c4 ?k4 ?a5 ?l5 ?c5 ?k5 ?a6 ?l6 ?c6 ?k6 ?a7 ?l7 ?c7 ?k7 ?a8 ?l8 ?c8 ?k8 ?a9 ?l9 ?c9 ?k9 ?a10 ?l10 ?c10 ?k10 ?a11 ?l11 ?c11 ?k11 ?z_len ?z_abs ?z_int ?z_divmod ?z_list ?z_enumerate ?z_isinstance ?z_tuple ?z_all ?z_zip ?z_str ?z_bool ?z_range ?z_max ?z_repr
    (case a0 => k_is)
    (case l0 => k_is)
    (case c0 => k_is)
    (case k0 => k_is)
    (case a1 => k_is)
    (case l1 => k_is)
    (case c1 => k_is)
    (case k1 => k_is)
    (case a2 => k_is)
    (case l2 => k_is)
    (case c2 => k_is)
    (case k2 => k_is)
    (case a3 => k_is)
    (case l3 => k_is)
    (case c3 => k_is)
    (case k3 => k_is)
    (case a4 => k_is)
    (case l4 => k_is)
    (case c4 => k_is)
    (case k4 => k_is)
    (case a5 => k_is)
    (case l5 => k_is)
    (case c5 => k_is)
    (case k5 => k_is)
    (case a6 => k_is)
    (case l6 => k_is)
    (case c6 => k_is)
    (case k6 => k_is)
    (case a7 => k_is)
    (case l7 => k_is)
    (case c7 => k_is)
    (case k7 => k_is)
    (case a8 => k_is)
    (case l8 => k_is)
    (case c8 => k_is)
    (case k8 => k_is)
    (case a9 => k_is)
    (case l9 => k_is)
    (case c9 => k_is)
    (case k9 => k_is)
    (case a10 => k_is)
    (case l10 => k_is)
    (case c10 => k_is)
    (case k10 => k_is)
    (case a11 => k_is)
    (case l11 => k_is)
    (case c11 => k_is)
    (case k11 => k_is)
    (case z_len => k_is)
    (case z_abs => k_is)
    (case z_int => k_is)
    (case z_divmod => k_is)
    (case z_list => k_is)
    (case z_enumerate => k_is)
    (case z_isinstance => k_is)
    (case z_tuple => k_is)
    (case z_all => k_is)
    (case z_zip => k_is)
    (case z_str => k_is)
    (case z_bool => k_is)
    (case z_range => k_is)
    (case z_max => k_is)
    (case z_repr => k_is)
