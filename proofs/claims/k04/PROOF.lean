import PyProof.Rows.All
import Wide.All
import OpenK.AllK
import Wide.FinOn
import HandS.Base
import HandS.Call
import HandS.List
import HandS.Comp
import HandS.Iter
import HandS.Dict
import HandS.Conv
import HandS.IsInst
import HandS.Words
import HandS.Small
import HandS.NoneIn
import HandS.Style
import HandS.TupMul
import HandS.TupAny
import HandS.Deep
import HandS.WideBits
import HandS.RevRange
import HandS.RevTup
import HandS.Rev
import HandS.Zip
import HandS.RaiseMore
import HandS.Sort
import HandS.SortInts
import HandS.SortRule
import HandS.TupSets
import HandS.TupLen
import HandS.WordsDict
import HandS.DictTup
import HandS.SetFor
import HandS.More
import HandS.ListItems
import KE.GoesMore
import KE.KUnpackStar
import PyProof.ReprBulk
import PyProof.ReprRoads
import HandS.DictComp
import PySem.Challenge.RW_ballways_k04_whole_renamed_kinds
set_option Elab.async false
set_option linter.all false
set_option maxRecDepth 100000
set_option maxHeartbeats 4000000
/-! A plain heap over the hand layer: values (tuples written out), objects by number; how it lies in the hand layer's heap. -/
namespace Ev
open PySem PySem.Spec PyProof.Rows L2

inductive Val where
  | non | bl (b : Bool) | int (i : Int) | str (x : Str) | tup (vs : List Val) | ref (i : Nat) | scr (ns : List Int)
instance : Inhabited Val := ⟨.non⟩
/-- a key of a dict -/
inductive DK where
  | k (x : Key) | t (xs : List Key)
  deriving DecidableEq
/-- an object -/
inductive AO where
  | lst (vs : List Val) | dct (kvs : List (DK × Val))
abbrev AH := List AO
abbrev Sl := List (Option Val)

/-- the script: never written -/
def SqF (K : PySem.W.Frag) (H : Hp) (a : Addr) (xs : List V) : Prop :=
  (∃ o, H a = some (.frz o (.lst xs))) ∨
    ∃ (o : Obj) (its : Array Value) (n : Nat), K.lookup a = some o ∧ o.cls = .type "list" ∧ o.dict = none ∧ o.data = .seq its n ∧ its.size ≤ sizeLine ∧ Vals xs its.toList
theorem SqF.l {K : PySem.W.Frag} {H : Hp} {a : Addr} {xs : List V} (h : SqF K H a xs) : SqL K H a xs := by
  rcases h with h | h
  · exact .inl (.inr h)
  · exact .inr h
mutual
inductive VR (K : PySem.W.Frag) (m : List Addr) (H : Hp) : Val → V → Prop
  | non : VR K m H .non .non
  | bl (b : Bool) : VR K m H (.bl b) (.bl b)
  | int (i : Int) : VR K m H (.int i) (.int i)
  | str (x : Str) : VR K m H (.str x) (.str x)
  | tup {a : Addr} {us : List V} {vs : List Val} : H a = some (HO.tup us) → VRs K m H vs us → VR K m H (.tup vs) (V.ref a)
  | ref {i : Nat} {a : Addr} : m[i]? = some a → VR K m H (.ref i) (V.ref a)
  | scr {a : Addr} {ns : List Int} : SqF K H a (ns.map V.int) → VR K m H (.scr ns) (V.ref a)
inductive VRs (K : PySem.W.Frag) (m : List Addr) (H : Hp) : List Val → List V → Prop
  | nil : VRs K m H [] []
  | cons {v : Val} {u : V} {vs : List Val} {us : List V} : VR K m H v u → VRs K m H vs us → VRs K m H (v :: vs) (u :: us)
end
inductive KRk (K : PySem.W.Frag) (m : List Addr) (H : Hp) : List (DK × Val) → List (Key × V) → Prop
  | nil : KRk K m H [] []
  | cons {k : Key} {v : Val} {u : V} {xs : List (DK × Val)} {ys : List (Key × V)} : VR K m H v u → KRk K m H xs ys → KRk K m H ((.k k, v) :: xs) ((k, u) :: ys)
inductive KRt (K : PySem.W.Frag) (m : List Addr) (H : Hp) : List (DK × Val) → List (List Key × V) → Prop
  | nil : KRt K m H [] []
  | cons {k : List Key} {v : Val} {u : V} {xs : List (DK × Val)} {ys : List (List Key × V)} : VR K m H v u → KRt K m H xs ys → KRt K m H ((.t k, v) :: xs) ((k, u) :: ys)
def OR (K : PySem.W.Frag) (m : List Addr) (H : Hp) : AO → HO → Prop
  | .lst vs, o => ∃ us, o = .lst us ∧ VRs K m H vs us
  | .dct kvs, o => (∃ xs, o = .dK xs ∧ KRk K m H kvs xs) ∨ (∃ xs, o = .dT xs ∧ KRt K m H kvs xs)
structure Rel (K : PySem.W.Frag) (m : List Addr) (h : AH) (H : Hp) : Prop where
  len : m.length = h.length
  nd : m.Nodup
  ob : ∀ (i : Nat) (o : AO), h[i]? = some o → ∃ a u, m[i]? = some a ∧ H a = some u ∧ OR K m H o u
/-- what went on: numbers stay, what the plain heap doesn't know stays -/
structure Stp (m : List Addr) (H : Hp) (m' : List Addr) (H' : Hp) : Prop where
  pre : ∀ (i : Nat) (a : Addr), m[i]? = some a → m'[i]? = some a
  fr : ∀ (a : Addr) (o : HO), H a = some o → a ∉ m → H' a = some o ∧ a ∉ m'
structure SR (K : PySem.W.Frag) (m : List Addr) (H : Hp) (sl : Sl) (σ : L2.St) : Prop where
  len : σ.length = sl.length
  at_ : ∀ (i : Nat) (v : Val), sl[i]? = some (some v) → ∃ u, σ[i]? = some (some u) ∧ VR K m H v u

section
variable {K : PySem.W.Frag} {m m' m1 m2 : List Addr} {H H' H1 H2 : Hp} {h h' : AH} {sl : Sl} {σ : L2.St}
theorem Stp.rfl : Stp m H m H := ⟨fun _ _ h => h, fun _ _ h n => ⟨h, n⟩⟩
theorem Stp.trans (a : Stp m H m1 H1) (b : Stp m1 H1 m2 H2) : Stp m H m2 H2 := ⟨fun i x h => b.pre i x (a.pre i x h), fun x o h n => b.fr x o (a.fr x o h n).1 (a.fr x o h n).2⟩
theorem Rel.mem (R : Rel K m h H) {a : Addr} (ha : a ∈ m) : ∃ u, H a = some u ∧ ((∃ us, u = .lst us) ∨ (∃ xs, u = .dK xs) ∨ (∃ xs, u = .dT xs)) := by
  obtain ⟨i, hi, e⟩ := List.getElem_of_mem ha
  have hi2 : i < h.length := by rw [← R.len]; exact hi
  obtain ⟨a', u, h1, h2, h3⟩ := R.ob i h[i] (List.getElem?_eq_getElem hi2)
  rw [List.getElem?_eq_getElem hi, e] at h1
  cases h1
  refine ⟨u, h2, ?_⟩
  cases q : h[i] with
  | lst vs => rw [q] at h3; obtain ⟨us, z, _⟩ := h3; exact .inl ⟨us, z⟩
  | dct kvs =>
    rw [q] at h3
    rcases h3 with ⟨xs, z, _⟩ | ⟨xs, z, _⟩
    · exact .inr (.inl ⟨xs, z⟩)
    · exact .inr (.inr ⟨xs, z⟩)
theorem Rel.ntup (R : Rel K m h H) {a : Addr} {us : List V} (e : H a = some (.tup us)) : a ∉ m := fun ha => by
  obtain ⟨u, h1, h2⟩ := R.mem ha
  rw [e] at h1; cases h1
  rcases h2 with ⟨_, z⟩ | ⟨_, z⟩ | ⟨_, z⟩ <;> cases z
theorem Rel.nfrz (R : Rel K m h H) {a : Addr} {o : Obj} {u : HO} (e : H a = some (.frz o u)) : a ∉ m := fun ha => by
  obtain ⟨u, h1, h2⟩ := R.mem ha
  rw [e] at h1; cases h1
  rcases h2 with ⟨_, z⟩ | ⟨_, z⟩ | ⟨_, z⟩ <;> cases z
theorem Rel.nnew (R : Rel K m h H) {a : Addr} (e : H a = none) : a ∉ m := fun ha => by
  obtain ⟨u, h1, h2⟩ := R.mem ha
  rw [e] at h1; cases h1
/-- values stay what they are -/
structure Sta (m : List Addr) (H : Hp) (m' : List Addr) (H' : Hp) : Prop where
  pre : ∀ (i : Nat) (a : Addr), m[i]? = some a → m'[i]? = some a
  tup : ∀ (a : Addr) (us : List V), H a = some (.tup us) → H' a = some (.tup us)
  frz : ∀ (a : Addr) (o : Obj) (u : HO), H a = some (.frz o u) → H' a = some (.frz o u)
theorem Rel.sta (R : Rel K m h H) (s : Stp m H m' H') : Sta m H m' H' := ⟨s.pre, fun a us e => (s.fr a _ e (R.ntup e)).1, fun a o u e => (s.fr a _ e (R.nfrz e)).1⟩
theorem Sta.trans (a : Sta m H m1 H1) (b : Sta m1 H1 m2 H2) : Sta m H m2 H2 := ⟨fun i x h => b.pre i x (a.pre i x h), fun x u h => b.tup x u (a.tup x u h), fun x o u h => b.frz x o u (a.frz x o u h)⟩
theorem Sta.upd {p : Addr} {o : HO} (n : ∀ us, H p ≠ some (.tup us)) (f : ∀ o u, H p ≠ some (.frz o u)) : Sta m H m (upd H p o) := ⟨fun _ _ z => z, fun a us e => by
  have hz : a ≠ p := fun z => by subst z; exact n us e
  rw [upd_ne hz]; exact e, fun a o u e => by
  have hz : a ≠ p := fun z => by subst z; exact f o u e
  rw [upd_ne hz]; exact e⟩
mutual
theorem vr_sta (s : Sta m H m' H') : ∀ (v : Val) (u : V), VR K m H v u → VR K m' H' v u
  | .non, _, h => by cases h; exact .non
  | .bl b, _, h => by cases h; exact .bl b
  | .int b, _, h => by cases h; exact .int b
  | .str b, _, h => by cases h; exact .str b
  | .tup vs, _, h => by
    cases h with
    | tup e r => exact .tup (s.tup _ _ e) (vrs_sta s vs _ r)
  | .ref i, _, h => by
    cases h with
    | ref e => exact .ref (s.pre _ _ e)
  | .scr ns, _, h => by
    cases h with
    | scr e =>
      refine .scr ?_
      rcases e with ⟨o, e⟩ | e
      · exact .inl ⟨o, s.frz _ _ _ e⟩
      · exact .inr e
theorem vrs_sta (s : Sta m H m' H') : ∀ (vs : List Val) (us : List V), VRs K m H vs us → VRs K m' H' vs us
  | [], _, h => by cases h; exact .nil
  | v :: vs, _, h => by
    cases h with
    | cons a b => exact .cons (vr_sta s v _ a) (vrs_sta s vs _ b)
end
theorem krk_sta (s : Sta m H m' H') : ∀ {xs : List (DK × Val)} {ys : List (Key × V)}, KRk K m H xs ys → KRk K m' H' xs ys
  | _, _, .nil => .nil
  | _, _, .cons a b => .cons (vr_sta s _ _ a) (krk_sta s b)
theorem krt_sta (s : Sta m H m' H') : ∀ {xs : List (DK × Val)} {ys : List (List Key × V)}, KRt K m H xs ys → KRt K m' H' xs ys
  | _, _, .nil => .nil
  | _, _, .cons a b => .cons (vr_sta s _ _ a) (krt_sta s b)
theorem OR.sta (s : Sta m H m' H') {o : AO} {u : HO} (h : OR K m H o u) : OR K m' H' o u := by
  cases o with
  | lst vs => obtain ⟨us, e, r⟩ := h; exact ⟨us, e, vrs_sta s _ _ r⟩
  | dct kvs =>
    rcases h with ⟨xs, e, r⟩ | ⟨xs, e, r⟩
    · exact .inl ⟨xs, e, krk_sta s r⟩
    · exact .inr ⟨xs, e, krt_sta s r⟩
theorem Rel.vr (R : Rel K m h H) (s : Stp m H m' H') {v : Val} {u : V} (r : VR K m H v u) : VR K m' H' v u := vr_sta (R.sta s) _ _ r
theorem Rel.vrs (R : Rel K m h H) (s : Stp m H m' H') {v : List Val} {u : List V} (r : VRs K m H v u) : VRs K m' H' v u := vrs_sta (R.sta s) _ _ r
theorem Rel.sr (R : Rel K m h H) (s : Stp m H m' H') (r : SR K m H sl σ) : SR K m' H' sl σ := ⟨r.len, fun i v e => by
  obtain ⟨u, h1, h2⟩ := r.at_ i v e
  exact ⟨u, h1, R.vr s h2⟩⟩
theorem vrs_len : ∀ {vs : List Val} {us : List V}, VRs K m H vs us → us.length = vs.length
  | _, _, .nil => rfl
  | _, _, .cons _ t => congrArg (· + 1) (vrs_len t)
theorem vrs_get : ∀ {vs : List Val} {us : List V} {i : Nat} {v : Val}, VRs K m H vs us → vs[i]? = some v → ∃ u, us[i]? = some u ∧ VR K m H v u
  | _, _, _, _, .nil, e => by simp at e
  | _, _, 0, _, .cons h _, e => by simp at e; subst e; exact ⟨_, rfl, h⟩
  | _, _, i + 1, v, .cons _ t, e => by
    obtain ⟨u, h1, h2⟩ := vrs_get (i := i) (v := v) t (by simpa using e)
    exact ⟨u, by simpa using h1, h2⟩
theorem vrs_getV : ∀ {vs : List Val} {us : List V} {i : Nat} {u : V}, VRs K m H vs us → us[i]? = some u → ∃ v, vs[i]? = some v ∧ VR K m H v u
  | _, _, _, _, .nil, e => by simp at e
  | _, _, 0, _, .cons h _, e => by simp at e; subst e; exact ⟨_, rfl, h⟩
  | _, _, i + 1, v, .cons _ t, e => by
    obtain ⟨u, h1, h2⟩ := vrs_getV (i := i) (u := v) t (by simpa using e)
    exact ⟨u, by simpa using h1, h2⟩
theorem vrs_app : ∀ {vs ws : List Val} {us xs : List V}, VRs K m H vs us → VRs K m H ws xs → VRs K m H (vs ++ ws) (us ++ xs)
  | _, _, _, _, .nil, h => h
  | _, _, _, _, .cons a b, h => .cons a (vrs_app b h)
theorem vrs_take : ∀ {vs : List Val} {us : List V} (n : Nat), VRs K m H vs us → VRs K m H (vs.take n) (us.take n)
  | _, _, 0, _ => .nil
  | _, _, _ + 1, .nil => .nil
  | _, _, n + 1, .cons a b => .cons a (vrs_take n b)
theorem vrs_drop : ∀ {vs : List Val} {us : List V} (n : Nat), VRs K m H vs us → VRs K m H (vs.drop n) (us.drop n)
  | _, _, 0, h => h
  | _, _, _ + 1, .nil => .nil
  | _, _, n + 1, .cons _ b => vrs_drop n b
theorem vrs_erase : ∀ {vs : List Val} {us : List V} (i : Nat), VRs K m H vs us → VRs K m H (vs.eraseIdx i) (us.eraseIdx i)
  | _, _, _, .nil => .nil
  | _, _, 0, .cons _ t => t
  | _, _, i + 1, .cons a t => .cons a (vrs_erase i t)
theorem vrs_set : ∀ {vs : List Val} {us : List V} {v : Val} {u : V} (i : Nat), VRs K m H vs us → VR K m H v u → VRs K m H (vs.set i v) (us.set i u)
  | _, _, _, _, _, .nil, _ => .nil
  | _, _, _, _, 0, .cons _ t, h => .cons h t
  | _, _, _, _, i + 1, .cons a t, h => .cons a (vrs_set i t h)
theorem vrs_rev {vs : List Val} {us : List V} (h : VRs K m H vs us) : VRs K m H vs.reverse us.reverse := by
  induction vs generalizing us with
  | nil => cases h; exact .nil
  | cons v vs ih =>
    cases h with
    | cons a b =>
      rw [List.reverse_cons, List.reverse_cons]
      exact vrs_app (ih b) (.cons a .nil)
theorem vrs_ints : ∀ (ns : List Int), VRs K m H (ns.map Val.int) (ns.map V.int)
  | [] => .nil
  | n :: ns => .cons (.int n) (vrs_ints ns)
theorem vrs_ints_inv : ∀ {us : List V} (ns : List Int), VRs K m H (ns.map Val.int) us → us = ns.map V.int
  | _, [], h => by cases h; rfl
  | _, n :: ns, h => by
    cases h with
    | cons a b =>
      cases a
      rw [vrs_ints_inv ns b]; rfl
theorem vrs_bls_inv : ∀ {us : List V} (ns : List Bool), VRs K m H (ns.map Val.bl) us → us = ns.map V.bl
  | _, [], h => by cases h; rfl
  | _, n :: ns, h => by
    cases h with
    | cons a b =>
      cases a
      rw [vrs_bls_inv ns b]; rfl
theorem vrs_rep {vs : List Val} {us : List V} (h : VRs K m H vs us) : ∀ k : Nat, VRs K m H (List.replicate k vs).flatten (List.replicate k us).flatten
  | 0 => .nil
  | k + 1 => by
    rw [List.replicate_succ, List.replicate_succ, List.flatten_cons, List.flatten_cons]
    exact vrs_app h (vrs_rep h k)

/-! ### how the heaps change -/
theorem Rel.new1 (R : Rel K m h H) {p : Addr} (n : H p = none) (o : HO) : Sta m H m (upd H p o) := Sta.upd (fun us z => by rw [n] at z; cases z) fun o u z => by rw [n] at z; cases z
/-- an object that the plain heap doesn't know -/
theorem Rel.aside (R : Rel K m h H) {p : Addr} (n : H p = none) (o : HO) : Stp m H m (upd H p o) ∧ Rel K m h (upd H p o) := by
  refine ⟨⟨fun _ _ z => z, fun a u e z => ⟨by rw [upd_ne (ne_of_none e n)]; exact e, z⟩⟩, R.len, R.nd, fun i o' e => ?_⟩
  obtain ⟨a, u, h1, h2, h3⟩ := R.ob i o' e
  exact ⟨a, u, h1, by rw [upd_ne (ne_of_none h2 n)]; exact h2, h3.sta (R.new1 n o)⟩
/-- .. is written -/
theorem Rel.asideW (R : Rel K m h H) {p : Addr} (hp : p ∉ m) {o1 : HO} (n : H p = some o1) (h1 : ∀ us, o1 ≠ .tup us) (h2 : ∀ o u, o1 ≠ .frz o u) (o : HO) : Rel K m h (upd H p o) ∧ Sta m H m (upd H p o) := by
  have s : Sta m H m (upd H p o) := Sta.upd (fun us z => by rw [n] at z; exact h1 _ (Option.some.inj z)) fun o u z => by rw [n] at z; exact h2 _ _ (Option.some.inj z)
  refine ⟨⟨R.len, R.nd, fun i o' e => ?_⟩, s⟩
  obtain ⟨a, u, h1, h2, h3⟩ := R.ob i o' e
  have ha : a ∈ m := List.mem_of_getElem? h1
  have hz : a ≠ p := fun z => by subst z; exact hp ha
  exact ⟨a, u, h1, by rw [upd_ne hz]; exact h2, h3.sta s⟩
/-- an object becomes known -/
theorem Rel.join (R : Rel K m h H) {p : Addr} {o : AO} {u : HO} (hp : p ∉ m) (e : H p = some u) (r : OR K m H o u) : Rel K (m ++ [p]) (h ++ [o]) H := by
  have s : Sta m H (m ++ [p]) H := ⟨fun i a z => by rw [List.getElem?_append_left (List.getElem?_eq_some_iff.mp z).1]; exact z, fun _ _ z => z, fun _ _ _ z => z⟩
  refine ⟨by simp [R.len], List.nodup_append.mpr ⟨R.nd, by simp, fun a ha b hb => by rw [List.mem_singleton.mp hb]; exact fun z => hp (z ▸ ha)⟩, fun i o' e' => ?_⟩
  by_cases hi : i < h.length
  · rw [List.getElem?_append_left hi] at e'
    obtain ⟨a, v, h1, h2, h3⟩ := R.ob i o' e'
    exact ⟨a, v, s.pre _ _ h1, h2, h3.sta s⟩
  · rw [List.getElem?_append_right (by omega)] at e'
    have hi2 : i = h.length := by
      have := (List.getElem?_eq_some_iff.mp e').1
      simp at this; omega
    subst hi2
    simp at e'
    subst e'
    exact ⟨p, u, by rw [← R.len]; simp, e, r.sta s⟩
theorem Stp.join {p : Addr} {H' : Hp} (hp : H p = none) (s : Stp m H m' H') : Stp m H (m' ++ [p]) H' := ⟨fun i a z => by
  have := s.pre i a z
  rw [List.getElem?_append_left (List.getElem?_eq_some_iff.mp this).1]; exact this, fun a o e n => ⟨(s.fr a o e n).1, fun z => by
    rcases List.mem_append.mp z with z | z
    · exact (s.fr a o e n).2 z
    · rw [List.mem_singleton.mp z, hp] at e; cases e⟩⟩
theorem Rel.alloc (R : Rel K m h H) {p : Addr} {o : AO} {u : HO} (n : H p = none) (r : OR K m H o u) : Stp m H (m ++ [p]) (upd H p u) ∧ Rel K (m ++ [p]) (h ++ [o]) (upd H p u) ∧ VR K (m ++ [p]) (upd H p u) (.ref h.length) (.ref p) := by
  obtain ⟨s, R1⟩ := R.aside n u
  exact ⟨Stp.join n s, R1.join (R.nnew n) upd_same (r.sta (R.new1 n u)), .ref (by rw [← R.len]; simp)⟩
/-- a known object is written -/
theorem Rel.wr (R : Rel K m h H) {i : Nat} {a : Addr} {o : AO} {u : HO} (hi : m[i]? = some a) (r : OR K m H o u) : Stp m H m (upd H a u) ∧ Rel K m (h.set i o) (upd H a u) := by
  have ha : a ∈ m := List.mem_of_getElem? hi
  obtain ⟨u0, e0, e1⟩ := R.mem ha
  have s : Sta m H m (upd H a u) := Sta.upd (fun us z => R.ntup z ha) fun o u z => R.nfrz z ha
  refine ⟨⟨fun _ _ z => z, fun b o e n => ⟨by
    have hz : b ≠ a := fun z => by subst z; exact n ha
    rw [upd_ne hz]; exact e, n⟩⟩, by simp [R.len], R.nd, fun j o' e => ?_⟩
  by_cases hj : j = i
  · subst hj
    have hl : j < h.length := by rw [← R.len]; exact (List.getElem?_eq_some_iff.mp hi).1
    rw [List.getElem?_set_self hl] at e
    cases e
    exact ⟨a, u, hi, upd_same, r.sta s⟩
  · rw [List.getElem?_set_ne (Ne.symm hj)] at e
    obtain ⟨b, v, h1, h2, h3⟩ := R.ob j o' e
    have hb : b ≠ a := fun z => by
      subst z
      exact hj ((List.getElem?_inj (List.getElem?_eq_some_iff.mp h1).1 R.nd).mp (h1.trans hi.symm))
    exact ⟨b, v, h1, by rw [upd_ne hb]; exact h2, h3.sta s⟩
theorem Rel.at_ (R : Rel K m h H) {i : Nat} {a : Addr} {o : AO} (hi : m[i]? = some a) (ho : h[i]? = some o) : ∃ u, H a = some u ∧ OR K m H o u := by
  obtain ⟨b, u, h1, h2, h3⟩ := R.ob i o ho
  rw [hi] at h1; cases h1
  exact ⟨u, h2, h3⟩
theorem Rel.lst (R : Rel K m h H) {i : Nat} {a : Addr} {vs : List Val} (hi : m[i]? = some a) (ho : h[i]? = some (.lst vs)) : ∃ us, H a = some (.lst us) ∧ VRs K m H vs us := by
  obtain ⟨u, h1, us, rfl, h2⟩ := R.at_ hi ho
  exact ⟨us, h1, h2⟩
theorem SR.set (R : SR K m H sl σ) {i : Nat} {v : Val} {u : V} (r : VR K m H v u) : SR K m H (sl.set i (some v)) (σ.set i (some u)) := ⟨by simp [R.len], fun j w e => by
  by_cases hj : j = i
  · subst hj
    have hl : j < sl.length := by have := (List.getElem?_eq_some_iff.mp e).1; simpa using this
    rw [List.getElem?_set_self hl] at e
    cases e
    exact ⟨u, by rw [List.getElem?_set_self (by rw [R.len]; exact hl)], r⟩
  · rw [List.getElem?_set_ne (Ne.symm hj)] at e ⊢
    exact R.at_ j w e⟩
theorem SR.setN (R : SR K m H sl σ) {i : Nat} {x : Option V} : SR K m H (sl.set i none) (σ.set i x) := ⟨by simp [R.len], fun j w e => by
  by_cases hj : j = i
  · subst hj
    have hl : j < sl.length := by have := (List.getElem?_eq_some_iff.mp e).1; simpa using this
    rw [List.getElem?_set_self hl] at e
    cases e
  · rw [List.getElem?_set_ne (Ne.symm hj)] at e ⊢
    exact R.at_ j w e⟩
def wipeS (sl : Sl) : List Nat → Sl
  | [] => sl
  | v :: vs => (wipeS sl vs).set v none
theorem SR.wipe (R : SR K m H sl σ) : ∀ vs : List Nat, SR K m H (wipeS sl vs) (L2.wipe σ vs)
  | [] => R
  | v :: vs => (R.wipe vs).setN
/-- the sequence that a value is -/
def seqOf (h : AH) : Val → Option (List Val)
  | .tup vs => some vs
  | .scr ns => some (ns.map .int)
  | .ref i => match h[i]? with
    | some (.lst vs) => some vs
    | _ => none
  | _ => none
theorem Rel.seq (R : Rel K m h H) {v : Val} {u : V} {vs : List Val} (r : VR K m H v u) (e : seqOf h v = some vs) : ∃ a us, u = .ref a ∧ (SqL K H a us ∨ SqT K H a us) ∧ VRs K m H vs us := by
  cases r with
  | tup e1 r => cases e; exact ⟨_, _, rfl, .inr (.inl (.inl e1)), r⟩
  | scr e1 => cases e; exact ⟨_, _, rfl, .inl e1.l, vrs_ints _⟩
  | @ref i a hi =>
    have e : (match h[i]? with | some (.lst vs) => some vs | _ => none) = some vs := e
    cases q : h[i]? with
    | none => rw [q] at e; cases e
    | some o =>
      rw [q] at e
      cases o with
      | lst ws =>
        cases e
        obtain ⟨us, h1, h2⟩ := R.lst hi q
        exact ⟨a, us, rfl, .inl (.inl (.inl h1)), h2⟩
      | dct _ => cases e
  | _ => cases e
end

/-! ### contexts and weakest readings (as in the other kit) -/
structure Gc where
  P : Program
  w : World
  K : PySem.W.Frag
  mg : Str → Option Value
  base : Heap
structure Cc where
  g : Gc
  N : List Str
  sc : Scope
  fn : Str → Bool
  k : Nat
  gd : Bool
structure Cc.Has (c : Cc) (X : Cx) : Prop where
  P : X.prog = c.g.P
  w : X.w = c.g.w
  K : X.K = c.g.K
  mg : X.mg = c.g.mg
  base : X.base = c.g.base
  N : X.N = c.N
  sc : X.env.scope = c.sc
  fn : ∀ x, c.fn x = true → X.fn x = true
  calm : X.calm = true
  room : Room c.k X.A
  gd : c.gd = true → X.A.guards = some []
  xe : X.xe = fun _ _ => False
def Cc.blk (c : Cc) (scope : Scope) : Cc := { c with sc := relS scope c.sc, fn := fun x => scope.names.lookup x == some .cell }
theorem Cc.Has.blk {c : Cc} {X : Cx} (h : c.Has X) (scope : Scope) (s : Shared) (H : Hp) (C : Addr) (cl : List (Str × Addr)) (fp : List Addr) : (c.blk scope).Has (X.blk s H scope (compEnvC scope cl C X.env) fp) :=
  ⟨h.P, h.w, h.K, h.mg, h.base, h.N, by show relS scope X.env.scope = relS scope c.sc; rw [h.sc], fun _ z => z, h.calm, h.room, h.gd, rfl⟩
theorem Cc.Has.hu {c : Cc} {X : Cx} (h : c.Has X) : X.A.units + 64 < cLine := h.room.units
theorem Cc.Has.hu1 {c : Cc} {X : Cx} (h : c.Has X) : X.A.units + 1 < cLine := by have := h.room.units; omega
def wE (c : Cc) (e : Expr) : TE := fun σ H Q => ∀ X, c.Has X → ∀ (pins : List (Addr × Obj)) (s : Shared), Inv X pins σ H s → wpAny (model X.prog X.w) X.A (eval e X.env) (EP X pins σ Q) X.xe s
def wT (c : Cc) (e : Expr) : TT := fun σ H Q => ∀ X, c.Has X → ∀ (pins : List (Addr × Obj)) (s : Shared), Inv X pins σ H s → wpAny (model X.prog X.w) X.A (isTrue e X.env (eval e X.env)) (TP X pins σ Q) X.xe s
def wW (c : Cc) (e : Expr) : TT := fun σ H Q => ∀ X, c.Has X → ∀ (whole : Sem Value) (pins : List (Addr × Obj)) (s : Shared), Inv X pins σ H s → wpAny (model X.prog X.w) X.A (isTrue e X.env whole) (TP X pins σ Q) X.xe s
def wA (c : Cc) (es : List Expr) : TA := fun σ H Q => ∀ X, c.Has X → ∀ (pos : Pos) (pins : List (Addr × Obj)) (s : Shared), Inv X pins σ H s → wpAny (model X.prog X.w) X.A (spliced (backTo pos (starEach es X.env))) (AP X pins σ Q) X.xe s
def wS (c : Cc) (st : Stmt) : TS := fun D σ H => ∀ X, c.Has X → ∀ (pins : List (Addr × Obj)) (s : Shared), Inv X pins σ H s → wpAny (model X.prog X.w) X.A (exec st X.env) (SP X pins D) X.xe s
def wSs (c : Cc) (st : List Stmt) : TS := fun D σ H => ∀ X, c.Has X → ∀ (pins : List (Addr × Obj)) (s : Shared), Inv X pins σ H s → wpAny (model X.prog X.w) X.A (execs st X.env) (SP X pins D) X.xe s
def wG (c : Cc) (tg : Expr) : TG := fun v σ H Q => ∀ X, c.Has X → ∀ (pins : List (Addr × Obj)) (s : Shared) (u : Value), Inv X pins σ H s → RelV v u → wpAny (model X.prog X.w) X.A (assign tg X.env u) (fun _ s' => ∃ σ' H', Inv X pins σ' H' s' ∧ Q σ' H') X.xe s
def wGs (c : Cc) (ts : List Expr) : TGs := fun vs σ H Q => ∀ X, c.Has X → ∀ (pins : List (Addr × Obj)) (s : Shared) (us : List Value), Inv X pins σ H s → Vals vs us → wpAny (model X.prog X.w) X.A (assignInOrder ((assignEach ts X.env).map (·.2)) us) (fun _ s' => ∃ σ' H', Inv X pins σ' H' s' ∧ Q σ' H') X.xe s
def wI (c : Cc) (tg iter : Expr) : TI := fun σ H R => ∀ X, c.Has X → ∀ (pins : List (Addr × Obj)) (s : Shared), Inv X pins σ H s →
    wpAny (model X.prog X.w) X.A (eval iter X.env) (fun v s1 => wpAny (model X.prog X.w) X.A (pyIter v) (PIE X pins σ tg R) X.xe s1) X.xe s
def wQ (c : Cc) (ifs : List Expr) : TT := fun σ H Q => ∀ X, c.Has X → ∀ (pins : List (Addr × Obj)) (s : Shared), Inv X pins σ H s →
    wpAny (model X.prog X.w) X.A (forIn ifs true fun c r => if r = true then do let ok ← isTrue c X.env (eval c X.env); pure (ForInStep.yield ok) else pure (ForInStep.yield r)) (TP X pins σ Q) X.xe s
section
variable {c : Cc} {X : Cx} {e : Expr} {es : List Expr} {st : Stmt} {sts : List Stmt} {σ : L2.St} {H : Hp} {tg iter : Expr} {ifs : List Expr}
theorem pe_w (h : c.Has X) : PE X e (wE c e) := ⟨fun pins s σ H Q I hw => hw X h pins s I⟩
theorem pt_w (h : c.Has X) : PT X e (wT c e) := ⟨fun pins s σ H Q I hw => hw X h pins s I⟩
theorem pw_w (h : c.Has X) : PW X e (wW c e) := ⟨fun wh pins s σ H Q I hw => hw X h wh pins s I⟩
theorem pa_w (h : c.Has X) : PA X es (wA c es) := ⟨fun pos pins s σ H Q I hw => hw X h pos pins s I⟩
theorem ps_w (h : c.Has X) : PS X st (wS c st) := ⟨fun pins s σ H D I hw => hw X h pins s I⟩
theorem pss_w (h : c.Has X) : PSs X sts (wSs c sts) := ⟨fun pins s σ H D I hw => hw X h pins s I⟩
theorem pg_w (h : c.Has X) : PG X e (wG c e) := ⟨fun pins s σ H v u Q I r hw => hw X h pins s u I r⟩
theorem pgs_w (h : c.Has X) : PGs X es (wGs c es) := ⟨fun pins s σ H vs us Q I r hw => hw X h pins s us I r⟩
theorem pi_w (h : c.Has X) : PI X tg iter (wI c tg iter) := ⟨fun pins s σ H R I hw => hw X h pins s I⟩
theorem pts_w (h : c.Has X) : PTs X ifs (wQ c ifs) := ⟨fun pins s σ H Q I hw => hw X h pins s I⟩
theorem wE_of {t : TE} {Q : VK} (h : ∀ X, c.Has X → PE X e t) (q : t σ H Q) : wE c e σ H Q := fun X hX pins s I => (h X hX).run pins s σ H Q I q
theorem wT_of {t : TT} {Q : Bool → Hp → Prop} (h : ∀ X, c.Has X → PT X e t) (q : t σ H Q) : wT c e σ H Q := fun X hX pins s I => (h X hX).run pins s σ H Q I q
theorem wW_of {t : TT} {Q : Bool → Hp → Prop} (h : ∀ X, c.Has X → PW X e t) (q : t σ H Q) : wW c e σ H Q := fun X hX wh pins s I => (h X hX).run wh pins s σ H Q I q
theorem wA_of {t : TA} {Q : List V → Hp → Prop} (h : ∀ X, c.Has X → PA X es t) (q : t σ H Q) : wA c es σ H Q := fun X hX pos pins s I => (h X hX).run pos pins s σ H Q I q
theorem wS_of {t : TS} {D : L2.Ends} (h : ∀ X, c.Has X → PS X st t) (q : t D σ H) : wS c st D σ H := fun X hX pins s I => (h X hX).run pins s σ H D I q
theorem wSs_of {t : TS} {D : L2.Ends} (h : ∀ X, c.Has X → PSs X sts t) (q : t D σ H) : wSs c sts D σ H := fun X hX pins s I => (h X hX).run pins s σ H D I q
theorem wG_of {t : TG} {v : V} {Q : L2.St → Hp → Prop} (h : ∀ X, c.Has X → PG X e t) (q : t v σ H Q) : wG c e v σ H Q := fun X hX pins s u I r => (h X hX).run pins s σ H v u Q I r q
theorem wGs_of {t : TGs} {vs : List V} {Q : L2.St → Hp → Prop} (h : ∀ X, c.Has X → PGs X es t) (q : t vs σ H Q) : wGs c es vs σ H Q := fun X hX pins s us I r => (h X hX).run pins s σ H vs us Q I r q
theorem wI_of {t : TI} {R : It → Hp → Prop} (h : ∀ X, c.Has X → PI X tg iter t) (q : t σ H R) : wI c tg iter σ H R := fun X hX pins s I => (h X hX).run pins s σ H R I q
theorem wQ_of {t : TT} {Q : Bool → Hp → Prop} (h : ∀ X, c.Has X → PTs X ifs t) (q : t σ H Q) : wQ c ifs σ H Q := fun X hX pins s I => (h X hX).run pins s σ H Q I q
end
/-- a global name of the code -/
def Glb (c : Cc) (x : Str) : Prop := c.sc.names.lookup x = some NameKind.globalImplicit
theorem Cc.Has.gl {c : Cc} {X : Cx} (h : c.Has X) {x : Str} (g : Glb c x) : Gl X x := by
  show X.env.scope.names.lookup x = _
  rw [h.sc]; exact g
end Ev
/-! A small language, its weakest readings over the plain heap, and what code reads as it. -/
namespace Ev
open PySem PySem.Spec PyProof.Rows L2

abbrev ASp := List Val → AH → (Val → AH → Prop) → Prop
abbrev ISp := List Val → AH → (List Val → (AH → Prop) → AH → Prop) → Prop
abbrev USp := Val → Val → Val → AH → (AH → Prop) → Prop
mutual
inductive IE where
  | c (v : Val) | l (i : Nat) | call (Φ : ASp) (es : List IE)
  | and (es : List IE) | or (es : List IE) | not (e : IE) | ite (t : IT) (a b : IE)
  | chn (Φ Ψ : ASp) (a b d : IE)
  | lc (own : List Nat) (g : IG) (Ψ : ISp) (es : List IE) (ifs : List IT) (e : IE)
  | lc2 (own own1 : List Nat) (g : IG) (Ψ : ISp) (es : List IE) (g1 : IG) (Ψ1 : ISp) (es1 : List IE) (ifs : List IT) (e : IE)
  | ext (w : Sl → AH → (Val → AH → Prop) → Prop)
inductive IT where
  | val (e : IE) | bool (e : IE) | not (t : IT) | and (ts : List IT) | or (ts : List IT) | ext (w : Sl → AH → (Bool → AH → Prop) → Prop)
inductive IG where
  | name (i : Nat) | tup (ts : List IG) | star (i j : Nat) | sub (Θ : USp) (a b : IE) | ext (w : Val → Sl → AH → (Sl → AH → Prop) → Prop)
end
structure AE where
  nx : Sl → AH → Prop
  rt : Val → AH → Prop
  bk : Sl → AH → Prop := fun _ _ => False
  ct : Sl → AH → Prop := fun _ _ => False
inductive IS where
  | asg (g : IG) (e : IE) | exp (e : IE) | ret (e : IE) | iff (t : IT) (a b : List IS) | for (g : IG) (Ψ : ISp) (es : List IE) (b : List IS)
  | whl (t : IT) (b : List IS) | brk | cnt | pas | aug (Φ : ASp) (i : Nat) (e : IE) | ext (w : Sl → AH → AE → Prop)
def truth (h : AH) : Val → Option Bool
  | .bl b => some b
  | v => (seqOf h v).map fun vs => !vs.isEmpty
def lcW (body : Val → AH → (List Val → AH → Prop) → Prop) (chk : AH → Prop) : List Val → List Val → AH → (List Val → AH → Prop) → Prop
  | [], acc, h, Q => chk h ∧ Q acc h
  | v :: vs, acc, h, Q => chk h ∧ body v h fun rs h1 => (acc ++ rs).length ≤ 1000000 ∧ lcW body chk vs (acc ++ rs) h1 Q
def forW (body : Val → Sl → AH → AE → Prop) (chk : AH → Prop) (D : AE) : List Val → Sl → AH → Prop
  | [], sl, h => chk h ∧ D.nx sl h
  | v :: vs, sl, h => chk h ∧ body v sl h { nx := forW body chk D vs, ct := forW body chk D vs, bk := D.nx, rt := D.rt }
def whlW (t : Sl → AH → (Bool → AH → Prop) → Prop) (body : Sl → AH → AE → Prop) (D : AE) : Nat → Sl → AH → Prop
  | 0, _, _ => False
  | n + 1, sl, h => t sl h fun b h1 => if b = true then body sl h1 { nx := whlW t body D n, ct := whlW t body D n, bk := D.nx, rt := D.rt } else D.nx sl h1
mutual
def wpE : IE → Sl → AH → (Val → AH → Prop) → Prop
  | .c v, _, h, Q => Q v h
  | .l i, sl, h, Q => ∃ v, sl[i]? = some (some v) ∧ Q v h
  | .call Φ es, sl, h, Q => wpEs es sl h fun vs h1 => Φ vs h1 Q
  | .and es, sl, h, Q => wpAnd es sl h Q
  | .or es, sl, h, Q => wpOr es sl h Q
  | .not e, sl, h, Q => wpE e sl h fun v h1 => ∃ b, v = .bl b ∧ Q (.bl (!b)) h1
  | .ite t a b, sl, h, Q => wpT t sl h fun k h1 => if k = true then wpE a sl h1 Q else wpE b sl h1 Q
  | .chn Φ Ψ a b d, sl, h, Q => wpE a sl h fun x h1 => wpE b sl h1 fun y h2 => Φ [x, y] h2 fun k h3 => ∃ t, k = .bl t ∧ if t = true then wpE d sl h3 fun z h4 => Ψ [y, z] h4 Q else Q (.bl false) h3
  | .lc own g Ψ es ifs e, sl, h, Q => wpEs es sl h fun vs h1 => Ψ vs h1 fun xs chk h2 =>
      lcW (fun v h3 K => wpG g v (wipeS sl own) h3 fun sl' h4 => wpQs ifs sl' h4 fun b h5 => if b = true then wpE e sl' h5 fun r h6 => K [r] h6 else K [] h5) chk xs [] h2 fun acc h3 => Q (.ref h3.length) (h3 ++ [.lst acc])
  | .lc2 own own1 g Ψ es g1 Ψ1 es1 ifs e, sl, h, Q => wpEs es sl h fun vs h1 => Ψ vs h1 fun xs chk h2 =>
      lcW (fun v h3 K => wpG g v (wipeS sl own) h3 fun sl' h4 => wpEs es1 sl' h4 fun vs1 h5 => Ψ1 vs1 h5 fun xs1 chk1 h6 =>
        lcW (fun v1 h7 K1 => wpG g1 v1 (wipeS sl' own1) h7 fun sl2 h8 => wpQs ifs sl2 h8 fun b h9 => if b = true then wpE e sl2 h9 fun r h10 => K1 [r] h10 else K1 [] h9) chk1 xs1 [] h6 K) chk xs [] h2 fun acc h3 => Q (.ref h3.length) (h3 ++ [.lst acc])
  | .ext w, sl, h, Q => w sl h Q
def wpEs : List IE → Sl → AH → (List Val → AH → Prop) → Prop
  | [], _, h, Q => Q [] h
  | e :: es, sl, h, Q => wpE e sl h fun v h1 => wpEs es sl h1 fun vs h2 => Q (v :: vs) h2
def wpAnd : List IE → Sl → AH → (Val → AH → Prop) → Prop
  | [], _, _, _ => False
  | e :: es, sl, h, Q => match es with
    | [] => wpE e sl h Q
    | e2 :: es2 => wpE e sl h fun v h1 => ∃ t, v = .bl t ∧ if t = true then wpAnd (e2 :: es2) sl h1 Q else Q (.bl false) h1
def wpOr : List IE → Sl → AH → (Val → AH → Prop) → Prop
  | [], _, _, _ => False
  | e :: es, sl, h, Q => match es with
    | [] => wpE e sl h Q
    | e2 :: es2 => wpE e sl h fun v h1 => ∃ t, v = .bl t ∧ if t = true then Q (.bl true) h1 else wpOr (e2 :: es2) sl h1 Q
def wpT : IT → Sl → AH → (Bool → AH → Prop) → Prop
  | .val e, sl, h, Q => wpE e sl h fun v h1 => ∃ b, truth h1 v = some b ∧ Q b h1
  | .bool e, sl, h, Q => wpE e sl h fun v h1 => ∃ b, v = .bl b ∧ Q b h1
  | .not t, sl, h, Q => wpT t sl h fun b h1 => Q (!b) h1
  | .and ts, sl, h, Q => wpTA ts sl h Q
  | .or ts, sl, h, Q => wpTO ts sl h Q
  | .ext w, sl, h, Q => w sl h Q
def wpTA : List IT → Sl → AH → (Bool → AH → Prop) → Prop
  | [], _, _, _ => False
  | t :: ts, sl, h, Q => match ts with
    | [] => wpT t sl h Q
    | t2 :: ts2 => wpT t sl h fun b h1 => if b = true then wpTA (t2 :: ts2) sl h1 Q else Q false h1
def wpTO : List IT → Sl → AH → (Bool → AH → Prop) → Prop
  | [], _, _, _ => False
  | t :: ts, sl, h, Q => match ts with
    | [] => wpT t sl h Q
    | t2 :: ts2 => wpT t sl h fun b h1 => if b = true then Q true h1 else wpTO (t2 :: ts2) sl h1 Q
def wpQs : List IT → Sl → AH → (Bool → AH → Prop) → Prop
  | [], _, h, Q => Q true h
  | t :: ts, sl, h, Q => match ts with
    | [] => wpT t sl h Q
    | _ :: _ => False
def wpG : IG → Val → Sl → AH → (Sl → AH → Prop) → Prop
  | .name i, v, sl, h, N => N (sl.set i (some v)) h
  | .tup ts, v, sl, h, N => ∃ vs, seqOf h v = some vs ∧ vs.length = ts.length ∧ wpGs ts vs sl h N
  | .star i j, v, sl, h, N => ∃ x xs, seqOf h v = some (x :: xs) ∧ N ((sl.set i (some x)).set j (some (.ref h.length))) (h ++ [.lst xs])
  | .sub Θ a b, v, sl, h, N => wpE a sl h fun o h1 => wpE b sl h1 fun k h2 => Θ o k v h2 fun h3 => N sl h3
  | .ext w, v, sl, h, N => w v sl h N
def wpGs : List IG → List Val → Sl → AH → (Sl → AH → Prop) → Prop
  | [], vs, sl, h, N => vs = [] ∧ N sl h
  | g :: gs, vs, sl, h, N => ∃ v ws, vs = v :: ws ∧ wpG g v sl h fun sl1 h1 => wpGs gs ws sl1 h1 N
end
mutual
def wpS : IS → Sl → AH → AE → Prop
  | .asg g e, sl, h, D => wpE e sl h fun v h1 => wpG g v sl h1 D.nx
  | .exp e, sl, h, D => wpE e sl h fun _ h1 => D.nx sl h1
  | .ret e, sl, h, D => wpE e sl h D.rt
  | .iff t a b, sl, h, D => wpT t sl h fun k h1 => if k = true then wpSs a sl h1 D else wpSs b sl h1 D
  | .for g Ψ es b, sl, h, D => wpEs es sl h fun vs h1 => Ψ vs h1 fun xs chk h2 => forW (fun v sl h D => wpG g v sl h fun sl1 h3 => wpSs b sl1 h3 D) chk D xs sl h2
  | .whl t b, sl, h, D => ∃ n, whlW (wpT t) (wpSs b) D n sl h
  | .brk, sl, h, D => D.bk sl h
  | .cnt, sl, h, D => D.ct sl h
  | .pas, sl, h, D => D.nx sl h
  | .aug Φ i e, sl, h, D => ∃ v, sl[i]? = some (some v) ∧ wpE e sl h fun u h1 => Φ [v, u] h1 fun w h2 => D.nx (sl.set i (some w)) h2
  | .ext w, sl, h, D => w sl h D
def wpSs : List IS → Sl → AH → AE → Prop
  | [], sl, h, D => D.nx sl h
  | s :: ss, sl, h, D => wpS s sl h { D with nx := fun sl1 h1 => wpSs ss sl1 h1 D }
end

/-! ### what code reads as -/
def WE (c : Cc) (e : Expr) (sl : Sl) (h : AH) (Q : Val → AH → Prop) : Prop := ∀ (m : List Addr) (σ : L2.St) (H : Hp) (Qc : VK), Rel c.g.K m h H → SR c.g.K m H sl σ →
  (∀ v h' m' H' u, Q v h' → Stp m H m' H' → Rel c.g.K m' h' H' → VR c.g.K m' H' v u → Qc u H') → wE c e σ H Qc
def WA (c : Cc) (es : List Expr) (sl : Sl) (h : AH) (Q : List Val → AH → Prop) : Prop := ∀ (m : List Addr) (σ : L2.St) (H : Hp) (Qc : List V → Hp → Prop), Rel c.g.K m h H → SR c.g.K m H sl σ →
  (∀ vs h' m' H' us, Q vs h' → Stp m H m' H' → Rel c.g.K m' h' H' → VRs c.g.K m' H' vs us → Qc us H') → wA c es σ H Qc
def WT (c : Cc) (e : Expr) (sl : Sl) (h : AH) (Q : Bool → AH → Prop) : Prop := ∀ (m : List Addr) (σ : L2.St) (H : Hp) (Qc : Bool → Hp → Prop), Rel c.g.K m h H → SR c.g.K m H sl σ →
  (∀ b h' m' H', Q b h' → Stp m H m' H' → Rel c.g.K m' h' H' → Qc b H') → wT c e σ H Qc
def WW (c : Cc) (e : Expr) (sl : Sl) (h : AH) (Q : Bool → AH → Prop) : Prop := ∀ (m : List Addr) (σ : L2.St) (H : Hp) (Qc : Bool → Hp → Prop), Rel c.g.K m h H → SR c.g.K m H sl σ →
  (∀ b h' m' H', Q b h' → Stp m H m' H' → Rel c.g.K m' h' H' → Qc b H') → wW c e σ H Qc
def WQ (c : Cc) (es : List Expr) (sl : Sl) (h : AH) (Q : Bool → AH → Prop) : Prop := ∀ (m : List Addr) (σ : L2.St) (H : Hp) (Qc : Bool → Hp → Prop), Rel c.g.K m h H → SR c.g.K m H sl σ →
  (∀ b h' m' H', Q b h' → Stp m H m' H' → Rel c.g.K m' h' H' → Qc b H') → wQ c es σ H Qc
def WG (c : Cc) (tg : Expr) (v : Val) (sl : Sl) (h : AH) (N : Sl → AH → Prop) : Prop := ∀ (m : List Addr) (σ : L2.St) (H : Hp) (u : V) (Qc : L2.St → Hp → Prop), Rel c.g.K m h H → SR c.g.K m H sl σ → VR c.g.K m H v u →
  (∀ sl' h' m' σ' H', N sl' h' → Stp m H m' H' → Rel c.g.K m' h' H' → SR c.g.K m' H' sl' σ' → Qc σ' H') → wG c tg u σ H Qc
def WGs (c : Cc) (ts : List Expr) (vs : List Val) (sl : Sl) (h : AH) (N : Sl → AH → Prop) : Prop := ∀ (m : List Addr) (σ : L2.St) (H : Hp) (us : List V) (Qc : L2.St → Hp → Prop), Rel c.g.K m h H → SR c.g.K m H sl σ → VRs c.g.K m H vs us →
  (∀ sl' h' m' σ' H', N sl' h' → Stp m H m' H' → Rel c.g.K m' h' H' → SR c.g.K m' H' sl' σ' → Qc σ' H') → wGs c ts us σ H Qc
/-- a target of names alone -/
def WGc (c : Cc) (tg : Expr) (is : List Nat) (v : Val) (sl : Sl) (h : AH) (N : Sl → AH → Prop) : Prop := ∀ (m : List Addr) (σ : L2.St) (H : Hp) (u : V) (Qc : L2.St → Hp → Prop), Rel c.g.K m h H → SR c.g.K m H sl σ → VR c.g.K m H v u →
  (∀ sl' σ', N sl' h → SR c.g.K m H sl' σ' → (∀ vs : List Nat, (∀ i ∈ is, i ∈ vs) → L2.wipe σ' vs = L2.wipe σ vs) → Qc σ' H) → wG c tg u σ H Qc
def WGcs (c : Cc) (ts : List Expr) (is : List Nat) (vs : List Val) (sl : Sl) (h : AH) (N : Sl → AH → Prop) : Prop := ∀ (m : List Addr) (σ : L2.St) (H : Hp) (us : List V) (Qc : L2.St → Hp → Prop), Rel c.g.K m h H → SR c.g.K m H sl σ → VRs c.g.K m H vs us →
  (∀ sl' σ', N sl' h → SR c.g.K m H sl' σ' → (∀ vs : List Nat, (∀ i ∈ is, i ∈ vs) → L2.wipe σ' vs = L2.wipe σ vs) → Qc σ' H) → wGs c ts us σ H Qc
/-- J gives the values xs, one by one, as long as chk -/
def Wk (K : PySem.W.Frag) (J : It) (xs : List Val) (chk : AH → Prop) (m : List Addr) (H : Hp) : Prop := ∀ m1 h1 H1, Sta m H m1 H1 → Rel K m1 h1 H1 → chk h1 →
  (∀ i, i < xs.length → J.go i H1) ∧ J.stop xs.length H1 ∧ ∀ i v u H2, xs[i]? = some v → J.yld i H1 u H2 → Stp m1 H1 m1 H2 ∧ Rel K m1 h1 H2 ∧ VR K m1 H2 v u
def WI (c : Cc) (tg iter : Expr) (sl : Sl) (h : AH) (R : List Val → (AH → Prop) → AH → Prop) : Prop := ∀ (m : List Addr) (σ : L2.St) (H : Hp) (Rc : It → Hp → Prop), Rel c.g.K m h H → SR c.g.K m H sl σ →
  (∀ J xs chk h' m' H', R xs chk h' → Stp m H m' H' → Rel c.g.K m' h' H' → Wk c.g.K J xs chk m' H' → Rc J H') → wI c tg iter σ H Rc
structure AE.To (D : AE) (K : PySem.W.Frag) (m : List Addr) (H : Hp) (D' : L2.Ends) : Prop where
  nx : ∀ sl' h' m' σ' H', D.nx sl' h' → Stp m H m' H' → Rel K m' h' H' → SR K m' H' sl' σ' → D'.nx σ' H'
  rt : ∀ v h' m' H' u, D.rt v h' → Stp m H m' H' → Rel K m' h' H' → VR K m' H' v u → D'.rt u H'
  bk : ∀ sl' h' m' σ' H', D.bk sl' h' → Stp m H m' H' → Rel K m' h' H' → SR K m' H' sl' σ' → D'.bk σ' H'
  ct : ∀ sl' h' m' σ' H', D.ct sl' h' → Stp m H m' H' → Rel K m' h' H' → SR K m' H' sl' σ' → D'.ct σ' H'
theorem AE.To.on {D : AE} {K : PySem.W.Frag} {m m1 : List Addr} {H H1 : Hp} {D' : L2.Ends} (t : D.To K m H D') (s : Stp m H m1 H1) : D.To K m1 H1 D' :=
  ⟨fun _ _ _ _ _ n s' => t.nx _ _ _ _ _ n (s.trans s'), fun _ _ _ _ _ n s' => t.rt _ _ _ _ _ n (s.trans s'), fun _ _ _ _ _ n s' => t.bk _ _ _ _ _ n (s.trans s'), fun _ _ _ _ _ n s' => t.ct _ _ _ _ _ n (s.trans s')⟩
def WS (c : Cc) (st : Stmt) (sl : Sl) (h : AH) (D : AE) : Prop := ∀ (m : List Addr) (σ : L2.St) (H : Hp) (D' : L2.Ends), Rel c.g.K m h H → SR c.g.K m H sl σ → D.To c.g.K m H D' → wS c st D' σ H
def WSs (c : Cc) (st : List Stmt) (sl : Sl) (h : AH) (D : AE) : Prop := ∀ (m : List Addr) (σ : L2.St) (H : Hp) (D' : L2.Ends), Rel c.g.K m h H → SR c.g.K m H sl σ → D.To c.g.K m H D' → wSs c st D' σ H

structure CE (c : Cc) (e : Expr) (i : IE)  : Prop where
  mk ::
  go : ∀ sl h Q, wpE i sl h Q → WE c e sl h Q
instance {c : Cc} {e : Expr} {i : IE}  : CoeFun (CE c e i) (fun _ => ∀ sl h Q, wpE i sl h Q → WE c e sl h Q) := ⟨fun x => x.go⟩
structure CA (c : Cc) (es : List Expr) (is : List IE)  : Prop where
  mk ::
  go : ∀ sl h Q, wpEs is sl h Q → WA c es sl h Q
instance {c : Cc} {es : List Expr} {is : List IE}  : CoeFun (CA c es is) (fun _ => ∀ sl h Q, wpEs is sl h Q → WA c es sl h Q) := ⟨fun x => x.go⟩
structure CT (c : Cc) (e : Expr) (i : IT)  : Prop where
  mk ::
  go : ∀ sl h Q, wpT i sl h Q → WT c e sl h Q
instance {c : Cc} {e : Expr} {i : IT}  : CoeFun (CT c e i) (fun _ => ∀ sl h Q, wpT i sl h Q → WT c e sl h Q) := ⟨fun x => x.go⟩
structure CWa (c : Cc) (e : Expr) (is : List IT)  : Prop where
  mk ::
  go : ∀ sl h Q, wpTA is sl h Q → WW c e sl h Q
instance {c : Cc} {e : Expr} {is : List IT}  : CoeFun (CWa c e is) (fun _ => ∀ sl h Q, wpTA is sl h Q → WW c e sl h Q) := ⟨fun x => x.go⟩
structure CWo (c : Cc) (e : Expr) (is : List IT)  : Prop where
  mk ::
  go : ∀ sl h Q, wpTO is sl h Q → WW c e sl h Q
instance {c : Cc} {e : Expr} {is : List IT}  : CoeFun (CWo c e is) (fun _ => ∀ sl h Q, wpTO is sl h Q → WW c e sl h Q) := ⟨fun x => x.go⟩
structure CQ (c : Cc) (es : List Expr) (is : List IT)  : Prop where
  mk ::
  go : ∀ sl h Q, wpQs is sl h Q → WQ c es sl h Q
instance {c : Cc} {es : List Expr} {is : List IT}  : CoeFun (CQ c es is) (fun _ => ∀ sl h Q, wpQs is sl h Q → WQ c es sl h Q) := ⟨fun x => x.go⟩
structure CG (c : Cc) (tg : Expr) (g : IG)  : Prop where
  mk ::
  go : ∀ v sl h N, wpG g v sl h N → WG c tg v sl h N
instance {c : Cc} {tg : Expr} {g : IG}  : CoeFun (CG c tg g) (fun _ => ∀ v sl h N, wpG g v sl h N → WG c tg v sl h N) := ⟨fun x => x.go⟩
structure CGs (c : Cc) (ts : List Expr) (gs : List IG)  : Prop where
  mk ::
  go : ∀ vs sl h N, wpGs gs vs sl h N → WGs c ts vs sl h N
instance {c : Cc} {ts : List Expr} {gs : List IG}  : CoeFun (CGs c ts gs) (fun _ => ∀ vs sl h N, wpGs gs vs sl h N → WGs c ts vs sl h N) := ⟨fun x => x.go⟩
structure CGc (c : Cc) (tg : Expr) (g : IG) (is : List Nat)  : Prop where
  mk ::
  go : ∀ v sl h N, wpG g v sl h N → WGc c tg is v sl h N
instance {c : Cc} {tg : Expr} {g : IG} {is : List Nat}  : CoeFun (CGc c tg g is) (fun _ => ∀ v sl h N, wpG g v sl h N → WGc c tg is v sl h N) := ⟨fun x => x.go⟩
structure CGcs (c : Cc) (ts : List Expr) (gs : List IG) (is : List Nat)  : Prop where
  mk ::
  go : ∀ vs sl h N, wpGs gs vs sl h N → WGcs c ts is vs sl h N
instance {c : Cc} {ts : List Expr} {gs : List IG} {is : List Nat}  : CoeFun (CGcs c ts gs is) (fun _ => ∀ vs sl h N, wpGs gs vs sl h N → WGcs c ts is vs sl h N) := ⟨fun x => x.go⟩
structure CI (c : Cc) (tg iter : Expr) (Ψ : ISp) (is : List IE)  : Prop where
  mk ::
  go : ∀ sl h R, (wpEs is sl h fun vs h1 => Ψ vs h1 R) → WI c tg iter sl h R
instance {c : Cc} {tg iter : Expr} {Ψ : ISp} {is : List IE}  : CoeFun (CI c tg iter Ψ is) (fun _ => ∀ sl h R, (wpEs is sl h fun vs h1 => Ψ vs h1 R) → WI c tg iter sl h R) := ⟨fun x => x.go⟩
structure CS (c : Cc) (st : Stmt) (s : IS)  : Prop where
  mk ::
  go : ∀ sl h D, wpS s sl h D → WS c st sl h D
instance {c : Cc} {st : Stmt} {s : IS}  : CoeFun (CS c st s) (fun _ => ∀ sl h D, wpS s sl h D → WS c st sl h D) := ⟨fun x => x.go⟩
structure CSs (c : Cc) (sts : List Stmt) (ss : List IS)  : Prop where
  mk ::
  go : ∀ sl h D, wpSs ss sl h D → WSs c sts sl h D
instance {c : Cc} {sts : List Stmt} {ss : List IS}  : CoeFun (CSs c sts ss) (fun _ => ∀ sl h D, wpSs ss sl h D → WSs c sts sl h D) := ⟨fun x => x.go⟩

section
variable {c : Cc} {a b e tst : Expr} {es : List Expr} {i j k : IE} {is js : List IE} {t u : IT} {ts us : List IT} {pos p p2 p3 : Pos}
/-! ### names, constants -/
theorem CG.of {tg : Expr} {g : IG} {is : List Nat} (h : CGc c tg g is) : CG c tg g := .mk fun v sl hh N w m σ H u Qc R S r q => h v sl hh N w m σ H u Qc R S r fun sl' σ' n S' _ => q sl' hh m σ' H n Stp.rfl R S'
def visB (sc : Scope) (x : Str) : Bool := sc.names.lookup x == some .local || sc.names.lookup x == some .cell || sc.names.lookup x == some .free
def locB (sc : Scope) (fn : Str → Bool) (x : Str) : Bool := sc.names.lookup x == some .local || (sc.names.lookup x == some .cell && fn x)
def nameB (x : Str) : Bool := !(x == ("__debug__" : Str)) && !(x == ("__classdict__" : Str))
theorem vis_of {sc : Scope} {x : Str} (h : visB sc x = true) : Vis sc x := by
  unfold visB at h
  rw [Bool.or_eq_true, Bool.or_eq_true] at h
  rcases h with (h | h) | h
  · exact .inl (eq_of_beq h)
  · exact .inr (.inl (eq_of_beq h))
  · exact .inr (.inr (eq_of_beq h))
theorem name_of {x : Str} (h : nameB x = true) : (x == ("__debug__" : Str)) = false ∧ (x == ("__classdict__" : Str)) = false := by
  unfold nameB at h
  rw [Bool.and_eq_true] at h
  exact ⟨by simpa using h.1, by simpa using h.2⟩
/-- a visible name at the slot i -/
def slotB (c : Cc) (i : Nat) (x : Str) : Bool := (c.N[i]? == some x) && visB c.sc x && nameB x
theorem ce_l (n : Nat) {x : Str} (hb : slotB c n x = true) : CE c (.Name x pos) (.l n) := .mk fun sl h Q w m σ H Qc R S q => by
  obtain ⟨v, h1, h2⟩ := w
  obtain ⟨u, h3, h4⟩ := S.at_ _ _ h1
  unfold slotB at hb
  rw [Bool.and_eq_true, Bool.and_eq_true] at hb
  obtain ⟨⟨b1, b2⟩, b3⟩ := hb
  obtain ⟨n1, n2⟩ := name_of b3
  exact wE_of (fun X hX => pe_var (by rw [hX.N]; exact eq_of_beq b1) (by rw [hX.sc]; exact vis_of b2) n1 n2) ⟨u, h3, q v h m H u h2 Stp.rfl R h4⟩
theorem ce_int {n : Int} {kk : Nat} : CE c (.Constant (.int n) kk pos) (.c (.int n)) := .mk fun sl h Q w m σ H Qc R S q => wE_of (fun X hX => pe_int) (q _ h m H _ w Stp.rfl R (.int n))
theorem ce_bl {n : Bool} {kk : Nat} : CE c (.Constant (.bool n) kk pos) (.c (.bl n)) := .mk fun sl h Q w m σ H Qc R S q => wE_of (fun X hX => pe_bl) (q _ h m H _ w Stp.rfl R (.bl n))
theorem ce_non {kk : Nat} : CE c (.Constant .none kk pos) (.c .non) := .mk fun sl h Q w m σ H Qc R S q => wE_of (fun X hX => pe_non) (q _ h m H _ w Stp.rfl R .non)
theorem ce_str {n : Str} {kk : Nat} : CE c (.Constant (.str n) kk pos) (.c (.str n)) := .mk fun sl h Q w m σ H Qc R S q => wE_of (fun X hX => pe_str) (q _ h m H _ w Stp.rfl R (.str n))
/-- an int of the module -/
theorem ce_glob {x : Str} {n : Int} {tk : Tok} (hm : c.g.mg x = some (Value.int n tk)) (hg : (c.sc.names.lookup x == some NameKind.globalImplicit && nameB x) = true) : CE c (.Name x pos) (.c (.int n)) := .mk fun sl h Q w m σ H Qc R S q => by
  rw [Bool.and_eq_true] at hg
  exact wE_of (fun X hX => pe_glob (v := V.int n) (u := Value.int n tk) (hX.gl (eq_of_beq hg.1)) (by rw [hX.mg]; exact hm) ⟨tk, rfl⟩ (name_of hg.2).1) (q _ h m H _ w Stp.rfl R (.int n))
theorem ce_globS {x y : Str} {tk : Tok} (hm : c.g.mg x = some (Value.str y tk)) (hg : (c.sc.names.lookup x == some NameKind.globalImplicit && nameB x) = true) : CE c (.Name x pos) (.c (.str y)) := .mk fun sl h Q w m σ H Qc R S q => by
  rw [Bool.and_eq_true] at hg
  exact wE_of (fun X hX => pe_glob (v := V.str y) (u := Value.str y tk) (hX.gl (eq_of_beq hg.1)) (by rw [hX.mg]; exact hm) ⟨tk, rfl⟩ (name_of hg.2).1) (q _ h m H _ w Stp.rfl R (.str y))

/-! ### arguments -/
def isStar : Expr → Bool
  | .Starred _ _ => true
  | _ => false
theorem star_of (h : isStar e = false) (env : PySem.Env) : starEach (e :: es) env = (false, eval e env) :: starEach es env := by
  cases e <;> first | rfl | exact nomatch h
theorem nostar_any {p3 : Pos} (h : es.all (fun x => !isStar x) = true) (env : PySem.Env) : (backTo p3 (starEach es env)).any (·.1) = false := by
  induction es with
  | nil => rfl
  | cons e es ih =>
    rw [List.all_cons, Bool.and_eq_true] at h
    rw [star_of (by simpa using h.1)]
    have := ih h.2
    unfold backTo at this ⊢
    cases hq : starEach es env with
    | nil => rfl
    | cons q r => 
      rw [hq] at this
      first
      | simpa using this
      | (simp at this ⊢; exact this)
theorem ca_nil : CA c [] [] := .mk fun sl h Q w m σ H Qc R S q => wA_of (fun X hX => pa_nil) (q [] h m H [] w Stp.rfl R .nil)
theorem ca_cons (h1 : CE c e i) (h2 : CA c es is) (hs : isStar e = false := by rfl) : CA c (e :: es) (i :: is) := .mk fun sl h Q w m σ H Qc R S q =>
  wA_of (fun X hX => pa_cons (pe_w hX) (pa_w hX) (star_of hs X.env)) (h1 sl h _ w m σ H _ R S fun v h' m1 H1 u w1 s1 R1 r1 => h2 sl h' _ w1 m1 σ H1 _ R1 (R.sr s1 S) fun vs h2 m2 H2 us w2 s2 R2 r2 =>
    q (v :: vs) h2 m2 H2 (u :: us) w2 (s1.trans s2) R2 (.cons (R1.vr s2 r1) r2))
end
end Ev
/-! tuple * 1: the same tuple -/
namespace Ev
open PySem PySem.Spec PyProof.Rows L2
theorem tuple_mul1 (l : Addr) (items : Array Value) (n : Nat) (dd : Option Addr) (sl : Array (Option Value)) (x : Int) (u : Tok) (c0 : (decide (x < -(2 ^ 63)) || decide (x ≥ 2 ^ 63)) = false) (c1 : (items.isEmpty || x == 1) = true) :
    Meets (Builtin.«tuple.__mul__» ⟨[.ref l, .int x u], []⟩) (fun _ R s => s.heap.get? l = some { cls := .type "tuple", dict := dd, data := .seq items n, slots := sl } ∧ R (.ok (.ret (Value.ref l))) s) :=
  .of_wp fun prog w A R s h => by
    obtain ⟨hp, g, d, tk, os⟩ := s
    obtain ⟨hl, h⟩ := h
    have f1 := AutoSeq1.idx_int
    wp_walk using wpAny_loadPart' hl
    repeat (first
      | (refine wpAny_ite_false (decide_eq_false (by rw [c0]; exact Bool.false_ne_true)) ?_; wp_walk using wpAny_loadPart' hl)
      | (refine wpAny_ite_true (decide_eq_true (by rw [c1])) ?_; wp_walk using wpAny_loadPart' hl))
    exact ⟨_, rfl, h⟩
def rRepT1 (K : PySem.W.Frag) : R2 := fun x y H Q => ∃ l k xs, x = .ref l ∧ y = .int k ∧ SqT K H l xs ∧ xs ≠ [] ∧ 1 ≤ k ∧ k ≤ 1000 ∧ xs.length ≤ 1000 ∧ (k = 1 → Q (.ref l) H) ∧ (2 ≤ k → ∀ p, H p = none → Q (.ref p) (upd H p (.tup (List.replicate k.toNat xs).flatten)))
theorem op_repT1 {X : Cx} : OpR X (binaryOp .Mult) (rRepT1 X.K) := by
  intro pins s σ H x y v u Q I rx ry h
  obtain ⟨l, k, xs, rfl, rfl, hT, hne, h1, h2, hz, q1, q⟩ := h
  by_cases hk : 2 ≤ k
  · exact op_repT pins s σ H _ _ v u Q I rx ry ⟨l, k, xs, rfl, rfl, hT, hne, hk, h2, hz, q hk⟩
  have hk1 : k = 1 := by omega
  subst hk1
  cases rx
  obtain ⟨t, rfl⟩ := ry
  obtain ⟨its, r, ⟨⟨cls, dd, data, sl⟩, ho, hc, n, hd⟩, hs⟩ := I.tuple hT
  simp only at hc hd
  subst hc hd
  have c0 : (decide ((1 : Int) < -(2 ^ 63)) || decide ((1 : Int) ≥ 2 ^ 63)) = false := by decide
  have c1 : (its.toArray.isEmpty || (1 : Int) == 1) = true := by simp
  refine wpAny_binaryOp_repeat_ref (T := "tuple") (U := "int") (by decide) ⟨_, ho, rfl⟩ (fun s' => typeIs_int s' 1 t) noFill_tuple_mul F.fills_int_mul F.slot_int_rmul repeat_tuple F.slot_int_index.lookup
    (call_meets F.slot_int_rmul (typeIs_int s 1 t) F.entry_int_rmul (F.args_int_rmul_2 _ _) (int_rmul_tuple 1 t l its.toArray n dd sl)
      ⟨ho, rfl, ⟨_, ho, rfl⟩, call_meets F.slot_tuple_mul ⟨_, ho, rfl⟩ F.entry_tuple_mul (F.args_tuple_mul_2 _ _) (tuple_mul1 l its.toArray n dd sl 1 t c0 c1) ⟨ho, ?_⟩⟩)
  exact ⟨.ref l, H, I, rfl, q1 rfl⟩
/-- is, is not of two truths -/
theorem op_isB {X : Cx} : OpR X (compareOp .Is) (fun x y H Q => ∃ a b, x = .bl a ∧ y = .bl b ∧ Q (.bl (a == b)) H) := by
  intro pins s σ H x y v u Q I rx ry h
  obtain ⟨a, b, rfl, rfl, q⟩ := h
  cases rx; cases ry
  show wpAny _ _ ((isSame (.bool a) (.bool b)) >>= fun z => pure (Value.bool z)) _ _ s
  exact wpAny_bind (wpAny_pure (wpAny_pure (fin_bl I q (by cases a <;> cases b <;> rfl))))
theorem op_isnotB {X : Cx} : OpR X (compareOp .IsNot) (fun x y H Q => ∃ a b, x = .bl a ∧ y = .bl b ∧ Q (.bl (!(a == b))) H) := by
  intro pins s σ H x y v u Q I rx ry h
  obtain ⟨a, b, rfl, rfl, q⟩ := h
  cases rx; cases ry
  show wpAny _ _ ((isSame (.bool a) (.bool b)) >>= fun z => pure (Value.bool (!z))) _ _ s
  exact wpAny_bind (wpAny_pure (wpAny_pure (fin_bl I q (by cases a <;> cases b <;> rfl))))
end Ev
/-! Expressions. -/
namespace Ev
open PySem PySem.Spec PyProof.Rows L2

/-- what is wanted of a value -/
def Kq (K : PySem.W.Frag) (m : List Addr) (H : Hp) (Q : Val → AH → Prop) (Qc : VK) : Prop := ∀ v h' m' H' u, Q v h' → Stp m H m' H' → Rel K m' h' H' → VR K m' H' v u → Qc u H'
section
variable {K : PySem.W.Frag} {m m1 : List Addr} {H H1 : Hp} {h h1 : AH} {Q : Val → AH → Prop} {Qc : VK}
theorem Kq.on (k : Kq K m H Q Qc) (s : Stp m H m1 H1) : Kq K m1 H1 Q Qc := fun v h' m' H' u q s' => k v h' m' H' u q (s.trans s')
theorem Kq.here (k : Kq K m H Q Qc) (R : Rel K m h H) {v : Val} {u : V} (q : Q v h) (r : VR K m H v u) : Qc u H := k v h m H u q Stp.rfl R r
theorem Kq.tup (k : Kq K m H Q Qc) (R : Rel K m h H) {vs : List Val} {us : List V} (q : Q (.tup vs) h) (r : VRs K m H vs us) {p : Addr} (n : H p = none) : Qc (.ref p) (upd H p (.tup us)) := by
  obtain ⟨s, R1⟩ := R.aside n (.tup us)
  exact k _ h m _ _ q s R1 (.tup upd_same (R.vrs s r))
theorem Kq.new (k : Kq K m H Q Qc) (R : Rel K m h H) {o : AO} {u : HO} (q : Q (.ref h.length) (h ++ [o])) (r : OR K m H o u) {p : Addr} (n : H p = none) : Qc (.ref p) (upd H p u) := by
  obtain ⟨s, R1, r1⟩ := R.alloc n r
  exact k _ _ _ _ _ q s R1 r1
theorem Kq.lst (k : Kq K m H Q Qc) (R : Rel K m h H) {vs : List Val} {us : List V} (q : Q (.ref h.length) (h ++ [.lst vs])) (r : VRs K m H vs us) {p : Addr} (n : H p = none) : Qc (.ref p) (upd H p (.lst us)) := k.new R q (o := .lst vs) ⟨us, rfl, r⟩ n
/-- an object is written, None comes of it (or what is there) -/
theorem Kq.wr (k : Kq K m H Q Qc) (R : Rel K m h H) {i : Nat} {a : Addr} {o : AO} {ho : HO} {v : Val} {u : V} (hi : m[i]? = some a) (q : Q v (h.set i o)) (r : OR K m H o ho) (rv : VR K m H v u) : Qc u (upd H a ho) := by
  obtain ⟨s, R1⟩ := R.wr hi r
  exact k _ _ _ _ _ q s R1 (R.vr s rv)
end
/-- r does what Φ says -/
def Sop (K : PySem.W.Frag) (Φ : ASp) (r : R2) : Prop := ∀ x y h Q m H v u Qc, Φ [x, y] h Q → Rel K m h H → VR K m H x v → VR K m H y u → Kq K m H Q Qc → r v u H Qc
def Sun (K : PySem.W.Frag) (Φ : ASp) (r : V → Hp → VK → Prop) : Prop := ∀ x h Q m H v Qc, Φ [x] h Q → Rel K m h H → VR K m H x v → Kq K m H Q Qc → r v H Qc
def Scl (K : PySem.W.Frag) (Φ : ASp) (r : List V → Hp → VK → Prop) : Prop := ∀ vs h Q m H us Qc, Φ vs h Q → Rel K m h H → VRs K m H vs us → Kq K m H Q Qc → r us H Qc

/-! ### what is done with values -/
def aAdd : ASp := fun vs h Q => match vs with
  | [.int i, .int j] => Q (.int (i + j)) h
  | [.tup xs, .tup ys] => xs.length + ys.length ≤ 1000000 ∧ Q (.tup (xs ++ ys)) h
  | [.ref a, .ref b] => ∃ xs ys, h[a]? = some (.lst xs) ∧ h[b]? = some (.lst ys) ∧ xs.length + ys.length ≤ 1000000 ∧ Q (.ref h.length) (h ++ [.lst (xs ++ ys)])
  | [.str x, .str y] => x.length + y.length ≤ 1000000 ∧ Q (.str (x ++ y)) h
  | _ => False
def aSub : ASp := fun vs h Q => match vs with
  | [.int i, .int j] => Q (.int (i - j)) h
  | _ => False
def aMul : ASp := fun vs h Q => match vs with
  | [.int i, .int j] => CMul i j ∧ Q (.int (i * j)) h
  | [.ref a, .int k] => ∃ xs, h[a]? = some (.lst xs) ∧ -(2 ^ 63) ≤ k ∧ k < 2 ^ 63 ∧ xs.length * k.toNat ≤ 1000000 ∧ Q (.ref h.length) (h ++ [.lst (List.replicate k.toNat xs).flatten])
  | [.tup xs, .int k] => xs ≠ [] ∧ 1 ≤ k ∧ k ≤ 1000 ∧ xs.length ≤ 1000 ∧ Q (.tup (List.replicate k.toNat xs).flatten) h
  | _ => False
def aMod : ASp := fun vs h Q => match vs with
  | [.int i, .int j] => 0 < j ∧ Q (.int (i % j)) h
  | _ => False
def aDiv : ASp := fun vs h Q => match vs with
  | [.int i, .int j] => CDiv i j ∧ Q (.int (i / j)) h
  | _ => False
def aPow : ASp := fun vs h Q => match vs with
  | [.int i, .int j] => CPow i j ∧ Q (.int (i ^ j.toNat)) h
  | _ => False
def aNeg : ASp := fun vs h Q => match vs with
  | [.int i] => Q (.int (-i)) h
  | _ => False
def aCmp (f : Int → Int → Bool) : ASp := fun vs h Q => match vs with
  | [.int i, .int j] => Q (.bl (f i j)) h
  | _ => False
abbrev aLt : ASp := aCmp fun i j => decide (i < j)
abbrev aLe : ASp := aCmp fun i j => decide (i ≤ j)
abbrev aGt : ASp := aCmp fun i j => decide (j < i)
abbrev aGe : ASp := aCmp fun i j => decide (j ≤ i)
mutual
/-- a value as data -/
inductive Rep (h : AH) : Val → PyData → Prop
  | non : Rep h .non .none
  | bl (b : Bool) : Rep h (.bl b) (.bool b)
  | int (i : Int) : Rep h (.int i) (.int i)
  | str (x : Str) : Rep h (.str x) (.str x)
  | tup {vs : List Val} {ds : List PyData} : Reps h vs ds → Rep h (.tup vs) (.tuple ds)
  | lst {i : Nat} {vs : List Val} {ds : List PyData} : h[i]? = some (.lst vs) → Reps h vs ds → Rep h (.ref i) (.list ds)
inductive Reps (h : AH) : List Val → List PyData → Prop
  | nil : Reps h [] []
  | cons {v : Val} {d : PyData} {vs : List Val} {ds : List PyData} : Rep h v d → Reps h vs ds → Reps h (v :: vs) (d :: ds)
end
mutual
theorem rep_dp {K : PySem.W.Frag} {m : List Addr} {h : AH} {H : Hp} (R : Rel K m h H) : ∀ (d : PyData) (v : Val) (u : V), Rep h v d → VR K m H v u → Dp K H u d
  | .none, _, _, a, b => by cases a; cases b; exact .non
  | .bool _, _, _, a, b => by cases a; cases b; exact .bl _
  | .int _, _, _, a, b => by cases a; cases b; exact .int _
  | .str _, _, _, a, b => by cases a; cases b; exact .str _
  | .tuple ds, _, _, a, b => by
    cases a with
    | tup r => cases b with
      | tup e r2 => exact .tup (.inl (.inl e)) (reps_dp R ds _ _ r r2)
  | .list ds, _, _, a, b => by
    cases a with
    | lst e r => cases b with
      | ref hi =>
        obtain ⟨us, h1, h2⟩ := R.lst hi e
        exact .lst (.inl (.inl h1)) (reps_dp R ds _ _ r h2)
  | .dict _, _, _, a, b => by cases a
theorem reps_dp {K : PySem.W.Frag} {m : List Addr} {h : AH} {H : Hp} (R : Rel K m h H) : ∀ (ds : List PyData) (vs : List Val) (us : List V), Reps h vs ds → VRs K m H vs us → DpAll K H us ds
  | [], _, _, a, b => by cases a; cases b; exact .nil
  | d :: ds, _, _, a, b => by
    cases a with
    | cons a1 a2 => cases b with
      | cons b1 b2 => exact .cons (rep_dp R d _ _ a1 b1) (reps_dp R ds _ _ a2 b2)
end
/-- ints and truths and texts at once, all else by its data -/
def aEq (neg : Bool) : ASp := fun vs h Q => match vs with
  | [.int i, .int j] => Q (.bl (neg != decide (i = j))) h
  | [.str i, .str j] => Q (.bl (neg != decide (i = j))) h
  | [.bl i, .bl j] => Q (.bl (neg != decide (i = j))) h
  | [x, y] => ∃ d e, Rep h x d ∧ Rep h y e ∧ SeqAt.shaped d = true ∧ SeqAt.shaped e = true ∧ Q (.bl (neg != PyData.eqv d e)) h
  | _ => False
def aIn (neg : Bool) : ASp := fun vs h Q => match vs with
  | [x, .ref i] => ∃ d ds, Rep h x d ∧ Rep h (.ref i) (.list ds) ∧ SeqAt.shaped d = true ∧ SeqAt.shaped (.list ds) = true ∧ Q (.bl (neg != ds.any fun z => PyData.eqv z d)) h
  | [x, .tup ys] => ∃ (ns : List Int) (i : Int), x = .int i ∧ ys = ns.map Val.int ∧ Q (.bl (neg != decide (i ∈ ns))) h
  | _ => False
def isNon : Val → Bool
  | .non => true
  | _ => false
def aIs (neg : Bool) : ASp := fun vs h Q => match vs with
  | [x, .non] => Q (.bl (neg != isNon x)) h
  | _ => False
def aTup : ASp := fun vs h Q => vs.length ≤ 1000000 ∧ Q (.tup vs) h
def aLst : ASp := fun vs h Q => vs.length ≤ 1000000 ∧ Q (.ref h.length) (h ++ [.lst vs])
def aIx : ASp := fun vs h Q => match vs with
  | [x, .int i] => ∃ xs v, seqOf h x = some xs ∧ atI xs i = some v ∧ Q v h
  | _ => False
def aLen : ASp := fun vs h Q => match vs with
  | [.str x] => x.length ≤ 1000000 ∧ Q (.int x.length) h
  | [x] => ∃ xs, seqOf h x = some xs ∧ Q (.int xs.length) h
  | _ => False
def aTuple : ASp := fun vs h Q => match vs with
  | [x] => ∃ xs, seqOf h x = some xs ∧ Q (.tup xs) h
  | _ => False
def aList : ASp := fun vs h Q => match vs with
  | [x] => ∃ xs, seqOf h x = some xs ∧ Q (.ref h.length) (h ++ [.lst xs])
  | _ => False
def aAbs : ASp := fun vs h Q => match vs with
  | [.int i] => Q (.int (if i < 0 then -i else i)) h
  | _ => False
def aMin2 : ASp := fun vs h Q => match vs with
  | [.int i, .int j] => Q (.int (if j < i then j else i)) h
  | _ => False
def aMax2 : ASp := fun vs h Q => match vs with
  | [.int i, .int j] => Q (.int (if j > i then j else i)) h
  | _ => False
def aInt : ASp := fun vs h Q => match vs with
  | [.int i] => Q (.int i) h
  | [.bl b] => Q (.int (if b then 1 else 0)) h
  | _ => False
def aDivmod : ASp := fun vs h Q => match vs with
  | [.int i, .int j] => CDiv i j ∧ Q (.tup [.int (i / j), .int (i % j)]) h
  | _ => False
def aAll : ASp := fun vs h Q => match vs with
  | [.ref i] => ∃ bs : List Bool, h[i]? = some (.lst (bs.map .bl)) ∧ Q (.bl (bs.all id)) h
  | _ => False
def aAny : ASp := fun vs h Q => match vs with
  | [.ref i] => ∃ bs : List Bool, h[i]? = some (.lst (bs.map .bl)) ∧ Q (.bl (bs.any id)) h
  | _ => False
def tyA (h : AH) : Val → Option String
  | .non => some "NoneType" | .bl _ => some "bool" | .int _ => some "int" | .str _ => some "str" | .tup _ => some "tuple" | .scr _ => none
  | .ref i => match h[i]? with
    | some (.lst _) => some "list"
    | _ => none
def aIsi (T : String) : ASp := fun vs h Q => match vs with
  | [x] => ∃ t b, tyA h x = some t ∧ kitB t T = some b ∧ Q (.bl b) h
  | _ => False
def aIsi2 (T U : String) : ASp := fun vs h Q => match vs with
  | [x] => ∃ t b b2, tyA h x = some t ∧ kitB t T = some b ∧ kitB t U = some b2 ∧ Q (.bl (b || b2)) h
  | _ => False
section
variable {K : PySem.W.Frag}
theorem sop_add : Sop K aAdd (fun x y H Q => rI0 (fun i j => .int (i + j)) x y H Q ∨ (rCatA K x y H Q ∨ (rCat x y H Q ∨ ∃ i j, x = .str i ∧ y = .str j ∧ i.length + j.length ≤ sizeLine ∧ Q (.str (i ++ j)) H))) := fun x y h Q m H v u Qc w R rx ry k => by
  unfold aAdd at w
  split at w
  · rename_i z; cases z; cases rx; cases ry; exact .inl ⟨_, _, rfl, rfl, k.here R w (.int _)⟩
  · rename_i z; cases z
    obtain ⟨w2, w3⟩ := w
    cases rx with
    | tup e1 r1 => cases ry with
      | tup e2 r2 =>
        have l1 := vrs_len r1
        have l2 := vrs_len r2
        refine .inr (.inl ⟨_, _, _, _, rfl, rfl, .inl (.inl e1), .inl (.inl e2), by rw [l1, l2]; exact Nat.le_trans w2 (by decide), fun z => ?_, fun _ z => ?_, fun _ _ p n => k.tup R w3 (vrs_app r1 r2) n⟩)
        · subst z; cases r1; exact k.here R w3 (.tup e2 r2)
        · subst z; cases r2; rw [List.append_nil] at w3; exact k.here R w3 (.tup e1 r1)
  · rename_i z; cases z
    obtain ⟨xs, ys, w1, w2, w3, w4⟩ := w
    cases rx with
    | ref e1 => cases ry with
      | ref e2 =>
        obtain ⟨us, h1, r1⟩ := R.lst e1 w1
        obtain ⟨ws, h2, r2⟩ := R.lst e2 w2
        exact .inr (.inr (.inl ⟨_, _, _, _, rfl, rfl, h1, h2, by rw [vrs_len r1, vrs_len r2]; exact Nat.le_trans w3 (by decide), fun p n => k.lst R w4 (vrs_app r1 r2) n⟩))
  · rename_i z; cases z; cases rx; cases ry
    exact .inr (.inr (.inr ⟨_, _, rfl, rfl, Nat.le_trans w.1 (by decide), k.here R w.2 (.str _)⟩))
  · exact w.elim
theorem sop_sub : Sop K aSub (rI0 fun i j => .int (i - j)) := fun x y h Q m H v u Qc w R rx ry k => by
  unfold aSub at w
  split at w
  · rename_i z; cases z; cases rx; cases ry; exact ⟨_, _, rfl, rfl, k.here R w (.int _)⟩
  · exact w.elim
theorem sop_mul : Sop K aMul (fun x y H Q => rI CMul (fun i j => .int (i * j)) x y H Q ∨ rRep x y H Q ∨ rRepT1 K x y H Q) := fun x y h Q m H v u Qc w R rx ry k => by
  unfold aMul at w
  split at w
  · rename_i z; cases z; cases rx; cases ry; exact .inl ⟨_, _, rfl, rfl, w.1, k.here R w.2 (.int _)⟩
  · rename_i z; cases z
    obtain ⟨xs, w1, w2, w3, w4, w5⟩ := w
    cases rx with
    | ref e1 =>
      cases ry
      obtain ⟨us, h1, r1⟩ := R.lst e1 w1
      exact .inr (.inl ⟨_, _, _, rfl, rfl, h1, w2, w3, by rw [vrs_len r1]; exact Nat.le_trans w4 (by decide), fun p n => k.lst R w5 (vrs_rep r1 _) n⟩)
  · rename_i z; cases z
    obtain ⟨w0, w1, w2, w3, w5⟩ := w
    cases rx with
    | tup e1 r1 =>
      cases ry
      rename_i us
      refine .inr (.inr ⟨_, _, us, rfl, rfl, .inl (.inl e1), fun z => by subst z; cases r1; exact w0 rfl, w1, w2, by rw [vrs_len r1]; exact w3, fun z => ?_, fun _ p n => k.tup R w5 (vrs_rep r1 _) n⟩)
      subst z
      refine k.here R w5 ?_
      simp only [Int.toNat_one, List.replicate_one, List.flatten_cons, List.flatten_nil, List.append_nil]
      exact .tup e1 r1
  · exact w.elim
theorem sop_mod : Sop K aMod (rI (fun _ j => 0 < j) fun i j => .int (i % j)) := fun x y h Q m H v u Qc w R rx ry k => by
  unfold aMod at w
  split at w
  · rename_i z; cases z; cases rx; cases ry; exact ⟨_, _, rfl, rfl, w.1, k.here R w.2 (.int _)⟩
  · exact w.elim
theorem sop_div : Sop K aDiv (rI CDiv fun i j => .int (i / j)) := fun x y h Q m H v u Qc w R rx ry k => by
  unfold aDiv at w
  split at w
  · rename_i z; cases z; cases rx; cases ry; exact ⟨_, _, rfl, rfl, w.1, k.here R w.2 (.int _)⟩
  · exact w.elim
theorem sop_pow : Sop K aPow (rI CPow fun i j => .int (i ^ j.toNat)) := fun x y h Q m H v u Qc w R rx ry k => by
  unfold aPow at w
  split at w
  · rename_i z; cases z; cases rx; cases ry; exact ⟨_, _, rfl, rfl, w.1, k.here R w.2 (.int _)⟩
  · exact w.elim
theorem sop_cmp {f : Int → Int → Bool} : Sop K (aCmp f) (rI0 fun i j => .bl (f i j)) := fun x y h Q m H v u Qc w R rx ry k => by
  unfold aCmp at w
  split at w
  · rename_i z; cases z; cases rx; cases ry; exact ⟨_, _, rfl, rfl, k.here R w (.bl _)⟩
  · exact w.elim
theorem sop_eq : Sop K (aEq false) (fun x y H Q => rEq x y H Q ∨ rEqD K x y H Q) := fun x y h Q m H v u Qc w R rx ry k => by
  unfold aEq at w
  split at w
  · rename_i z; cases z; cases rx; cases ry
    refine .inl ⟨rfl, k.here R (by rw [dec_int, Bool.beq_eq_decide_eq]; simpa using w) (.bl _)⟩
  · rename_i z; cases z; cases rx; cases ry
    refine .inl ⟨rfl, k.here R (by rw [dec_str, Bool.beq_eq_decide_eq]; simpa using w) (.bl _)⟩
  · rename_i z; cases z; cases rx; cases ry
    refine .inl ⟨rfl, k.here R (by rw [dec_bl, Bool.beq_eq_decide_eq]; simpa using w) (.bl _)⟩
  · rename_i z; cases z
    obtain ⟨d, e, a1, a2, s1, s2, w⟩ := w
    exact .inr ⟨d, e, rep_dp R _ _ _ a1 rx, rep_dp R _ _ _ a2 ry, s1, s2, k.here R (by simpa using w) (.bl _)⟩
  · exact w.elim
theorem sop_ne : Sop K (aEq true) (fun x y H Q => rNe x y H Q ∨ rNeD K x y H Q) := fun x y h Q m H v u Qc w R rx ry k => by
  unfold aEq at w
  split at w
  · rename_i z; cases z; cases rx; cases ry
    refine .inl ⟨rfl, k.here R (by rw [dec_int, Bool.beq_eq_decide_eq]; simpa using w) (.bl _)⟩
  · rename_i z; cases z; cases rx; cases ry
    refine .inl ⟨rfl, k.here R (by rw [dec_str, Bool.beq_eq_decide_eq]; simpa using w) (.bl _)⟩
  · rename_i z; cases z; cases rx; cases ry
    refine .inl ⟨rfl, k.here R (by rw [dec_bl, Bool.beq_eq_decide_eq]; simpa using w) (.bl _)⟩
  · rename_i z; cases z
    obtain ⟨d, e, a1, a2, s1, s2, w⟩ := w
    exact .inr ⟨d, e, rep_dp R _ _ _ a1 rx, rep_dp R _ _ _ a2 ry, s1, s2, k.here R (by simpa using w) (.bl _)⟩
  · exact w.elim
theorem isNon_eq {m : List Addr} {H : Hp} {x : Val} {v : V} (r : VR K m H x v) : isNon x = decide (v = .non) := by cases r <;> rfl
theorem sop_is : Sop K (aIs false) (fun x y H Q => y = .non ∧ Q (.bl (decide (x = .non))) H) := fun x y h Q m H v u Qc w R rx ry k => by
  unfold aIs at w
  split at w
  · rename_i z; cases z; cases ry
    have e := isNon_eq rx
    rw [e, Bool.false_bne] at w
    exact ⟨rfl, k.here R w (.bl _)⟩
  · exact w.elim
theorem sop_isnot : Sop K (aIs true) (fun x y H Q => y = .non ∧ Q (.bl (!decide (x = .non))) H) := fun x y h Q m H v u Qc w R rx ry k => by
  unfold aIs at w
  split at w
  · rename_i z; cases z; cases ry
    have e := isNon_eq rx
    rw [e, Bool.true_bne] at w
    exact ⟨rfl, k.here R w (.bl _)⟩
  · exact w.elim
theorem sop_ix : Sop K aIx (fun x y H Q => rIxL K x y H Q ∨ rIxT K x y H Q) := fun x y h Q m H v u Qc w R rx ry k => by
  unfold aIx at w
  split at w
  · rename_i i z; cases z; cases ry
    obtain ⟨xs, v, w1, w2, w3⟩ := w
    obtain ⟨a, us, rfl, hs, r⟩ := R.seq rx w1
    have : ∃ z, atI us i = some z ∧ VR K m H v z := by
      unfold atI at w2 ⊢
      rw [vrs_len r]
      cases q : ixN xs.length i with
      | none => rw [q] at w2; cases w2
      | some j => rw [q] at w2; exact vrs_get r w2
    obtain ⟨z, h1, h2⟩ := this
    rcases hs with hs | hs
    · exact .inl ⟨_, _, _, z, rfl, rfl, hs, h1, k.here R w3 h2⟩
    · exact .inr ⟨_, _, _, z, rfl, rfl, hs, h1, k.here R w3 h2⟩
  · exact w.elim
theorem kitB_ty {K : PySem.W.Frag} {m : List Addr} {h : AH} {H : Hp} (R : Rel K m h H) {x : Val} {v : V} {t : String} (r : VR K m H x v) (e : tyA h x = some t) : TyX K H v (.type t) := by
  cases r with
  | non => cases e; exact .base .non
  | bl b => cases e; exact .base (.bl b)
  | int i => cases e; exact .base (.int i)
  | str x => cases e; exact .base (.str x)
  | tup e1 _ => cases e; exact .base (.tup e1)
  | scr e1 => cases e
  | @ref i a hi =>
    have e : (match h[i]? with | some (.lst _) => some "list" | _ => none) = some t := e
    cases q : h[i]? with
    | none => rw [q] at e; cases e
    | some o =>
      rw [q] at e
      cases o with
      | lst ws =>
        cases e
        obtain ⟨us, h1, h2⟩ := R.lst hi q
        exact .base (.lst h1)
      | dct _ => cases e
end
end Ev
/-! Dicts of the plain heap. -/
namespace Ev
open PySem PySem.Spec PyProof.Rows L2

/-- an empty dict is one of either sort -/
theorem conv_inv {X : Cx} {pins : List (Addr × Obj)} {σ : L2.St} {H : Hp} {s : Shared} {a : Addr} (I : Inv X pins σ H s) (e : H a = some (.dK []) ∨ H a = some (.dT [])) (o : HO) (ho : o = .dK [] ∨ o = .dT []) : Inv X pins σ (upd H a o) s := by
  have mu : Mut (H a) := by rcases e with e | e <;> (rw [e]; exact True.intro)
  have ok : ∃ ob : Obj, ∃ ep, s.heap.get? a = some ob ∧ ob.ExactDict ∧ ob.data = .dict #[] ep ∧ (a == sysModules) = false := by
    rcases e with e | e
    · obtain ⟨_, hd, vs, rel, ob, es, ep, h1, h2, h3, h4⟩ := I.hok a _ e
      cases rel
      refine ⟨ob, ep, h1, h2, ?_, hd⟩
      have : es = #[] := by
        have h5 : es.toList = [] := by
          obtain ⟨_, h6, _⟩ := h4
          generalize es.toList = l at h6
          cases h6; rfl
        exact Array.toList_eq_nil_iff.mp h5
      rw [← this]; exact h3
    · obtain ⟨_, hd, xs, rel, ob, es, ep, h1, h2, h3, h4, _⟩ := I.hok a _ e
      cases rel
      refine ⟨ob, ep, h1, h2, ?_, hd⟩
      have : es = #[] := Array.toList_eq_nil_iff.mp (by simpa using h4)
      rw [← this]; exact h3
  obtain ⟨ob, ep, h1, h2, h3, hd⟩ := ok
  refine I.write (t' := s.toks) (h' := s.heap) (x := a) (e := a) mu (.inl rfl) (fun _ _ _ z => z) ⟨ob, h1⟩ ?_
  rcases ho with rfl | rfl
  · exact ⟨Nat.zero_le _, hd, [], .nil, ob, #[], ep, h1, h2, h3, fun _ z => absurd z (by simp), .nil, List.nodup_nil⟩
  · exact ⟨Nat.zero_le _, hd, [], .nil, ob, #[], ep, h1, h2, h3, by simp⟩

theorem upd_back {H : Hp} {a : Addr} {o o' : HO} (e : H a = some o) : upd (upd H a o') a o = H := by
  rw [upd_upd]; funext b
  by_cases hb : b = a
  · subst hb; rw [upd_same, e]
  · rw [upd_ne hb]
def KeyLike (H : Hp) (y : V) : Prop := (∃ k, y = kV k) ∨ ∃ (b : Addr) (ks : List Key), y = .ref b ∧ H b = some (.tup (ks.map kV))
def DGetE (H : Hp) (a : Addr) (y : V) (o : Option V) : Prop := DGet H a y o ∨ ((H a = some (.dK []) ∨ H a = some (.dT [])) ∧ o = none ∧ KeyLike H y)
def DPutE (H : Hp) (a : Addr) (y v : V) (H' : Hp) : Prop := DPut H a y v H' ∨ ((H a = some (.dK []) ∨ H a = some (.dT [])) ∧
  ((∃ k, y = kV k ∧ H' = upd H a (.dK [(k, v)])) ∨ ∃ (b : Addr) (ks : List Key), y = .ref b ∧ H b = some (.tup (ks.map kV)) ∧ H' = upd H a (.dT [(ks, v)])))
section
variable {X : Cx} {pins : List (Addr × Obj)} {σ : L2.St} {H : Hp} {s : Shared} {a : Addr} {y v : V} {o : Option V}
/-- the heap with the empty dict told so that the key fits -/
theorem fits (I : Inv X pins σ H s) (e : H a = some (.dK []) ∨ H a = some (.dT [])) (ky : KeyLike H y) : ∃ o1, (o1 = HO.dK [] ∨ o1 = .dT []) ∧ DGet (upd H a o1) a y none ∧ Inv X pins σ (upd H a o1) s ∧ ∀ s', Inv X pins σ (upd H a o1) s' → Inv X pins σ H s' := by
  have back : ∀ o1 : HO, (o1 = .dK [] ∨ o1 = .dT []) → ∀ s', Inv X pins σ (upd H a o1) s' → Inv X pins σ H s' := fun o1 h1 s' I' => by
    have h2 : upd H a o1 a = some (.dK []) ∨ upd H a o1 a = some (.dT []) := by rcases h1 with h1 | h1 <;> (subst h1; rw [upd_same]; simp)
    rcases e with e | e
    · have := conv_inv I' h2 (.dK []) (.inl rfl)
      rw [upd_back e] at this; exact this
    · have := conv_inv I' h2 (.dT []) (.inr rfl)
      rw [upd_back e] at this; exact this
  rcases ky with ⟨k, rfl⟩ | ⟨b, ks, rfl, eb⟩
  · exact ⟨.dK [], .inl rfl, .inl ⟨[], k, .inl upd_same, rfl, rfl⟩, conv_inv I e _ (.inl rfl), back _ (.inl rfl)⟩
  · have hb : b ≠ a := fun z => by subst z; rcases e with e | e <;> (rw [eb] at e; cases e)
    exact ⟨.dT [], .inr rfl, .inr ⟨[], ks, b, .inl upd_same, rfl, by rw [upd_ne hb]; exact eb, rfl⟩, conv_inv I e _ (.inr rfl), back _ (.inr rfl)⟩
theorem isD_E (g : DGetE H a y o) : IsD H a := by
  rcases g with (⟨kvs, k, e, _⟩ | ⟨kvs, k, b, e, _⟩) | ⟨e | e, _⟩
  · exact .inl ⟨kvs, e⟩
  · exact .inr ⟨kvs, e⟩
  · exact .inl ⟨[], .inl e⟩
  · exact .inr ⟨[], .inl e⟩
theorem op_dinE (hu : X.A.units + 1 < cLine) : OpR X (compareOp .In) (fun y x H Q => ∃ a o, x = .ref a ∧ DGetE H a y o ∧ Q (.bl o.isSome) H) := fun pins s σ H y x u w Q I ry rx ⟨a, o, e, g, q⟩ => by
  subst e
  obtain rfl : w = Value.ref a := rx
  rcases g with g | ⟨e, rfl, ky⟩
  · exact d_in hu I g ry fun s' I' => ⟨.bl _, H, I', rfl, q⟩
  · obtain ⟨o1, _, g, I1, back⟩ := fits I e ky
    exact d_in hu I1 g ry fun s' I' => ⟨.bl _, H, back s' I', rfl, q⟩
theorem op_dnotinE (hu : X.A.units + 1 < cLine) : OpR X (compareOp .NotIn) (fun y x H Q => ∃ a o, x = .ref a ∧ DGetE H a y o ∧ Q (.bl (!o.isSome)) H) := fun pins s σ H y x u w Q I ry rx ⟨a, o, e, g, q⟩ => by
  subst e
  obtain rfl : w = Value.ref a := rx
  rcases g with g | ⟨e, rfl, ky⟩
  · exact d_notIn hu I g ry fun s' I' => ⟨.bl _, H, I', rfl, q⟩
  · obtain ⟨o1, _, g, I1, back⟩ := fits I e ky
    exact d_notIn hu I1 g ry fun s' I' => ⟨.bl _, H, back s' I', rfl, q⟩
def rIxD' : R2 := fun x y H Q => ∃ a v, x = .ref a ∧ DGet H a y (some v) ∧ Q v H
theorem ix_dict (hu : X.A.units + 1 < cLine) : IxR X rIxD' := fun value slice pins s σ H x y v u Q I rx ry ⟨a, v, e, g, q⟩ hs => by
  subst e
  obtain rfl : _ = Value.ref a := rx
  exact tail_any (dict_typeIs I g) PySem.F.slot_dict_getitem.lookup (d_getItem hu I g ry fun w' s3 I3 rw' => ⟨v, H, I3, rw', q⟩) hs
def rSetE : TSet := fun o i v H Q => rSetL o i v H Q ∨ ∃ a H', o = .ref a ∧ DPutE H a i v H' ∧ Q H'
theorem set_E (hu : X.A.units + 1 < cLine) : PSet X rSetE := fun pins s σ H o i v ov iv u Q I ro ri rv h => by
  rcases h with h | ⟨a, H', e, g, q⟩
  · exact set_list pins s σ H o i v ov iv u Q I ro ri rv h
  · subst e
    cases (show ov = Value.ref a from ro)
    rcases g with g | ⟨e, g⟩
    · exact d_setItem hu I g ri rv fun s' I' => ⟨H', I', q⟩
    · rcases g with ⟨k, rfl, rfl⟩ | ⟨b, ks, rfl, eb, rfl⟩
      · have I1 := conv_inv I e (.dK []) (.inl rfl)
        exact d_setItem hu I1 (.inl ⟨[], k, upd_same, rfl, by show 0 < sizeLine; decide, rfl⟩) ri rv fun s' I' => ⟨_, by rw [upd_upd] at I'; exact I', q⟩
      · have I1 := conv_inv I e (.dT []) (.inr rfl)
        have hb : b ≠ a := fun z => by subst z; rcases e with e | e <;> (rw [eb] at e; cases e)
        exact d_setItem hu I1 (.inr ⟨[], ks, b, upd_same, rfl, by rw [upd_ne hb]; exact eb, by show 0 < sizeLine; decide, rfl⟩) ri rv fun s' I' => ⟨_, by rw [upd_upd] at I'; exact I', q⟩
variable {od e f : Expr} {td ty tx : TE} {apos cpos : Pos}
def tDGet1E (td ty : TE) : TE := fun σ H Q => td σ H fun x H1 => ∃ a, x = .ref a ∧ IsD H1 a ∧ ty σ H1 fun y H2 => ∃ o, DGetE H2 a y o ∧ Q (o.getD .non) H2
def tDGet2E (td ty tx : TE) : TE := fun σ H Q => td σ H fun x H1 => ∃ a, x = .ref a ∧ IsD H1 a ∧ ty σ H1 fun y H2 => tx σ H2 fun z H3 => ∃ o, DGetE H3 a y o ∧ Q (o.getD z) H3
end
end Ev
/-! Dicts of the plain heap, told plainly; what code reads as. -/
namespace Ev
open PySem PySem.Spec PyProof.Rows L2

def keyK : Val → Option Key
  | .int i => some (.inl i)
  | .str x => some (.inr x)
  | _ => none
def keysK : List Val → Option (List Key)
  | [] => some []
  | v :: vs => match keyK v, keysK vs with
    | some k, some ks => some (k :: ks)
    | _, _ => none
def keyOf : Val → Option DK
  | .int i => some (.k (.inl i))
  | .str x => some (.k (.inr x))
  | .tup vs => (keysK vs).map .t
  | _ => none
def DK.isK : DK → Bool
  | .k _ => true
  | .t _ => false
def dget (kvs : List (DK × Val)) (k : DK) : Option Val := (kvs.find? fun p => decide (p.1 = k)).map (·.2)
def dput (kvs : List (DK × Val)) (k : DK) (v : Val) : List (DK × Val) := if (kvs.any fun p => decide (p.1 = k)) = true then kvs.map (fun p => if p.1 = k then (p.1, v) else p) else kvs ++ [(k, v)]
def sorts (kvs : List (DK × Val)) (k : DK) : Prop := ∀ p ∈ kvs, p.1.isK = k.isK
inductive RO (K : PySem.W.Frag) (m : List Addr) (H : Hp) : Option Val → Option V → Prop
  | non : RO K m H none none
  | som {v : Val} {u : V} : VR K m H v u → RO K m H (some v) (some u)
section
variable {K : PySem.W.Frag} {m m' : List Addr} {H H' : Hp} {h h' : AH} {sl : Sl} {σ : L2.St}
theorem keyK_vr {v : Val} {u : V} {k : Key} (e : keyK v = some k) (r : VR K m H v u) : u = kV k := by
  cases r <;> first | (cases e; rfl) | cases e
theorem keysK_vr : ∀ {vs : List Val} {us : List V} {ks : List Key}, keysK vs = some ks → VRs K m H vs us → us = ks.map kV
  | _, _, _, e, .nil => by cases e; rfl
  | v :: vs, _, ks, e, .cons (u := u) r t => by
    unfold keysK at e
    split at e
    · rename_i k ks' e1 e2
      cases e
      rw [keyK_vr e1 r, keysK_vr e2 t]; rfl
    · cases e
theorem key_vr {v : Val} {y : V} {k : DK} (e : keyOf v = some k) (r : VR K m H v y) : (∃ kk, k = .k kk ∧ y = kV kk) ∨ ∃ ks b, k = .t ks ∧ y = .ref b ∧ H b = some (.tup (ks.map kV)) := by
  cases r with
  | int i => cases e; exact .inl ⟨_, rfl, rfl⟩
  | str x => cases e; exact .inl ⟨_, rfl, rfl⟩
  | tup e1 r1 =>
    obtain ⟨ks, e2, e3⟩ := Option.map_eq_some_iff.mp (show (keysK _).map DK.t = some k from e)
    refine .inr ⟨ks, _, e3.symm, rfl, ?_⟩
    rw [← keysK_vr e2 r1]; exact e1
  | _ => cases e
theorem key_like {v : Val} {y : V} {k : DK} (e : keyOf v = some k) (r : VR K m H v y) : KeyLike H y := by
  rcases key_vr e r with ⟨kk, _, z⟩ | ⟨ks, b, _, z, e⟩
  · exact .inl ⟨kk, z⟩
  · exact .inr ⟨b, ks, z, e⟩
theorem krk_get {k : Key} : ∀ {xs : List (DK × Val)} {ys : List (Key × V)}, KRk K m H xs ys → RO K m H (dget xs (.k k)) (valV ys k)
  | _, _, .nil => .non
  | _, _, .cons (k := k1) (v := v) (u := u) (xs := xs) (ys := ys) r t => by
    by_cases e : k1 = k
    · subst e
      have h1 : dget ((DK.k k1, v) :: xs) (.k k1) = some v := by simp [dget, List.find?_cons]
      rw [h1, valV_pos (p := (k1, u)) rfl]; exact .som r
    · have h1 : dget ((DK.k k1, v) :: xs) (.k k) = dget xs (.k k) := by simp [dget, List.find?_cons, e]
      rw [h1, valV_neg (p := (k1, u)) e]; exact krk_get t
theorem krt_get {k : List Key} : ∀ {xs : List (DK × Val)} {ys : List (List Key × V)}, KRt K m H xs ys → RO K m H (dget xs (.t k)) (valV ys k)
  | _, _, .nil => .non
  | _, _, .cons (k := k1) (v := v) (u := u) (xs := xs) (ys := ys) r t => by
    by_cases e : k1 = k
    · subst e
      have h1 : dget ((DK.t k1, v) :: xs) (.t k1) = some v := by simp [dget, List.find?_cons]
      rw [h1, valV_pos (p := (k1, u)) rfl]; exact .som r
    · have h1 : dget ((DK.t k1, v) :: xs) (.t k) = dget xs (.t k) := by simp [dget, List.find?_cons, e]
      rw [h1, valV_neg (p := (k1, u)) e]; exact krt_get t
theorem krk_any {k : Key} : ∀ {xs : List (DK × Val)} {ys : List (Key × V)}, KRk K m H xs ys → (ys.any fun p => decide (p.1 = k)) = (xs.any fun p => decide (p.1 = .k k))
  | _, _, .nil => rfl
  | _, _, .cons r t => by rw [List.any_cons, List.any_cons, krk_any t]; congr 1; simp
theorem krt_any {k : List Key} : ∀ {xs : List (DK × Val)} {ys : List (List Key × V)}, KRt K m H xs ys → (ys.any fun p => decide (p.1 = k)) = (xs.any fun p => decide (p.1 = .t k))
  | _, _, .nil => rfl
  | _, _, .cons r t => by rw [List.any_cons, List.any_cons, krt_any t]; congr 1; simp
theorem krk_put {k : Key} {v : Val} {u : V} (r : VR K m H v u) {xs : List (DK × Val)} {ys : List (Key × V)} (h : KRk K m H xs ys) : KRk K m H (dput xs (.k k) v) (putK ys k u) := by
  have hm : ∀ {xs : List (DK × Val)} {ys : List (Key × V)}, KRk K m H xs ys → KRk K m H (xs.map fun p => if p.1 = .k k then (p.1, v) else p) (ys.map fun p => if p.1 = k then (p.1, u) else p) := by
    intro xs ys h
    induction h with
    | nil => exact .nil
    | @cons k1 v1 u1 xs ys h1 t ih =>
      rw [List.map_cons, List.map_cons]
      by_cases e : k1 = k
      · rw [if_pos (show ((DK.k k1, v1) : DK × Val).1 = DK.k k from congrArg DK.k e), if_pos (show (k1, u1).1 = k from e)]
        exact .cons r ih
      · rw [if_neg (show ¬ ((DK.k k1, v1) : DK × Val).1 = DK.k k from fun z => e (DK.k.inj z)), if_neg (show ¬ (k1, u1).1 = k from e)]
        exact .cons h1 ih
  have ha : ∀ {xs : List (DK × Val)} {ys : List (Key × V)}, KRk K m H xs ys → KRk K m H (xs ++ [(.k k, v)]) (ys ++ [(k, u)]) := by
    intro xs ys h
    induction h with
    | nil => exact .cons r .nil
    | cons h1 t ih => exact .cons h1 ih
  unfold dput putK
  rw [krk_any h]
  split
  · exact hm h
  · exact ha h
theorem krt_put {k : List Key} {v : Val} {u : V} (r : VR K m H v u) {xs : List (DK × Val)} {ys : List (List Key × V)} (h : KRt K m H xs ys) : KRt K m H (dput xs (.t k) v) (putK ys k u) := by
  have hm : ∀ {xs : List (DK × Val)} {ys : List (List Key × V)}, KRt K m H xs ys → KRt K m H (xs.map fun p => if p.1 = .t k then (p.1, v) else p) (ys.map fun p => if p.1 = k then (p.1, u) else p) := by
    intro xs ys h
    induction h with
    | nil => exact .nil
    | @cons k1 v1 u1 xs ys h1 t ih =>
      rw [List.map_cons, List.map_cons]
      by_cases e : k1 = k
      · rw [if_pos (show ((DK.t k1, v1) : DK × Val).1 = DK.t k from congrArg DK.t e), if_pos (show (k1, u1).1 = k from e)]
        exact .cons r ih
      · rw [if_neg (show ¬ ((DK.t k1, v1) : DK × Val).1 = DK.t k from fun z => e (DK.t.inj z)), if_neg (show ¬ (k1, u1).1 = k from e)]
        exact .cons h1 ih
  have ha : ∀ {xs : List (DK × Val)} {ys : List (List Key × V)}, KRt K m H xs ys → KRt K m H (xs ++ [(.t k, v)]) (ys ++ [(k, u)]) := by
    intro xs ys h
    induction h with
    | nil => exact .cons r .nil
    | cons h1 t ih => exact .cons h1 ih
  unfold dput putK
  rw [krt_any h]
  split
  · exact hm h
  · exact ha h
theorem krk_len : ∀ {xs : List (DK × Val)} {ys : List (Key × V)}, KRk K m H xs ys → ys.length = xs.length
  | _, _, .nil => rfl
  | _, _, .cons _ t => congrArg (· + 1) (krk_len t)
theorem krt_len : ∀ {xs : List (DK × Val)} {ys : List (List Key × V)}, KRt K m H xs ys → ys.length = xs.length
  | _, _, .nil => rfl
  | _, _, .cons _ t => congrArg (· + 1) (krt_len t)
theorem sortK {xs : List (DK × Val)} {ys : List (Key × V)} {ks : List Key} (r : KRk K m H xs ys) (s : sorts xs (.t ks)) : xs = [] ∧ ys = [] := by
  cases r with
  | nil => exact ⟨rfl, rfl⟩
  | cons _ _ => exact nomatch s _ List.mem_cons_self
theorem sortT {xs : List (DK × Val)} {ys : List (List Key × V)} {k : Key} (r : KRt K m H xs ys) (s : sorts xs (.k k)) : xs = [] ∧ ys = [] := by
  cases r with
  | nil => exact ⟨rfl, rfl⟩
  | cons _ _ => exact nomatch s _ List.mem_cons_self
theorem Rel.dgetE (R : Rel K m h H) {i : Nat} {a : Addr} {kvs : List (DK × Val)} {x : Val} {y : V} {k : DK} (hi : m[i]? = some a) (ho : h[i]? = some (.dct kvs)) (rx : VR K m H x y) (ek : keyOf x = some k) (s : sorts kvs k) : ∃ o, DGetE H a y o ∧ RO K m H (dget kvs k) o := by
  obtain ⟨u, h1, h2⟩ := R.at_ hi ho
  have kl := key_like ek rx
  rcases h2 with ⟨xs, rfl, r⟩ | ⟨xs, rfl, r⟩
  · rcases key_vr ek rx with ⟨kk, rfl, rfl⟩ | ⟨ks, b, rfl, rfl, eb⟩
    · exact ⟨_, .inl (DGet.k h1), krk_get r⟩
    · obtain ⟨rfl, rfl⟩ := sortK r s
      exact ⟨none, .inr ⟨.inl h1, rfl, kl⟩, .non⟩
  · rcases key_vr ek rx with ⟨kk, rfl, rfl⟩ | ⟨ks, b, rfl, rfl, eb⟩
    · obtain ⟨rfl, rfl⟩ := sortT r s
      exact ⟨none, .inr ⟨.inr h1, rfl, kl⟩, .non⟩
    · exact ⟨_, .inl (DGet.t h1 eb), krt_get r⟩
theorem sorts_of_some {kvs : List (DK × Val)} {k : DK} {v : Val} (e : dget kvs k = some v) : ∃ p ∈ kvs, p.1 = k := by
  unfold dget at e
  obtain ⟨p, h1, _⟩ := Option.map_eq_some_iff.mp e
  exact ⟨p, List.mem_of_find?_eq_some h1, by simpa using List.find?_some h1⟩
theorem Rel.dget (R : Rel K m h H) {i : Nat} {a : Addr} {kvs : List (DK × Val)} {x v : Val} {y : V} {k : DK} (hi : m[i]? = some a) (ho : h[i]? = some (.dct kvs)) (rx : VR K m H x y) (ek : keyOf x = some k) (e : dget kvs k = some v) : ∃ u, DGet H a y (some u) ∧ VR K m H v u := by
  obtain ⟨u, h1, h2⟩ := R.at_ hi ho
  obtain ⟨p, hp, hk⟩ := sorts_of_some e
  rcases h2 with ⟨xs, rfl, r⟩ | ⟨xs, rfl, r⟩
  · have allk : ∀ {xs : List (DK × Val)} {ys : List (Key × V)}, KRk K m H xs ys → ∀ p ∈ xs, p.1.isK = true := by
      intro xs ys r
      induction r with
      | nil => exact fun _ z => nomatch z
      | cons _ _ ih => exact fun p z => (List.mem_cons.mp z).elim (fun e => by rw [e]; rfl) (ih p)
    rcases key_vr ek rx with ⟨kk, rfl, rfl⟩ | ⟨ks, b, rfl, rfl, eb⟩
    · have g := krk_get (k := kk) r
      rw [e] at g
      generalize hz : valV xs kk = z at g
      cases g with
      | som g => exact ⟨_, by rw [← hz]; exact DGet.k h1, g⟩
    · have := allk r p hp
      rw [hk] at this; cases this
  · have allk : ∀ {xs : List (DK × Val)} {ys : List (List Key × V)}, KRt K m H xs ys → ∀ p ∈ xs, p.1.isK = false := by
      intro xs ys r
      induction r with
      | nil => exact fun _ z => nomatch z
      | cons _ _ ih => exact fun p z => (List.mem_cons.mp z).elim (fun e => by rw [e]; rfl) (ih p)
    rcases key_vr ek rx with ⟨kk, rfl, rfl⟩ | ⟨ks, b, rfl, rfl, eb⟩
    · have := allk r p hp
      rw [hk] at this; cases this
    · have g := krt_get (k := ks) r
      rw [e] at g
      generalize hz : valV xs ks = z at g
      cases g with
      | som g => exact ⟨_, by rw [← hz]; exact DGet.t h1 eb, g⟩
theorem Rel.dputE (R : Rel K m h H) {i : Nat} {a : Addr} {kvs : List (DK × Val)} {x v : Val} {y w : V} {k : DK} (hi : m[i]? = some a) (ho : h[i]? = some (.dct kvs)) (rx : VR K m H x y) (ek : keyOf x = some k) (s : sorts kvs k) (rv : VR K m H v w) (hl : kvs.length < 1000000) :
    ∃ u', DPutE H a y w (upd H a u') ∧ OR K m H (.dct (dput kvs k v)) u' := by
  obtain ⟨u, h1, h2⟩ := R.at_ hi ho
  have big : (1000000 : Nat) < sizeLine := by decide
  rcases h2 with ⟨xs, rfl, r⟩ | ⟨xs, rfl, r⟩
  · rcases key_vr ek rx with ⟨kk, rfl, rfl⟩ | ⟨ks, b, rfl, rfl, eb⟩
    · exact ⟨_, .inl (DPut.k h1 (by rw [krk_len r]; omega)), .inl ⟨_, rfl, krk_put rv r⟩⟩
    · obtain ⟨rfl, rfl⟩ := sortK r s
      exact ⟨_, .inr ⟨.inl h1, .inr ⟨b, ks, rfl, eb, rfl⟩⟩, .inr ⟨_, rfl, .cons rv .nil⟩⟩
  · rcases key_vr ek rx with ⟨kk, rfl, rfl⟩ | ⟨ks, b, rfl, rfl, eb⟩
    · obtain ⟨rfl, rfl⟩ := sortT r s
      exact ⟨_, .inr ⟨.inr h1, .inl ⟨kk, rfl, rfl⟩⟩, .inl ⟨_, rfl, .cons rv .nil⟩⟩
    · exact ⟨_, .inl (DPut.t h1 eb (by rw [krt_len r]; omega)), .inr ⟨_, rfl, krt_put rv r⟩⟩
end

/-! ### subscripts, membership, stores -/
def dctOf (h : AH) : Val → Option (List (DK × Val))
  | .ref a => match h[a]? with
    | some (.dct kvs) => some kvs
    | _ => none
  | _ => none
theorem dct_of {h : AH} {x : Val} {kvs : List (DK × Val)} (e : dctOf h x = some kvs) : ∃ a, x = .ref a ∧ h[a]? = some (.dct kvs) := by
  cases x with
  | ref a =>
    refine ⟨a, rfl, ?_⟩
    have e : (match h[a]? with | some (.dct kvs) => some kvs | _ => none) = some kvs := e
    cases q : h[a]? with
    | none => rw [q] at e; cases e
    | some o =>
      rw [q] at e
      cases o with
      | dct ws => cases e; rfl
      | lst _ => cases e
  | _ => cases e
def aGet : ASp := fun vs h Q => match vs with
  | [x, y] => match seqOf h x with
    | some xs => (match y with
      | .int i => (match atI xs i with
        | some v => Q v h
        | none => False)
      | _ => False)
    | none => (match dctOf h x with
      | some kvs => (match keyOf y with
        | some k => (match dget kvs k with
          | some v => Q v h
          | none => False)
        | none => False)
      | none => False)
  | _ => False
def aMem (neg : Bool) : ASp := fun vs h Q => match vs with
  | [y, x] => match dctOf h x with
    | some kvs => (match keyOf y with
      | some k => sorts kvs k ∧ Q (.bl (neg != (dget kvs k).isSome)) h
      | none => False)
    | none => (∃ d ds, Rep h y d ∧ Rep h x (.list ds) ∧ SeqAt.shaped d = true ∧ SeqAt.shaped (.list ds) = true ∧ Q (.bl (neg != ds.any fun z => PyData.eqv z d)) h) ∨
      ∃ (ns : List Int) (i : Int), y = .int i ∧ seqOf h x = some (ns.map .int) ∧ Q (.bl (neg != decide (i ∈ ns))) h
  | _ => False
def aSet : USp := fun o k v h N => match o with
  | .ref a => match h[a]? with
    | some (.lst xs) => (match k with
      | .int i => (match ixN xs.length i with
        | some j => N (h.set a (.lst (xs.set j v)))
        | none => False)
      | _ => False)
    | some (.dct kvs) => (match keyOf k with
      | some dk => sorts kvs dk ∧ kvs.length < 1000000 ∧ N (h.set a (.dct (dput kvs dk v)))
      | none => False)
    | none => False
  | _ => False
theorem aSet_cases {o k v : Val} {h : AH} {N : AH → Prop} (w : aSet o k v h N) : (∃ a xs i j, o = .ref a ∧ k = .int i ∧ h[a]? = some (.lst xs) ∧ ixN xs.length i = some j ∧ N (h.set a (.lst (xs.set j v)))) ∨
    ∃ a kvs dk, o = .ref a ∧ h[a]? = some (.dct kvs) ∧ keyOf k = some dk ∧ sorts kvs dk ∧ kvs.length < 1000000 ∧ N (h.set a (.dct (dput kvs dk v))) := by
  unfold aSet at w
  split at w
  · rename_i a
    split at w
    · rename_i xs e
      split at w
      · rename_i i
        split at w
        · rename_i j e2
          exact .inl ⟨a, xs, i, j, rfl, rfl, e, e2, w⟩
        · exact w.elim
      · exact w.elim
    · rename_i kvs e
      split at w
      · rename_i dk e2
        exact .inr ⟨a, kvs, dk, rfl, e, e2, w.1, w.2.1, w.2.2⟩
      · exact w.elim
    · exact w.elim
  · exact w.elim
section
variable {K : PySem.W.Frag}
theorem sop_get : Sop K aGet (fun x y H Q => (rIxL K x y H Q ∨ rIxT K x y H Q) ∨ rIxD' x y H Q) := fun x y h Q m H v u Qc w R rx ry k => by
  cases w1 : seqOf h x with
  | some xs =>
    cases y with
    | int i =>
      cases w2 : atI xs i with
      | some v =>
        simp only [aGet, w1, w2] at w
        exact .inl (sop_ix _ _ _ _ _ _ _ _ _ (show aIx [x, .int i] h Q from ⟨xs, v, w1, w2, w⟩) R rx ry k)
      | none => simp only [aGet, w1, w2] at w
    | _ => simp only [aGet, w1] at w
  | none =>
    cases w2 : dctOf h x with
    | none => simp only [aGet, w1, w2] at w
    | some kvs =>
      obtain ⟨a, rfl, e⟩ := dct_of w2
      cases w3 : keyOf y with
      | none => simp only [aGet, w1, w2, w3] at w
      | some dk =>
        cases w4 : dget kvs dk with
        | none => simp only [aGet, w1, w2, w3, w4] at w
        | some v =>
          simp only [aGet, w1, w2, w3, w4] at w
          cases rx with
          | ref hi =>
            obtain ⟨z, h1, h2⟩ := R.dget hi e ry w3 w4
            exact .inr ⟨_, z, rfl, h1, k.here R w h2⟩
theorem inV_ints {i : Int} {ns : List Int} : inV (V.int i) (ns.map V.int) = decide (i ∈ ns) := by
  unfold inV
  rw [List.any_map]
  rw [Bool.eq_iff_iff, List.any_eq_true]
  simp only [decide_eq_true_eq, Function.comp]
  constructor
  · rintro ⟨x, h1, h2⟩
    have : x = i := by
      unfold eqV at h2
      simpa using h2
    rw [← this]; exact h1
  · intro h1
    refine ⟨i, h1, ?_⟩
    unfold eqV
    simp
theorem flats (ns : List Int) : (ns.map V.int).all flatV = true := by
  rw [List.all_map, List.all_eq_true]; intro x _; rfl
abbrev rMem (K : PySem.W.Frag) (neg : Bool) : R2 := fun x y H Q => (if neg then rNotInD K x y H Q else rInD K x y H Q) ∨ rIn K neg x y H Q ∨ ∃ a o, y = .ref a ∧ DGetE H a x o ∧ Q (.bl (neg != o.isSome)) H
theorem sop_mem {neg : Bool} : Sop K (aMem neg) (rMem K neg) := fun x y h Q m H v u Qc w R rx ry k => by
  cases w0 : dctOf h y with
  | some kvs =>
    obtain ⟨a, rfl, w1⟩ := dct_of w0
    cases w2 : keyOf x with
    | none => simp only [aMem, w0, w2] at w
    | some dk =>
      simp only [aMem, w0, w2] at w
      obtain ⟨w3, w4⟩ := w
      cases ry with
      | ref hi =>
        obtain ⟨o, h1, h2⟩ := R.dgetE hi w1 rx w2 w3
        refine .inr (.inr ⟨_, o, rfl, h1, k.here R ?_ (.bl _)⟩)
        have : o.isSome = (dget kvs dk).isSome := by
          generalize dget kvs dk = z at h2
          cases h2 <;> rfl
        rw [this]; exact w4
  | none =>
    simp only [aMem, w0] at w
    rcases w with ⟨d, ds, w1, w2, w3, w4, w5⟩ | ⟨ns, i, rfl, w1, w2⟩
    · left
      cases neg with
      | false => exact ⟨d, ds, rep_dp R _ _ _ w1 rx, rep_dp R _ _ _ w2 ry, w3, w4, k.here R (by simpa using w5) (.bl _)⟩
      | true => exact ⟨d, ds, rep_dp R _ _ _ w1 rx, rep_dp R _ _ _ w2 ry, w3, w4, k.here R (by simpa using w5) (.bl _)⟩
    · cases rx
      obtain ⟨a, us, rfl, hs, r⟩ := R.seq ry w1
      have := vrs_ints_inv ns r
      subst this
      refine .inr (.inl ⟨_, _, rfl, hs, rfl, flats ns, k.here R ?_ (.bl _)⟩)
      rw [inV_ints]
      cases neg <;> simpa using w2
end
end Ev
/-! Rules over the hand layer that it lacks: enumerate(tuple), x, *xs = .., the order of several stores. -/
namespace Ev
open PySem PySem.Spec PyProof.Rows L2
theorem enumT_new (a : Addr) (its : Array Value) : Meets (Builtin.«enumerate.__new__» ⟨[.type "enumerate", .ref a], []⟩) (fun _ R s => s.heap.IsTuple a its ∧
      R (.ok (.ret (.ref (s.heap.push { cls := .type "tuple_iterator", data := .fields #[.ref a, .int 0 0] }).objs.size)))
        { s with heap := (s.heap.push { cls := .type "tuple_iterator", data := .fields #[.ref a, .int 0 0] }).push { cls := .type "enumerate", data := .fields #[.none, .bool false, .ref s.heap.objs.size, rawInt 0, .none, .none] } }) :=
  .of_wp fun prog w A R s h => by
    obtain ⟨hh, gg, dd, kk, oo⟩ := s
    obtain ⟨ht, h⟩ := h
    have sub := sub_enumerate
    have walk : ∀ {A' : Around} {E Q : Value → Shared → Prop}, Q (.ref hh.objs.size) ⟨hh.push { cls := .type "tuple_iterator", data := .fields #[.ref a, .int 0 0] }, gg, dd, kk, oo⟩ → wpAny (model prog w) A' (pyIter (.ref a)) Q E ⟨hh, gg, dd, kk, oo⟩ :=
      fun {A' E Q} q => wpAny_pyIter_tuple (s := ⟨hh, gg, dd, kk, oo⟩) ht q
    wp_walk using walk
    refine wpAny_stack_any fun st => wpAny_pure ?_
    split
    · rename_i cl _ _ _ _ _
      cases (cl == Value.type "enumerate") <;> (wp_walk using walk; exact ⟨_, rfl, h⟩)
    · wp_walk using walk
      exact ⟨_, rfl, h⟩
theorem call_enumT {P : Program} {w : World} {A : Around} {E : Value → Shared → Prop} {s : Shared} {a : Addr} {its : Array Value} {Q : Value → Shared → Prop} (ht : s.heap.IsTuple a its)
    (k : ∀ h', IsEnum h' (s.heap.objs.size + 1) s.heap.objs.size 0 .none → h'.IsTupleIter s.heap.objs.size a 0 → (∀ b o, s.heap.get? b = some o → h'.get? b = some o) → Q (.ref (s.heap.objs.size + 1)) { s with heap := h' }) :
    wpAny (model P w) A (call (.type "enumerate") [.ref a]) Q E s := by
  refine callType_new F.called_enumerate (by decide) (F.typeCall_enumerate_1 _) (F.newCall_enumerate_1 _) (fun obj => F.args_object_init_2 obj _) F.entry_enumerate_new (enumT_new a its) ⟨ht, ?_⟩
  generalize hw : s.heap.push { cls := .type "tuple_iterator", data := .fields #[.ref a, .int 0 0] } = h1
  have n1 : h1.objs.size = s.heap.objs.size + 1 := by rw [← hw]; exact Heap.size_push ..
  have e1 : h1.get? s.heap.objs.size = some { cls := .type "tuple_iterator", data := .fields #[.ref a, .int 0 0] } := by rw [← hw]; exact Heap.get?_push_size _ rfl
  have e2 : ∀ b o, s.heap.get? b = some o → h1.get? b = some o := fun b o z => by rw [← hw]; exact Heap.get?_push_of_some _ z
  have e3 := Heap.get?_push_size h1 (o := { cls := .type "enumerate", data := .fields #[.none, .bool false, .ref s.heap.objs.size, rawInt 0, .none, .none] }) rfl
  rw [n1] at e3 ⊢
  exact ⟨⟨_, e3, rfl⟩, k _ e3 ⟨_, Heap.get?_push_of_some _ e1, rfl, rfl⟩ fun b o z => Heap.get?_push_of_some _ (e2 b o z)⟩
/-- the tuple at a, each item in a new pair with its number -/
def IteT (K : PySem.W.Frag) (a : Addr) : It where
  go := fun i H => ∃ (xs : List V) (x : V), SqT K H a xs ∧ xs[i]? = some x
  yld := fun i H v H' => ∃ T x, v = .ref T ∧ H T = none ∧ H' = upd H T (.tup [.int (i : Nat), x]) ∧ ∀ xs, SqT K H a xs → xs[i]? = some x
  stop := fun i H => ∃ xs : List V, SqT K H a xs ∧ xs.length ≤ i
theorem tup_end {P : Program} {w : World} {A : Around} {E : Value → Shared → Prop} {s : Shared} {e it a : Addr} {i : Nat} {its : Array Value} {old : Value} {Q : Option Value → Shared → Prop} (hh : A.handled = none) (he : IsEnum s.heap e it i old) (ti : s.heap.IsTupleIter it a i) (ht : s.heap.IsTuple a its) (hn : its[i]? = none)
    (k : ∀ h', Heap.ExtBut it s.heap h' → Q none { s with heap := h' }) : wpAny (model P w) A (pyNext (.ref e)) Q E s := by
  have D : Draws P w A.in1 it [it, a] i (fun _ _ => True) (fun j h => j = i ∧ h.IsTupleIter it a i ∧ h.IsTuple a its) := by
    refine ⟨fun j h st => ?_, fun j h h' st k => ?_, fun j s Q E hj st _ => ?_, fun s Q E st hE => ?_⟩
    · obtain ⟨_, ⟨o, ho, _⟩, _⟩ := st
      exact ⟨o, ho⟩
    · exact ⟨st.1, st.2.1.at fun o q => k it (by simp) o q, st.2.2.at fun o q => k a (by simp) o q⟩
    · exact absurd st.1 (by omega)
    · exact wpAny_nextOf_tuple_end hh st.2.1 st.2.2 hn hE
  exact wpAny_pyNext_enum_endD D he ⟨rfl, ti, ht⟩ k
theorem turn_enumT {P : Program} {w : World} {K : PySem.W.Frag} {elts : List Expr} {kk : Nat} {tpos : Pos} (a e it : Addr) :
    Turn P w K (.Tuple elts kk tpos) (IteT K a) [e, it] e (fun i h => (∃ old, IsEnum h e it ((i : Nat) : Int) old) ∧ h.IsTupleIter it a i ∧ e ≠ it) := by
  have other : ∀ {h : Heap} {its : Array Value} {old : Value} {i : Int} {n : Nat}, IsEnum h e it i old → h.IsTupleIter it a n → h.IsTuple a its → a ≠ e ∧ a ≠ it := by
    rintro h its old i n he ⟨o1, t1, t2, t3⟩ ⟨o2, u1, u2, u3⟩
    refine ⟨fun z => ?_, fun z => ?_⟩
    · subst z
      rw [he] at u1
      cases u1
      exact absurd (show Value.type "enumerate" = Value.type "tuple" from u2) (by decide)
    · subst z
      rw [t1] at u1
      cases u1
      exact absurd (t2.symm.trans u2) (by decide)
  refine ⟨List.mem_cons_self, fun i h st b hb => ?_, fun i h h' st k => ?_, ?_, ?_, fun A i s Q E st q => ?_⟩
  · obtain ⟨⟨old, he⟩, ⟨o, t1, t2, t3⟩, _⟩ := st
    rcases List.mem_cons.mp hb with z | z
    · subst z; exact ⟨_, he, fun v q => nomatch q⟩
    · have z := List.mem_singleton.mp z
      subst z; exact ⟨o, t1, fun v q => by rw [t3] at q; cases q⟩
  · obtain ⟨⟨old, he⟩, ti, hne⟩ := st
    exact ⟨⟨old, k e (by simp) _ he⟩, ti.at fun o q => k it (by simp) o q, hne⟩
  · intro X hP hw hK hc i pins s σ H E I hf st hg
    subst hP hw hK
    obtain ⟨⟨old, he⟩, ti, hne⟩ := st
    obtain ⟨xs, x, hq, hx⟩ := hg
    obtain ⟨its, rv, p, hz⟩ := I.tuple hq
    have p : s.heap.IsTuple a its.toArray := p
    obtain ⟨n1, n2⟩ := other he ti p
    have hi : i < its.toArray.size := by
      have := (List.getElem?_eq_some_iff.mp hx).1
      rw [List.size_toArray, ← rv.length]; exact this
    have lt1 : e < s.heap.objs.size := Heap.lt_size he
    have lt2 : it < s.heap.objs.size := by obtain ⟨_, q, _⟩ := ti; exact Heap.lt_size q
    refine wpAny_pyNext_enum_itemD (Draws.tuple (A := X.A.in1) (I.ok.hd hc) it a n2 its.toArray) he ⟨ti, p⟩ hi hne (by simp [hne, Ne.symm n1]) fun u h' tk hu ho hst hT hsz hk => ?_
    refine ⟨_, rfl, wpAny_letOwnedTupleGo_enum (s := { s with heap := h', toks := tk + 1 }) ho fun h2 he2 sb => ?_⟩
    obtain ⟨u', hu', ru⟩ := rv.get hx
    have eu : u = u' := by
      rw [List.getElem?_toArray] at hu
      exact Option.some.inj (hu.symm.trans hu')
    subst eu
    have hT2 : h2.get? s.heap.objs.size = some { cls := .type "tuple", data := .seq #[.int i tk, u] } := (sb.2 _ (Nat.ne_of_gt lt1)).trans hT
    have I1 : Inv X pins σ (upd H s.heap.objs.size (.tup [.int (i : Nat), x])) { s with heap := h2, toks := tk + 1 } :=
      I.turnedNew (ch := [e, it]) (fun b o hb q => (sb.2 b (fun z => hb (by simp [z]))).trans (hk b o (fun z => hb (by simp [z])) (fun z => hb (by simp [z])) q)) hf (Nat.le_refl _)
        ⟨by show 2 ≤ sizeLine; decide, [.int i tk, u], .cons ⟨_, rfl⟩ (.cons ru .nil), ⟨_, hT2, rfl, _, rfl⟩⟩
    refine ⟨.ref s.heap.objs.size, _, I1, rfl, ⟨_, x, rfl, I.hok.fresh (Nat.le_refl _), rfl, fun ys hy => by rw [I.tuple_inj hy hq]; exact hx⟩, ⟨⟨u, ?_⟩, hst.1.at fun o q => (sb.2 it (Ne.symm hne)).trans q, hne⟩, fun b hb => ?_⟩
    · rw [show ((i + 1 : Nat) : Int) = (i : Int) + 1 from by omega]; exact he2
    · have hb2 : b < s.heap.objs.size := by
        rcases List.mem_cons.mp hb with z | z
        · rw [z]; exact lt1
        · rw [List.mem_singleton.mp z]; exact lt2
      rw [upd_ne (Nat.ne_of_lt hb2)]
      exact (hf b hb).1
  · intro X hP hw hK hc i pins s σ H E I hf st hg
    subst hP hw hK
    obtain ⟨⟨old, he⟩, ti, hne⟩ := st
    obtain ⟨xs, hq, hx⟩ := hg
    obtain ⟨its, rv, p, hz⟩ := I.tuple hq
    have p : s.heap.IsTuple a its.toArray := p
    obtain ⟨f0, f1, f2, f3, f4, f5⟩ := hf it (by simp)
    have hl := rv.length
    exact tup_end (I.ok.hd hc) he ti p (by simp; omega) fun h' eb => ⟨rfl, I.turned (t' := s.toks) (fun b o hb q => eb b o hb q) f0 f1 f3 f4 f5⟩
  · obtain ⟨⟨_, he⟩, _⟩ := st
    exact wpAny_pyIter_enum he q
theorem pi_enumT {X : Cx} {e : Expr} {ta : TA} {p pos tpos : Pos} {elts : List Expr} {kk : Nat} (hg : Gl X "enumerate") (hm : X.mg "enumerate" = none) (ha : PA X [e] ta) (hs : starEach [e] X.env = [(false, eval e X.env)]) :
    PI X (.Tuple elts kk tpos) (.Call (.Name "enumerate" p) [e] [] pos) (fun σ H R => ta σ H fun vs H1 => ∃ a xs, vs = [.ref a] ∧ SqT X.K H1 a xs ∧ R (IteT X.K a) H1) := by
  constructor
  intro pins s σ H R I h
  refine Call_ (ld_blt I hg hm boot_enumerate (PyProof.Rows.callWith_type1 (thn (ha.run pos pins s σ H _ I h) ?_) hs rfl))
  rintro us s1 ⟨vs, H1, I1, rel, a, xs, rfl, hq, q⟩
  cases rel with
  | cons r1 r2 =>
    cases r2
    cases r1
    obtain ⟨its, rv, p', hz⟩ := I1.tuple hq
    refine call_enumT (show s1.heap.IsTuple a its.toArray from p') fun h' he ti keep => wpAny_pyIter_enum he ?_
    refine ⟨_, [s1.heap.objs.size + 1, s1.heap.objs.size], _, _, H1, rfl, I1.kept (t' := s1.toks) keep, turn_enumT a (s1.heap.objs.size + 1) s1.heap.objs.size, ⟨⟨.none, he⟩, ti, Nat.succ_ne_self _⟩, fun b hb => ?_, q⟩
    have above : s1.heap.objs.size ≤ b := by
      rcases List.mem_cons.mp hb with z | z
      · rw [z]; exact Nat.le_add_right _ _
      · rw [List.mem_singleton.mp z]; exact Nat.le_refl _
    exact I1.fpOk above (I1.hok.fresh above)
section
variable {P : Program} {w : World} {A : Around} {E : Value → Shared → Prop} {s : Shared} {a : Addr} {v0 : Value} {vs : List Value} {Q : List Value → Shared → Prop}
/-- behind the iterator's first item -/
theorem star_end {T : String} {St : Nat → Heap → Prop} {h1 : Heap} (hT : T = "str_ascii_iterator" ∨ T = "str_iterator" ∨ T = "list_iterator" ∨ T = "tuple_iterator")
    (W : Walks P w A.in1 s.heap.objs.size [s.heap.objs.size, a] [s.heap.objs.size] (v0 :: vs).toArray.size (fun i v => (v0 :: vs).toArray[i]? = some v) St) (tp : ∀ i (u : Shared), St i u.heap → u.TypeIs (.ref s.heap.objs.size) T) (st : St 1 h1)
    (l1 : s.heap.objs.size < h1.objs.size) (l2 : a < h1.objs.size) (old : ∀ b o, s.heap.get? b = some o → h1.get? b = some o) (hz : (v0 :: vs).length ≤ sizeLine)
    (k : ∀ (h2 : Heap) (tk : Nat), (∀ b o, s.heap.get? b = some o → h2.get? b = some o) → Q [v0, .ref h2.objs.size] { s with heap := h2.push { cls := .type "list", data := .seq vs.toArray }, toks := tk }) :
    wpAny (model P w) A (do
      let rest ← holding [v0] (collect (.ref s.heap.objs.size))
      let after := 2 - 1 - 1
      if rest.length < after then
        rule "unpack.star.too-few"
        raiseError "ValueError" s!"not enough values to unpack (expected at least {2 - 1}, got {1 + rest.length})"
      let mid := rest.length - after
      return [v0] ++ [← newList (rest.take mid)] ++ rest.drop mid) Q E { s with heap := h1 } := by
  have sz : (v0 :: vs).toArray.size = vs.length + 1 := by simp
  refine wpAny_bind (wpAny_holding (PySem.W.kun_collect (s := { s with heap := h1 }) (items := (v0 :: vs).toArray) (k := 1) hT W tp (by rw [sz]; omega) st l1 l2 (fun h2 tk keep => ?_) (by rw [sz]; exact hz)))
  have hr : (v0 :: vs).toArray.toList.drop 1 = vs := rfl
  rw [hr]
  show wpAny _ _ (if vs.length < 0 then _ else _) _ _ _
  rw [if_neg (Nat.not_lt_zero _)]
  show wpAny _ _ (newList (vs.take (vs.length - 0)) >>= fun d => pure ([v0] ++ [d] ++ vs.drop (vs.length - 0))) _ _ _
  rw [Nat.sub_zero, List.take_length, List.drop_length]
  unfold newList
  refine wpAny_bind (wpAny_newObj_type (wpAny_pure ?_) (by show vs.toArray.size ≤ sizeLine; rw [List.size_toArray]; rw [List.length_cons] at hz; omega))
  exact k h2 tk fun b o e => keep b o (fun z => by rw [z] at e; exact absurd (Heap.lt_size e) (Nat.lt_irrefl _)) (old b o e)
theorem star_tup (hh : A.handled = none) (ht : IsTup s.heap a (v0 :: vs).toArray) (hz : (v0 :: vs).length ≤ sizeLine)
    (k : ∀ (h2 : Heap) (tk : Nat), (∀ b o, s.heap.get? b = some o → h2.get? b = some o) → Q [v0, .ref h2.objs.size] { s with heap := h2.push { cls := .type "list", data := .seq vs.toArray }, toks := tk }) : wpAny (model P w) A (unpackItems (.ref a) 2 (some 1)) Q E s := by
  have al : a < s.heap.objs.size := by obtain ⟨o, ho, _⟩ := ht; exact Heap.lt_size ho
  unfold unpackItems
  refine wpAny_bind ?_
  unfold notIterableAtAll
  refine wpAny_bind (wpAny_specialOf ht.typeIs slot_tuple_iter.lookup (wpAny_pure ?_))
  simp only [Bool.false_eq_true, if_false]
  refine wpAny_bind (wpAny_holding (iter_tuple ht ?_))
  refine wpAny_bind (wpAny_holding (draw_tuple (Nat.ne_of_lt al) 1 0 _ _ ⟨_, Heap.get?_push_size _ rfl, rfl, rfl⟩ (ht.push _) (by simp) fun h1 hi hs => ?_))
  show wpAny _ _ (if [v0].length < 1 then _ else _) _ _ _
  rw [if_neg (show ¬ ([v0].length < 1) from Nat.lt_irrefl 1)]
  have t1 : IsTup h1 a (v0 :: vs).toArray := (ht.push _).extBut hs.extBut (Nat.ne_of_lt al)
  have l1 : s.heap.objs.size < h1.objs.size := by obtain ⟨o, ho, _⟩ := hi; exact Heap.lt_size ho
  exact star_end (T := "tuple_iterator") (.inr (.inr (.inr rfl))) (Walks.tuple (A := A.in1) hh _ a (Nat.ne_of_lt al) _) (fun j u st => st.1.typeIs) ⟨hi, t1⟩ l1 (Nat.lt_trans al l1) (fun b o e => hs.extBut b o (Nat.ne_of_lt (Heap.lt_size e)) (Heap.get?_push_of_some _ e)) hz k
theorem star_lst (hh : A.handled = none) (ht : s.heap.IsList a (v0 :: vs).toArray) (hz : (v0 :: vs).length ≤ sizeLine)
    (k : ∀ (h2 : Heap) (tk : Nat), (∀ b o, s.heap.get? b = some o → h2.get? b = some o) → Q [v0, .ref h2.objs.size] { s with heap := h2.push { cls := .type "list", data := .seq vs.toArray }, toks := tk }) : wpAny (model P w) A (unpackItems (.ref a) 2 (some 1)) Q E s := by
  have al : a < s.heap.objs.size := by obtain ⟨o, ho, _⟩ := ht; exact Heap.lt_size ho
  unfold unpackItems
  refine wpAny_bind ?_
  unfold notIterableAtAll
  refine wpAny_bind (wpAny_specialOf ht.typeIs slot_list_iter.lookup (wpAny_pure ?_))
  simp only [Bool.false_eq_true, if_false]
  refine wpAny_bind (wpAny_holding (wpAny_pyIter_list ht ?_))
  refine wpAny_bind (wpAny_holding (PySem.W.kun_draw (Nat.ne_of_lt al) 1 0 _ _ ⟨_, Heap.get?_push_size _ rfl, rfl, rfl⟩ (ht.push _) (by simp) fun h1 hi hs => ?_))
  show wpAny _ _ (if [v0].length < 1 then _ else _) _ _ _
  rw [if_neg (show ¬ ([v0].length < 1) from Nat.lt_irrefl 1)]
  have t1 : h1.IsList a (v0 :: vs).toArray := (ht.push _).extBut hs.extBut (Nat.ne_of_lt al)
  have l1 : s.heap.objs.size < h1.objs.size := by obtain ⟨o, ho, _⟩ := hi; exact Heap.lt_size ho
  exact star_end (T := "list_iterator") (.inr (.inr (.inl rfl))) (Walks.list (A := A.in1) hh _ a (Nat.ne_of_lt al) _) (fun j u st => st.1.typeIs) ⟨hi, t1⟩ l1 (Nat.lt_trans al l1) (fun b o e => hs.extBut b o (Nat.ne_of_lt (Heap.lt_size e)) (Heap.get?_push_of_some _ e)) hz k
end
theorem pgs_star {X : Cx} {e : Expr} {p : Pos} {t : TG} (h : PG X e t) (h1 : (assignEach [e] X.env).map (·.2) = [assign e X.env]) (hs : (assignEach [.Starred e p] X.env).map (·.2) = [assign e X.env]) : PGs X [.Starred e p] (gCons t gNil) := by
  have k := pgs_cons h pgs_nil (by rw [h1]; rfl)
  refine ⟨fun pins s σ H vs us Q I r hw => ?_⟩
  have z := k.run pins s σ H vs us Q I r hw
  rw [hs]
  rw [h1] at z
  exact z
/-- x, *xs = a sequence: the store -/
def gStar (K : PySem.W.Frag) (t : TGs) : TG := fun v σ H Q => ∃ a x xs, v = .ref a ∧ (SqT K H a (x :: xs) ∨ SqL K H a (x :: xs)) ∧ ∀ D, H D = none → t [x, .ref D] σ (upd H D (.lst xs)) Q
theorem pg_star {X : Cx} {es : List Expr} {k : Nat} {pos : Pos} {t : TGs} (hc : X.calm = true) (h : PGs X es t) (hn : (assignEach es X.env).length = 2) (hst : (assignEach es X.env).findIdx? (·.1) = some 1) : PG X (.Tuple es k pos) (gStar X.K t) := by
  refine ⟨fun pins s σ H v u Q I r hw => ?_⟩
  obtain ⟨a, x, xs, rfl, hq, hw⟩ := hw
  cases r
  rw [PyProof.Rows.assign_Tuple]
  refine wpAny_bind (wpAny_standAt ?_)
  unfold unpack
  rw [hn, hst]
  have fin : ∀ (u0 : Value) (us : List Value), RelV x u0 → Vals xs us → xs.length ≤ sizeLine → ∀ (h2 : Heap) (tk : Nat), (∀ b o, s.heap.get? b = some o → h2.get? b = some o) →
      wpAny (model X.prog X.w) X.A (assignInOrder ((assignEach es X.env).map (·.2)) [u0, .ref h2.objs.size]) (fun _ s' => ∃ σ' H', Inv X pins σ' H' s' ∧ Q σ' H') X.xe { s with heap := h2.push { cls := .type "list", data := .seq us.toArray }, toks := tk } := by
    intro u0 us r0 rs hz h2 tk keep
    have I1 : Inv X pins σ H { s with heap := h2, toks := tk } := I.kept keep
    have fr : H h2.objs.size = none := I1.hok.fresh (Nat.le_refl _)
    have I2 : Inv X pins σ (upd H h2.objs.size (.lst xs)) { s with heap := h2.push { cls := .type "list", data := .seq us.toArray }, toks := tk } :=
      I1.laid (t' := tk) (o := .lst xs) (fun b o e => Heap.get?_push_of_some _ e) (Nat.le_refl _) ⟨hz, us, 0, rs, Heap.get?_push_size _ rfl⟩
    exact h.run pins _ σ _ [x, .ref h2.objs.size] [u0, .ref h2.objs.size] Q I2 (.cons r0 (.cons rfl .nil)) (hw _ fr)
  rcases hq with hq | hq
  · obtain ⟨its, rv, p, hz⟩ := I.tuple hq
    cases rv with
    | cons r0 rs =>
      rw [List.length_cons] at hz
      exact wpAny_bind (wpAny_holding (star_tup (I.ok.hd hc) p (by rw [List.length_cons, ← rs.length]; exact hz) (fin _ _ r0 rs (by omega))))
  · obtain ⟨its, rv, p, hz⟩ := I.list hq
    cases rv with
    | cons r0 rs =>
      rw [List.length_cons] at hz
      exact wpAny_bind (wpAny_holding (star_lst (I.ok.hd hc) p.isList (by rw [List.length_cons, ← rs.length]; exact hz) (fin _ _ r0 rs (by omega))))
theorem swap2 {n1 n2 : Str} {v1 v2 : Expr} {p1 p2 p4 p5 : Pos} {k kv : Nat} {sc : Scope} (hk : sc.kind = .function) (h1 : sc.names.lookup n1 = some .local) (h2 : sc.names.lookup n2 = some .local) (hl : (p2.line == p1.line) = true) (hne : (n2 == n1) = false)
    (hs : ([v1, v2].any fun | .Starred .. => true | _ => false) = false) (hf : [v1, v2].all (foldedForSure 8) = false) (hc : [v1, v2].all (constantsAlone 8) = false) (env : PySem.Env) (he : env.scope = sc) :
    swappedStores [.Tuple [.Name n1 p1, .Name n2 p2] k p4] (.Tuple [v1, v2] kv p5) env = pure (some [n1, n2]) := by
  have b1 : env.kindOf n1 = some .local := by show env.scope.names.lookup n1 = _; rw [he]; exact h1
  have b2 : env.kindOf n2 = some .local := by show env.scope.names.lookup n2 = _; rw [he]; exact h2
  have hb : (env.blockKind != ScopeKind.function) = false := by
    unfold PySem.Env.blockKind
    rw [he, hk]
    rfl
  have names : ([Expr.Name n1 p1, .Name n2 p2].filterMap fun | .Name id pos => if env.kindOf id == some .local && pos.line == p1.line then some id else none | _ => none) = [n1, n2] := by
    simp only [List.filterMap_cons, List.filterMap_nil, b1, b2, hl, beq_self_eq_true, Bool.and_self, if_true]
  have dups : ([n1, n2] : List Str).eraseDups.length = 2 := by
    simp [List.eraseDups_cons, hne]
  have q1 : (!([Expr.Name n1 p1, .Name n2 p2].length == 2 || [Expr.Name n1 p1, .Name n2 p2].length == 3) || [v1, v2].length != [Expr.Name n1 p1, .Name n2 p2].length || env.blockKind != ScopeKind.function) = false := by rw [hb]; rfl
  have q2 : ([n1, n2].length != [Expr.Name n1 p1, .Name n2 p2].length || ([n1, n2] : List Str).eraseDups.length != [n1, n2].length) = false := by rw [dups]; rfl
  have q3 : (([Expr.Name n1 p1, .Name n2 p2].filterMap fun | .Name id pos => if env.kindOf id == some .local && pos.line == p1.line then some id else none | _ => none).length != 2 || ([Expr.Name n1 p1, .Name n2 p2].filterMap fun | .Name id pos => if env.kindOf id == some .local && pos.line == p1.line then some id else none | _ => none).eraseDups.length != ([Expr.Name n1 p1, .Name n2 p2].filterMap fun | .Name id pos => if env.kindOf id == some .local && pos.line == p1.line then some id else none | _ => none).length) = false := by rw [names]; exact q2
  unfold swappedStores
  dsimp only
  rw [q1]
  exact (if_neg Bool.false_ne_true).trans ((if_neg (fun z => absurd (hs.symm.trans z) Bool.false_ne_true)).trans ((if_neg (fun z => absurd (q3.symm.trans z) Bool.false_ne_true)).trans ((if_neg (fun z => absurd (hf.symm.trans z) Bool.false_ne_true)).trans ((if_neg (fun z => absurd (hc.symm.trans z) Bool.false_ne_true)).trans (congrArg (fun l => pure (some l)) names)))))
theorem swap3 {n1 n2 n3 : Str} {v1 v2 v3 : Expr} {p1 p2 p3 p4 p5 : Pos} {k kv : Nat} {sc : Scope} (hk : sc.kind = .function) (h1 : sc.names.lookup n1 = some .local) (h2 : sc.names.lookup n2 = some .local) (h3 : sc.names.lookup n3 = some .local) (hl : (p2.line == p1.line) = true) (hl3 : (p3.line == p1.line) = true) (hne : (n2 == n1) = false) (hne3 : (n3 == n1) = false) (hne4 : (n3 == n2) = false)
    (hs : ([v1, v2, v3].any fun | .Starred .. => true | _ => false) = false) (hf : [v1, v2, v3].all (foldedForSure 8) = false) (hc : [v1, v2, v3].all (constantsAlone 8) = false) (env : PySem.Env) (he : env.scope = sc) :
    swappedStores [.Tuple [.Name n1 p1, .Name n2 p2, .Name n3 p3] k p4] (.Tuple [v1, v2, v3] kv p5) env = pure (some [n1, n2, n3]) := by
  have b1 : env.kindOf n1 = some .local := by show env.scope.names.lookup n1 = _; rw [he]; exact h1
  have b2 : env.kindOf n2 = some .local := by show env.scope.names.lookup n2 = _; rw [he]; exact h2
  have b3 : env.kindOf n3 = some .local := by show env.scope.names.lookup n3 = _; rw [he]; exact h3
  have hb : (env.blockKind != ScopeKind.function) = false := by
    unfold PySem.Env.blockKind
    rw [he, hk]
    rfl
  have names : ([Expr.Name n1 p1, .Name n2 p2, .Name n3 p3].filterMap fun | .Name id pos => if env.kindOf id == some .local && pos.line == p1.line then some id else none | _ => none) = [n1, n2, n3] := by
    simp only [List.filterMap_cons, List.filterMap_nil, b1, b2, b3, hl, hl3, beq_self_eq_true, Bool.and_self, if_true]
  have dups : ([n1, n2, n3] : List Str).eraseDups.length = 3 := by
    simp [List.eraseDups_cons, hne, hne3, hne4]
  have q1 : (!([Expr.Name n1 p1, .Name n2 p2, .Name n3 p3].length == 2 || [Expr.Name n1 p1, .Name n2 p2, .Name n3 p3].length == 3) || [v1, v2, v3].length != [Expr.Name n1 p1, .Name n2 p2, .Name n3 p3].length || env.blockKind != ScopeKind.function) = false := by rw [hb]; rfl
  have q2 : ([n1, n2, n3].length != [Expr.Name n1 p1, .Name n2 p2, .Name n3 p3].length || ([n1, n2, n3] : List Str).eraseDups.length != [n1, n2, n3].length) = false := by rw [dups]; rfl
  have q3 : (([Expr.Name n1 p1, .Name n2 p2, .Name n3 p3].filterMap fun | .Name id pos => if env.kindOf id == some .local && pos.line == p1.line then some id else none | _ => none).length != 3 || ([Expr.Name n1 p1, .Name n2 p2, .Name n3 p3].filterMap fun | .Name id pos => if env.kindOf id == some .local && pos.line == p1.line then some id else none | _ => none).eraseDups.length != ([Expr.Name n1 p1, .Name n2 p2, .Name n3 p3].filterMap fun | .Name id pos => if env.kindOf id == some .local && pos.line == p1.line then some id else none | _ => none).length) = false := by rw [names]; exact q2
  unfold swappedStores
  dsimp only
  rw [q1]
  exact (if_neg Bool.false_ne_true).trans ((if_neg (fun z => absurd (hs.symm.trans z) Bool.false_ne_true)).trans ((if_neg (fun z => absurd (q3.symm.trans z) Bool.false_ne_true)).trans ((if_neg (fun z => absurd (hf.symm.trans z) Bool.false_ne_true)).trans ((if_neg (fun z => absurd (hc.symm.trans z) Bool.false_ne_true)).trans (congrArg (fun l => pure (some l)) names)))))
/-- what repr shows: no dict, short ints, short texts -/
structure ShowOk (d : PyData) : Prop where
  sh : d.showable = true
  nd : d.hasDict = false
  dp : d.depth ≤ 60
  sz : d.shown.length ≤ sizeLine
theorem cr_repr {c : Cc} {X : Cx} (hX : c.Has X) (hgd : c.gd = true) : CallR X (.builtin "repr") (fun vs H Q => ∃ r d, vs = [.ref r] ∧ Dp X.K H (.ref r) d ∧ ShowOk d ∧ Q (.str d.shown) H) := by
  intro pins s σ H xs us Q I rel h
  obtain ⟨r, d, rfl, hd, ok, q⟩ := h
  cases rel with
  | cons r1 r2 =>
    cases r2
    obtain ⟨as, rd⟩ := Dp.reads I d _ _ hd r1
    cases r1
    refine PySem.repr_of_reads' rd ok.sh (PyData.noDict_hsm ok.nd) (hX.gd hgd) ?_ (fun _ _ z => z) (fun h' u tk keep => ⟨.str d.shown, H, I.kept keep, ⟨u, rfl⟩, q⟩) ok.sz
    have := hX.hu
    have := ok.dp
    omega
end Ev
/-! What code reads as: expressions. -/
namespace Ev
open PySem PySem.Spec PyProof.Rows L2
section
variable {c : Cc} {a b d e f tst : Expr} {es : List Expr} {i j k : IE} {is js : List IE} {t u : IT} {ts us : List IT} {pos p p2 p3 : Pos}
theorem ce_bin {op : Operator} {Φ : ASp} {r : R2} (ho : ∀ X, c.Has X → OpR X (binaryOp op) r) (hs : Sop c.g.K Φ r) (h1 : CE c a i) (h2 : CE c b j) : CE c (.BinOp a op b pos) (.call Φ [i, j]) := .mk fun sl h Q w m σ H Qc R S q =>
  wE_of (fun X hX => pe_op (ho X hX) (pe_w hX) (pe_w hX)) (h1 sl h _ w m σ H _ R S fun v h' m1 H1 u w1 s1 R1 r1 => h2 sl h' _ w1 m1 σ H1 _ R1 (R.sr s1 S) fun v2 h2 m2 H2 u2 w2 s2 R2 r2 =>
    hs _ _ _ _ _ _ _ _ _ w2 R2 (R1.vr s2 r1) r2 (Kq.on q (s1.trans s2)))
theorem ce_un {op : UnaryOp} {Φ : ASp} {r : V → Hp → VK → Prop} (ho : ∀ X, c.Has X → UnR X (unaryOp op) r) (hs : Sun c.g.K Φ r) (h1 : CE c a i) : CE c (.UnaryOp op a pos) (.call Φ [i]) := .mk fun sl h Q w m σ H Qc R S q =>
  wE_of (fun X hX => pe_un (ho X hX) (pe_w hX)) (h1 sl h _ w m σ H _ R S fun v h' m1 H1 u w1 s1 R1 r1 => hs _ _ _ _ _ _ _ w1 R1 r1 (Kq.on q s1))
theorem ce_cmp {op : CmpOp} {Φ : ASp} {r : R2} (ho : ∀ X, c.Has X → OpR X (compareOp op) r) (hs : Sop c.g.K Φ r) (h1 : CE c a i) (h2 : CE c b j) (hm : behindInMarks op b = false) : CE c (.Compare a [op] [b] pos) (.call Φ [i, j]) := .mk fun sl h Q w m σ H Qc R S q =>
  wE_of (fun X hX => pe_cmpR (ho X hX) (pe_w hX) (pe_w hX) hm) (h1 sl h _ w m σ H _ R S fun v h' m1 H1 u w1 s1 R1 r1 => h2 sl h' _ w1 m1 σ H1 _ R1 (R.sr s1 S) fun v2 h2 m2 H2 u2 w2 s2 R2 r2 =>
    hs _ _ _ _ _ _ _ _ _ w2 R2 (R1.vr s2 r1) r2 (Kq.on q (s1.trans s2)))
/-- a comparison as a test -/
theorem ct_cmp {op : CmpOp} {Φ : ASp} {r : R2} (ho : ∀ X, c.Has X → OpR X (compareOp op) r) (hs : Sop c.g.K Φ r) (h1 : CE c a i) (h2 : CE c b j) (hm : behindInMarks op b = false) : CT c (.Compare a [op] [b] pos) (.bool (.call Φ [i, j])) := .mk fun sl h Q w m σ H Qc R S q =>
  wT_of (fun X hX => pt_cmpR (ho X hX) (pe_w hX) (pe_w hX) hm) (h1 sl h _ w m σ H _ R S fun v h' m1 H1 u w1 s1 R1 r1 => h2 sl h' _ w1 m1 σ H1 _ R1 (R.sr s1 S) fun v2 h2 m2 H2 u2 w2 s2 R2 r2 =>
    hs _ _ _ _ _ _ _ _ _ w2 R2 (R1.vr s2 r1) r2 fun v3 h3 m3 H3 u3 w3 s3 R3 r3 => by
      obtain ⟨b, e, w4⟩ := w3
      subst e
      cases r3
      exact ⟨b, rfl, q b h3 m3 H3 w4 ((s1.trans s2).trans s3) R3⟩)
theorem chain_run {r r' : R2} {Φ Ψ : ASp} (hs : Sop c.g.K Φ r) (hs' : Sop c.g.K Ψ r') (h1 : CE c a i) (h2 : CE c b j) (h3 : CE c d k) {sl : Sl} {h : AH} {Q : Val → AH → Prop} (w : wpE (.chn Φ Ψ i j k) sl h Q) {m : List Addr} {σ : L2.St} {H : Hp} {Qc : VK} (R : Rel c.g.K m h H) (S : SR c.g.K m H sl σ) (q : Kq c.g.K m H Q Qc) :
    tChain r r' (wE c a) (wE c b) (wE c d) σ H Qc :=
  h1 sl h _ w m σ H _ R S fun v h' m1 H1 u w1 s1 R1 r1 => h2 sl h' _ w1 m1 σ H1 _ R1 (R.sr s1 S) fun v2 h2 m2 H2 u2 w2 s2 R2 r2 =>
    hs _ _ _ _ _ _ _ _ _ w2 R2 (R1.vr s2 r1) r2 fun v3 h3' m3 H3 u3 w3 s3 R3 r3 => by
      obtain ⟨t, e, w4⟩ := w3
      subst e
      cases r3
      refine ⟨t, rfl, ?_⟩
      have s := (s1.trans s2).trans s3
      cases t with
      | true => exact h3 sl h3' _ w4 m3 σ H3 _ R3 (R.sr s S) fun v4 h4 m4 H4 u4 w5 s4 R4 r4 => hs' _ _ _ _ _ _ _ _ _ w5 R4 (R2.vr (s3.trans s4) r2) r4 (Kq.on q (s.trans s4))
      | false => exact q _ _ _ _ _ w4 s R3 (.bl false)
theorem ce_chain {op op' : CmpOp} {Φ Ψ : ASp} {r r' : R2} (ho : ∀ X, c.Has X → OpR X (compareOp op) r) (ho' : ∀ X, c.Has X → OpR X (compareOp op') r') (hs : Sop c.g.K Φ r) (hs' : Sop c.g.K Ψ r') (h1 : CE c a i) (h2 : CE c b j) (h3 : CE c d k)
    (hm : lastMarks [op, op'] [b, d] = false := by with_unfolding_all rfl) : CE c (.Compare a [op, op'] [b, d] pos) (.chn Φ Ψ i j k) := .mk fun sl h Q w m σ H Qc R S q =>
  wE_of (fun X hX => pe_chain (ho X hX) (ho' X hX) (pe_w hX) (pe_w hX) (pe_w hX) hm) (chain_run hs hs' h1 h2 h3 w R S q)
theorem ct_chain {op op' : CmpOp} {Φ Ψ : ASp} {r r' : R2} (ho : ∀ X, c.Has X → OpR X (compareOp op) r) (ho' : ∀ X, c.Has X → OpR X (compareOp op') r') (hs : Sop c.g.K Φ r) (hs' : Sop c.g.K Ψ r') (h1 : CE c a i) (h2 : CE c b j) (h3 : CE c d k)
    (hm : lastMarks [op, op'] [b, d] = false := by with_unfolding_all rfl) : CT c (.Compare a [op, op'] [b, d] pos) (.bool (.chn Φ Ψ i j k)) := .mk fun sl h Q w m σ H Qc R S q =>
  wT_of (fun X hX => pt_chain (ho X hX) (ho' X hX) (pe_w hX) (pe_w hX) (pe_w hX) hm) (chain_run (Qc := fun x H1 => ∃ c, x = .bl c ∧ Qc c H1) hs hs' h1 h2 h3 w R S fun v3 h3 m3 H3 u3 w3 s3 R3 r3 => by
      obtain ⟨b, e, w4⟩ := w3
      subst e
      cases r3
      exact ⟨b, rfl, q b h3 m3 H3 w4 s3 R3⟩)
/-! ### operators -/
theorem ce_add (h1 : CE c a i) (h2 : CE c b j) : CE c (.BinOp a .Add b pos) (.call aAdd [i, j]) := ce_bin (fun X hX => hX.K ▸ op_add.or (op_catA.or (op_cat.or op_add_str))) sop_add h1 h2
theorem ce_sub (h1 : CE c a i) (h2 : CE c b j) : CE c (.BinOp a .Sub b pos) (.call aSub [i, j]) := ce_bin (fun X hX => op_sub) sop_sub h1 h2
theorem ce_mul (h1 : CE c a i) (h2 : CE c b j) : CE c (.BinOp a .Mult b pos) (.call aMul [i, j]) := ce_bin (fun X hX => hX.K ▸ op_mul.or (op_rep.or op_repT1)) sop_mul h1 h2
theorem ce_mod (h1 : CE c a i) (h2 : CE c b j) : CE c (.BinOp a .Mod b pos) (.call aMod [i, j]) := ce_bin (fun X hX => op_mod) sop_mod h1 h2
theorem ce_div (h1 : CE c a i) (h2 : CE c b j) : CE c (.BinOp a .FloorDiv b pos) (.call aDiv [i, j]) := ce_bin (fun X hX => op_fdiv) sop_div h1 h2
theorem ce_pow (h1 : CE c a i) (h2 : CE c b j) : CE c (.BinOp a .Pow b pos) (.call aPow [i, j]) := ce_bin (fun X hX => op_pow) sop_pow h1 h2
theorem ce_neg (h1 : CE c a i) : CE c (.UnaryOp .USub a pos) (.call aNeg [i]) := ce_un (r := rU fun i => .int (-i)) (fun X hX => un_neg) (fun x h Q m H v Qc w R rx k => by
  unfold aNeg at w
  split at w
  · rename_i z; cases z; cases rx; exact ⟨_, rfl, k.here R w (.int _)⟩
  · exact w.elim) h1
/-- the comparisons: operator, rule, what it does -/
structure Cop (c : Cc) (op : CmpOp) (Φ : ASp) : Prop where
  go : ∃ r : R2, (∀ X, c.Has X → OpR X (compareOp op) r) ∧ Sop c.g.K Φ r
theorem cop_lt : Cop c .Lt aLt := ⟨_, fun _ _ => op_lt, sop_cmp⟩
theorem cop_le : Cop c .LtE aLe := ⟨_, fun _ _ => op_le, sop_cmp⟩
theorem cop_gt : Cop c .Gt aGt := ⟨_, fun _ _ => op_gt, sop_cmp⟩
theorem cop_ge : Cop c .GtE aGe := ⟨_, fun _ _ => op_ge, sop_cmp⟩
theorem cop_eq : Cop c .Eq (aEq false) := ⟨_, fun X hX => hX.K ▸ op_eq.or (op_eqD hX.hu), sop_eq⟩
theorem cop_ne : Cop c .NotEq (aEq true) := ⟨_, fun X hX => hX.K ▸ op_ne.or (op_neD hX.hu), sop_ne⟩
theorem cop_is : Cop c .Is (aIs false) := ⟨_, fun X hX => op_isN, sop_is⟩
theorem cop_isnot : Cop c .IsNot (aIs true) := ⟨_, fun X hX => op_notN, sop_isnot⟩

theorem cop_in {neg : Bool} : Cop c (if neg then .NotIn else .In) (aMem neg) := by
  cases neg with
  | false => exact ⟨_, fun X hX => hX.K ▸ (op_inD (by have := hX.room.un; omega)).or (op_in_seq.or (by have := op_dinE hX.hu1; simpa using this)), sop_mem⟩
  | true => exact ⟨_, fun X hX => hX.K ▸ (op_notInD (by have := hX.room.un; omega)).or (op_notIn_seq.or (by have := op_dnotinE hX.hu1; simpa using this)), sop_mem⟩
theorem cex {op : CmpOp} {Φ : ASp} (o : Cop c op Φ) (h1 : CE c a i) (h2 : CE c b j) (hm : behindInMarks op b = false := by first | exact nomark _ | with_unfolding_all rfl) : CE c (.Compare a [op] [b] pos) (.call Φ [i, j]) := by
  obtain ⟨r, h, hs⟩ := o.go
  exact ce_cmp h hs h1 h2 hm
theorem ctx {op : CmpOp} {Φ : ASp} (o : Cop c op Φ) (h1 : CE c a i) (h2 : CE c b j) (hm : behindInMarks op b = false := by first | exact nomark _ | with_unfolding_all rfl) : CT c (.Compare a [op] [b] pos) (.bool (.call Φ [i, j])) := by
  obtain ⟨r, h, hs⟩ := o.go
  exact ct_cmp h hs h1 h2 hm
theorem cex2 {op op' : CmpOp} {Φ Ψ : ASp} (o : Cop c op Φ) (o' : Cop c op' Ψ) (h1 : CE c a i) (h2 : CE c b j) (h3 : CE c d k) (hm : lastMarks [op, op'] [b, d] = false := by with_unfolding_all rfl) : CE c (.Compare a [op, op'] [b, d] pos) (.chn Φ Ψ i j k) := by
  obtain ⟨r, h, hs⟩ := o.go
  obtain ⟨r', h', hs'⟩ := o'.go
  exact ce_chain h h' hs hs' h1 h2 h3 hm
theorem ctx2 {op op' : CmpOp} {Φ Ψ : ASp} (o : Cop c op Φ) (o' : Cop c op' Ψ) (h1 : CE c a i) (h2 : CE c b j) (h3 : CE c d k) (hm : lastMarks [op, op'] [b, d] = false := by with_unfolding_all rfl) : CT c (.Compare a [op, op'] [b, d] pos) (.bool (.chn Φ Ψ i j k)) := by
  obtain ⟨r, h, hs⟩ := o.go
  obtain ⟨r', h', hs'⟩ := o'.go
  exact ct_chain h h' hs hs' h1 h2 h3 hm
/-! ### and, or, not, if -/
theorem ce_and1 (h : CE c a i) : CE c (.BoolOp .And [a] pos) (.and [i]) := .mk fun sl hh Q w m σ H Qc R S q => wE_of (fun X hX => pe_one (pe_w hX)) (h sl hh Q w m σ H Qc R S q)
theorem ce_or1 (h : CE c a i) : CE c (.BoolOp .Or [a] pos) (.or [i]) := .mk fun sl hh Q w m σ H Qc R S q => wE_of (fun X hX => pe_one (pe_w hX)) (h sl hh Q w m σ H Qc R S q)
theorem ce_andc (h : CE c a i) (hr : CE c (.BoolOp .And (b :: es) pos) (.and (j :: js))) : CE c (.BoolOp .And (a :: b :: es) pos) (.and (i :: j :: js)) := .mk fun sl hh Q w m σ H Qc R S q =>
  wE_of (fun X hX => pe_and (pe_w hX) (pe_w hX)) (h sl hh _ w m σ H _ R S fun v h1 m1 H1 u w1 s1 R1 r1 => by
    obtain ⟨t, e, w2⟩ := w1
    subst e
    cases r1
    refine ⟨t, rfl, ?_⟩
    cases t with
    | true => exact hr sl h1 Q w2 m1 σ H1 Qc R1 (R.sr s1 S) (Kq.on q s1)
    | false => exact q _ _ _ _ _ w2 s1 R1 (.bl false))
theorem ce_orc (h : CE c a i) (hr : CE c (.BoolOp .Or (b :: es) pos) (.or (j :: js))) : CE c (.BoolOp .Or (a :: b :: es) pos) (.or (i :: j :: js)) := .mk fun sl hh Q w m σ H Qc R S q =>
  wE_of (fun X hX => pe_or (pe_w hX) (pe_w hX)) (h sl hh _ w m σ H _ R S fun v h1 m1 H1 u w1 s1 R1 r1 => by
    obtain ⟨t, e, w2⟩ := w1
    subst e
    cases r1
    refine ⟨t, rfl, ?_⟩
    cases t with
    | true => exact q _ _ _ _ _ w2 s1 R1 (.bl true)
    | false => exact hr sl h1 Q w2 m1 σ H1 Qc R1 (R.sr s1 S) (Kq.on q s1))
theorem ce_not (h : CE c a i) : CE c (.UnaryOp .Not a pos) (.not i) := .mk fun sl hh Q w m σ H Qc R S q =>
  wE_of (fun X hX => pe_not (pe_w hX)) (h sl hh _ w m σ H _ R S fun v h1 m1 H1 u w1 s1 R1 r1 => by
    obtain ⟨t, e, w2⟩ := w1
    subst e
    cases r1
    exact ⟨t, rfl, q _ _ _ _ _ w2 s1 R1 (.bl _)⟩)
theorem ce_ite (h : CT c tst t) (h1 : CE c a i) (h2 : CE c b j) : CE c (.IfExp tst a b pos) (.ite t i j) := .mk fun sl hh Q w m σ H Qc R S q =>
  wE_of (fun X hX => pe_ifExp (pt_w hX) (pe_w hX) (pe_w hX)) (h sl hh _ w m σ H _ R S fun k h' m1 H1 w1 s1 R1 => by
    cases k with
    | true => exact h1 sl h' Q w1 m1 σ H1 Qc R1 (R.sr s1 S) (Kq.on q s1)
    | false => exact h2 sl h' Q w1 m1 σ H1 Qc R1 (R.sr s1 S) (Kq.on q s1))
/-! ### tests -/
theorem tru_of {h : AH} {m : List Addr} {H : Hp} {v : Val} {u : V} {b : Bool} {K : PySem.W.Frag} (R : Rel K m h H) (r : VR K m H v u) (e : truth h v = some b) : TruV K u H b := by
  have sq : ∀ vs, seqOf h v = some vs → b = !vs.isEmpty → TruV K u H b := fun vs e1 e2 => by
    obtain ⟨a, us, rfl, hs, r2⟩ := R.seq r e1
    have hb : b = !us.isEmpty := by rw [e2]; cases r2 <;> rfl
    rcases hs with hs | hs
    · exact .inl ⟨us, hs, hb⟩
    · exact .inr (.inl ⟨us, hs, hb⟩)
  have gen : (seqOf h v).map (fun vs => !vs.isEmpty) = some b → TruV K u H b := fun z => by
    obtain ⟨vs, e1, e2⟩ := Option.map_eq_some_iff.mp z
    exact sq vs e1 e2.symm
  cases r with
  | bl b' => cases e; exact rfl
  | non => exact gen e
  | int i => exact gen e
  | str i => exact gen e
  | tup e1 r1 => exact gen e
  | ref e1 => exact gen e
  | scr e1 => exact gen e
theorem ct_val (h : CE c e i) (he : ∀ (env : PySem.Env) (whole : Sem Value), isTrue e env whole = (do let v ← whole; standAt e.pos; holding [v] (truthy v)) := by intro _ _; rfl) : CT c e (.val i) := .mk fun sl hh Q w m σ H Qc R S q =>
  wT_of (t := fun σ H Q => wE c e σ H fun x H' => ∃ k, TruV c.g.K x H' k ∧ Q k H') (fun X hX => hX.K ▸ pt_truth (pe_w hX) (he X.env)) (h sl hh _ w m σ H _ R S fun v h1 m1 H1 u w1 s1 R1 r1 => by
    obtain ⟨b, e, w2⟩ := w1
    exact ⟨b, tru_of R1 r1 e, q b h1 m1 H1 w2 s1 R1⟩)
theorem ct_not (h : CT c e t) : CT c (.UnaryOp .Not e pos) (.not t) := .mk fun sl hh Q w m σ H Qc R S q => wT_of (fun X hX => pt_not (pt_w hX)) (h sl hh _ w m σ H _ R S fun b h1 m1 H1 w1 s1 R1 => q _ h1 m1 H1 w1 s1 R1)
theorem cwa_1 (h : CT c a t) : CWa c (.BoolOp .And [a] pos) [t] := .mk fun sl hh Q w m σ H Qc R S q => wW_of (fun X hX => pw_and1 (pt_w hX)) (h sl hh Q w m σ H Qc R S q)
theorem cwo_1 (h : CT c a t) : CWo c (.BoolOp .Or [a] pos) [t] := .mk fun sl hh Q w m σ H Qc R S q => wW_of (fun X hX => pw_or1 (pt_w hX)) (h sl hh Q w m σ H Qc R S q)
theorem cwa_c (h : CT c a t) (hr : CWa c (.BoolOp .And (b :: es) pos) (u :: us)) : CWa c (.BoolOp .And (a :: b :: es) pos) (t :: u :: us) := .mk fun sl hh Q w m σ H Qc R S q =>
  wW_of (fun X hX => pw_and (pt_w hX) (pw_w hX)) (h sl hh _ w m σ H _ R S fun k h1 m1 H1 w1 s1 R1 => by
    cases k with
    | true => exact hr sl h1 Q w1 m1 σ H1 Qc R1 (R.sr s1 S) fun b h' m' H' q1 s' => q b h' m' H' q1 (s1.trans s')
    | false => exact q _ _ _ _ w1 s1 R1)
theorem cwo_c (h : CT c a t) (hr : CWo c (.BoolOp .Or (b :: es) pos) (u :: us)) : CWo c (.BoolOp .Or (a :: b :: es) pos) (t :: u :: us) := .mk fun sl hh Q w m σ H Qc R S q =>
  wW_of (fun X hX => pw_or (pt_w hX) (pw_w hX)) (h sl hh _ w m σ H _ R S fun k h1 m1 H1 w1 s1 R1 => by
    cases k with
    | true => exact q _ _ _ _ w1 s1 R1
    | false => exact hr sl h1 Q w1 m1 σ H1 Qc R1 (R.sr s1 S) fun b h' m' H' q1 s' => q b h' m' H' q1 (s1.trans s'))
theorem ct_and (h : CWa c (.BoolOp .And es pos) ts) : CT c (.BoolOp .And es pos) (.and ts) := .mk fun sl hh Q w m σ H Qc R S q => wT_of (fun X hX => (pw_w hX).pt) (h sl hh Q w m σ H Qc R S q)
theorem ct_or (h : CWo c (.BoolOp .Or es pos) ts) : CT c (.BoolOp .Or es pos) (.or ts) := .mk fun sl hh Q w m σ H Qc R S q => wT_of (fun X hX => (pw_w hX).pt) (h sl hh Q w m σ H Qc R S q)
/-! ### displays, subscripts, slices -/
theorem ce_tup {n : Nat} (h : CA c es is) : CE c (.Tuple es n pos) (.call aTup is) := .mk fun sl hh Q w m σ H Qc R S q =>
  wE_of (fun X hX => pe_tup (pa_w hX)) (h sl hh _ w m σ H _ R S fun vs h1 m1 H1 us w1 s1 R1 r1 => ⟨by rw [vrs_len r1]; exact Nat.le_trans w1.1 (by decide), fun p n => (Kq.on q s1).tup R1 w1.2 r1 n⟩)
theorem ce_lst (h : CA c es is) : CE c (.List es pos) (.call aLst is) := .mk fun sl hh Q w m σ H Qc R S q =>
  wE_of (fun X hX => pe_lst (pa_w hX)) (h sl hh _ w m σ H _ R S fun vs h1 m1 H1 us w1 s1 R1 r1 => ⟨by rw [vrs_len r1]; exact Nat.le_trans w1.1 (by decide), fun p n => (Kq.on q s1).lst R1 w1.2 r1 n⟩)
def aDict0 : ASp := fun vs h Q => vs = [] ∧ Q (.ref h.length) (h ++ [.dct []])
theorem ce_dict0 : CE c (.Dict [] [] pos) (.call aDict0 []) := .mk fun sl hh Q w m σ H Qc R S q =>
  wE_of (t := tDNewK) (fun X hX => pe_dnewK) (fun p n => Kq.new q R (o := .dct []) w.2 (.inl ⟨[], rfl, .nil⟩) n)
theorem ce_ix (h1 : CE c a i) (h2 : CE c b j) (hs : PlainIx b := by intro _ _; rfl) : CE c (.Subscript a b pos) (.call aGet [i, j]) := .mk fun sl h Q w m σ H Qc R S q =>
  wE_of (fun X hX => pe_ix (hX.K ▸ (ix_list.or ix_tup).or (ix_dict hX.hu1)) (pe_w hX) (pe_w hX) hs) (h1 sl h _ w m σ H _ R S fun v h' m1 H1 u w1 s1 R1 r1 => h2 sl h' _ w1 m1 σ H1 _ R1 (R.sr s1 S) fun v2 h2 m2 H2 u2 w2 s2 R2 r2 =>
    sop_get _ _ _ _ _ _ _ _ _ w2 R2 (R1.vr s2 r1) r2 (Kq.on q (s1.trans s2)))
def cutL (xs : List Val) (lo hi : Option Int) : List Val := (xs.drop (HT.sIx xs.length 0 lo)).take (HT.sIx xs.length xs.length hi - HT.sIx xs.length 0 lo)
theorem vrs_cut {K : PySem.W.Frag} {m : List Addr} {H : Hp} {vs : List Val} {us : List V} (h : VRs K m H vs us) (lo hi : Option Int) : VRs K m H (cutL vs lo hi) (cutV us lo hi) := by
  unfold cutL cutV
  rw [vrs_len h]
  exact vrs_take _ (vrs_drop _ h)
def aCut (x : Val) (lo hi : Option Int) (h : AH) (Q : Val → AH → Prop) : Prop := match x with
  | .tup xs => Q (.tup (cutL xs lo hi)) h
  | y => match seqOf h y with
    | some xs => Q (.ref h.length) (h ++ [.lst (cutL xs lo hi)])
    | none => False
theorem aCut_cases {x : Val} {lo hi : Option Int} {h : AH} {Q : Val → AH → Prop} (w : aCut x lo hi h Q) : (∃ xs, x = .tup xs ∧ Q (.tup (cutL xs lo hi)) h) ∨ ((∀ xs, x ≠ .tup xs) ∧ ∃ xs, seqOf h x = some xs ∧ Q (.ref h.length) (h ++ [.lst (cutL xs lo hi)])) := by
  unfold aCut at w
  split at w
  · exact .inl ⟨_, rfl, w⟩
  · rename_i y hn
    split at w
    · rename_i xs e
      exact .inr ⟨hn, xs, e, w⟩
    · exact w.elim
def aSl00 : ASp := fun vs h Q => match vs with
  | [x] => aCut x none none h Q
  | _ => False
def aSl10 : ASp := fun vs h Q => match vs with
  | [x, .int i] => aCut x (some i) none h Q
  | _ => False
def aSl01 : ASp := fun vs h Q => match vs with
  | [x, .int i] => aCut x none (some i) h Q
  | _ => False
def aSl11 : ASp := fun vs h Q => match vs with
  | [x, .int i, .int j] => aCut x (some i) (some j) h Q
  | _ => False
def rCut (K : PySem.W.Frag) : V → Option Int → Option Int → Hp → VK → Prop := fun x lo hi H Q => rSlL K x lo hi H Q ∨ rSlA K x lo hi H Q
theorem cut_run {K : PySem.W.Frag} {m : List Addr} {h : AH} {H : Hp} {x : Val} {u : V} {lo hi : Option Int} {Q : Val → AH → Prop} {Qc : VK} (R : Rel K m h H) (r : VR K m H x u) (w : aCut x lo hi h Q) (k : Kq K m H Q Qc) : rCut K u lo hi H Qc := by
  replace w := aCut_cases w
  rcases w with ⟨xs, rfl, w⟩ | ⟨nt, xs, e, w⟩
  · cases r with
    | tup e1 r1 =>
      refine .inr ⟨_, _, rfl, .inl (.inl e1), fun z => ?_, fun _ p n => k.tup R w (vrs_cut r1 lo hi) n⟩
      rw [vrs_len r1] at z
      have : cutL xs lo hi = xs := by unfold cutL; rw [z.1, z.2]; simp
      rw [this] at w
      exact k.here R w (.tup e1 r1)
  · have lst : ∃ a us, u = .ref a ∧ SqL K H a us ∧ VRs K m H xs us := by
      cases r with
      | tup _ _ => exact absurd rfl (nt _)
      | scr e1 => cases e; exact ⟨_, _, rfl, e1.l, vrs_ints _⟩
      | @ref i a hi =>
        have e : (match h[i]? with | some (.lst vs) => some vs | _ => none) = some xs := e
        cases q : h[i]? with
        | none => rw [q] at e; cases e
        | some o =>
          rw [q] at e
          cases o with
          | lst ws =>
            cases e
            obtain ⟨us, h1, h2⟩ := R.lst hi q
            exact ⟨a, us, rfl, .inl (.inl h1), h2⟩
          | dct _ => cases e
      | _ => cases e
    obtain ⟨a, us, rfl, hs, r1⟩ := lst
    exact .inl ⟨a, us, rfl, hs, fun p n => k.lst R w (vrs_cut r1 lo hi) n⟩
theorem slr {X : Cx} : SlR X (rCut X.K) := sl_list.or sl_tupA
theorem ce_sl00 (h1 : CE c a i) : CE c (.Subscript a (.Slice none none none p2) pos) (.call aSl00 [i]) := .mk fun sl h Q w m σ H Qc R S q =>
  wE_of (t := tSl (rCut c.g.K) (wE c a) tNoPart tNoPart) (fun X hX => pe_slice (hX.K ▸ slr) (pe_w hX) po_none po_none) (h1 sl h _ w m σ H _ R S fun v h' m1 H1 u w1 s1 R1 r1 => cut_run R1 r1 w1 (Kq.on q s1))
theorem ce_sl10 (h1 : CE c a i) (h2 : CE c b j) : CE c (.Subscript a (.Slice (some b) none none p2) pos) (.call aSl10 [i, j]) := .mk fun sl h Q w m σ H Qc R S q =>
  wE_of (t := tSl (rCut c.g.K) (wE c a) (tPart (wE c b)) tNoPart) (fun X hX => pe_slice (hX.K ▸ slr) (pe_w hX) (po_some (pe_w hX)) po_none) (h1 sl h _ w m σ H _ R S fun v h' m1 H1 u w1 s1 R1 r1 => h2 sl h' _ w1 m1 σ H1 _ R1 (R.sr s1 S) fun v2 h2 m2 H2 u2 w2 s2 R2 r2 => by
    have w2 : aSl10 [v, v2] h2 Q := w2
    unfold aSl10 at w2
    split at w2
    · rename_i z; cases z; cases r2
      exact ⟨_, rfl, cut_run R2 (R1.vr s2 r1) w2 (Kq.on q (s1.trans s2))⟩
    · exact w2.elim)
theorem ce_sl01 (h1 : CE c a i) (h2 : CE c b j) : CE c (.Subscript a (.Slice none (some b) none p2) pos) (.call aSl01 [i, j]) := .mk fun sl h Q w m σ H Qc R S q =>
  wE_of (t := tSl (rCut c.g.K) (wE c a) tNoPart (tPart (wE c b))) (fun X hX => pe_slice (hX.K ▸ slr) (pe_w hX) po_none (po_some (pe_w hX))) (h1 sl h _ w m σ H _ R S fun v h' m1 H1 u w1 s1 R1 r1 => h2 sl h' _ w1 m1 σ H1 _ R1 (R.sr s1 S) fun v2 h2 m2 H2 u2 w2 s2 R2 r2 => by
    have w2 : aSl01 [v, v2] h2 Q := w2
    unfold aSl01 at w2
    split at w2
    · rename_i z; cases z; cases r2
      exact ⟨_, rfl, cut_run R2 (R1.vr s2 r1) w2 (Kq.on q (s1.trans s2))⟩
    · exact w2.elim)
/-- an int, as it is -/
def aI : ASp := fun vs h Q => match vs with
  | [.int i] => Q (.int i) h
  | _ => False
theorem ce_sl11 (h1 : CE c a i) (h2 : CE c b j) (h3 : CE c d k) : CE c (.Subscript a (.Slice (some b) (some d) none p2) pos) (.call aSl11 [i, .call aI [j], k]) := .mk fun sl h Q w m σ H Qc R S q =>
  wE_of (t := tSl (rCut c.g.K) (wE c a) (tPart (wE c b)) (tPart (wE c d))) (fun X hX => pe_slice (hX.K ▸ slr) (pe_w hX) (po_some (pe_w hX)) (po_some (pe_w hX))) (h1 sl h _ w m σ H _ R S fun v h' m1 H1 u w1 s1 R1 r1 => h2 sl h' _ w1 m1 σ H1 _ R1 (R.sr s1 S) fun v2 h2 m2 H2 u2 w2 s2 R2 r2 => by
    have w2 : aI [v2] h2 (fun x h3 => wpE k sl h3 fun y h4 => aSl11 [v, x, y] h4 Q) := w2
    unfold aI at w2
    split at w2
    · rename_i z; cases z; cases r2
      refine ⟨_, rfl, h3 sl h2 _ w2 m2 σ H2 _ R2 (R1.sr s2 (R.sr s1 S)) fun v3 h3 m3 H3 u3 w3 s3 R3 r3 => ?_⟩
      rename_i n _ _ _
      have w3 : aSl11 [v, .int _, v3] h3 Q := w3
      unfold aSl11 at w3
      split at w3
      · rename_i z; cases z; cases r3
        exact ⟨_, rfl, cut_run R3 (R1.vr (s2.trans s3) r1) w3 (Kq.on q ((s1.trans s2).trans s3))⟩
      · exact w3.elim
    · exact w2.elim)
end
end Ev
/-! Calls: built-ins, methods, the module's own defs; what is walked; comprehensions. -/
namespace Ev
open PySem PySem.Spec PyProof.Rows L2
theorem seq_lst {h : AH} {i : Nat} {vs : List Val} (e : seqOf h (.ref i) = some vs) : h[i]? = some (.lst vs) := by
  have e : (match h[i]? with | some (.lst vs) => some vs | _ => none) = some vs := e
  cases q : h[i]? with
  | none => rw [q] at e; cases e
  | some o =>
    rw [q] at e
    cases o with
    | lst ws => cases e; rfl
    | dct _ => cases e
theorem lst_seq {h : AH} {i : Nat} {vs : List Val} (e : h[i]? = some (.lst vs)) : seqOf h (.ref i) = some vs := by
  show (match h[i]? with | some (.lst vs) => some vs | _ => none) = some vs
  rw [e]
section
variable {c : Cc} {a b d e f tst : Expr} {es : List Expr} {i j k : IE} {is js : List IE} {t u : IT} {ts us : List IT} {pos p p2 p3 : Pos}
/-- a global name that nobody stores -/
def glB (c : Cc) (x : Str) : Bool := c.sc.names.lookup x == some NameKind.globalImplicit && nameB x && !(x == ("__name__" : Str))
theorem gl_of {x : Str} (h : glB c x = true) : Glb c x ∧ (x == ("__debug__" : Str)) = false ∧ x ≠ "__name__" := by
  unfold glB at h
  rw [Bool.and_eq_true, Bool.and_eq_true] at h
  exact ⟨eq_of_beq h.1.1, (name_of h.1.2).1, by simpa using h.2⟩
theorem ce_blt {x : Str} {id : String} {r : List V → Hp → VK → Prop} {Φ : ASp} (hc : ∀ X, c.Has X → CallR X (.builtin id) r) (hs : Scl c.g.K Φ r) (hv : bootBuiltins x = some (.builtin id)) (ha : CA c (e :: es) is) (hm : c.g.mg x = none) (hg : glB c x = true)
    (he : isStar e = false) (hpl : es.all (fun x => !isStar x) = true) : CE c (.Call (.Name x p) (e :: es) [] pos) (.call Φ is) := .mk fun sl h Q w m σ H Qc R S q =>
  wE_of (fun X hX => pe_callB (hc X hX) (hX.gl (gl_of hg).1) (by rw [hX.mg]; exact hm) hv (pa_w hX) (gl_of hg).2.2 (gl_of hg).2.1 (star_of he _) (nostar_any hpl _)) (ha sl h _ w m σ H _ R S fun vs h1 m1 H1 us w1 s1 R1 r1 => hs _ _ _ _ _ _ _ w1 R1 r1 (Kq.on q s1))
theorem ce_typ {x : Str} {id : String} {r : List V → Hp → VK → Prop} {Φ : ASp} (hc : ∀ X, c.Has X → CallR X (.type id) r) (hs : Scl c.g.K Φ r) (hv : bootBuiltins x = some (.type id)) (ha : CA c (e :: es) is) (hm : c.g.mg x = none) (hg : glB c x = true)
    (he : isStar e = false) (hpl : es.all (fun x => !isStar x) = true) : CE c (.Call (.Name x p) (e :: es) [] pos) (.call Φ is) := .mk fun sl h Q w m σ H Qc R S q =>
  wE_of (fun X hX => pe_callTy (hc X hX) (hX.gl (gl_of hg).1) (by rw [hX.mg]; exact hm) hv (pa_w hX) (gl_of hg).2.2 (gl_of hg).2.1 (star_of he _) (nostar_any hpl _)) (ha sl h _ w m σ H _ R S fun vs h1 m1 H1 us w1 s1 R1 r1 => hs _ _ _ _ _ _ _ w1 R1 r1 (Kq.on q s1))
/-- a built-in: its name, what it does -/
structure Blt (c : Cc) (x : Str) (Φ : ASp) : Prop where
  go : (∃ (id : String) (r : List V → Hp → VK → Prop), (∀ X, c.Has X → CallR X (.builtin id) r) ∧ Scl c.g.K Φ r ∧ bootBuiltins x = some (.builtin id)) ∨
    ∃ (id : String) (r : List V → Hp → VK → Prop), (∀ X, c.Has X → CallR X (.type id) r) ∧ Scl c.g.K Φ r ∧ bootBuiltins x = some (.type id)
theorem ceb {x : Str} {Φ : ASp} (B : Blt c x Φ) (hm : c.g.mg x = none) (ha : CA c (e :: es) is) (hg : glB c x = true := by rfl) (he : isStar e = false := by rfl) (hpl : es.all (fun x => !isStar x) = true := by rfl) : CE c (.Call (.Name x p) (e :: es) [] pos) (.call Φ is) := by
  rcases B.go with ⟨id, r, h1, h2, h3⟩ | ⟨id, r, h1, h2, h3⟩
  · exact ce_blt h1 h2 h3 ha hm hg he hpl
  · exact ce_typ h1 h2 h3 ha hm hg he hpl
theorem vrs1 {K : PySem.W.Frag} {m : List Addr} {H : Hp} {v : Val} {us : List V} (r : VRs K m H [v] us) : ∃ u, us = [u] ∧ VR K m H v u := by
  cases r with
  | cons r1 r2 => cases r2; exact ⟨_, rfl, r1⟩
theorem vrs2 {K : PySem.W.Frag} {m : List Addr} {H : Hp} {v w : Val} {us : List V} (r : VRs K m H [v, w] us) : ∃ u x, us = [u, x] ∧ VR K m H v u ∧ VR K m H w x := by
  cases r with
  | cons r1 r2 => cases r2 with
    | cons r2 r3 => cases r3; exact ⟨_, _, rfl, r1, r2⟩
theorem vrs3 {K : PySem.W.Frag} {m : List Addr} {H : Hp} {v w z : Val} {us : List V} (r : VRs K m H [v, w, z] us) : ∃ u x y, us = [u, x, y] ∧ VR K m H v u ∧ VR K m H w x ∧ VR K m H z y := by
  cases r with
  | cons r1 r2 => 
    obtain ⟨x, y, rfl, h1, h2⟩ := vrs2 r2
    exact ⟨_, _, _, rfl, r1, h1, h2⟩
def aLenA : ASp := fun vs h Q => match vs with
  | [.str s] => s.length ≤ 1000000 ∧ Q (.int s.length) h
  | [x] => match seqOf h x with
    | some xs => Q (.int xs.length) h
    | none => (match dctOf h x with
      | some kvs => Q (.int kvs.length) h
      | none => False)
  | _ => False
theorem blt_len : Blt c "len" aLenA := ⟨.inl ⟨"len", _, fun X hX => hX.K ▸ call_len_seq.or (call_len_str.or (call_lenD.or call_len_dT)), fun vs h Q m H us Qc w R r k => by
  unfold aLenA at w
  split at w
  · obtain ⟨u, rfl, r1⟩ := vrs1 r
    cases r1
    exact .inr (.inl ⟨_, rfl, Nat.le_trans w.1 (by decide), k.here R w.2 (.int _)⟩)
  · obtain ⟨u, rfl, r1⟩ := vrs1 r
    split at w
    · rename_i xs e
      obtain ⟨a, us, rfl, hs, r2⟩ := R.seq r1 e
      exact .inl ⟨a, us, rfl, hs, by rw [vrs_len r2]; exact k.here R w (.int _)⟩
    · split at w
      · rename_i kvs e
        obtain ⟨a, rfl, e2⟩ := dct_of e
        cases r1 with
        | ref hi =>
          obtain ⟨u, h1, h2⟩ := R.at_ hi e2
          rcases h2 with ⟨xs, rfl, r⟩ | ⟨xs, rfl, r⟩
          · exact .inr (.inr (.inl ⟨_, _, rfl, h1, by rw [krk_len r]; exact k.here R w (.int _)⟩))
          · exact .inr (.inr (.inr ⟨_, _, rfl, h1, by rw [krt_len r]; exact k.here R w (.int _)⟩))
      · exact w.elim
  · exact w.elim, boot_len⟩⟩
theorem blt_tuple : Blt c "tuple" aTuple := ⟨.inr ⟨"tuple", _, fun X hX => hX.K ▸ call_tuple_of, fun vs h Q m H us Qc w R r k => by
  unfold aTuple at w
  split at w
  · obtain ⟨u, rfl, r1⟩ := vrs1 r
    obtain ⟨xs, e, w⟩ := w
    cases r1 with
    | tup e1 r2 => cases e; exact ⟨_, _, rfl, .inr ⟨.inl (.inl e1), k.here R w (.tup e1 r2)⟩⟩
    | scr e1 => cases e; exact ⟨_, _, rfl, .inl ⟨e1.l, fun p n => k.tup R w (vrs_ints _) n⟩⟩
    | ref hi =>
      obtain ⟨us, h1, h2⟩ := R.lst hi (seq_lst e)
      exact ⟨_, _, rfl, .inl ⟨.inl (.inl h1), fun p n => k.tup R w h2 n⟩⟩
    | _ => cases e
  · exact w.elim, boot_tuple⟩⟩
theorem blt_list : Blt c "list" aList := ⟨.inr ⟨"list", _, fun X hX => hX.K ▸ call_list_of, fun vs h Q m H us Qc w R r k => by
  unfold aList at w
  split at w
  · obtain ⟨u, rfl, r1⟩ := vrs1 r
    obtain ⟨xs, e, w⟩ := w
    obtain ⟨a, us, rfl, hs, r2⟩ := R.seq r1 e
    exact ⟨_, _, rfl, hs, fun p n => k.lst R w r2 n⟩
  · exact w.elim, by decide +kernel⟩⟩
theorem blt_abs : Blt c "abs" aAbs := ⟨.inl ⟨"abs", _, fun X hX => call_abs, fun vs h Q m H us Qc w R r k => by
  unfold aAbs at w
  split at w
  · obtain ⟨u, rfl, r1⟩ := vrs1 r
    cases r1
    exact ⟨_, rfl, k.here R w (.int _)⟩
  · exact w.elim, by decide +kernel⟩⟩
theorem blt_int : Blt c "int" aInt := ⟨.inr ⟨"int", _, fun X hX => call_int1, fun vs h Q m H us Qc w R r k => by
  unfold aInt at w
  split at w
  · obtain ⟨u, rfl, r1⟩ := vrs1 r
    cases r1
    exact .inl ⟨_, rfl, k.here R w (.int _)⟩
  · obtain ⟨u, rfl, r1⟩ := vrs1 r
    cases r1
    exact .inr ⟨_, rfl, k.here R w (.int _)⟩
  · exact w.elim, by decide +kernel⟩⟩
theorem blt_divmod : Blt c "divmod" aDivmod := ⟨.inl ⟨"divmod", _, fun X hX => call_divmod, fun vs h Q m H us Qc w R r k => by
  unfold aDivmod at w
  split at w
  · obtain ⟨u, x, rfl, r1, r2⟩ := vrs2 r
    cases r1; cases r2
    exact ⟨_, _, rfl, w.1, fun p n => k.tup R w.2 (.cons (.int _) (.cons (.int _) .nil)) n⟩
  · exact w.elim, by decide +kernel⟩⟩
theorem blt_all : Blt c "all" aAll := ⟨.inl ⟨"all", _, fun X hX => hX.K ▸ cr_all hX.calm, fun vs h Q m H us Qc w R r k => by
  unfold aAll at w
  split at w
  · obtain ⟨u, rfl, r1⟩ := vrs1 r
    obtain ⟨bs, e, w⟩ := w
    cases r1 with
    | ref hi =>
      obtain ⟨us, h1, h2⟩ := R.lst hi e
      have := vrs_bls_inv bs h2
      subst this
      exact ⟨_, bs, rfl, .inl (.inl h1), k.here R w (.bl _)⟩
  · exact w.elim, by decide +kernel⟩⟩
theorem blt_any : Blt c "any" aAny := ⟨.inl ⟨"any", _, fun X hX => hX.K ▸ cr_any hX.calm, fun vs h Q m H us Qc w R r k => by
  unfold aAny at w
  split at w
  · obtain ⟨u, rfl, r1⟩ := vrs1 r
    obtain ⟨bs, e, w⟩ := w
    cases r1 with
    | ref hi =>
      obtain ⟨us, h1, h2⟩ := R.lst hi e
      have := vrs_bls_inv bs h2
      subst this
      exact ⟨_, bs, rfl, .inl (.inl h1), k.here R w (.bl _)⟩
  · exact w.elim, by decide +kernel⟩⟩
/-- max, min: of two ints, or of a list of ints -/
def aMaxA : ASp := fun vs h Q => match vs with
  | [.int i, .int j] => Q (.int (if j > i then j else i)) h
  | [.ref a] => ∃ ns : List Int, h[a]? = some (.lst (ns.map .int)) ∧ 0 < ns.length ∧ ∀ x, x ∈ ns → (∀ y, y ∈ ns → y ≤ x) → Q (.int x) h
  | _ => False
def aMinA : ASp := fun vs h Q => match vs with
  | [.int i, .int j] => Q (.int (if j < i then j else i)) h
  | [.ref a] => ∃ ns : List Int, h[a]? = some (.lst (ns.map .int)) ∧ 0 < ns.length ∧ ∀ x, x ∈ ns → (∀ y, y ∈ ns → x ≤ y) → Q (.int x) h
  | _ => False
theorem blt_max : Blt c "max" aMaxA := ⟨.inl ⟨"max", _, fun X hX => hX.K ▸ (call_max2 hX.calm).or (cr_max hX.calm), fun vs h Q m H us Qc w R r k => by
  unfold aMaxA at w
  split at w
  · obtain ⟨u, x, rfl, r1, r2⟩ := vrs2 r
    cases r1; cases r2
    exact .inl ⟨_, _, rfl, k.here R w (.int _)⟩
  · obtain ⟨u, rfl, r1⟩ := vrs1 r
    obtain ⟨ns, e, w1, w2⟩ := w
    cases r1 with
    | ref hi =>
      obtain ⟨us, h1, h2⟩ := R.lst hi e
      have := vrs_ints_inv ns h2
      subst this
      exact .inr ⟨_, ns, rfl, .inl (.inl h1), w1, fun x h3 h4 => k.here R (w2 x h3 h4) (.int _)⟩
  · exact w.elim, by decide +kernel⟩⟩
theorem blt_min : Blt c "min" aMinA := ⟨.inl ⟨"min", _, fun X hX => hX.K ▸ (call_min2 hX.calm).or (cr_min hX.calm), fun vs h Q m H us Qc w R r k => by
  unfold aMinA at w
  split at w
  · obtain ⟨u, x, rfl, r1, r2⟩ := vrs2 r
    cases r1; cases r2
    exact .inl ⟨_, _, rfl, k.here R w (.int _)⟩
  · obtain ⟨u, rfl, r1⟩ := vrs1 r
    obtain ⟨ns, e, w1, w2⟩ := w
    cases r1 with
    | ref hi =>
      obtain ⟨us, h1, h2⟩ := R.lst hi e
      have := vrs_ints_inv ns h2
      subst this
      exact .inr ⟨_, ns, rfl, .inl (.inl h1), w1, fun x h3 h4 => k.here R (w2 x h3 h4) (.int _)⟩
  · exact w.elim, by decide +kernel⟩⟩
def aSum : ASp := fun vs h Q => match vs with
  | [.ref a] => ∃ ns : List Int, h[a]? = some (.lst (ns.map .int)) ∧ Q (.int ns.sum) h
  | _ => False
theorem blt_sum : Blt c "sum" aSum := ⟨.inl ⟨"sum", _, fun X hX => hX.K ▸ cr_sum hX.calm, fun vs h Q m H us Qc w R r k => by
  unfold aSum at w
  split at w
  · obtain ⟨u, rfl, r1⟩ := vrs1 r
    obtain ⟨ns, e, w⟩ := w
    cases r1 with
    | ref hi =>
      obtain ⟨us, h1, h2⟩ := R.lst hi e
      have := vrs_ints_inv ns h2
      subst this
      exact ⟨_, ns, rfl, .inl (.inl h1), k.here R w (.int _)⟩
  · exact w.elim, by decide +kernel⟩⟩
/-- sorted: ints -/
def aSortI : ASp := fun vs h Q => match vs with
  | [.ref a] => ∃ ns : List Int, h[a]? = some (.lst (ns.map .int)) ∧ ∀ ns' : List Int, ns'.Perm ns → ns'.Pairwise (· ≤ ·) → Q (.ref h.length) (h ++ [.lst (ns'.map .int)])
  | _ => False
theorem blt_sortI : Blt c "sorted" aSortI := ⟨.inl ⟨"sorted", _, fun X hX => hX.K ▸ cr_sortedI, fun vs h Q m H us Qc w R r k => by
  unfold aSortI at w
  split at w
  · obtain ⟨u, rfl, r1⟩ := vrs1 r
    obtain ⟨ns, e, w⟩ := w
    cases r1 with
    | ref hi =>
      obtain ⟨us, h1, h2⟩ := R.lst hi e
      have := vrs_ints_inv ns h2
      subst this
      exact ⟨_, ns, rfl, .inl (.inl h1), fun ns' p h3 h4 n => k.lst R (w ns' h3 h4) (vrs_ints _) n⟩
  · exact w.elim, by decide +kernel⟩⟩
/-- repr of data -/
def aRepr : ASp := fun vs h Q => match vs with
  | [x] => ∃ d, (∃ ys, seqOf h x = some ys) ∧ Rep h x d ∧ ShowOk d ∧ Q (.str d.shown) h
  | _ => False
theorem ce_repr (hgd : c.gd = true) (hm : c.g.mg "repr" = none) (ha : CE c a i) (hg : glB c "repr" = true := by rfl) (he : isStar a = false := by rfl) : CE c (.Call (.Name "repr" p) [a] [] pos) (.call aRepr [i]) :=
  ce_blt (id := "repr") (fun X hX => hX.K ▸ cr_repr hX hgd) (fun vs h Q m H us Qc w R r k => by
    unfold aRepr at w
    split at w
    · obtain ⟨u, rfl, r1⟩ := vrs1 r
      obtain ⟨d, ⟨ys, e⟩, rp, ok, w⟩ := w
      obtain ⟨a, us, rfl, hs, r2⟩ := R.seq r1 e
      exact ⟨a, d, rfl, rep_dp R _ _ _ rp r1, ok, k.here R w (.str _)⟩
    · exact w.elim) (by decide +kernel) (ca_cons ha ca_nil he) hm hg he rfl
/-! ### isinstance -/
theorem ce_isi {T : String} {n : Str} (hT : bootBuiltins n = some (.type T)) (hm : c.g.mg "isinstance" = none) (hmT : c.g.mg n = none) (h : CE c a i) (hg : glB c "isinstance" = true := by rfl) (hgT : glB c n = true := by rfl) (he : isStar a = false := by rfl) : CE c (.Call (.Name "isinstance" p) [a, .Name n p2] [] pos) (.call (aIsi T) [i]) := .mk fun sl hh Q w m σ H Qc R S q =>
  wE_of (t := tCB (rIsi c.g.K) (tCons (wE c a) (tCons (tC (.ty T)) tNil))) (fun X hX => pe_callB (hX.K ▸ call_isi) (hX.gl (gl_of hg).1) (by rw [hX.mg]; exact hm) (by decide +kernel) (pa_cons (pe_w hX) (pa_cons (pe_bltn (hX.gl (gl_of hgT).1) (by rw [hX.mg]; exact hmT) hT rfl (gl_of hgT).2.2 (gl_of hgT).2.1) pa_nil rfl) (star_of he _)) (by decide) (by decide) (star_of he _) rfl)
    (h sl hh _ w m σ H _ R S fun v h1 m1 H1 u w1 s1 R1 r1 => by
      obtain ⟨t, b, e1, e2, w2⟩ := (show ∃ t b, tyA h1 v = some t ∧ kitB t T = some b ∧ Q (.bl b) h1 from w1)
      exact ⟨u, .ty T, _, _, b, rfl, .ty T, kitB_ty R1 r1 e1, kit_ty e2, q _ _ _ _ _ w2 s1 R1 (.bl b)⟩)
theorem ce_isi2 {T U : String} {n l : Str} {p4 : Pos} {kk : Nat} (hT : bootBuiltins n = some (.type T)) (hU : bootBuiltins l = some (.type U)) (hm : c.g.mg "isinstance" = none) (hmT : c.g.mg n = none) (hmU : c.g.mg l = none) (h : CE c a i)
    (hg : glB c "isinstance" = true := by rfl) (hgT : glB c n = true := by rfl) (hgU : glB c l = true := by rfl) (he : isStar a = false := by rfl) : CE c (.Call (.Name "isinstance" p) [a, .Tuple [.Name n p2, .Name l p3] kk p4] [] pos) (.call (aIsi2 T U) [i]) := .mk fun sl hh Q w m σ H Qc R S q =>
  wE_of (t := tCB (rIsiT c.g.K) (tCons (wE c a) (tCons (tTup (tCons (tC (.ty T)) (tCons (tC (.ty U)) tNil))) tNil))) (fun X hX => pe_callB (hX.K ▸ call_isiT) (hX.gl (gl_of hg).1) (by rw [hX.mg]; exact hm) (by decide +kernel)
      (pa_cons (pe_w hX) (pa_cons (pe_tup (pa_cons (pe_bltn (hX.gl (gl_of hgT).1) (by rw [hX.mg]; exact hmT) hT rfl (gl_of hgT).2.2 (gl_of hgT).2.1) (pa_cons (pe_bltn (hX.gl (gl_of hgU).1) (by rw [hX.mg]; exact hmU) hU rfl (gl_of hgU).2.2 (gl_of hgU).2.1) pa_nil rfl) rfl)) pa_nil rfl) (star_of he _)) (by decide) (by decide) (star_of he _) rfl)
    (h sl hh _ w m σ H _ R S fun v h1 m1 H1 u w1 s1 R1 r1 => by
      obtain ⟨t, b, b2, e1, e2, e3, w2⟩ := (show ∃ t b b2, tyA h1 v = some t ∧ kitB t T = some b ∧ kitB t U = some b2 ∧ Q (.bl (b || b2)) h1 from w1)
      refine ⟨by show 2 ≤ sizeLine; decide, fun q1 hq => ?_⟩
      obtain ⟨s2, R2⟩ := R1.aside hq (.tup [.ty T, .ty U])
      refine ⟨u, q1, [.ty T, .ty U], _, [.type T, .type U], b || b2, rfl, upd_same, .cons (.ty T) (.cons (.ty U) .nil), kitB_ty R2 (R1.vr s2 r1) e1, ?_, q _ _ _ _ _ w2 (s1.trans s2) R2 (.bl _)⟩
      refine kitAny_cons (kit_ty e2) (fun h0 => ?_) (fun h1 => by rw [h1]; rfl)
      refine kitAny_cons (kit_ty e3) (fun h0' => by rw [h0, h0']; exact kitAny_nil) (fun h1 => by rw [h1]; cases b <;> rfl))
/-! ### methods of lists, dicts -/
def aLs : ASp := fun vs h Q => match vs with
  | [.ref a] => (∃ xs, h[a]? = some (.lst xs)) ∧ Q (.ref a) h
  | _ => False
def aDc : ASp := fun vs h Q => match vs with
  | [.ref a] => (∃ kvs, h[a]? = some (.dct kvs)) ∧ Q (.ref a) h
  | _ => False
def Smt (K : PySem.W.Frag) (Φ : ASp) (r : V → List V → Hp → VK → Prop) : Prop := ∀ x vs h Q m H u us Qc, Φ (x :: vs) h Q → Rel K m h H → VR K m H x u → VRs K m H vs us → Kq K m H Q Qc → r u us H Qc
/-- a method of lists -/
structure Lmt (c : Cc) (n : Str) (Φ : ASp) : Prop where
  go : ∃ (id : String) (r : V → List V → Hp → VK → Prop), PlainAttrs "list" ∧ Slot "list" n id ∧ typeOf (.builtin id) = pure (.type "method_descriptor") ∧ (∀ X, c.Has X → MtR X id r) ∧ Smt c.g.K Φ r
theorem few_of {X : Cx} {cpos : Pos} (he : isStar e = false) (hpl : es.all (fun x => !isStar x) = true) (hl : es.length < 29) : ((backTo cpos (starEach (e :: es) X.env)).all (fun x => !x.1) && (backToKw cpos (keywordEach [] X.env)).all (fun x => x.1.isSome)
      && decide ((e :: es).length + ([] : List Keyword).length + (if ([] : List Keyword).isEmpty then 0 else 1) < 30)) = true := by
  have h1 : (backTo cpos (starEach (e :: es) X.env)).any (·.1) = false := nostar_any (es := e :: es) (by rw [List.all_cons, he, hpl]; rfl) _
  have h2 : (backTo cpos (starEach (e :: es) X.env)).all (fun x => !x.1) = true := by
    rw [List.all_eq_true]
    intro x hx
    have := List.any_eq_false.mp h1 x hx
    simpa using this
  rw [h2]
  have h3 : (backToKw cpos (keywordEach [] X.env)).all (fun x => x.1.isSome) = true := by rfl
  rw [h3]
  simp; omega
theorem cm {n : Str} {Φ : ASp} {apos cpos : Pos} (M : Lmt c n Φ) (h : CE c a i) (ha : CA c (e :: es) is) (hbase : ∀ env : PySem.Env, attributeBase a n env (eval a env) = eval a env := by intro _; rfl) (hline : (apos.endLine == cpos.line) = true := by rfl) (he : isStar e = false := by rfl) (hpl : es.all (fun x => !isStar x) = true := by rfl) (hl : es.length < 29 := by decide) :
    CE c (.Call (.Attribute a n apos) (e :: es) [] cpos) (.call Φ (.call aLs [i] :: is)) := .mk fun sl hh Q w m σ H Qc R S q => by
  obtain ⟨id, r, pa, sl', hty, hm, hs⟩ := M.go
  refine wE_of (t := tBM c.g.K "list" r (wE c a) (wA c (e :: es))) (fun X hX => hX.K ▸ pe_bm pa sl' hty (hm X hX) (pe_w hX) (pa_w hX) (hbase _) (few_of he hpl hl) hline (star_of he _) (nostar_any hpl _)) (h sl hh _ w m σ H _ R S fun v h1 m1 H1 u w1 s1 R1 r1 => ?_)
  have w1 : aLs [v] h1 (fun x h2 => wpEs is sl h2 fun vs h3 => Φ (x :: vs) h3 Q) := w1
  unfold aLs at w1
  split at w1
  · rename_i z; cases z
    obtain ⟨⟨xs, e1⟩, w1⟩ := w1
    cases r1 with
    | ref hi =>
      obtain ⟨us, h2, _⟩ := R1.lst hi e1
      exact ⟨.inl ⟨rfl, _, .inl (.inl h2)⟩, ha sl h1 _ w1 m1 σ H1 _ R1 (R.sr s1 S) fun vs h3 m2 H2 us w2 s2 R2 r2 => hs _ _ _ _ _ _ _ _ _ w2 R2 (R1.vr s2 (.ref hi)) r2 (Kq.on q (s1.trans s2))⟩
  · exact w1.elim
theorem cm0 {n : Str} {Φ : ASp} {apos cpos : Pos} (M : Lmt c n Φ) (h : CE c a i) (hbase : ∀ env : PySem.Env, attributeBase a n env (eval a env) = eval a env := by intro _; rfl) (hline : (apos.endLine == cpos.line) = true := by rfl) :
    CE c (.Call (.Attribute a n apos) [] [] cpos) (.call Φ [.call aLs [i]]) := .mk fun sl hh Q w m σ H Qc R S q => by
  obtain ⟨id, r, pa, sl', hty, hm, hs⟩ := M.go
  refine wE_of (t := tBM0 c.g.K "list" r (wE c a)) (fun X hX => hX.K ▸ pe_bm0 pa sl' hty (hm X hX) (pe_w hX) (hbase _) hline) (h sl hh _ w m σ H _ R S fun v h1 m1 H1 u w1 s1 R1 r1 => ?_)
  have w1 : aLs [v] h1 (fun x h2 => Φ [x] h2 Q) := w1
  unfold aLs at w1
  split at w1
  · rename_i z; cases z
    obtain ⟨⟨xs, e1⟩, w1⟩ := w1
    cases r1 with
    | ref hi =>
      obtain ⟨us, h2, _⟩ := R1.lst hi e1
      exact ⟨.inl ⟨rfl, _, .inl (.inl h2)⟩, hs _ [] _ _ _ _ _ [] _ w1 R1 (.ref hi) .nil (Kq.on q s1)⟩
  · exact w1.elim
def aAppend : ASp := fun vs h Q => match vs with
  | [.ref a, v] => ∃ xs, h[a]? = some (.lst xs) ∧ xs.length < 1000000 ∧ Q .non (h.set a (.lst (xs ++ [v])))
  | _ => False
theorem lmt_append : Lmt c "append" aAppend := ⟨_, _, PySem.F.plainAttrs_list, PySem.F.slot_list_append, PySem.F.type_list_append, fun X hX => mt_append, fun x vs h Q m H u us Qc w R rx rs k => by
  unfold aAppend at w
  split at w
  · rename_i z; cases z
    obtain ⟨y, rfl, r1⟩ := vrs1 rs
    obtain ⟨xs, e, hl, w⟩ := w
    cases rx with
    | ref hi =>
      obtain ⟨us, h1, h2⟩ := R.lst hi e
      exact ⟨_, us, y, rfl, rfl, h1, by rw [vrs_len h2]; exact Nat.lt_trans hl (by decide), k.wr R hi w (o := .lst (xs ++ [_])) ⟨_, rfl, vrs_app h2 (.cons r1 .nil)⟩ .non⟩
  · exact w.elim⟩
def aPop : ASp := fun vs h Q => match vs with
  | [.ref a, .int i] => ∃ (xs : List Val) (k : Nat) (y : Val), h[a]? = some (.lst xs) ∧ xs.length ≤ 1000000 ∧ i = (k : Nat) ∧ xs[k]? = some y ∧ Q y (h.set a (.lst (xs.eraseIdx k)))
  | [.ref a] => ∃ (xs : List Val) (y : Val), h[a]? = some (.lst xs) ∧ xs[xs.length - 1]? = some y ∧ Q y (h.set a (.lst xs.dropLast))
  | _ => False
theorem vrs_dropLast {K : PySem.W.Frag} {m : List Addr} {H : Hp} {vs : List Val} {us : List V} (h : VRs K m H vs us) : VRs K m H vs.dropLast us.dropLast := by
  rw [List.dropLast_eq_take, List.dropLast_eq_take, vrs_len h]
  exact vrs_take _ h
theorem lmt_pop : Lmt c "pop" aPop := ⟨_, _, PySem.F.plainAttrs_list, PySem.F.slot_list_pop, PySem.F.type_list_pop, fun X hX => (show MtR X _ _ from mt_popAt).or mt_pop, fun x vs h Q m H u us Qc w R rx rs k => by
  unfold aPop at w
  split at w
  · rename_i z; cases z
    obtain ⟨y, rfl, r1⟩ := vrs1 rs
    obtain ⟨xs, j, y, e, hl, rfl, hj, w⟩ := w
    cases r1
    cases rx with
    | ref hi =>
      obtain ⟨us, h1, h2⟩ := R.lst hi e
      obtain ⟨z, hz, rz⟩ := vrs_get h2 hj
      have hjl : j < us.length := (List.getElem?_eq_some_iff.mp hz).1
      have hlen := vrs_len h2
      refine .inl ⟨_, us, _, j, z, rfl, rfl, h1, by omega, by omega, ?_, hz, k.wr R hi w (o := .lst (xs.eraseIdx j)) ⟨_, rfl, vrs_erase j h2⟩ rz⟩
      have := PySem.seqIndex_of (k := (j : Int)) (n := us.length) (by omega) (by omega)
      rw [this]; simp
  · rename_i z; cases z
    cases rs
    obtain ⟨xs, y, e, hj, w⟩ := w
    cases rx with
    | ref hi =>
      obtain ⟨us, h1, h2⟩ := R.lst hi e
      rw [← vrs_len h2] at hj
      obtain ⟨z, hz, rz⟩ := vrs_get h2 hj
      exact .inr ⟨_, us, z, rfl, rfl, h1, hz, k.wr R hi w (o := .lst xs.dropLast) ⟨_, rfl, vrs_dropLast h2⟩ rz⟩
  · exact w.elim⟩
def aReverse : ASp := fun vs h Q => match vs with
  | [.ref a] => ∃ xs, h[a]? = some (.lst xs) ∧ Q .non (h.set a (.lst xs.reverse))
  | _ => False
theorem lmt_reverse : Lmt c "reverse" aReverse := ⟨_, _, PySem.F.plainAttrs_list, PySem.F.slot_list_reverse, PySem.F.type_list_reverse, fun X hX => mt_reverse, fun x vs h Q m H u us Qc w R rx rs k => by
  unfold aReverse at w
  split at w
  · rename_i z; cases z; cases rs
    obtain ⟨xs, e, w⟩ := w
    cases rx with
    | ref hi =>
      obtain ⟨us, h1, h2⟩ := R.lst hi e
      exact ⟨_, us, rfl, rfl, h1, k.wr R hi w (o := .lst xs.reverse) ⟨_, rfl, vrs_rev h2⟩ .non⟩
  · exact w.elim⟩
def aClear : ASp := fun vs h Q => match vs with
  | [.ref a] => ∃ xs, h[a]? = some (.lst xs) ∧ Q .non (h.set a (.lst []))
  | _ => False
theorem lmt_clear : Lmt c "clear" aClear := ⟨_, _, PySem.F.plainAttrs_list, PySem.F.slot_list_clear, PySem.F.type_list_clear, fun X hX => mt_clear, fun x vs h Q m H u us Qc w R rx rs k => by
  unfold aClear at w
  split at w
  · rename_i z; cases z; cases rs
    obtain ⟨xs, e, w⟩ := w
    cases rx with
    | ref hi =>
      obtain ⟨us, h1, h2⟩ := R.lst hi e
      exact ⟨_, us, rfl, rfl, h1, k.wr R hi w (o := .lst []) ⟨_, rfl, .nil⟩ .non⟩
  · exact w.elim⟩
def aExtend : ASp := fun vs h Q => match vs with
  | [.ref a, .ref b] => ∃ xs ys, h[a]? = some (.lst xs) ∧ h[b]? = some (.lst ys) ∧ xs.length + ys.length ≤ 1000000 ∧ Q .non (h.set a (.lst (xs ++ ys)))
  | _ => False
theorem lmt_extend : Lmt c "extend" aExtend := ⟨_, _, PySem.F.plainAttrs_list, PySem.F.slot_list_extend, PySem.F.type_list_extend, fun X hX => mt_extend, fun x vs h Q m H u us Qc w R rx rs k => by
  unfold aExtend at w
  split at w
  · rename_i z; cases z
    obtain ⟨y, rfl, r1⟩ := vrs1 rs
    obtain ⟨xs, ys, e, e2, hl, w⟩ := w
    cases rx with
    | ref hi => cases r1 with
      | ref hj =>
        obtain ⟨us, h1, h2⟩ := R.lst hi e
        obtain ⟨ws, h3, h4⟩ := R.lst hj e2
        exact ⟨_, _, us, ws, rfl, rfl, h1, h3, by rw [vrs_len h2, vrs_len h4]; exact Nat.le_trans hl (by decide), k.wr R hi w (o := .lst (xs ++ ys)) ⟨_, rfl, vrs_app h2 h4⟩ .non⟩
  · exact w.elim⟩
/-- the first place of what is == -/
def aIndex : ASp := fun vs h Q => match vs with
  | [.ref a, v] => ∃ (d : PyData) (ds : List PyData) (j : Nat) (z : PyData), Rep h (.ref a) (.list ds) ∧ Rep h v d ∧ SeqAt.shaped (.list ds) = true ∧ SeqAt.shaped d = true ∧ ds[j]? = some z ∧ PyData.eqv z d = true ∧ (∀ (m : Nat) (z' : PyData), m < j → ds[m]? = some z' → PyData.eqv z' d = false) ∧ Q (.int (j : Nat)) h
  | _ => False
theorem lmt_index : Lmt c "index" aIndex := ⟨_, _, PySem.F.plainAttrs_list, PySem.F.slot_list_index, PySem.F.type_list_index, fun X hX => hX.K ▸ mt_indexD (by have := hX.room.un; omega), fun x vs h Q m H u us Qc w R rx rs k => by
  unfold aIndex at w
  split at w
  · rename_i z; cases z
    obtain ⟨y, rfl, r1⟩ := vrs1 rs
    obtain ⟨d, ds, j, z, e1, e2, s1, s2, hz, he, hno, w⟩ := w
    cases rx with
    | ref hi => exact ⟨_, y, d, ds, j, z, rfl, rfl, rep_dp R _ _ _ e1 (.ref hi), rep_dp R _ _ _ e2 r1, s1, s2, hz, he, hno, k.here R w (.int _)⟩
  · exact w.elim⟩
/-! ### list(range(..)), tuple(range(..)) -/
def rgL (lo hi : Int) : List Val := (List.range (hi - lo).toNat).map fun i => Val.int (lo + (i : Nat))
theorem rgL_vr {K : PySem.W.Frag} {m : List Addr} {H : Hp} {lo hi : Int} : VRs K m H (rgL lo hi) (rgV lo hi) := by
  unfold rgL rgV
  generalize (hi - lo).toNat = n
  have : ∀ l : List Nat, VRs K m H (l.map fun i => Val.int (lo + (i : Nat))) (l.map fun i => V.int (lo + (i : Nat))) := by
    intro l
    induction l with
    | nil => exact .nil
    | cons x xs ih => exact .cons (.int _) ih
  exact this _
def rgB (lo hi : Int) : Prop := -1000000 ≤ lo ∧ lo ≤ 1000000 ∧ -1000000 ≤ hi ∧ hi ≤ 1000000
theorem rgB.ok {lo hi : Int} (h : rgB lo hi) : RgOk lo hi := by
  obtain ⟨h1, h2, h3, h4⟩ := h
  exact ⟨by omega, by omega, by omega, by omega, by omega⟩
def aLstRg1 : ASp := fun vs h Q => match vs with
  | [.int n] => rgB 0 n ∧ Q (.ref h.length) (h ++ [.lst (rgL 0 n)])
  | _ => False
def aTupRg1 : ASp := fun vs h Q => match vs with
  | [.int n] => rgB 0 n ∧ Q (.tup (rgL 0 n)) h
  | _ => False
theorem ce_listRg (hml : c.g.mg "list" = none) (hmr : c.g.mg "range" = none) (h : CE c a i) (hgl : glB c "list" = true := by rfl) (hgr : glB c "range" = true := by rfl) (he : isStar a = false := by rfl) : CE c (.Call (.Name "list" p) [.Call (.Name "range" p2) [a] [] p3] [] pos) (.call aLstRg1 [i]) := .mk fun sl hh Q w m σ H Qc R S q =>
  wE_of (fun X hX => pe_listRg hX.calm (hX.gl (gl_of hgl).1) (by rw [hX.mg]; exact hml) (prg_1 (hX.gl (gl_of hgr).1) (by rw [hX.mg]; exact hmr) (pe_w hX) (star_of he _)) rfl) (h sl hh _ w m σ H _ R S fun v h1 m1 H1 u w1 s1 R1 r1 => by
    have w1 : aLstRg1 [v] h1 Q := w1
    unfold aLstRg1 at w1
    split at w1
    · rename_i z; cases z; cases r1
      exact ⟨_, rfl, w1.1.ok, fun r hr => (Kq.on q s1).lst R1 w1.2 rgL_vr hr⟩
    · exact w1.elim)
theorem ce_tupRg (hml : c.g.mg "tuple" = none) (hmr : c.g.mg "range" = none) (h : CE c a i) (hgl : glB c "tuple" = true := by rfl) (hgr : glB c "range" = true := by rfl) (he : isStar a = false := by rfl) : CE c (.Call (.Name "tuple" p) [.Call (.Name "range" p2) [a] [] p3] [] pos) (.call aTupRg1 [i]) := .mk fun sl hh Q w m σ H Qc R S q =>
  wE_of (fun X hX => pe_tupRg hX.calm (hX.gl (gl_of hgl).1) (by rw [hX.mg]; exact hml) (prg_1 (hX.gl (gl_of hgr).1) (by rw [hX.mg]; exact hmr) (pe_w hX) (star_of he _)) rfl) (h sl hh _ w m σ H _ R S fun v h1 m1 H1 u w1 s1 R1 r1 => by
    have w1 : aTupRg1 [v] h1 Q := w1
    unfold aTupRg1 at w1
    split at w1
    · rename_i z; cases z; cases r1
      exact ⟨_, rfl, w1.1.ok, fun r hr => (Kq.on q s1).tup R1 w1.2 rgL_vr hr⟩
    · exact w1.elim)
end
/-! ### the module's own defs -/
/-- what a def promises, told of the plain heap -/
def SpO (K : PySem.W.Frag) (n : Nat) (Φ : ASp) : Sp := fun us H Qc _ => us.length = n ∧ ∃ m h vs Q, Rel K m h H ∧ VRs K m H vs us ∧ Φ vs h Q ∧ Kq K m H Q Qc
structure FnG (g : Gc) (k : Nat) (f : Addr) (fd : FuncData) (ps : List Str) (sp : Sp) : Prop where
  arity : ∀ vs H Q E, sp vs H Q E → vs.length = ps.length
  go : ∀ (A : Around) (outer : List PySem.Env) (s : Shared) (H : Hp) (args : Args) (us : List Value) (vs : List V) (Q : VK) (E : XK), A.guards = some [] → Room k A → Env0 g.P g.w g.K g.mg g.base A outer s H → BindsTo s fd args (ps.zip us) → Vals vs us → sp vs H Q E →
    codeAny (model g.P g.w) A (.call (.ref f) args) (CR CX0 outer g.P g.w H s Q E) s
theorem FnG.of {g : Gc} {k : Nat} {f : Addr} {fd : FuncData} {ps : List Str} {sp : Sp} (F : FnOk g.P g.w g.K g.mg g.base CX0 k f fd ps sp) : FnG g k f fd ps sp :=
  ⟨F.len, fun A outer s H args us vs Q E _ => F.run A outer s H args us vs Q E⟩
/-- a def of the module keeps the promise sp, at level j; gb: it calls repr -/
def Dg (g : Gc) (gb : Bool) (x : Str) (j : Nat) (sp : Sp) : Prop := ∃ (f : Addr) (fd : FuncData) (ps : List Str), g.mg x = some (Value.ref f) ∧ PySem.W.keepIn g.K (.ref f) = true ∧ Binds g.K fd ps [] ∧ (match gb with | false => FnOk g.P g.w g.K g.mg g.base CX0 j f fd ps sp | true => FnG g j f fd ps sp)
section
variable {c : Cc} {a b d e f tst : Expr} {es : List Expr} {i j k : IE} {is js : List IE} {t u : IT} {ts us : List IT} {pos p p2 p3 : Pos}
theorem go_dg {X : Cx} {j : Nat} {f : Addr} {fd : FuncData} {ps : List Str} {sp : Sp} (hX : c.Has X) (F : FnG c.g j f fd ps sp) (hgd : c.gd = true) (hj : j ≤ c.k) (hb : Binds c.g.K fd ps []) {pins : List (Addr × Obj)} {σ : L2.St} {H : Hp} {s : Shared} {Q : VK} {us : List Value} {vs : List V}
    (I : Inv X pins σ H s) (r : Vals vs us) (h : sp (vs ++ []) H Q E0) : wpAny (model X.prog X.w) X.A (call (.ref f) us) (EP X pins σ Q) X.xe s := by
  rw [List.append_nil] at h
  have n1 : us.length = ps.length := r.length.symm.trans (F.arity _ _ _ _ h)
  have bd := hb s us (by rw [← hX.K]; exact I.kIn) (by simpa using n1)
  rw [List.append_nil] at bd
  have e0 : Env0 c.g.P c.g.w c.g.K c.g.mg c.g.base X.A X.stack s H := by
    have z := I.env0
    rw [hX.P, hX.w, hX.K, hX.mg, hX.base] at z
    exact z
  have run := F.go X.A X.stack s H ⟨us, []⟩ us vs Q E0 (hX.gd hgd) (hX.room.mono hj) e0 bd r h
  rw [← hX.P, ← hX.w] at run
  refine wpAny_call (codeAny_mono run fun r s' z => ?_)
  match r, z with
  | .error e, z => exact z.elim
  | .ok .next, z => exact False.elim z
  | .ok .brk, z => exact False.elim z
  | .ok .cont, z => exact False.elim z
  | .ok (.ret u), z => exact I.after z
theorem pe_df {X : Cx} {x : Str} {j : Nat} {gb : Bool} {sp : Sp} (hX : c.Has X) (D : Dg c.g gb x j sp) (hgd : gb = true → c.gd = true) (hj : j ≤ c.k) (hg : Glb c x) (hdb : (x == ("__debug__" : Str)) = false) (he : starEach (e :: es) X.env = (false, eval e X.env) :: starEach es X.env)
    (hpl : (backTo pos (starEach es X.env)).any (·.1) = false) : PE X (.Call (.Name x p) (e :: es) [] pos) (tCall sp [] E0 (wA c (e :: es))) := by
  obtain ⟨f, fd, ps, h1, h2, h3, h4⟩ := D
  cases gb with
  | false =>
    refine pe_call (CX := CX0) (k := j) (fd := fd) (ps := ps) (ds := []) ?_ (hX.room.mono hj) (hX.gl hg) (by rw [hX.mg]; exact h1) (by rw [hX.K]; exact h2) (by rw [hX.K]; exact h3) .nil pass0 (pa_w hX) hdb he hpl
    rw [hX.P, hX.w, hX.K, hX.mg, hX.base]
    exact h4
  | true =>
    exact ⟨fun pins s σ H Q I hw => wpAny_Call_Name_kw (ld_glob I (hX.gl hg) (by rw [hX.mg]; exact h1) (PySem.W.callWith_K (h₀ := X.base) I.ok.mod.kin (by rw [hX.K]; exact h2) (thn ((pa_w hX).run pos pins s σ H _ I hw) fun us s1 ⟨vs, H1, I1, r, q⟩ => ⟨I1.kIn, go_dg hX h4 (hgd rfl) hj h3 I1 r q⟩) he hpl) hdb)⟩
theorem pe_df0 {X : Cx} {x : Str} {j : Nat} {gb : Bool} {sp : Sp} (hX : c.Has X) (D : Dg c.g gb x j sp) (hgd : gb = true → c.gd = true) (hj : j ≤ c.k) (hg : Glb c x) (hdb : (x == ("__debug__" : Str)) = false) : PE X (.Call (.Name x p) [] [] pos) (tCall sp [] E0 tNil) := by
  obtain ⟨f, fd, ps, h1, h2, h3, h4⟩ := D
  cases gb with
  | false =>
    refine pe_call0 (CX := CX0) (k := j) (fd := fd) (ps := ps) (ds := []) ?_ (hX.room.mono hj) (hX.gl hg) (by rw [hX.mg]; exact h1) (by rw [hX.K]; exact h2) (by rw [hX.K]; exact h3) .nil pass0 hdb
    rw [hX.P, hX.w, hX.K, hX.mg, hX.base]
    exact h4
  | true =>
    exact ⟨fun pins s σ H Q I hw => wpAny_Call_Name_kw (ld_glob I (hX.gl hg) (by rw [hX.mg]; exact h1) (PySem.W.callWith_K0 I.kIn (by rw [hX.K]; exact h2) (go_dg hX h4 (hgd rfl) hj h3 I .nil hw)) hdb)⟩
/-- arguments are as many as they are written -/
theorem wpEs_len : ∀ {is : List IE} {sl : Sl} {h : AH} {Q : List Val → AH → Prop}, wpEs is sl h Q → wpEs is sl h Q := fun h => h
theorem ce_own {x : Str} {j n : Nat} {gb : Bool} {Φ : ASp} (D : Dg c.g gb x j (SpO c.g.K n Φ)) (ha : CA c (e :: es) is) (hn : ∀ vs h Q, Φ vs h Q → vs.length = n) (hj : j ≤ c.k) (hgd : gb = true → c.gd = true) (hg : (c.sc.names.lookup x == some NameKind.globalImplicit && nameB x) = true := by rfl)
    (he : isStar e = false := by rfl) (hpl : es.all (fun x => !isStar x) = true := by rfl) : CE c (.Call (.Name x p) (e :: es) [] pos) (.call Φ is) := .mk fun sl h Q w m σ H Qc R S q => by
  rw [Bool.and_eq_true] at hg
  exact wE_of (fun X hX => pe_df hX D hgd hj (eq_of_beq hg.1) (name_of hg.2).1 (star_of he _) (nostar_any hpl _)) (ha sl h _ w m σ H _ R S fun vs h1 m1 H1 us w1 s1 R1 r1 => by
    show SpO c.g.K n Φ (us ++ []) H1 Qc E0
    rw [List.append_nil]
    exact ⟨by rw [vrs_len r1]; exact hn _ _ _ w1, m1, h1, vs, Q, R1, r1, w1, Kq.on q s1⟩)
theorem ce_own0 {x : Str} {j : Nat} {gb : Bool} {Φ : ASp} (D : Dg c.g gb x j (SpO c.g.K 0 Φ)) (hj : j ≤ c.k) (hgd : gb = true → c.gd = true) (hg : (c.sc.names.lookup x == some NameKind.globalImplicit && nameB x) = true := by rfl) : CE c (.Call (.Name x p) [] [] pos) (.call Φ []) := .mk fun sl h Q w m σ H Qc R S q => by
  rw [Bool.and_eq_true] at hg
  exact wE_of (fun X hX => pe_df0 hX D hgd hj (eq_of_beq hg.1) (name_of hg.2).1) (show SpO c.g.K 0 Φ ([] ++ []) H Qc E0 from ⟨rfl, m, h, [], Q, R, .nil, w, q⟩)
end
end Ev
/-! Targets, what is walked, comprehensions. -/
namespace Ev
open PySem PySem.Spec PyProof.Rows L2

/-! ### wiped slots -/
theorem wipe_set {σ : L2.St} {x : Option V} : ∀ {vs : List Nat} {i : Nat}, i ∈ vs → L2.wipe (σ.set i x) vs = L2.wipe σ vs
  | v :: vs, i, h => by
    by_cases hi : i ∈ vs
    · show (L2.wipe (σ.set i x) vs).set v none = (L2.wipe σ vs).set v none
      rw [wipe_set hi]
    · have e : i = v := by
        rcases List.mem_cons.mp h with h | h
        · exact h
        · exact absurd h hi
      subst e
      show (L2.wipe (σ.set i x) vs).set i none = (L2.wipe σ vs).set i none
      rw [wipe_out hi, List.set_set]
where
  wipe_out {σ : L2.St} {x : Option V} : ∀ {vs : List Nat} {i : Nat}, i ∉ vs → L2.wipe (σ.set i x) vs = (L2.wipe σ vs).set i x
    | [], _, _ => rfl
    | v :: vs, i, h => by
      have h1 : i ≠ v := fun e => h (e ▸ List.mem_cons_self)
      have h2 : i ∉ vs := fun e => h (List.mem_cons_of_mem _ e)
      show (L2.wipe (σ.set i x) vs).set v none = ((L2.wipe σ vs).set v none).set i x
      rw [wipe_out h2, List.set_comm _ _ h1]
theorem wipe_nones (σ : L2.St) : ∀ (vs : List Nat) (i : Nat), i ∈ vs → (L2.wipe σ vs).set i none = L2.wipe σ vs
  | v :: vs, i, h => by
    by_cases e : i = v
    · subst e
      show ((L2.wipe σ vs).set i none).set i none = _
      rw [List.set_set]; rfl
    · have hi : i ∈ vs := (List.mem_cons.mp h).elim (fun z => absurd z e) id
      show ((L2.wipe σ vs).set v none).set i none = (L2.wipe σ vs).set v none
      rw [List.set_comm _ _ (Ne.symm e), wipe_nones σ vs i hi]
theorem wipe_go (σ : L2.St) (ws : List Nat) : ∀ vs : List Nat, (∀ i ∈ vs, i ∈ ws) → L2.wipe (L2.wipe σ ws) vs = L2.wipe σ ws
  | [], _ => rfl
  | v :: vs, h => by
    show (L2.wipe (L2.wipe σ ws) vs).set v none = _
    rw [wipe_go σ ws vs fun i hi => h i (List.mem_cons_of_mem _ hi)]
    exact wipe_nones σ ws v (h v List.mem_cons_self)
theorem wipe_idem (σ : L2.St) (ws : List Nat) : L2.wipe (L2.wipe σ ws) ws = L2.wipe σ ws := wipe_go σ ws ws (fun _ h => h)
section
variable {c : Cc} {a b d e f tst tg iter elt : Expr} {es ifs tgs : List Expr} {i j k : IE} {is js : List IE} {t u : IT} {ts us : List IT} {g : IG} {gs : List IG} {pos p p2 p3 p4 : Pos}
/-! ### targets -/
theorem cgc_name (n : Nat) {x : Str} (hN : c.N.Nodup) (hb : (c.N[n]? == some x && locB c.sc c.fn x) = true) : CGc c (.Name x pos) (.name n) [n] := .mk fun v sl h N w m σ H u Qc R S r q => by
  rw [Bool.and_eq_true] at hb
  have hl : Loc c.sc x ∧ (c.fn x = true ∨ c.sc.names.lookup x = some .local) := by
    have := hb.2
    unfold locB at this
    rw [Bool.or_eq_true] at this
    rcases this with h | h
    · exact ⟨.inl (eq_of_beq h), .inr (eq_of_beq h)⟩
    · rw [Bool.and_eq_true] at h
      exact ⟨.inr (eq_of_beq h.1), .inl h.2⟩
  exact wG_of (fun X hX => pg_name (by rw [hX.N]; exact hN) (by rw [hX.N]; exact eq_of_beq hb.1) (by rw [hX.sc]; exact hl.1) (by
    rcases hl.2 with h | h
    · exact .inl (hX.fn _ h)
    · exact .inr (by rw [hX.sc]; exact h))) (show gName n u σ H Qc from q _ _ w (S.set r) fun vs hv => wipe_set (hv n List.mem_cons_self))
theorem cgcs_nil : CGcs c [] [] [] := .mk fun vs sl h N w m σ H us Qc R S r q => by
  obtain ⟨rfl, w⟩ := w
  cases r
  exact wGs_of (fun X hX => pgs_nil) ⟨rfl, q _ _ w S fun _ _ => rfl⟩
theorem cgcs_cons {l1 l2 : List Nat} (h1 : CGc c tg g l1) (h2 : CGcs c tgs gs l2) (hs : ∀ env : PySem.Env, (assignEach (tg :: tgs) env).map (·.2) = assign tg env :: (assignEach tgs env).map (·.2) := by intro _; rfl) : CGcs c (tg :: tgs) (g :: gs) (l1 ++ l2) := .mk fun vs sl h N w m σ H us Qc R S r q => by
  obtain ⟨v, ws, rfl, w⟩ := w
  cases r with
  | cons r1 r2 =>
    exact wGs_of (fun X hX => pgs_cons (pg_w hX) (pgs_w hX) (hs X.env)) ⟨_, _, rfl, h1 v sl h _ w m σ H _ _ R S r1 fun sl1 σ1 w1 S1 e1 => h2 ws sl1 h _ w1 m σ1 H _ _ R S1 r2 fun sl2 σ2 w2 S2 e2 => q sl2 σ2 w2 S2 fun vs hv => by
      rw [e2 vs fun i hi => hv i (List.mem_append_right _ hi), e1 vs fun i hi => hv i (List.mem_append_left _ hi)]⟩
def gSeq (K : PySem.W.Frag) (n : Nat) (t : TGs) : TG := fun v σ H Q => gTup K n t v σ H Q ∨ gUnl K n t v σ H Q
theorem pg_seq {X : Cx} {es : List Expr} {k : Nat} {t : TGs} {n : Nat} (hc : X.calm = true) (h : PGs X es t) (hn : (assignEach es X.env).length = n) (hst : (assignEach es X.env).findIdx? (·.1) = none) : PG X (.Tuple es k pos) (gSeq X.K n t) := by
  refine ⟨fun pins s σ H v u Q I r hw => ?_⟩
  rcases hw with hw | hw
  · exact (pg_tup hc h hn hst).run pins s σ H v u Q I r hw
  · exact (pg_unl hc h hn hst).run pins s σ H v u Q I r hw
theorem cgc_tup {kk : Nat} {l : List Nat} (h : CGcs c tgs gs l) (hn : ∀ env : PySem.Env, (assignEach tgs env).length = gs.length := by intro _; rfl) (hst : ∀ env : PySem.Env, (assignEach tgs env).findIdx? (·.1) = none := by intro _; rfl) : CGc c (.Tuple tgs kk pos) (.tup gs) l := .mk fun v sl hh N w m σ H u Qc R S r q => by
  obtain ⟨vs, e, hl, w⟩ := w
  obtain ⟨a, us, rfl, hs, r1⟩ := R.seq r e
  refine wG_of (t := gSeq c.g.K gs.length (wGs c tgs)) (fun X hX => hX.K ▸ pg_seq hX.calm (pgs_w hX) (hn X.env) (hst X.env)) ?_
  have go := h vs sl hh N w m σ H us Qc R S r1 q
  rcases hs with hs | hs
  · exact .inr ⟨_, us, rfl, hs, by rw [vrs_len r1, hl], go⟩
  · exact .inl ⟨_, us, rfl, hs, by rw [vrs_len r1, hl], go⟩
theorem cgs_nil : CGs c [] [] := .mk fun vs sl h N w m σ H us Qc R S r q => by
  obtain ⟨rfl, w⟩ := w
  cases r
  exact wGs_of (fun X hX => pgs_nil) ⟨rfl, q _ _ _ _ _ w Stp.rfl R S⟩
theorem cgs_cons (h1 : CG c tg g) (h2 : CGs c tgs gs) (hs : ∀ env : PySem.Env, (assignEach (tg :: tgs) env).map (·.2) = assign tg env :: (assignEach tgs env).map (·.2) := by intro _; rfl) : CGs c (tg :: tgs) (g :: gs) := .mk fun vs sl h N w m σ H us Qc R S r q => by
  obtain ⟨v, ws, rfl, w⟩ := w
  cases r with
  | cons r1 r2 =>
    exact wGs_of (fun X hX => pgs_cons (pg_w hX) (pgs_w hX) (hs X.env)) ⟨_, _, rfl, h1 v sl h _ w m σ H _ _ R S r1 fun sl1 h1 m1 σ1 H1 w1 s1 R1 S1 => h2 ws sl1 h1 _ w1 m1 σ1 H1 _ _ R1 S1 (R.vrs s1 r2) fun sl2 h2 m2 σ2 H2 w2 s2 R2 S2 => q sl2 h2 m2 σ2 H2 w2 (s1.trans s2) R2 S2⟩
theorem cg_tup {kk : Nat} (h : CGs c tgs gs) (hn : ∀ env : PySem.Env, (assignEach tgs env).length = gs.length := by intro _; rfl) (hst : ∀ env : PySem.Env, (assignEach tgs env).findIdx? (·.1) = none := by intro _; rfl) : CG c (.Tuple tgs kk pos) (.tup gs) := .mk fun v sl hh N w m σ H u Qc R S r q => by
  obtain ⟨vs, e, hl, w⟩ := w
  obtain ⟨a, us, rfl, hs, r1⟩ := R.seq r e
  refine wG_of (t := gSeq c.g.K gs.length (wGs c tgs)) (fun X hX => hX.K ▸ pg_seq hX.calm (pgs_w hX) (hn X.env) (hst X.env)) ?_
  have go := h vs sl hh N w m σ H us Qc R S r1 q
  rcases hs with hs | hs
  · exact .inr ⟨_, us, rfl, hs, by rw [vrs_len r1, hl], go⟩
  · exact .inl ⟨_, us, rfl, hs, by rw [vrs_len r1, hl], go⟩
/-- x, *xs = .. -/
theorem cg_star (n l : Nat) {x y : Str} {kk : Nat} (hN : c.N.Nodup) (hb : (c.N[n]? == some x && locB c.sc c.fn x) = true) (hb2 : (c.N[l]? == some y && locB c.sc c.fn y) = true) : CG c (.Tuple [.Name x p, .Starred (.Name y p2) p3] kk p4) (.star n l) := .mk fun v sl hh N w m σ H u Qc R S r q => by
  obtain ⟨x0, xs, e, w⟩ := w
  obtain ⟨a, us, rfl, hs, r1⟩ := R.seq r e
  cases r1 with
  | cons r1 r2 =>
    rename_i u0 us
    have loc : ∀ {n : Nat} {x : Str}, (c.N[n]? == some x && locB c.sc c.fn x) = true → c.N[n]? = some x ∧ Loc c.sc x ∧ (c.fn x = true ∨ c.sc.names.lookup x = some .local) := fun {n x} hb => by
      rw [Bool.and_eq_true] at hb
      have := hb.2
      unfold locB at this
      rw [Bool.or_eq_true] at this
      rcases this with h | h
      · exact ⟨eq_of_beq hb.1, .inl (eq_of_beq h), .inr (eq_of_beq h)⟩
      · rw [Bool.and_eq_true] at h
        exact ⟨eq_of_beq hb.1, .inr (eq_of_beq h.1), .inl h.2⟩
    have l1 := loc hb
    have l2 := loc hb2
    have pgn : ∀ {n : Nat} {x : Str} {p : Pos}, (c.N[n]? = some x ∧ Loc c.sc x ∧ (c.fn x = true ∨ c.sc.names.lookup x = some .local)) → ∀ X, c.Has X → PG X (.Name x p) (gName n) := fun {n x p} l X hX => pg_name (by rw [hX.N]; exact hN) (by rw [hX.N]; exact l.1) (by rw [hX.sc]; exact l.2.1) (by
      rcases l.2.2 with h | h
      · exact .inl (hX.fn _ h)
      · exact .inr (by rw [hX.sc]; exact h))
    refine wG_of (t := gStar c.g.K (gCons (gName n) (gCons (gName l) gNil))) (fun X hX => hX.K ▸ pg_star hX.calm (pgs_cons (pgn l1 X hX) (pgs_star (pgn l2 X hX) rfl rfl) rfl) rfl rfl) ⟨_, u0, us, rfl, hs.symm, fun D hD => ?_⟩
    obtain ⟨s1, R1, rD⟩ := R.alloc hD (o := .lst xs) (u := .lst us) ⟨us, rfl, r2⟩
    exact ⟨u0, [.ref D], rfl, .ref D, [], rfl, rfl, q _ _ _ _ _ w s1 R1 (((R.sr s1 S).set (R.vr s1 r1)).set rD)⟩
/-- o[k] = .. -/
theorem cg_sub (h1 : CE c a i) (h2 : CE c b j) (ha : ∀ (env : PySem.Env) v, assign (.Subscript a b p2) env v = (do
      let ov ← holding [v] (eval a env)
      let iv ← holding [v, ov] (eval b env)
      standAt p2
      holding [v, ov, iv] (setItem ov iv v)
      release [v, ov, iv] []) := by intro _ _; rfl) : CG c (.Subscript a b p2) (.sub aSet i j) := .mk fun v sl hh N w m σ H u Qc R S r q =>
  wG_of (t := gSub (wE c a) (wE c b) rSetE) (fun X hX => pg_sub (pe_w hX) (pe_w hX) (set_E hX.hu1) (ha X.env)) (h1 sl hh _ w m σ H _ R S fun o h1 m1 H1 uo w1 s1 R1 r1 => h2 sl h1 _ w1 m1 σ H1 _ R1 (R.sr s1 S) fun kv h2 m2 H2 uk w2 s2 R2 r2 => by
    have s := s1.trans s2
    have ro := R1.vr s2 r1
    have rv := R.vr s r
    have S2 := R.sr s S
    replace w2 := aSet_cases w2
    rcases w2 with ⟨a, xs, i, j, rfl, rfl, e, hj, w2⟩ | ⟨a, kvs, dk, rfl, e, hk, so, hl, w2⟩
    · cases r2
      cases ro with
      | ref hi =>
        obtain ⟨us, e1, e2⟩ := R2.lst hi e
        obtain ⟨s3, R3⟩ := R2.wr hi (o := .lst (xs.set j v)) (u := .lst (us.set j u)) ⟨_, rfl, vrs_set j e2 rv⟩
        exact .inl ⟨_, us, _, j, rfl, rfl, e1, by rw [vrs_len e2]; exact hj, q _ _ _ _ _ w2 (s.trans s3) R3 (R2.sr s3 S2)⟩
    · cases ro with
      | ref hi =>
        obtain ⟨u', e1, e2⟩ := R2.dputE hi e r2 hk so rv hl
        obtain ⟨s3, R3⟩ := R2.wr hi e2
        exact .inr ⟨_, _, rfl, e1, q _ _ _ _ _ w2 (s.trans s3) R3 (R2.sr s3 S2)⟩)
/-! ### tests of comprehensions -/
theorem cq_nil : CQ c [] [] := .mk fun sl hh Q w m σ H Qc R S q => wQ_of (fun X hX => pts_nil) (q _ _ _ _ w Stp.rfl R)
theorem cq_one (h : CT c e t) : CQ c [e] [t] := .mk fun sl hh Q w m σ H Qc R S q => wQ_of (fun X hX => pts_one (pt_w hX)) (h sl hh Q w m σ H Qc R S q)
/-! ### what is walked -/
def nochk : AH → Prop := fun _ => True
/-- a list (as long as it stands so) or a tuple -/
def wSeq : ISp := fun vs h R => match vs with
  | [.tup xs] => R xs nochk h
  | [.ref a] => ∃ xs, h[a]? = some (.lst xs) ∧ R xs (fun h' => h'[a]? = some (.lst xs)) h
  | _ => False
def Iseq (K : PySem.W.Frag) (tl : TE) : TI := fun σ H R => tl σ H fun x H1 => ∃ a, x = .ref a ∧ (((∃ xs, SqL K H1 a xs) ∧ R (Itl K a) H1) ∨ ((∃ xs, SqT K H1 a xs) ∧ R (Itt K a) H1))
theorem pi_seq {X : Cx} {tg l : Expr} {tl : TE} (hl : PE X l tl) : PI X tg l (Iseq X.K tl) := by
  refine ⟨fun pins s σ H R I h => ?_⟩
  refine thn (hl.run pins s σ H _ I h) fun v s1 ⟨x, H1, I1, r1, q1⟩ => ?_
  obtain ⟨a, e, q⟩ := q1
  subst e
  cases r1
  rcases q with ⟨⟨xs, hq⟩, q⟩ | ⟨⟨xs, hq⟩, q⟩
  · obtain ⟨its, rv, p, hz⟩ := I1.list hq
    refine wpAny_pyIter_list p.isList ?_
    refine ⟨s1.heap.objs.size, [s1.heap.objs.size], _, _, H1, rfl, I1.kept (t' := s1.toks) fun b o e => Heap.get?_push_of_some _ e, turn_list a _, ⟨_, Heap.get?_push_size _ rfl, rfl, rfl⟩, fun b hb => ?_, q⟩
    have e : b = s1.heap.objs.size := by simpa using hb
    subst e
    exact I1.fpOk (Nat.le_refl _) (I1.hok.fresh (Nat.le_refl _))
  · obtain ⟨its, rv, p, hz⟩ := I1.tuple hq
    refine wpAny_pyIter_tuple (show s1.heap.IsTuple a its.toArray from p) ?_
    refine ⟨s1.heap.objs.size, [s1.heap.objs.size], _, _, H1, rfl, I1.kept (t' := s1.toks) fun b o e => Heap.get?_push_of_some _ e, turn_tuple a _, ⟨_, Heap.get?_push_size _ rfl, rfl, rfl⟩, fun b hb => ?_, q⟩
    have e : b = s1.heap.objs.size := by simpa using hb
    subst e
    exact I1.fpOk (Nat.le_refl _) (I1.hok.fresh (Nat.le_refl _))
theorem wk_lst {K : PySem.W.Frag} {m : List Addr} {h : AH} {H : Hp} {i : Nat} {a : Addr} {xs : List Val} (hi : m[i]? = some a) : Wk K (Itl K a) xs (fun h' => h'[i]? = some (.lst xs)) m H := fun m1 h1 H1 s R c => by
  obtain ⟨us, e1, e2⟩ := R.lst (s.pre _ _ hi) c
  have hl := vrs_len e2
  refine ⟨fun k hk => ⟨us, us[k]'(by omega), .inl (.inl e1), by simp [show k < us.length by omega]⟩, ⟨us, .inl (.inl e1), by omega⟩, fun k v u H2 hv y => ?_⟩
  obtain ⟨rfl, y⟩ := y
  have y := y us (.inl (.inl e1))
  obtain ⟨w, h3, h4⟩ := vrs_getV e2 y
  rw [hv] at h3; cases h3
  exact ⟨Stp.rfl, R, h4⟩
theorem wk_tup {K : PySem.W.Frag} {m : List Addr} {h : AH} {H : Hp} {a : Addr} {xs : List Val} {us : List V} (R0 : Rel K m h H) (e : H a = some (.tup us)) (r : VRs K m H xs us) : Wk K (Itt K a) xs nochk m H := fun m1 h1 H1 s R c => by
  have e1 := s.tup _ _ e
  have e2 := vrs_sta s _ _ r
  have hl := vrs_len e2
  refine ⟨fun k hk => ⟨us, us[k]'(by omega), .inl (.inl e1), by simp [show k < us.length by omega]⟩, ⟨us, .inl (.inl e1), by omega⟩, fun k v u H2 hv y => ?_⟩
  obtain ⟨rfl, y⟩ := y
  have y := y us (.inl (.inl e1))
  obtain ⟨w, h3, h4⟩ := vrs_getV e2 y
  rw [hv] at h3; cases h3
  exact ⟨Stp.rfl, R, h4⟩
theorem ci_seq (h : CE c e i) : CI c tg e wSeq [i] := .mk fun sl hh R w m σ H Rc R0 S q =>
  wI_of (t := Iseq c.g.K (wE c e)) (fun X hX => hX.K ▸ pi_seq (pe_w hX)) (h sl hh _ w m σ H _ R0 S fun v h1 m1 H1 u w1 s1 R1 r1 => by
    have w1 : wSeq [v] h1 R := w1
    unfold wSeq at w1
    split at w1
    · rename_i z; cases z
      cases r1 with
      | tup e1 r2 => exact ⟨_, rfl, .inr ⟨⟨_, .inl (.inl e1)⟩, q _ _ _ _ _ _ w1 s1 R1 (wk_tup R1 e1 r2)⟩⟩
    · rename_i z; cases z
      obtain ⟨xs, e1, w1⟩ := w1
      cases r1 with
      | ref hi =>
        obtain ⟨us, e2, _⟩ := R1.lst hi e1
        exact ⟨_, rfl, .inl ⟨⟨us, .inl (.inl e2)⟩, q _ _ _ _ _ _ w1 s1 R1 (wk_lst (h := h1) hi)⟩⟩
    · exact w1.elim)
def wRng1 : ISp := fun vs h R => match vs with
  | [.int n] => rgB 0 n ∧ R (rgL 0 n) nochk h
  | _ => False
def wRng2 : ISp := fun vs h R => match vs with
  | [.int n, .int l] => rgB n l ∧ R (rgL n l) nochk h
  | _ => False
theorem rgL_len (lo hi : Int) : (rgL lo hi).length = (hi - lo).toNat := by simp [rgL]
theorem rgL_get {lo hi : Int} {i : Nat} {v : Val} (h : (rgL lo hi)[i]? = some v) : i < (hi - lo).toNat ∧ v = .int (lo + (i : Nat)) := by
  have hl : i < (rgL lo hi).length := (List.getElem?_eq_some_iff.mp h).1
  rw [rgL_len] at hl
  refine ⟨hl, ?_⟩
  unfold rgL at h
  rw [List.getElem?_map, List.getElem?_range hl] at h
  exact (Option.some.inj h).symm
theorem wk_rng {K : PySem.W.Frag} {m : List Addr} {H : Hp} {lo hi : Int} : Wk K (Itr lo (hi - lo).toNat) (rgL lo hi) nochk m H := fun m1 h1 H1 s R c => by
  rw [rgL_len]
  refine ⟨fun k hk => hk, Nat.le_refl _, fun k v u H2 hv y => ?_⟩
  obtain ⟨rfl, rfl⟩ := y
  obtain ⟨_, rfl⟩ := rgL_get hv
  exact ⟨Stp.rfl, R, .int _⟩
theorem ci_rng1 (hm : c.g.mg "range" = none) (h : CE c a i) (hg : glB c "range" = true := by rfl) (he : isStar a = false := by rfl) : CI c tg (.Call (.Name "range" p) [a] [] pos) wRng1 [i] := .mk fun sl hh R w m σ H Rc R0 S q =>
  wI_of (t := iRng1 (wA c [a])) (fun X hX => pi_range1 (hX.gl (gl_of hg).1) (by rw [hX.mg]; exact hm) (pa_w hX) (star_of he _)) (ca_cons h ca_nil he sl hh _ w m σ H _ R0 S fun vs h1 m1 H1 us w1 s1 R1 r1 => by
    have w1 : wRng1 vs h1 R := w1
    unfold wRng1 at w1
    split at w1
    · obtain ⟨u, rfl, r2⟩ := vrs1 r1
      cases r2
      obtain ⟨b1, b2, b3, b4⟩ := w1.1
      refine ⟨_, rfl, by omega, by omega, q _ _ _ _ _ _ w1.2 s1 R1 ?_⟩
      simpa only [Int.sub_zero] using wk_rng (K := c.g.K) (m := m1) (H := H1) (lo := 0)
    · exact w1.elim)
theorem ci_rng2 (hm : c.g.mg "range" = none) (h : CE c a i) (h2 : CE c b j) (hg : glB c "range" = true := by rfl) (he : isStar a = false := by rfl) (he2 : isStar b = false := by rfl) : CI c tg (.Call (.Name "range" p) [a, b] [] pos) wRng2 [i, j] := .mk fun sl hh R w m σ H Rc R0 S q =>
  wI_of (t := iRng2 (wA c [a, b])) (fun X hX => pi_range2 (hX.gl (gl_of hg).1) (by rw [hX.mg]; exact hm) (pa_w hX) ((star_of he _).trans (by rw [star_of he2]; rfl)) (star_of he2 _)) (ca_cons h (ca_cons h2 ca_nil he2) he sl hh _ w m σ H _ R0 S fun vs h1 m1 H1 us w1 s1 R1 r1 => by
    have w1 : wRng2 vs h1 R := w1
    unfold wRng2 at w1
    split at w1
    · obtain ⟨u, x, rfl, r2, r3⟩ := vrs2 r1
      cases r2; cases r3
      obtain ⟨b1, b2, b3, b4⟩ := w1.1
      exact ⟨_, _, rfl, by omega, q _ _ _ _ _ _ w1.2 s1 R1 wk_rng⟩
    · exact w1.elim)

/-- enumerate -/
def wEnum : ISp := fun vs h R => match vs with
  | [.tup xs] => R (xs.zipIdx.map fun q => .tup [.int (q.2 : Nat), q.1]) nochk h
  | [.ref a] => ∃ xs, h[a]? = some (.lst xs) ∧ R (xs.zipIdx.map fun q => .tup [.int (q.2 : Nat), q.1]) (fun h' => h'[a]? = some (.lst xs)) h
  | _ => False
def enumL (xs : List Val) : List Val := xs.zipIdx.map fun q => .tup [.int (q.2 : Nat), q.1]
theorem enumL_len (xs : List Val) : (enumL xs).length = xs.length := by simp [enumL]
theorem enumL_get {xs : List Val} {i : Nat} {v : Val} (h : (enumL xs)[i]? = some v) : ∃ x, xs[i]? = some x ∧ v = .tup [.int (i : Nat), x] := by
  unfold enumL at h
  rw [List.getElem?_map, List.getElem?_zipIdx] at h
  cases q : xs[i]? with
  | none => rw [q] at h; cases h
  | some x =>
    rw [q] at h
    simp at h
    exact ⟨x, rfl, h.symm⟩
theorem new_pair {K : PySem.W.Frag} {m : List Addr} {h : AH} {H : Hp} (R : Rel K m h H) {T : Addr} (n : H T = none) {vs : List Val} {us : List V} (r : VRs K m H vs us) : Stp m H m (upd H T (.tup us)) ∧ Rel K m h (upd H T (.tup us)) ∧ VR K m (upd H T (.tup us)) (.tup vs) (.ref T) := by
  obtain ⟨s, R1⟩ := R.aside n (.tup us)
  exact ⟨s, R1, .tup upd_same (R.vrs s r)⟩
theorem wk_enumL {K : PySem.W.Frag} {m : List Addr} {h : AH} {H : Hp} {i : Nat} {a : Addr} {xs : List Val} (hi : m[i]? = some a) : Wk K (Ite K a) (enumL xs) (fun h' => h'[i]? = some (.lst xs)) m H := fun m1 h1 H1 s R c => by
  obtain ⟨us, e1, e2⟩ := R.lst (s.pre _ _ hi) c
  have hl := vrs_len e2
  rw [enumL_len]
  refine ⟨fun k hk => ⟨us, us[k]'(by omega), .inl (.inl e1), by simp [show k < us.length by omega]⟩, ⟨us, .inl (.inl e1), by omega⟩, fun k v u H2 hv y => ?_⟩
  obtain ⟨T, x, rfl, n, rfl, y⟩ := y
  obtain ⟨w, h3, h4⟩ := vrs_getV e2 (y us (.inl (.inl e1)))
  obtain ⟨x', h5, rfl⟩ := enumL_get hv
  rw [h3] at h5; cases h5
  exact new_pair R n (.cons (.int _) (.cons h4 .nil))
theorem wk_enumT {K : PySem.W.Frag} {m : List Addr} {h : AH} {H : Hp} {a : Addr} {xs : List Val} {us : List V} (R0 : Rel K m h H) (e : H a = some (.tup us)) (r : VRs K m H xs us) : Wk K (IteT K a) (enumL xs) nochk m H := fun m1 h1 H1 s R c => by
  have e1 := s.tup _ _ e
  have e2 := vrs_sta s _ _ r
  have hl := vrs_len e2
  rw [enumL_len]
  refine ⟨fun k hk => ⟨us, us[k]'(by omega), .inl (.inl e1), by simp [show k < us.length by omega]⟩, ⟨us, .inl (.inl e1), by omega⟩, fun k v u H2 hv y => ?_⟩
  obtain ⟨T, x, rfl, n, rfl, y⟩ := y
  obtain ⟨w, h3, h4⟩ := vrs_getV e2 (y us (.inl (.inl e1)))
  obtain ⟨x', h5, rfl⟩ := enumL_get hv
  rw [h3] at h5; cases h5
  exact new_pair R n (.cons (.int _) (.cons h4 .nil))
def iEnumA (K : PySem.W.Frag) (ta : TA) : TI := fun σ H R => ta σ H fun vs H1 => ∃ a xs, vs = [.ref a] ∧ ((SqL K H1 a xs ∧ R (Ite K a) H1) ∨ (SqT K H1 a xs ∧ R (IteT K a) H1))
theorem pi_enumA {X : Cx} {e : Expr} {ta : TA} {p pos tpos : Pos} {elts : List Expr} {kk : Nat} (hg : Gl X "enumerate") (hm : X.mg "enumerate" = none) (ha : PA X [e] ta) (hs : starEach [e] X.env = [(false, eval e X.env)] := by rfl) :
    PI X (.Tuple elts kk tpos) (.Call (.Name "enumerate" p) [e] [] pos) (iEnumA X.K ta) := by
  refine ⟨fun pins s σ H R I h => ?_⟩
  refine Call_ (ld_blt I hg hm boot_enumerate (PyProof.Rows.callWith_type1 (thn (ha.run pos pins s σ H _ I h) fun us s1 ⟨vs, H1, I1, r1, q1⟩ => ?_) hs rfl))
  obtain ⟨a, xs, ex, q1⟩ := q1
  subst ex
  cases r1 with
  | cons r rr =>
    cases rr
    cases r
    have fresh : ∀ b, b ∈ [s1.heap.objs.size + 1, s1.heap.objs.size] → FpOk X pins H1 b := fun b hb => by
      have e' : b = s1.heap.objs.size + 1 ∨ b = s1.heap.objs.size := by simpa using hb
      have hle : s1.heap.objs.size ≤ b := by
        rcases e' with z | z
        · rw [z]; exact Nat.le_add_right _ _
        · rw [z]; exact Nat.le_refl _
      exact I1.fpOk hle (I1.hok.fresh hle)
    rcases q1 with ⟨hq, q⟩ | ⟨hq, q⟩
    · obtain ⟨its, rv, p', hz⟩ := I1.list hq
      refine call_enumerate_list p'.isList fun h' he hit hsz hk => wpAny_pyIter_enum he ?_
      have I2 : Inv X pins σ H1 { s1 with heap := h' } := I1.kept (t' := s1.toks) hk
      exact ⟨s1.heap.objs.size + 1, [s1.heap.objs.size + 1, s1.heap.objs.size], _, _, H1, rfl, I2, turn_enum a (s1.heap.objs.size + 1) s1.heap.objs.size, ⟨⟨.none, he⟩, hit, Nat.succ_ne_self _⟩, fresh, q⟩
    · obtain ⟨its, rv, p', hz⟩ := I1.tuple hq
      refine call_enumT (show s1.heap.IsTuple a its.toArray from p') fun h' he hit hk => wpAny_pyIter_enum he ?_
      have I2 : Inv X pins σ H1 { s1 with heap := h' } := I1.kept (t' := s1.toks) hk
      exact ⟨s1.heap.objs.size + 1, [s1.heap.objs.size + 1, s1.heap.objs.size], _, _, H1, rfl, I2, turn_enumT a (s1.heap.objs.size + 1) s1.heap.objs.size, ⟨⟨.none, he⟩, hit, Nat.succ_ne_self _⟩, fresh, q⟩
theorem ci_enum {elts : List Expr} {kk : Nat} {tpos : Pos} (hm : c.g.mg "enumerate" = none) (h : CE c a i) (hg : glB c "enumerate" = true := by rfl) (he : isStar a = false := by rfl) : CI c (.Tuple elts kk tpos) (.Call (.Name "enumerate" p) [a] [] pos) wEnum [i] := .mk fun sl hh R w m σ H Rc R0 S q =>
  wI_of (t := iEnumA c.g.K (wA c [a])) (fun X hX => hX.K ▸ pi_enumA (hX.gl (gl_of hg).1) (by rw [hX.mg]; exact hm) (pa_w hX) (star_of he _)) (ca_cons h ca_nil he sl hh _ w m σ H _ R0 S fun vs h1 m1 H1 us w1 s1 R1 r1 => by
    have w1 : wEnum vs h1 R := w1
    unfold wEnum at w1
    split at w1
    · obtain ⟨u, rfl, r2⟩ := vrs1 r1
      cases r2 with
      | tup e1 r2 => exact ⟨_, _, rfl, .inr ⟨.inl (.inl e1), q _ _ _ _ _ _ w1 s1 R1 (wk_enumT R1 e1 r2)⟩⟩
    · obtain ⟨u, rfl, r2⟩ := vrs1 r1
      obtain ⟨xs, e1, w1⟩ := w1
      cases r2 with
      | ref hi =>
        obtain ⟨us, e2, _⟩ := R1.lst hi e1
        exact ⟨_, us, rfl, .inl ⟨.inl (.inl e2), q _ _ _ _ _ _ w1 s1 R1 (wk_enumL (h := h1) hi)⟩⟩
    · exact w1.elim)
/-! ### comprehensions -/
theorem Stp.back {K : PySem.W.Frag} {m m1 : List Addr} {H H1 : Hp} {h1 : AH} (s : Stp m H m1 H1) (R1 : Rel K m1 h1 H1) {D : Addr} (n : H1 D = none) : H D = none := by
  cases q : H D with
  | none => rfl
  | some o =>
    by_cases hD : D ∈ m
    · obtain ⟨i, hi, e⟩ := List.getElem_of_mem hD
      have : m1[i]? = some D := s.pre i D (by rw [List.getElem?_eq_getElem hi, e])
      exact absurd n (by
        obtain ⟨u, h1, _⟩ := R1.mem (List.mem_of_getElem? this)
        rw [h1]; simp)
    · rw [(s.fr D o q hD).1] at n; cases n
/-- the list that grows lies aside -/
structure Acc (K : PySem.W.Frag) (D : Addr) (m : List Addr) (H : Hp) (acc : List Val) : Prop where
  nm : D ∉ m
  at_ : ∃ us, H D = some (.lst us) ∧ VRs K m H acc us
theorem Acc.on {K : PySem.W.Frag} {D : Addr} {m m1 : List Addr} {H H1 : Hp} {h : AH} {acc : List Val} (A : Acc K D m H acc) (R : Rel K m h H) (s : Stp m H m1 H1) : Acc K D m1 H1 acc := by
  obtain ⟨us, e, r⟩ := A.at_
  exact ⟨(s.fr D _ e A.nm).2, us, (s.fr D _ e A.nm).1, R.vrs s r⟩
theorem Acc.push {K : PySem.W.Frag} {D : Addr} {m0 m : List Addr} {H0 H : Hp} {h : AH} {acc : List Val} {v : Val} {u : V} (A : Acc K D m H acc) (R : Rel K m h H) (n0 : H0 D = none) (s0 : Stp m0 H0 m H) (r : VR K m H v u) : ∀ us, H D = some (.lst us) → Rel K m h (upd H D (.lst (us ++ [u]))) ∧ Stp m0 H0 m (upd H D (.lst (us ++ [u]))) ∧ Acc K D m (upd H D (.lst (us ++ [u]))) (acc ++ [v]) := fun us e => by
  obtain ⟨us', e', r'⟩ := A.at_
  rw [e] at e'; cases e'
  obtain ⟨R1, st⟩ := R.asideW A.nm e (fun _ z => nomatch z) (fun _ _ z => nomatch z) (.lst (us ++ [u]))
  refine ⟨R1, ⟨s0.pre, fun a o z n => ?_⟩, A.nm, _, upd_same, vrs_sta st _ _ (vrs_app r' (.cons r .nil))⟩
  have : a ≠ D := fun q => by rw [q, n0] at z; cases z
  rw [upd_ne this]
  exact s0.fr a o z n
theorem lc_run {scope : Scope} {own : List Nat} {l : List Nat} {Ψ : ISp} (hi : CI c tg iter Ψ is) (hg : CGc (c.blk scope) tg g l) (hl : ∀ j ∈ l, j ∈ own) (hq : CQ (c.blk scope) ifs ts) (he : CE (c.blk scope) elt i)
    {sl : Sl} {h : AH} {Q : Val → AH → Prop} (w : wpE (.lc own g Ψ is ts i) sl h Q) {m : List Addr} {σ : L2.St} {H : Hp} {Qc : VK} (R : Rel c.g.K m h H) (S : SR c.g.K m H sl σ) (q : Kq c.g.K m H Q Qc) :
    tLc (wI c tg iter) (wG (c.blk scope) tg) (wQ (c.blk scope) ifs) (wE (c.blk scope) elt) own σ H Qc := by
  refine hi sl h _ w m σ H _ R S fun J xs chk h1 m1 H1 w1 s1 R1 wk D hD => ?_
  let body : Val → AH → (List Val → AH → Prop) → Prop := fun v h3 K => wpG g v (wipeS sl own) h3 fun sl' h4 => wpQs ts sl' h4 fun b h5 => if b = true then wpE i sl' h5 fun r h6 => K [r] h6 else K [] h5
  let Qf : List Val → AH → Prop := fun acc h3 => Q (.ref h3.length) (h3 ++ [.lst acc])
  have w1 : lcW body chk xs [] h1 Qf := w1
  have hD0 : H D = none := s1.back R1 hD
  have hDm : D ∉ m1 := R1.nnew hD
  refine ⟨fun n k H2 => n + k = xs.length ∧ ∃ acc h2 m2, lcW body chk (xs.drop n) acc h2 Qf ∧ Stp m1 H1 m2 H2 ∧ Rel c.g.K m2 h2 H2 ∧ Acc c.g.K D m2 H2 acc, ⟨xs.length, by omega, [], h1, m1, w1, ?_, ?_, ?_⟩, fun n k H2 hW => ?_⟩
  · exact (R1.aside hD _).1
  · exact (R1.aside hD _).2
  · exact ⟨hDm, [], upd_same, .nil⟩
  · obtain ⟨hnk, acc, h2, m2, w2, s2, R2, A2⟩ := hW
    by_cases hlt : n < xs.length
    · rw [List.drop_eq_getElem_cons hlt] at w2
      obtain ⟨ck, w2⟩ := w2
      obtain ⟨go, _, yld⟩ := wk m2 h2 H2 (R1.sta s2) R2 ck
      refine .inr ⟨go n hlt, fun H' => ∃ acc h2 m2, lcW body chk (xs.drop (n + 1)) acc h2 Qf ∧ Stp m1 H1 m2 H' ∧ Rel c.g.K m2 h2 H' ∧ Acc c.g.K D m2 H' acc, fun H' hN => ⟨k - 1, by omega, by omega, hN⟩, fun u H3 hy => ?_⟩
      obtain ⟨s3, R3, rv⟩ := yld n xs[n] u H3 (List.getElem?_eq_getElem hlt) hy
      have S3 : SR c.g.K m2 H3 sl σ := R2.sr s3 (R1.sr s2 (R.sr s1 S))
      have A3 := A2.on R2 s3
      refine hg _ _ h2 _ w2 m2 (L2.wipe σ own) H3 u _ R3 (S3.wipe own) rv fun sl' σ' w3 S4 hw => ⟨?_, ?_⟩
      · rw [hw own hl, wipe_idem]
      · refine hq sl' h2 _ w3 m2 σ' H3 _ R3 S4 fun b h5 m5 H5 w5 s5 R5 => ?_
        have A5 := A3.on R3 s5
        have s15 := (s2.trans s3).trans s5
        cases b with
        | true =>
          show wE (c.blk scope) elt σ' H5 _
          refine he sl' h5 _ w5 m5 σ' H5 _ R5 (R3.sr s5 S4) fun r h6 m6 H6 u6 w6 s6 R6 r6 => ?_
          have A6 := A5.on R5 s6
          obtain ⟨us, e6, ru⟩ := A6.at_
          obtain ⟨R7, s7, A7⟩ := A6.push R6 hD (s15.trans s6) r6 us e6
          have hlen : us.length < sizeLine := by
            rw [vrs_len ru]
            have := w6.1
            rw [List.length_append, List.length_singleton] at this
            exact Nat.lt_of_lt_of_le (by omega) (show 1000000 ≤ sizeLine by decide)
          exact ⟨us, e6, hlen, acc ++ [r], h6, m6, w6.2, s7, R7, A7⟩
        | false =>
          refine ⟨acc, h5, m5, ?_, s15, R5, A5⟩
          have := w5.2
          rw [List.append_nil] at this
          exact this
    · have hn : xs.drop n = [] := List.drop_eq_nil_of_le (by omega)
      rw [hn] at w2
      obtain ⟨ck, w2⟩ := w2
      obtain ⟨_, stop, _⟩ := wk m2 h2 H2 (R1.sta s2) R2 ck
      have hn2 : n = xs.length := by omega
      refine .inl ⟨by rw [hn2]; exact stop, ?_⟩
      obtain ⟨us, e2, ru⟩ := A2.at_
      have s := s1.trans s2
      exact q _ _ _ _ _ w2 (Stp.join hD0 s) (R2.join A2.nm e2 (o := .lst acc) ⟨us, rfl, ru⟩) (.ref (by rw [← R2.len]; simp))
theorem ce_lc {scope : Scope} (own : List (Str × Nat)) {l : List Nat} {Ψ : ISp} (hNd : c.N.Nodup) (hi : CI c tg iter Ψ is) (hg : CGc (c.blk scope) tg g l) (hq : CQ (c.blk scope) ifs ts) (he : CE (c.blk scope) elt i) (ok : (blkC c.N c.sc scope own && l.all fun j => (own.map (·.2)).contains j) = true)
    (hs : ∀ (env : PySem.Env) x, foldedSetIterable iter env x = pure x := by intro _ _; rfl) : CE c (.ListComp elt [⟨tg, iter, ifs, 0⟩] scope pos) (.lc (own.map (·.2)) g Ψ is ts i) := .mk fun sl h Q w m σ H Qc R S q => by
  rw [Bool.and_eq_true] at ok
  exact wE_of (fun X hX => pe_lc hX.calm (by rw [hX.N]; exact hNd) (pi_w hX) (by rw [hX.N, hX.sc]; exact blkOk_by ok.1) (fun s H C cl fp => pg_w (hX.blk scope s H C cl fp)) (fun s H C cl fp => pts_w (hX.blk scope s H C cl fp)) (fun s H C cl fp => pe_w (hX.blk scope s H C cl fp)) (hs X.env))
    (lc_run hi hg (fun j hj => by have := List.all_eq_true.mp ok.2 j hj; simpa using this) hq he w R S q)
end
end Ev
/-! Statements, bodies of defs, the law. -/
namespace Ev
open PySem PySem.Spec PyProof.Rows L2
section
variable {c : Cc} {a b d e f tst tg iter elt : Expr} {es ifs tgs : List Expr} {i j k : IE} {is js : List IE} {t u : IT} {ts us : List IT} {g : IG} {gs : List IG} {pos p p2 p3 p4 p5 : Pos} {st : Stmt} {sts body orelse : List Stmt} {x y : IS} {ss rs : List IS}
theorem css_nil : CSs c [] [] := .mk fun sl h D w m σ H D' R S q => wSs_of (fun X hX => pss_nil) (q.nx _ _ _ _ _ w Stp.rfl R S)
theorem css_cons (h1 : CS c st x) (h2 : CSs c sts ss) : CSs c (st :: sts) (x :: ss) := .mk fun sl h D w m σ H D' R S q =>
  wSs_of (fun X hX => pss_cons (ps_w hX) (pss_w hX)) (h1 sl h _ w m σ H { D' with nx := wSs c sts D' } R S ⟨fun sl1 h1 m1 σ1 H1 w1 s1 R1 S1 => h2 sl1 h1 D w1 m1 σ1 H1 D' R1 S1 (q.on s1), q.rt, q.bk, q.ct⟩)
theorem cs_asg (h : CE c e i) (hg : CG c tg g) (hs : ∀ env : PySem.Env, swapsWithSole [tg] e pos.line env = pure false := by intro _; rfl)
    (hw : ∀ env : PySem.Env, env.scope = c.sc → swappedStores [tg] e env = pure none := by intro _ _; rfl) (h1 : ∀ env : PySem.Env, (assignEach [tg] env).map (·.2) = [assign tg env] := by intro _; rfl) : CS c (.Assign [tg] e pos) (.asg g i) := .mk fun sl hh D w m σ H D' R S q =>
  wS_of (fun X hX => ps_asg (pe_w hX) (pg_w hX) (hs X.env) (hw X.env hX.sc) (h1 X.env)) (h sl hh _ w m σ H _ R S fun v h1 m1 H1 u w1 s1 R1 r1 => hg v sl h1 _ w1 m1 σ H1 u _ R1 (R.sr s1 S) r1 fun sl2 h2 m2 σ2 H2 w2 s2 R2 S2 => q.nx _ _ _ _ _ w2 (s1.trans s2) R2 S2)
/-- x = [.. for ..], x a local of the def -/
theorem cs_setLc (n : Nat) {nm : Str} {lpos : Pos} {scope : Scope} (own : List (Str × Nat)) {l : List Nat} {Ψ : ISp} (hNd : c.N.Nodup) (hi : CI c tg iter Ψ is) (hg : CGc (c.blk scope) tg g l) (hq : CQ (c.blk scope) ifs ts) (he : CE (c.blk scope) elt i)
    (ok : (blkC c.N c.sc scope own && l.all fun j => (own.map (·.2)).contains j) = true)
    (hx : (c.sc.names.lookup nm == some .local && c.N[n]? == some nm) = true) (hk : c.sc.kind = .function := by rfl) (hl : (p2.line == lpos.line) = true := by rfl)
    (hnot : (scope.names.any fun (m, k) => m == nm && (k == .local || k == .cell)) = false := by decide +kernel)
    (hs : ∀ (env : PySem.Env) x, foldedSetIterable iter env x = pure x := by intro _ _; rfl) : CS c (.Assign [.Name nm p2] (.ListComp elt [⟨tg, iter, ifs, 0⟩] scope lpos) pos) (.asg (.name n) (.lc (own.map (·.2)) g Ψ is ts i)) := .mk fun sl hh D w m σ H D' R S q => by
  rw [Bool.and_eq_true] at ok hx
  have w : wpE (.lc (own.map (·.2)) g Ψ is ts i) sl hh (fun v h1 => D.nx (sl.set n (some v)) h1) := w
  exact wS_of (fun X hX => ps_setLc hX.calm (by rw [hX.N]; exact hNd) (by rw [hX.N]; exact eq_of_beq hx.2) (by rw [hX.sc]; exact eq_of_beq hx.1) (sw_true (by rw [hX.sc]; exact hk) (by rw [hX.sc]; exact eq_of_beq hx.1) hl hnot) (pi_w hX) (by rw [hX.N, hX.sc]; exact blkOk_by ok.1)
      (fun s H C cl fp => pg_w (hX.blk scope s H C cl fp)) (fun s H C cl fp => pts_w (hX.blk scope s H C cl fp)) (fun s H C cl fp => pe_w (hX.blk scope s H C cl fp)) (hs X.env))
    (show tLc _ _ _ _ _ σ H _ from lc_run hi hg (fun j hj => by have := List.all_eq_true.mp ok.2 j hj; simpa using this) hq he w R S fun v h1 m1 H1 u w1 s1 R1 r1 => q.nx _ _ _ _ _ w1 s1 R1 ((R.sr s1 S).set r1))
/-- x, y = a, b, plain local names -/
theorem cs_par2 (n l : Nat) {n1 n2 : Str} {k kv : Nat} (hN : c.N.Nodup) (h1 : CE c a i) (h2 : CE c b j)
    (hb : (c.N[n]? == some n1 && c.N[l]? == some n2 && c.sc.names.lookup n1 == some .local && c.sc.names.lookup n2 == some .local && !(n2 == n1) && !(n == l) && !isStar a && !isStar b) = true)
    (hk : c.sc.kind = .function := by rfl) (hl : (p2.line == p.line) = true := by rfl)
    (hs : ([a, b].any fun | .Starred .. => true | _ => false) = false := by rfl) (hf : [a, b].all (foldedForSure 8) = false := by rfl) (hc : [a, b].all (constantsAlone 8) = false := by rfl)
    (hw : ∀ env : PySem.Env, swapsWithSole [.Tuple [.Name n1 p, .Name n2 p2] k p4] (.Tuple [a, b] kv p5) pos.line env = pure false := by intro _; rfl) :
    CS c (.Assign [.Tuple [.Name n1 p, .Name n2 p2] k p4] (.Tuple [a, b] kv p5) pos) (.asg (.tup [.name n, .name l]) (.call aTup [i, j])) := .mk fun sl hh D w m σ H D' R S q => by
  simp only [Bool.and_eq_true, Bool.not_eq_true', beq_eq_false_iff_ne, ne_eq] at hb
  obtain ⟨⟨⟨⟨⟨⟨⟨b1, b2⟩, b3⟩, b4⟩, b5⟩, b6⟩, b7⟩, b8⟩ := hb
  have hne : (n2 == n1) = false := beq_eq_false_iff_ne.mpr b5
  have w : wpEs [i, j] sl hh (fun vs h1 => aTup vs h1 fun v h1 => wpG (.tup [.name n, .name l]) v sl h1 D.nx) := w
  exact wS_of (fun X hX => ps_par hX.calm (by rw [hX.N]; exact hN) (by rw [hX.N]; exact eq_of_beq b1) (by rw [hX.N]; exact eq_of_beq b2) b6 (by rw [hX.sc]; exact eq_of_beq b3) (by rw [hX.sc]; exact eq_of_beq b4) (pa_w hX) (swap2 hk (eq_of_beq b3) (eq_of_beq b4) hl hne hs hf hc X.env hX.sc) (hw X.env))
    (ca_cons h1 (ca_cons h2 ca_nil b8) b7 sl hh _ w m σ H _ R S fun vs h1 m1 H1 us w1 s1 R1 r1 => by
      obtain ⟨hl2, ws, e, hl3, w1⟩ := w1
      cases e
      obtain ⟨v, ws, rfl, w1⟩ := w1
      obtain ⟨v2, ws, rfl, rfl, w1⟩ := w1
      cases r1 with
      | cons r1 r2 => cases r2 with
        | cons r2 r3 =>
          cases r3
          exact ⟨_, _, rfl, q.nx _ _ _ _ _ w1 s1 R1 (((R.sr s1 S).set r1).set r2)⟩)
theorem cs_par3 (n l o : Nat) {n1 n2 n3 : Str} {k' kv : Nat} (hN : c.N.Nodup) (h1 : CE c a i) (h2 : CE c b j) (h3 : CE c d k)
    (hb : (c.N[n]? == some n1 && c.N[l]? == some n2 && c.N[o]? == some n3 && c.sc.names.lookup n1 == some .local && c.sc.names.lookup n2 == some .local && c.sc.names.lookup n3 == some .local && !(n2 == n1) && !(n3 == n1) && !(n3 == n2) && !(n == l) && !(n == o) && !(l == o) && !isStar a && !isStar b && !isStar d) = true)
    (hk : c.sc.kind = .function := by rfl) (hl : (p2.line == p.line) = true := by rfl) (hl3 : (p3.line == p.line) = true := by rfl)
    (hs : ([a, b, d].any fun | .Starred .. => true | _ => false) = false := by rfl) (hf : [a, b, d].all (foldedForSure 8) = false := by rfl) (hc : [a, b, d].all (constantsAlone 8) = false := by rfl)
    (hw : ∀ env : PySem.Env, swapsWithSole [.Tuple [.Name n1 p, .Name n2 p2, .Name n3 p3] k' p4] (.Tuple [a, b, d] kv p5) pos.line env = pure false := by intro _; rfl) :
    CS c (.Assign [.Tuple [.Name n1 p, .Name n2 p2, .Name n3 p3] k' p4] (.Tuple [a, b, d] kv p5) pos) (.asg (.tup [.name n, .name l, .name o]) (.call aTup [i, j, k])) := .mk fun sl hh D w m σ H D' R S q => by
  simp only [Bool.and_eq_true, Bool.not_eq_true', beq_eq_false_iff_ne, ne_eq] at hb
  obtain ⟨⟨⟨⟨⟨⟨⟨⟨⟨⟨⟨⟨⟨⟨b1, b2⟩, b3⟩, b4⟩, b5⟩, b6⟩, b7⟩, b8⟩, b9⟩, b10⟩, b11⟩, b12⟩, b13⟩, b14⟩, b15⟩ := hb
  have w : wpEs [i, j, k] sl hh (fun vs h1 => aTup vs h1 fun v h1 => wpG (.tup [.name n, .name l, .name o]) v sl h1 D.nx) := w
  exact wS_of (fun X hX => ps_par3 hX.calm (by rw [hX.N]; exact hN) (by rw [hX.N]; exact eq_of_beq b1) (by rw [hX.N]; exact eq_of_beq b2) (by rw [hX.N]; exact eq_of_beq b3) b10 b11 b12 (by rw [hX.sc]; exact eq_of_beq b4) (by rw [hX.sc]; exact eq_of_beq b5) (by rw [hX.sc]; exact eq_of_beq b6) (pa_w hX)
      (swap3 hk (eq_of_beq b4) (eq_of_beq b5) (eq_of_beq b6) hl hl3 (beq_eq_false_iff_ne.mpr b7) (beq_eq_false_iff_ne.mpr b8) (beq_eq_false_iff_ne.mpr b9) hs hf hc X.env hX.sc) (hw X.env))
    (ca_cons h1 (ca_cons h2 (ca_cons h3 ca_nil b15) b14) b13 sl hh _ w m σ H _ R S fun vs h1 m1 H1 us w1 s1 R1 r1 => by
      obtain ⟨hl2, ws, e, hl3, w1⟩ := w1
      cases e
      obtain ⟨v, ws, rfl, w1⟩ := w1
      obtain ⟨v2, ws, rfl, w1⟩ := w1
      obtain ⟨v3, ws, rfl, rfl, w1⟩ := w1
      obtain ⟨u1, u2, u3, rfl, r1, r2, r3⟩ := vrs3 r1
      exact ⟨_, _, _, rfl, q.nx _ _ _ _ _ w1 s1 R1 ((((R.sr s1 S).set r1).set r2).set r3)⟩)
theorem cs_exp (h : CE c e i) (hs : ∀ env : PySem.Env, swapsWith e none pos.line env = pure false := by intro _; rfl) : CS c (.Expr e pos) (.exp i) := .mk fun sl hh D w m σ H D' R S q =>
  wS_of (fun X hX => ps_expr (pe_w hX) (hs X.env)) (h sl hh _ w m σ H _ R S fun v h1 m1 H1 u w1 s1 R1 r1 => q.nx _ _ _ _ _ w1 s1 R1 (R.sr s1 S))
theorem cs_ret (h : CE c e i) : CS c (.Return (some e) pos) (.ret i) := .mk fun sl hh D w m σ H D' R S q =>
  wS_of (fun X hX => ps_ret (pe_w hX)) (h sl hh _ w m σ H _ R S fun v h1 m1 H1 u w1 s1 R1 r1 => q.rt _ _ _ _ _ w1 s1 R1 r1)
theorem cs_if (h : CT c tst t) (h1 : CSs c sts ss) (h2 : CSs c body rs) : CS c (.If tst sts body pos) (.iff t ss rs) := .mk fun sl hh D w m σ H D' R S q =>
  wS_of (fun X hX => ps_if (pt_w hX) (pss_w hX) (pss_w hX)) (h sl hh _ w m σ H _ R S fun k h' m1 H1 w1 s1 R1 => by
    cases k with
    | true => exact h1 sl h' D w1 m1 σ H1 D' R1 (R.sr s1 S) (q.on s1)
    | false => exact h2 sl h' D w1 m1 σ H1 D' R1 (R.sr s1 S) (q.on s1))
theorem passes {X : Cx} (hX : c.Has X) : PassesOwn (model X.prog X.w) X.A X.env X.xe := by rw [hX.xe]; exact PassesOwn.never
theorem cs_for {Ψ : ISp} (hi : CI c tg iter Ψ is) (hg : CG c tg g) (hb : CSs c body ss) (hf : ∀ (env : PySem.Env) x, foldedSetIterable iter env x = pure x := by intro _ _; rfl) : CS c (.For tg iter body [] pos) (.for g Ψ is ss) := .mk fun sl hh D w m σ H D' R S q =>
  wS_of (fun X hX => ps_for (passes hX) hX.calm (pi_w hX) (pg_w hX) (pss_w hX) (hf X.env)) (hi sl hh _ w m σ H _ R S fun J xs chk h1 m1 H1 w1 s1 R1 wk => by
    let bd : Val → Sl → AH → AE → Prop := fun v sl h D => wpG g v sl h fun sl1 h3 => wpSs ss sl1 h3 D
    have w1 : forW bd chk D xs sl h1 := w1
    refine ⟨fun n k σ2 H2 => n + k = xs.length ∧ ∃ sl2 h2 m2, forW bd chk D (xs.drop n) sl2 h2 ∧ Stp m1 H1 m2 H2 ∧ Rel c.g.K m2 h2 H2 ∧ SR c.g.K m2 H2 sl2 σ2, ⟨xs.length, by omega, sl, h1, m1, w1, Stp.rfl, R1, R.sr s1 S⟩, fun n k σ2 H2 hW => ?_⟩
    obtain ⟨hnk, sl2, h2, m2, w2, s2, R2, S2⟩ := hW
    have s02 := s1.trans s2
    by_cases hlt : n < xs.length
    · rw [List.drop_eq_getElem_cons hlt] at w2
      obtain ⟨ck, w2⟩ := w2
      obtain ⟨go, _, yld⟩ := wk m2 h2 H2 (R1.sta s2) R2 ck
      refine .inr ⟨go n hlt, fun σ' H' => ∃ sl2 h2 m2, forW bd chk D (xs.drop (n + 1)) sl2 h2 ∧ Stp m1 H1 m2 H' ∧ Rel c.g.K m2 h2 H' ∧ SR c.g.K m2 H' sl2 σ', fun σ' H' hN => ⟨k - 1, by omega, by omega, hN⟩, fun u H3 hy => ?_⟩
      obtain ⟨s3, R3, rv⟩ := yld n xs[n] u H3 (List.getElem?_eq_getElem hlt) hy
      refine hg _ _ h2 _ w2 m2 σ2 H3 u _ R3 (R2.sr s3 S2) rv fun sl4 h4 m4 σ4 H4 w4 s4 R4 S4 => ?_
      have s14 := (s2.trans s3).trans s4
      refine hb sl4 h4 _ w4 m4 σ4 H4 _ R4 S4 ⟨fun sl5 h5 m5 σ5 H5 w5 s5 R5 S5 => ⟨sl5, h5, m5, w5, s14.trans s5, R5, S5⟩, fun v h5 m5 H5 u5 w5 s5 R5 r5 => q.rt _ _ _ _ _ w5 ((s1.trans s14).trans s5) R5 r5, fun sl5 h5 m5 σ5 H5 w5 s5 R5 S5 => q.nx _ _ _ _ _ w5 ((s1.trans s14).trans s5) R5 S5, fun sl5 h5 m5 σ5 H5 w5 s5 R5 S5 => ⟨sl5, h5, m5, w5, s14.trans s5, R5, S5⟩⟩
    · have hn : xs.drop n = [] := List.drop_eq_nil_of_le (by omega)
      rw [hn] at w2
      obtain ⟨ck, w2⟩ := w2
      obtain ⟨_, stop, _⟩ := wk m2 h2 H2 (R1.sta s2) R2 ck
      have hn2 : n = xs.length := by omega
      exact .inl ⟨by rw [hn2]; exact stop, q.nx _ _ _ _ _ w2 s02 R2 S2⟩)
theorem cs_whl (h : CT c tst t) (hb : CSs c body ss) : CS c (.While tst body [] pos) (.whl t ss) := .mk fun sl hh D w m σ H D' R S q =>
  wS_of (fun X hX => ps_while (passes hX) (pt_w hX) (pss_w hX)) (by
    obtain ⟨n0, w⟩ := w
    refine ⟨fun n σ2 H2 => ∃ sl2 h2 m2, whlW (wpT t) (wpSs ss) D n sl2 h2 ∧ Stp m H m2 H2 ∧ Rel c.g.K m2 h2 H2 ∧ SR c.g.K m2 H2 sl2 σ2, ⟨n0, sl, hh, m, w, Stp.rfl, R, S⟩, fun n σ2 H2 hW => ?_⟩
    obtain ⟨sl2, h2, m2, w2, s2, R2, S2⟩ := hW
    cases n with
    | zero => exact w2.elim
    | succ n =>
      refine h sl2 h2 _ w2 m2 σ2 H2 _ R2 S2 fun k h3 m3 H3 w3 s3 R3 => ?_
      have s03 := s2.trans s3
      cases k with
      | true =>
        refine ⟨fun σ' H' => ∃ sl2 h2 m2, whlW (wpT t) (wpSs ss) D n sl2 h2 ∧ Stp m H m2 H' ∧ Rel c.g.K m2 h2 H' ∧ SR c.g.K m2 H' sl2 σ', fun σ' H' hN => ⟨n, Nat.lt_succ_self n, hN⟩, ?_⟩
        exact hb sl2 h3 _ w3 m3 σ2 H3 _ R3 (R2.sr s3 S2) ⟨fun sl5 h5 m5 σ5 H5 w5 s5 R5 S5 => ⟨sl5, h5, m5, w5, s03.trans s5, R5, S5⟩, fun v h5 m5 H5 u5 w5 s5 R5 r5 => q.rt _ _ _ _ _ w5 (s03.trans s5) R5 r5, fun sl5 h5 m5 σ5 H5 w5 s5 R5 S5 => q.nx _ _ _ _ _ w5 (s03.trans s5) R5 S5, fun sl5 h5 m5 σ5 H5 w5 s5 R5 S5 => ⟨sl5, h5, m5, w5, s03.trans s5, R5, S5⟩⟩
      | false => exact q.nx _ _ _ _ _ w3 s03 R3 (R2.sr s3 S2))
theorem cs_pass : CS c (.Pass pos) .pas := .mk fun sl hh D w m σ H D' R S q => wS_of (fun X hX => ps_pass) (q.nx _ _ _ _ _ w Stp.rfl R S)
theorem cs_brk : CS c (.Break pos) .brk := .mk fun sl hh D w m σ H D' R S q => wS_of (fun X hX => ps_break) (q.bk _ _ _ _ _ w Stp.rfl R S)
theorem cs_cnt : CS c (.Continue pos) .cnt := .mk fun sl hh D w m σ H D' R S q => wS_of (fun X hX => ps_continue) (q.ct _ _ _ _ _ w Stp.rfl R S)
end
/-! ### bodies of defs -/
def startA (n : Nat) (vs : List Val) : Sl := vs.map some ++ List.replicate (n - vs.length) none
theorem start_sr {K : PySem.W.Frag} {m : List Addr} {H : Hp} {N : List Str} {vs : List Val} {us : List V} (r : VRs K m H vs us) (h : vs.length ≤ N.length) : SR K m H (startA N.length vs) (L2.start N us) := by
  have hl := vrs_len r
  refine ⟨?_, fun i v e => ?_⟩
  · unfold startA L2.start
    simp; omega
  · unfold startA at e
    by_cases hi : i < vs.length
    · rw [List.getElem?_append_left (by simpa using hi), List.getElem?_map] at e
      cases q : vs[i]? with
      | none => rw [q] at e; cases e
      | some w =>
        rw [q] at e; cases e
        obtain ⟨u, h1, h2⟩ := vrs_get r q
        refine ⟨u, ?_, h2⟩
        unfold L2.start
        rw [List.getElem?_append_left (by simp; omega), List.getElem?_map, h1]; rfl
    · rw [List.getElem?_append_right (by simp; omega), List.getElem?_replicate] at e
      split at e <;> cases e
def cx0 (g : Gc) (N : List Str) (st : Stmt) (k : Nat) (gd : Bool) : Cc := ⟨g, N, defScope st, fun _ => true, k, gd⟩
section
variable {g : Gc} {N ps : List Str} {qual xn : Str} {st : Stmt} {n k : Nat} {f : Addr} {fd : FuncData} {sp : Sp} {Φ : ASp} {ss : List IS}
theorem cx0_has {cdv : Value} {A : Around} {outer : List PySem.Env} {s : Shared} {H : Hp} {E : XK} (hr : Room k (A.deeper (envOfC qual (defScope st) s.heap.objs.size f cdv))) (gd : Bool) (hg : gd = true → A.guards = some []) :
    (cx0 g N st k gd).Has (cxOf CX0 g.P g.w g.K g.mg g.base N qual (defScope st) f cdv A outer s H E).nox :=
  ⟨rfl, rfl, rfl, rfl, rfl, rfl, rfl, fun _ _ => rfl, rfl, hr, hg, rfl⟩
theorem fn_ok (F : Fun g.K xn qual st f fd) (S : FnScope N ps (defScope st)) (hn : ps.length = n) (hN : n ≤ N.length) (hc : CSs (cx0 g N st k false) (defBody st) ss)
    (w : ∀ vs h Q, Φ vs h Q → vs.length = n → wpSs ss (startA N.length vs) h { nx := fun _ h' => Q .non h', rt := Q }) : FnOk g.P g.w g.K g.mg g.base CX0 (k + 1) f fd ps (SpO g.K n Φ) := by
  refine F.ok S (fun vs H Q E h => by rw [hn]; exact h.1) fun cdv A outer s H us Qc E hr h => ?_
  obtain ⟨hl, m, h, vs, Q, R, r, w1, q⟩ := h
  have hvs : vs.length = n := by rw [← vrs_len r]; exact hl
  exact ⟨wSs (cx0 g N st k false) (defBody st), pss_w (cx0_has hr false (fun z => nomatch z)), hc _ h _ (w vs h Q w1 hvs) m _ H _ R (start_sr r (by omega)) ⟨fun _ h' m' σ' H' w2 s2 R2 _ => q .non h' m' H' .non w2 s2 R2 .non, fun v h' m' H' u w2 s2 R2 r2 => q v h' m' H' u w2 s2 R2 r2, fun _ _ _ _ _ w2 => w2.elim, fun _ _ _ _ _ w2 => w2.elim⟩⟩
/-- from the body -/
theorem fnG_ok (F : Fun g.K xn qual st f fd) (Sc : FnScope N ps (defScope st)) (ar : ∀ vs H Q E, sp vs H Q E → vs.length = ps.length)
    (body : ∀ (cdv : Value) (A : Around) (outer : List PySem.Env) (s : Shared) (H : Hp) (vs : List V) (Q : VK) (E : XK), A.guards = some [] → Room k (A.deeper (envOfC qual (defScope st) s.heap.objs.size f cdv)) → sp vs H Q E →
      ∃ t, PSs (cxOf CX0 g.P g.w g.K g.mg g.base N qual (defScope st) f cdv A outer s H E).nox (defBody st) t ∧ t { nx := fun _ H' => Q .non H', rt := Q } (L2.start N vs) H) : FnG g (k + 1) f fd ps sp := by
  refine ⟨ar, ?_⟩
  obtain ⟨oc, od, kV, doc, pm, an, cdv, ct, osl, e1, e2, e3⟩ := F.ex
  subst e1
  intro A outer s H args us vs Q E hgu room env0 bnd rel hs
  have nv := ar _ _ _ _ hs
  have kept : ∀ b o, g.base.get? b = some o → s.heap.get? b = some o := fun b o z => (env0.bs b o z).1
  have kin : g.K.In s.heap := env0.mod.kin.keeps kept
  have nolim : s.heap.NoLimit := env0.mod.nolimit.keeps kept
  refine codeAny_call_function room.depth (kin _ _ e2) rfl Sc.co Sc.gen rfl (PySem.W.codeRec_of kin e3) (bnd _ _ _ _ (wpAny_newFunctionEnv_cells Sc.kind ?hk fun env he s1 ic => ?go))
  case hk =>
    rintro ⟨m, v⟩ hy
    rcases Sc.par m (List.of_mem_zip hy).1 with q | q
    · exact Or.inl q
    · exact Or.inr ⟨q, PySem.W.cellsFrom_some _ _ _ (Or.inl q)⟩
  case go =>
    subst he
    refine ⟨nolim.keeps ic.toInCall.keep, codeAny_func ?_⟩
    obtain ⟨t, rd, ht⟩ := body cdv A outer s H vs Q E hgu (room.deeper _) hs
    refine wpAny_mono (rd.nox.run [] s1 (L2.start N vs) H _ (inv_start Sc room.hd env0 nv rel ic) ht) ?_ fun e s' z => z
    intro fl s' z
    cases fl with
    | next =>
      obtain ⟨σ', H', J, q⟩ := z
      exact ⟨V.non, H', J.os, J.bare, J.base, J.hok, rfl, q⟩
    | ret u =>
      obtain ⟨v, σ', H', J, rv, q⟩ := z
      exact ⟨v, H', J.os, J.bare, J.base, J.hok, rv, q⟩
    | brk => exact (let ⟨_, _, _, q⟩ := z; q : False).elim
    | cont => exact (let ⟨_, _, _, q⟩ := z; q : False).elim
theorem fnG_of (F : Fun g.K xn qual st f fd) (S : FnScope N ps (defScope st)) (hn : ps.length = n) (hN : n ≤ N.length) (hc : CSs (cx0 g N st k true) (defBody st) ss)
    (w : ∀ vs h Q, Φ vs h Q → vs.length = n → wpSs ss (startA N.length vs) h { nx := fun _ h' => Q .non h', rt := Q }) : FnG g (k + 1) f fd ps (SpO g.K n Φ) := by
  refine fnG_ok F S (fun vs H Q E h => by rw [hn]; exact h.1) fun cdv A outer s H us Qc E hgu hr h => ?_
  obtain ⟨hl, m, h, vs, Q, R, r, w1, q⟩ := h
  have hvs : vs.length = n := by rw [← vrs_len r]; exact hl
  exact ⟨wSs (cx0 g N st k true) (defBody st), pss_w (cx0_has hr true (fun _ => hgu)), hc _ h _ (w vs h Q w1 hvs) m _ H _ R (start_sr r (by omega)) ⟨fun _ h' m' σ' H' w2 s2 R2 _ => q .non h' m' H' .non w2 s2 R2 .non, fun v h' m' H' u w2 s2 R2 r2 => q v h' m' H' u w2 s2 R2 r2, fun _ _ _ _ _ w2 => w2.elim, fun _ _ _ _ _ w2 => w2.elim⟩⟩
end
/-! ### the law, from behind the top -/
/-- what the law promises -/
def aLaw : ASp := fun vs h Q => vs.length = 1 ∧ ∃ ns : List Int, vs = [.scr ns] ∧ ns.length ≤ 63 ∧ ∀ h', Q (.bl true) h'
section
variable {P : Program} {w : World} {K : PySem.W.Frag} {mg mb : Str → Option Value} {s : Shared} {a : Addr} {H : Hp}
/-- the script alone may be tracked, as it lies there -/
structure Top (K : PySem.W.Frag) (a : Addr) (o : Obj) (xs : List V) (H : Hp) : Prop where
  one : ∀ b u, H b = some u → b = a ∧ u = .frz o (.lst xs) ∧ K.lookup a = none
  seq : SqF K H a xs
theorem top_of (K : PySem.W.Frag) (a : Addr) (vs : List Value) (xs : List V) (hv : Vals xs vs) (hl : vs.length ≤ sizeLine) (hk : ∀ o, K.lookup a = some o → o = { cls := .type "list", data := .seq vs.toArray }) :
    ∃ H, Top K a { cls := .type "list", data := .seq vs.toArray } xs H := by
  cases e : K.lookup a with
  | some o =>
    have eo := hk o e
    subst eo
    exact ⟨fun _ => none, ⟨(fun b u z => nomatch z), Or.inr ⟨_, _, _, e, rfl, rfl, rfl, by simpa using hl, by simpa using hv⟩⟩⟩
  | none =>
    refine ⟨fun b => if b = a then some (.frz { cls := .type "list", data := .seq vs.toArray } (.lst xs)) else none, ⟨fun b u z => ?_, Or.inl ⟨_, if_pos rfl⟩⟩⟩
    by_cases q : b = a
    · have z := (if_pos q).symm.trans z
      exact ⟨q, (Option.some.inj z).symm, e⟩
    · have z := (if_neg q).symm.trans z
      cases z
theorem Top.env {o : Obj} {xs : List V} (T : Top K a o xs H) (ha : s.heap.get? a = some o) (hd : ∀ es ep, o.data ≠ .dict es ep) (hok : HOk P w H s.heap) (kin : K.In s.heap) (gl : s.heap.Ns mainGlobals mg) (bt : s.heap.Ns builtinsNs mb) (bb : ∀ x : Str, x ≠ "__name__" → mb x = bootBuiltins x) (nl : s.heap.NoLimit) (gs : s.gens = #[]) :
    Env0 P w K mg (hidT s.heap H) callerA [] s H := by
  have off : ∀ b ob, s.heap.get? b = some ob → (b = a → False) → (hidT s.heap H).get? b = some ob := fun b ob e1 e2 => hidT_get e1 (by
    cases q : H b with
    | none => rfl
    | some u => exact (e2 (T.one b u q).1).elim)
  have ns : ∀ (b : Addr) (m : Str → Option Value), s.heap.Ns b m → (hidT s.heap H).Ns b m := by
    rintro b m ⟨ob, es, ep, e1, e2, e3⟩
    refine ⟨ob, es, ep, off b ob e1 fun z => ?_, e2, e3⟩
    rw [z, ha] at e1
    cases e1
    exact hd _ _ e2
  refine ⟨rfl, ⟨fun b ob e1 => ?_, ns _ _ gl, ⟨mb, ns _ _ bt, bb⟩, ?_⟩, fun b ob e1 => of_hidT e1, Nat.le_of_eq (hidT_size _ _), trivial, fun b z => (List.not_mem_nil (show b ∈ ([] : List Addr) from z)).elim, hok, .of_eq gs⟩
  · refine hidT_get (kin b ob e1) ?_
    cases q : H b with
    | none => rfl
    | some u =>
      obtain ⟨q1, _, q2⟩ := T.one b u q
      rw [q1, q2] at e1
      cases e1
  · obtain ⟨mc, z1, z2⟩ := nl
    exact ⟨mc, ns _ _ z1, z2⟩
end
theorem walk_go {l : PySem.W.OpenLaw} {n k : Nat} {q : Program} {loose : List Str} {XP : (Str → Option Value) → Heap → Prop} {YP : World → Heap → Prop} {d : DefRec} {K : Params → PySem.W.Frag} {x : Str}
    (hn : l.most = some n) (hn2 : n ≤ 63) (hdf : d.params.defaults = []) (hr : Room k callerA) (hY : ∀ (w : World) (h : Heap), YP w h → (K w.params).In h)
    (F : ∀ (w : World) (mg : Str → Option Value) (fa : Addr) (h : Heap), (K w.params).In h → h.Ns mainGlobals mg → mg d.name = some (.ref fa) →
      ∃ fd : FuncData, (∀ (s : Shared) (u : Value), BindsTo s fd ⟨[u], []⟩ [(x, u)]) ∧ ∀ base : Heap, (K w.params).In base → base.Ns mainGlobals mg → FnG ⟨l.prog, w, K w.params, mg, base⟩ k fa fd [x] (SpO (K w.params) 1 aLaw)) :
    PySem.W.WalkO q loose XP YP l.row.toRowW d [] (fun f vs => PySem.call f vs) := by
  refine Att.attach_call hn hdf fun w s0 s mg mb fa ob pm cd doc a vs ns G Y ho hd hcd hmg hobj hints hlen hgen => ?_
  obtain ⟨fd, bnd, FG⟩ := F w mg fa s.heap (hY w _ Y) G.T.g hmg
  have rv := vals_ints hints
  have vl : vs.length = ns.length := hints.length
  obtain ⟨H, T⟩ := top_of (K w.params) a vs (ns.map V.int) rv (by have : (63 : Nat) ≤ sizeLine := by decide
                                                                  omega) (fun o e => Option.some.inj ((hY w _ Y a o e).symm.trans hobj))
  have hok : HOk l.prog w H s.heap := fun b u z => by
    obtain ⟨z1, z2, _⟩ := T.one b u z
    subst z1 z2
    exact ⟨hobj, by rw [List.length_map]; have : (63 : Nat) ≤ sizeLine := by decide
                    omega, vs, _, rv, hobj⟩
  have env := T.env hobj (fun es ep z => by cases z) hok (hY w _ Y) G.T.g G.T.b G.T.builtins G.T.nolimit hgen
  refine codeAny_mono ((FG _ env.mod.kin env.mod.glob).go callerA [] s H ⟨[.ref a], []⟩ [.ref a] [.ref a] (fun v _ => v = .bl true) E0 rfl hr env (bnd s _) (.cons rfl .nil) ⟨rfl, [], [], [.scr ns], fun v _ => v = .bl true, ⟨rfl, List.nodup_nil, fun i o e => by simp at e⟩, .cons (.scr T.seq) .nil, ⟨rfl, ns, rfl, by omega, fun _ => rfl⟩, fun v h' m' H' u e _ _ r => by subst e; cases r; rfl⟩) fun r s' z => ?_
  match r, z with
  | .error e, z => exact z.elim
  | .ok .next, z => exact False.elim z
  | .ok .brk, z => exact False.elim z
  | .ok .cont, z => exact False.elim z
  | .ok (.ret u), z =>
    obtain ⟨v, H', os, bare, un, hok', rl, qv⟩ := z
    subst qv
    have eu : u = Value.bool true := rl
    subst eu
    refine ⟨rfl, OldK.of_keep fun b o e => ?_, os, bare⟩
    cases qb : H b with
    | none => exact un.keep b o e qb (fun z => List.not_mem_nil (show b ∈ ([] : List Addr) from z)) (by simp)
    | some u =>
      obtain ⟨z1, z2, _⟩ := T.one b u qb
      subst z1 z2
      rw [hobj] at e
      cases e
      exact (hok' b _ (un.frzs b _ _ qb)).1
end Ev
/-! More of the language: membership, turned slices, zip, x += e, comprehensions of two sources, dicts written out. -/
namespace Ev
open PySem PySem.Spec PyProof.Rows L2 RZ
section
variable {c : Cc} {a b d e f tst tg iter elt : Expr} {es ifs tgs : List Expr} {i j k : IE} {is js : List IE} {t u : IT} {ts us : List IT} {g : IG} {gs : List IG} {pos p p1 p2 p3 p4 p5 : Pos} {st : Stmt} {sts body orelse : List Stmt} {x y : IS} {ss rs : List IS}
theorem cop_In : Cop c .In (aMem false) := cop_in (neg := false)
theorem cop_NotIn : Cop c .NotIn (aMem true) := cop_in (neg := true)
/-- zip of two lists, or of two tuples -/
def zipL (xs ys : List Val) : List Val := (List.zip xs ys).map fun q => .tup [q.1, q.2]
def wZip : ISp := fun vs h R => match vs with
  | [.tup xs, .tup ys] => R (zipL xs ys) nochk h
  | [.ref a, .ref b] => ∃ xs ys, h[a]? = some (.lst xs) ∧ h[b]? = some (.lst ys) ∧ R (zipL xs ys) (fun h' => h'[a]? = some (.lst xs) ∧ h'[b]? = some (.lst ys)) h
  | _ => False
theorem zipL_len (xs ys : List Val) : (zipL xs ys).length = min xs.length ys.length := by simp [zipL]
theorem zipL_get {xs ys : List Val} {i : Nat} {v : Val} (h : (zipL xs ys)[i]? = some v) : ∃ x y, xs[i]? = some x ∧ ys[i]? = some y ∧ v = .tup [x, y] := by
  unfold zipL at h
  rw [List.getElem?_map] at h
  obtain ⟨q, h1, h2⟩ := Option.map_eq_some_iff.mp h
  rw [List.getElem?_zip_eq_some] at h1
  exact ⟨q.1, q.2, h1.1, h1.2, h2.symm⟩
theorem wk_zipL {K : PySem.W.Frag} {m : List Addr} {h : AH} {H : Hp} {i j : Nat} {a b : Addr} {xs ys : List Val} (hi : m[i]? = some a) (hj : m[j]? = some b) : Wk K (Itz K a b) (zipL xs ys) (fun h' => h'[i]? = some (.lst xs) ∧ h'[j]? = some (.lst ys)) m H := fun m1 h1 H1 s R c => by
  obtain ⟨us, e1, e2⟩ := R.lst (s.pre _ _ hi) c.1
  obtain ⟨ws, e3, e4⟩ := R.lst (s.pre _ _ hj) c.2
  have hl := vrs_len e2
  have hl2 := vrs_len e4
  rw [zipL_len]
  refine ⟨fun k hk => ⟨us, ws, us[k]'(by omega), ws[k]'(by omega), .inl (.inl e1), .inl (.inl e3), by simp [show k < us.length by omega], by simp [show k < ws.length by omega]⟩, ⟨us, ws, .inl (.inl e1), .inl (.inl e3), by omega⟩, fun k v u H2 hv y => ?_⟩
  obtain ⟨T, x, z, rfl, n, rfl, y1, y2⟩ := y
  obtain ⟨w, h3, h4⟩ := vrs_getV e2 (y1 us (.inl (.inl e1)))
  obtain ⟨w2, h5, h6⟩ := vrs_getV e4 (y2 ws (.inl (.inl e3)))
  obtain ⟨x', z', h7, h8, rfl⟩ := zipL_get hv
  rw [h3] at h7; cases h7
  rw [h5] at h8; cases h8
  exact new_pair R n (.cons h4 (.cons h6 .nil))
theorem wk_zipT {K : PySem.W.Frag} {m : List Addr} {h : AH} {H : Hp} {a b : Addr} {xs ys : List Val} {us ws : List V} (R0 : Rel K m h H) (e : H a = some (.tup us)) (r : VRs K m H xs us) (e' : H b = some (.tup ws)) (r' : VRs K m H ys ws) : Wk K (ItzT K a b) (zipL xs ys) nochk m H := fun m1 h1 H1 s R c => by
  have e1 := s.tup _ _ e
  have e2 := vrs_sta s _ _ r
  have e3 := s.tup _ _ e'
  have e4 := vrs_sta s _ _ r'
  have hl := vrs_len e2
  have hl2 := vrs_len e4
  rw [zipL_len]
  refine ⟨fun k hk => ⟨us, ws, us[k]'(by omega), ws[k]'(by omega), .inl (.inl e1), .inl (.inl e3), by simp [show k < us.length by omega], by simp [show k < ws.length by omega]⟩, ⟨us, ws, .inl (.inl e1), .inl (.inl e3), by omega⟩, fun k v u H2 hv y => ?_⟩
  obtain ⟨T, x, z, rfl, n, rfl, y1, y2⟩ := y
  obtain ⟨w, h3, h4⟩ := vrs_getV e2 (y1 us (.inl (.inl e1)))
  obtain ⟨w2, h5, h6⟩ := vrs_getV e4 (y2 ws (.inl (.inl e3)))
  obtain ⟨x', z', h7, h8, rfl⟩ := zipL_get hv
  rw [h3] at h7; cases h7
  rw [h5] at h8; cases h8
  exact new_pair R n (.cons h4 (.cons h6 .nil))
theorem ci_zip {elts : List Expr} {kk : Nat} {tpos : Pos} (hm : c.g.mg "zip" = none) (h : CE c a i) (h2 : CE c b j) (hg : glB c "zip" = true := by rfl) (he : isStar a = false := by rfl) (he2 : isStar b = false := by rfl) : CI c (.Tuple elts kk tpos) (.Call (.Name "zip" p) [a, b] [] pos) wZip [i, j] := .mk fun sl hh R w m σ H Rc R0 S q =>
  wI_of (t := iZipA c.g.K (wA c [a, b])) (fun X hX => hX.K ▸ pi_zipA (hX.gl (gl_of hg).1) (by rw [hX.mg]; exact hm) (pa_w hX) (star_of he _) (nostar_any (by rw [List.all_cons, he2]; rfl) _)) (ca_cons h (ca_cons h2 ca_nil he2) he sl hh _ w m σ H _ R0 S fun vs h1 m1 H1 us w1 s1 R1 r1 => by
    have w1 : wZip vs h1 R := w1
    unfold wZip at w1
    split at w1
    · obtain ⟨u, x, rfl, r2, r3⟩ := vrs2 r1
      cases r2 with
      | tup e1 r2 => cases r3 with
        | tup e2 r3 => exact ⟨_, _, _, _, rfl, .inr ⟨.inl (.inl e1), .inl (.inl e2), q _ _ _ _ _ _ w1 s1 R1 (wk_zipT R1 e1 r2 e2 r3)⟩⟩
    · obtain ⟨u, x, rfl, r2, r3⟩ := vrs2 r1
      obtain ⟨xs, ys, e1, e2, w1⟩ := w1
      cases r2 with
      | ref hi => cases r3 with
        | ref hj =>
          obtain ⟨us, e3, _⟩ := R1.lst hi e1
          obtain ⟨ws, e4, _⟩ := R1.lst hj e2
          exact ⟨_, _, us, ws, rfl, .inl ⟨.inl (.inl e3), .inl (.inl e4), q _ _ _ _ _ _ w1 s1 R1 (wk_zipL (h := h1) hi hj)⟩⟩
    · exact w1.elim)
/-- x[::-1] of a list -/
def aRev : ASp := fun vs h Q => match vs with
  | [.ref a] => ∃ xs, h[a]? = some (.lst xs) ∧ Q (.ref h.length) (h ++ [.lst xs.reverse])
  | _ => False
theorem ce_rev {kk : Nat} (h1 : CE c a i) : CE c (.Subscript a (.Slice none none (some (.UnaryOp .USub (.Constant (.int 1) kk p1) p2)) p3) pos) (.call aRev [i]) := .mk fun sl h Q w m σ H Qc R S q =>
  wE_of (t := tRevL c.g.K (wE c a)) (fun X hX => hX.K ▸ pe_revL (pe_w hX)) (h1 sl h _ w m σ H _ R S fun v h' m1 H1 u w1 s1 R1 r1 => by
    have w1 : aRev [v] h' Q := w1
    unfold aRev at w1
    split at w1
    · rename_i z; cases z
      obtain ⟨xs, e, w1⟩ := w1
      cases r1 with
      | ref hi =>
        obtain ⟨us, e1, e2⟩ := R1.lst hi e
        exact ⟨_, us, rfl, .inl (.inl e1), fun r hn => (Kq.on q s1).lst R1 w1 (vrs_rev e2) hn⟩
    · exact w1.elim)
/-! ### the order of stores -/
def isSt : Expr → Bool
  | .Starred .. => true
  | _ => false
def swT (sc : Scope) (ts vs : List Expr) : Bool :=
  !(ts.length == 2 || ts.length == 3) || vs.length != ts.length ||
  (vs.any fun | .Starred .. => true | _ => false) ||
  (let line := (ts.head?.map (·.pos.line)).getD 0
   let names := ts.filterMap fun
     | .Name id pos => if sc.names.lookup id == some .local && pos.line == line then some id else none
     | _ => none
   names.length != ts.length || names.eraseDups.length != names.length) || vs.all (foldedForSure 8)
theorem sw_tt {tl vl : List Expr} {k kv : Nat} {q1 q2 : Pos} {env : PySem.Env} (h : swT env.scope tl vl = true) : swappedStores [.Tuple tl k q1] (.Tuple vl kv q2) env = pure none := by
  unfold swappedStores
  unfold swT at h
  simp only [Bool.or_eq_true] at h
  simp only []
  by_cases h1 : (!(tl.length == 2 || tl.length == 3) || vl.length != tl.length || env.blockKind != .function) = true
  · exact if_pos h1
  refine (if_neg h1).trans ?_
  by_cases h2 : (vl.any fun | .Starred .. => true | _ => false) = true
  · exact if_pos h2
  refine (if_neg h2).trans ?_
  rcases h with ((h | h) | h) | h
  · exact absurd (show (!(tl.length == 2 || tl.length == 3) || vl.length != tl.length || env.blockKind != .function) = true by simp only [Bool.or_eq_true]; exact .inl h) h1
  · exact absurd h h2
  · exact if_pos (by simp only [Bool.or_eq_true]; exact h)
  · by_cases h3 : ((List.filterMap (fun | .Name id pos => if env.kindOf id == some .local && pos.line == ((tl.head?.map (·.pos.line)).getD 0) then some id else none | _ => none) tl).length != tl.length || (List.filterMap (fun | .Name id pos => if env.kindOf id == some .local && pos.line == ((tl.head?.map (·.pos.line)).getD 0) then some id else none | _ => none) tl).eraseDups.length != (List.filterMap (fun | .Name id pos => if env.kindOf id == some .local && pos.line == ((tl.head?.map (·.pos.line)).getD 0) then some id else none | _ => none) tl).length) = true
    · exact if_pos h3
    · exact (if_neg h3).trans (if_pos h)
theorem cs_asgT {tl vl : List Expr} {k kv : Nat} {q1 q2 : Pos} (h : CE c (.Tuple vl kv q2) i) (hg : CG c (.Tuple tl k q1) g) (hb : swT c.sc tl vl = true) (hs : ∀ env : PySem.Env, swapsWithSole [.Tuple tl k q1] (.Tuple vl kv q2) pos.line env = pure false := by intro _; rfl)
    (h1 : ∀ env : PySem.Env, (assignEach [.Tuple tl k q1] env).map (·.2) = [assign (.Tuple tl k q1) env] := by intro _; rfl) : CS c (.Assign [.Tuple tl k q1] (.Tuple vl kv q2) pos) (.asg g i) := cs_asg h hg hs (fun env e => sw_tt (by rw [e]; exact hb)) h1
end
end Ev
/-! Comprehensions of two sources; d.get; x += e; dicts written out; what is new. -/
namespace Ev
open PySem PySem.Spec PyProof.Rows L2 RZ
section
variable {c : Cc} {a b d e f tst tg iter elt tg1 iter1 : Expr} {es ifs tgs : List Expr} {i j k : IE} {is js is1 : List IE} {t u : IT} {ts us : List IT} {g g1 : IG} {gs : List IG} {pos p p1 p2 p3 p4 p5 : Pos} {st : Stmt} {sts body orelse : List Stmt} {x y : IS} {ss rs : List IS}
theorem lc2_run {scope : Scope} {own own1 : List Nat} {l l1 : List Nat} {Ψ Ψ1 : ISp} (hi : CI c tg iter Ψ is) (hg : CGc (c.blk scope) tg g l) (hl : ∀ j ∈ l, j ∈ own) (hi1 : CI (c.blk scope) tg1 iter1 Ψ1 is1) (hg1 : CGc (c.blk scope) tg1 g1 l1) (hl1 : ∀ j ∈ l1, j ∈ own1)
    (hq : CQ (c.blk scope) ifs ts) (he : CE (c.blk scope) elt i) {sl : Sl} {h : AH} {Q : Val → AH → Prop} (w : wpE (.lc2 own own1 g Ψ is g1 Ψ1 is1 ts i) sl h Q) {m : List Addr} {σ : L2.St} {H : Hp} {Qc : VK} (R : Rel c.g.K m h H) (S : SR c.g.K m H sl σ) (q : Kq c.g.K m H Q Qc) :
    tLc2 (wI c tg iter) (wG (c.blk scope) tg) (wQ (c.blk scope) []) (wI (c.blk scope) tg1 iter1) (wG (c.blk scope) tg1) (wQ (c.blk scope) ifs) (wE (c.blk scope) elt) own own1 σ H Qc := by
  refine hi sl h _ w m σ H _ R S fun J xs chk h1 m1 H1 w1 s1 R1 wk D hD => ?_
  let inner : Sl → Val → AH → (List Val → AH → Prop) → Prop := fun sl' v1 h7 K1 => wpG g1 v1 (wipeS sl' own1) h7 fun sl2 h8 => wpQs ts sl2 h8 fun b h9 => if b = true then wpE i sl2 h9 fun r h10 => K1 [r] h10 else K1 [] h9
  let body : Val → AH → (List Val → AH → Prop) → Prop := fun v h3 K => wpG g v (wipeS sl own) h3 fun sl' h4 => wpEs is1 sl' h4 fun vs1 h5 => Ψ1 vs1 h5 fun xs1 chk1 h6 => lcW (inner sl') chk1 xs1 [] h6 K
  let Qf : List Val → AH → Prop := fun acc h3 => Q (.ref h3.length) (h3 ++ [.lst acc])
  have w1 : lcW body chk xs [] h1 Qf := w1
  have hD0 : H D = none := s1.back R1 hD
  have hDm : D ∉ m1 := R1.nnew hD
  have big : (2000000 : Nat) < sizeLine := by decide
  refine ⟨fun n k H2 => n + k = xs.length ∧ ∃ acc h2 m2, lcW body chk (xs.drop n) acc h2 Qf ∧ acc.length ≤ 1000000 ∧ Stp m1 H1 m2 H2 ∧ Rel c.g.K m2 h2 H2 ∧ Acc c.g.K D m2 H2 acc, ⟨xs.length, by omega, [], h1, m1, w1, Nat.zero_le _, ?_, ?_, ?_⟩, fun n k H2 hW => ?_⟩
  · exact (R1.aside hD _).1
  · exact (R1.aside hD _).2
  · exact ⟨hDm, [], upd_same, .nil⟩
  · obtain ⟨hnk, acc, h2, m2, w2, ha2, s2, R2, A2⟩ := hW
    by_cases hlt : n < xs.length
    · rw [List.drop_eq_getElem_cons hlt] at w2
      obtain ⟨ck, w2⟩ := w2
      obtain ⟨go, _, yld⟩ := wk m2 h2 H2 (R1.sta s2) R2 ck
      refine .inr ⟨go n hlt, fun H' => ∃ acc h2 m2, lcW body chk (xs.drop (n + 1)) acc h2 Qf ∧ acc.length ≤ 1000000 ∧ Stp m1 H1 m2 H' ∧ Rel c.g.K m2 h2 H' ∧ Acc c.g.K D m2 H' acc, fun H' hN => ⟨k - 1, by omega, by omega, hN⟩, fun u H3 hy => ?_⟩
      obtain ⟨s3, R3, rv⟩ := yld n xs[n] u H3 (List.getElem?_eq_getElem hlt) hy
      have S3 : SR c.g.K m2 H3 sl σ := R2.sr s3 (R1.sr s2 (R.sr s1 S))
      have A3 := A2.on R2 s3
      refine hg _ _ h2 _ w2 m2 (L2.wipe σ own) H3 u _ R3 (S3.wipe own) rv fun sl' σ' w3 S4 hw => ⟨?_, ?_⟩
      · rw [hw own hl, wipe_idem]
      · refine (cq_nil (c := c.blk scope)) sl' h2 (fun b h5 => b = true ∧ h5 = h2) ⟨rfl, rfl⟩ m2 σ' H3 _ R3 S4 fun b h5 m5 H5 w5 s5 R5 => ?_
        obtain ⟨rfl, rfl⟩ := w5
        have A5 := A3.on R3 s5
        have s15 := (s2.trans s3).trans s5
        show wI (c.blk scope) tg1 iter1 σ' H5 _
        refine hi1 sl' h5 _ w3 m5 σ' H5 _ R5 (R3.sr s5 S4) fun J1 xs1 chk1 h6 m6 H6 w6 s6 R6 wk1 => ?_
        have A6 := A5.on R5 s6
        have s16 := s15.trans s6
        have S6 : SR c.g.K m6 H6 sl' σ' := R5.sr s6 (R3.sr s5 S4)
        let K : List Val → AH → Prop := fun rs h' => (acc ++ rs).length ≤ 1000000 ∧ lcW body chk (xs.drop (n + 1)) (acc ++ rs) h' Qf
        have w6 : lcW (inner sl') chk1 xs1 [] h6 K := w6
        refine ⟨fun n1 k1 H' => n1 + k1 = xs1.length ∧ ∃ acc1 h2 m2, lcW (inner sl') chk1 (xs1.drop n1) acc1 h2 K ∧ acc1.length ≤ 1000000 ∧ Sta m6 H6 m2 H' ∧ Stp m1 H1 m2 H' ∧ Rel c.g.K m2 h2 H' ∧ SR c.g.K m2 H' sl' σ' ∧ Acc c.g.K D m2 H' (acc ++ acc1), ⟨xs1.length, by omega, [], h6, m6, w6, Nat.zero_le _, R6.sta Stp.rfl, s16, R6, S6, by rw [List.append_nil]; exact A6⟩, fun n1 k1 H7 hW1 => ?_⟩
        obtain ⟨hnk1, acc1, h7, m7, w7, ha7, s67, s17, R7, S7, A7⟩ := hW1
        by_cases hlt1 : n1 < xs1.length
        · rw [List.drop_eq_getElem_cons hlt1] at w7
          obtain ⟨ck1, w7⟩ := w7
          obtain ⟨go1, _, yld1⟩ := wk1 m7 h7 H7 s67 R7 ck1
          refine .inr ⟨go1 n1 hlt1, fun H' => ∃ acc1 h2 m2, lcW (inner sl') chk1 (xs1.drop (n1 + 1)) acc1 h2 K ∧ acc1.length ≤ 1000000 ∧ Sta m6 H6 m2 H' ∧ Stp m1 H1 m2 H' ∧ Rel c.g.K m2 h2 H' ∧ SR c.g.K m2 H' sl' σ' ∧ Acc c.g.K D m2 H' (acc ++ acc1), fun H' hN => ⟨k1 - 1, by omega, by omega, hN⟩, fun u1 H8 hy1 => ?_⟩
          obtain ⟨s8, R8, rv1⟩ := yld1 n1 xs1[n1] u1 H8 (List.getElem?_eq_getElem hlt1) hy1
          have A8 := A7.on R7 s8
          have S8 := R7.sr s8 S7
          refine hg1 _ _ h7 _ w7 m7 (L2.wipe σ' own1) H8 u1 _ R8 (S8.wipe own1) rv1 fun sl2 σ2 w9 S9 hw1 => ⟨?_, ?_⟩
          · rw [hw1 own1 hl1, wipe_idem]
          · refine hq sl2 h7 _ w9 m7 σ2 H8 _ R8 S9 fun b h9 m9 H9 w9 s9 R9 => ?_
            have A9 := A8.on R8 s9
            have t9 := s8.trans s9
            cases b with
            | true =>
              show wE (c.blk scope) elt σ2 H9 _
              refine he sl2 h9 _ w9 m9 σ2 H9 _ R9 (R8.sr s9 S9) fun r hA mA HA uA wA sA RA rA => ?_
              have AA := A9.on R9 sA
              have tA := t9.trans sA
              obtain ⟨us, eA, ru⟩ := AA.at_
              obtain ⟨RB, sB, AB⟩ := AA.push RA hD (s17.trans tA) rA us eA
              have hlen : us.length < sizeLine := by
                rw [vrs_len ru, List.length_append]
                have := wA.1
                rw [List.length_append, List.length_singleton] at this
                omega
              have st := (RA.asideW AA.nm eA (fun _ z => nomatch z) (fun _ _ z => nomatch z) (.lst (us ++ [uA]))).2
              have SA := R9.sr sA (R8.sr s9 S8)
              exact ⟨us, eA, hlen, acc1 ++ [r], hA, mA, wA.2, wA.1, (s67.trans (R7.sta tA)).trans st, sB, RB, ⟨SA.len, fun i v e => by
                    obtain ⟨u, z1, z2⟩ := SA.at_ i v e
                    exact ⟨u, z1, vr_sta st _ _ z2⟩⟩, by rw [← List.append_assoc]; exact AB⟩
            | false =>
              refine ⟨acc1, h9, m9, ?_, ha7, s67.trans (R7.sta t9), s17.trans t9, R9, R8.sr s9 S8, A9⟩
              have := w9.2
              rw [List.append_nil] at this
              exact this
        · have hn1 : xs1.drop n1 = [] := List.drop_eq_nil_of_le (by omega)
          rw [hn1] at w7
          obtain ⟨ck1, w7⟩ := w7
          obtain ⟨_, stop1, _⟩ := wk1 m7 h7 H7 s67 R7 ck1
          have hn2 : n1 = xs1.length := by omega
          exact .inl ⟨by rw [hn2]; exact stop1, acc ++ acc1, h7, m7, w7.2, w7.1, s17, R7, A7⟩
    · have hn : xs.drop n = [] := List.drop_eq_nil_of_le (by omega)
      rw [hn] at w2
      obtain ⟨ck, w2⟩ := w2
      obtain ⟨_, stop, _⟩ := wk m2 h2 H2 (R1.sta s2) R2 ck
      have hn2 : n = xs.length := by omega
      refine .inl ⟨by rw [hn2]; exact stop, ?_⟩
      obtain ⟨us, e2, ru⟩ := A2.at_
      have s := s1.trans s2
      exact q _ _ _ _ _ w2 (Stp.join hD0 s) (R2.join A2.nm e2 (o := .lst acc) ⟨us, rfl, ru⟩) (.ref (by rw [← R2.len]; simp))
theorem ce_lc2 {scope : Scope} (own : List (Str × Nat)) (own1 : List Nat) {l l1 : List Nat} {Ψ Ψ1 : ISp} (hNd : c.N.Nodup) (hi : CI c tg iter Ψ is) (hg : CGc (c.blk scope) tg g l) (hi1 : CI (c.blk scope) tg1 iter1 Ψ1 is1) (hg1 : CGc (c.blk scope) tg1 g1 l1) (hq : CQ (c.blk scope) ifs ts) (he : CE (c.blk scope) elt i)
    (ok : (blkC c.N c.sc scope own && (l.all fun j => (own.map (·.2)).contains j) && (l1.all fun j => own1.contains j) && (own1.all fun j => (own.map (·.2)).contains j)) = true)
    (hs : ∀ (env : PySem.Env) x, foldedSetIterable iter env x = pure x := by intro _ _; rfl) (hs1 : ∀ (env : PySem.Env) x, foldedSetIterable iter1 env x = pure x := by intro _ _; rfl) : CE c (.ListComp elt [⟨tg, iter, [], 0⟩, ⟨tg1, iter1, ifs, 0⟩] scope pos) (.lc2 (own.map (·.2)) own1 g Ψ is g1 Ψ1 is1 ts i) := .mk fun sl h Q w m σ H Qc R S q => by
  rw [Bool.and_eq_true, Bool.and_eq_true, Bool.and_eq_true] at ok
  obtain ⟨⟨⟨k1, k2⟩, k3⟩, k4⟩ := ok
  exact wE_of (fun X hX => pe_lc2 hX.calm (by rw [hX.N]; exact hNd) (pi_w hX) (by rw [hX.N, hX.sc]; exact blkOk_by k1) (fun j hj => by have := List.all_eq_true.mp k4 j hj; simpa using this) (fun s H C cl fp => pg_w (hX.blk scope s H C cl fp)) (fun s H C cl fp => pts_w (hX.blk scope s H C cl fp)) (fun s H C cl fp => pi_w (hX.blk scope s H C cl fp))
    (fun s H C cl fp => pg_w (hX.blk scope s H C cl fp)) (fun s H C cl fp => pts_w (hX.blk scope s H C cl fp)) (fun s H C cl fp => pe_w (hX.blk scope s H C cl fp)) (hs X.env) hs1)
    (lc2_run hi hg (fun j hj => by have := List.all_eq_true.mp k2 j hj; simpa using this) hi1 hg1 (fun j hj => by have := List.all_eq_true.mp k3 j hj; simpa using this) hq he w R S q)
end
end Ev
/-! Dicts: displays. -/
namespace Ev
open PySem PySem.Spec PyProof.Rows L2
theorem Stp.updp {m m' : List Addr} {H H' : Hp} (s : Stp m H m' H') {p : Addr} (hp : H p = none) (o : HO) : Stp m H m' (upd H' p o) := ⟨s.pre, fun a u e n => ⟨by
  rw [upd_ne (ne_of_none e hp)]; exact (s.fr a u e n).1, (s.fr a u e n).2⟩⟩
section
variable {c : Cc} {a b d e f tst tg iter elt : Expr} {es ifs tgs : List Expr} {i j k : IE} {is js : List IE} {pos p p1 p2 p3 : Pos}
/-- {k: v}, k an int or a text -/
def aDict1 : ASp := fun vs h Q => match vs with
  | [x, v] => ∃ k, keyOf x = some (.k k) ∧ Q (.ref h.length) (h ++ [.dct [(.k k, v)]])
  | _ => False
theorem keyOf_k {K : PySem.W.Frag} {m : List Addr} {H : Hp} {x : Val} {u : V} {k : Key} (e : keyOf x = some (.k k)) (r : VR K m H x u) : u = kV k := by
  cases x with
  | int i => cases e; cases r; rfl
  | str s => cases e; cases r; rfl
  | tup vs =>
    have e : (keysK vs).map DK.t = some (.k k) := e
    cases h : keysK vs <;> rw [h] at e <;> cases e
  | _ => cases e
theorem ce_dict1 (hk : CE c a i) (hv : CE c b j) : CE c (.Dict [some a] [b] pos) (.call aDict1 [i, j]) := .mk fun sl hh Q w m σ H Qc R S q =>
  wE_of (t := tDisp [(wE c a, wE c b)]) (fun X hX => pe_disp (pps_cons (pe_w hX) (pe_w hX) pps_nil) rfl rfl (by simp) (by simp)) (fun p n => by
    obtain ⟨s0, R0⟩ := R.aside n (.dK [])
    have hp := R.nnew n
    refine hk sl hh _ w m σ _ _ R0 (R.sr s0 S) fun v1 h1 m1 H1 u1 w1 s1 R1 r1 => hv sl h1 _ w1 m1 σ H1 _ R1 (R0.sr s1 (R.sr s0 S)) fun v2 h2 m2 H2 u2 w2 s2 R2 r2 => ?_
    have w2 : aDict1 [v1, v2] h2 Q := w2
    obtain ⟨kk, ek, w2⟩ := w2
    obtain ⟨e1, e2⟩ := (s1.trans s2).fr p _ upd_same hp
    have ku := keyOf_k ek r1
    subst ku
    refine ⟨e1, [(kk, u2)], rfl, by simp, ?_⟩
    obtain ⟨R3, st⟩ := R2.asideW e2 e1 (fun _ z => nomatch z) (fun _ _ z => nomatch z) (.dK [(kk, u2)])
    have R4 := R3.join (o := .dct [(.k kk, v2)]) e2 upd_same (.inl ⟨_, rfl, .cons (vr_sta st _ _ r2) .nil⟩)
    have sAll : Stp m H m2 H2 := (s0.trans s1).trans s2
    exact q _ _ _ _ _ w2 (Stp.join n (sAll.updp n _)) R4 (.ref (by rw [← R2.len]; simp)))
/-! ### x += e of ints -/
def aAddI : ASp := fun vs h Q => match vs with
  | [.int i, .int j] => Q (.int (i + j)) h
  | _ => False
def aSubI : ASp := fun vs h Q => match vs with
  | [.int i, .int j] => Q (.int (i - j)) h
  | _ => False
theorem cs_aug_Add (n : Nat) {x : Str} (hN : c.N.Nodup) (he : CE c e i) (hb : (c.sc.names.lookup x == some .local && c.N[n]? == some x) = true) : CS c (.AugAssign (.Name x p) .Add e pos) (.aug aAddI n i) := .mk fun sl hh D w m σ H D' R S q => by
  rw [Bool.and_eq_true] at hb
  have w : ∃ v, sl[n]? = some (some v) ∧ wpE i sl hh fun u h1 => aAddI [v, u] h1 fun w h2 => D.nx (sl.set n (some w)) h2 := w
  obtain ⟨v, ev, w⟩ := w
  obtain ⟨y, ey, ry⟩ := S.at_ n v ev
  refine wS_of (t := tAug n (wE c e) (ipI fun i j => i + j)) (fun X hX => ps_aug (by rw [hX.N]; exact hN) (by rw [hX.N]; exact eq_of_beq hb.2) (.inl (by rw [hX.sc]; exact eq_of_beq hb.1)) (pe_w hX) ip_add (.inr (by rw [hX.sc]; exact eq_of_beq hb.1))) ⟨y, ey, he sl hh _ w m σ H _ R S fun u h1 m1 H1 z w1 s1 R1 r1 => ?_⟩
  have ry := R.vr s1 ry
  cases v with
  | int a =>
    cases u with
    | int b =>
      cases ry; cases r1
      exact ⟨a, b, rfl, rfl, q.nx _ _ _ _ _ w1 s1 R1 ((R.sr s1 S).set (.int _))⟩
    | _ => exact w1.elim
  | _ => exact w1.elim
theorem cs_aug_Sub (n : Nat) {x : Str} (hN : c.N.Nodup) (he : CE c e i) (hb : (c.sc.names.lookup x == some .local && c.N[n]? == some x) = true) : CS c (.AugAssign (.Name x p) .Sub e pos) (.aug aSubI n i) := .mk fun sl hh D w m σ H D' R S q => by
  rw [Bool.and_eq_true] at hb
  have w : ∃ v, sl[n]? = some (some v) ∧ wpE i sl hh fun u h1 => aSubI [v, u] h1 fun w h2 => D.nx (sl.set n (some w)) h2 := w
  obtain ⟨v, ev, w⟩ := w
  obtain ⟨y, ey, ry⟩ := S.at_ n v ev
  refine wS_of (t := tAug n (wE c e) (ipI fun i j => i - j)) (fun X hX => ps_aug (by rw [hX.N]; exact hN) (by rw [hX.N]; exact eq_of_beq hb.2) (.inl (by rw [hX.sc]; exact eq_of_beq hb.1)) (pe_w hX) ip_sub (.inr (by rw [hX.sc]; exact eq_of_beq hb.1))) ⟨y, ey, he sl hh _ w m σ H _ R S fun u h1 m1 H1 z w1 s1 R1 r1 => ?_⟩
  have ry := R.vr s1 ry
  cases v with
  | int a =>
    cases u with
    | int b =>
      cases ry; cases r1
      exact ⟨a, b, rfl, rfl, q.nx _ _ _ _ _ w1 s1 R1 ((R.sr s1 S).set (.int _))⟩
    | _ => exact w1.elim
  | _ => exact w1.elim
end
end Ev
/-! is, is not of truths -/
namespace Ev
open PySem PySem.Spec PyProof.Rows L2
def aIsB (neg : Bool) : ASp := fun vs h Q => match vs with
  | [.bl a, .bl b] => Q (.bl (neg != (a == b))) h
  | _ => False
section
variable {K : PySem.W.Frag} {c : Cc}
theorem sop_isB : Sop K (aIsB false) (fun x y H Q => ∃ a b, x = .bl a ∧ y = .bl b ∧ Q (.bl (a == b)) H) := fun x y h Q m H v u Qc w R rx ry k => by
  unfold aIsB at w
  split at w
  · rename_i z; cases z; cases rx; cases ry
    exact ⟨_, _, rfl, rfl, k.here R (by simpa using w) (.bl _)⟩
  · exact w.elim
theorem sop_isnotB : Sop K (aIsB true) (fun x y H Q => ∃ a b, x = .bl a ∧ y = .bl b ∧ Q (.bl (!(a == b))) H) := fun x y h Q m H v u Qc w R rx ry k => by
  unfold aIsB at w
  split at w
  · rename_i z; cases z; cases rx; cases ry
    exact ⟨_, _, rfl, rfl, k.here R (by simpa using w) (.bl _)⟩
  · exact w.elim
theorem cop_isB : Cop c .Is (aIsB false) := ⟨_, fun X hX => op_isB, sop_isB⟩
theorem cop_isnotB : Cop c .IsNot (aIsB true) := ⟨_, fun X hX => op_isnotB, sop_isnotB⟩
end
end Ev
/-! Methods of dicts: get; list.insert. -/
namespace Ev
open PySem PySem.Spec PyProof.Rows L2
section
variable {c : Cc} {a b d e f : Expr} {es : List Expr} {i j k : IE} {is js : List IE} {pos p p1 p2 : Pos}
/-- a method of dicts -/
structure Dmt (c : Cc) (n : Str) (Φ : ASp) : Prop where
  go : ∃ (id : String) (r : V → List V → Hp → VK → Prop), PlainAttrs "dict" ∧ Slot "dict" n id ∧ typeOf (.builtin id) = pure (.type "method_descriptor") ∧ (∀ X, c.Has X → MtR X id r) ∧ Smt c.g.K Φ r
theorem Rel.dct {K : PySem.W.Frag} {m : List Addr} {h : AH} {H : Hp} (R : Rel K m h H) {i : Nat} {a : Addr} {kvs : List (DK × Val)} (hi : m[i]? = some a) (ho : h[i]? = some (.dct kvs)) : (∃ xs, H a = some (.dK xs)) ∨ ∃ xs, H a = some (.dT xs) := by
  obtain ⟨u, h1, h2⟩ := R.at_ hi ho
  rcases h2 with ⟨xs, rfl, _⟩ | ⟨xs, rfl, _⟩
  · exact .inl ⟨xs, h1⟩
  · exact .inr ⟨xs, h1⟩
theorem cmd {n : Str} {Φ : ASp} {apos cpos : Pos} (M : Dmt c n Φ) (h : CE c a i) (ha : CA c (e :: es) is) (hbase : ∀ env : PySem.Env, attributeBase a n env (eval a env) = eval a env := by intro _; rfl) (hline : (apos.endLine == cpos.line) = true := by rfl) (he : isStar e = false := by rfl) (hpl : es.all (fun x => !isStar x) = true := by rfl) (hl : es.length < 29 := by decide) :
    CE c (.Call (.Attribute a n apos) (e :: es) [] cpos) (.call Φ (.call aDc [i] :: is)) := .mk fun sl hh Q w m σ H Qc R S q => by
  obtain ⟨id, r, pa, sl', hty, hm, hs⟩ := M.go
  refine wE_of (t := tBM c.g.K "dict" r (wE c a) (wA c (e :: es))) (fun X hX => hX.K ▸ pe_bm pa sl' hty (hm X hX) (pe_w hX) (pa_w hX) (hbase _) (few_of he hpl hl) hline (star_of he _) (nostar_any hpl _)) (h sl hh _ w m σ H _ R S fun v h1 m1 H1 u w1 s1 R1 r1 => ?_)
  have w1 : aDc [v] h1 (fun x h2 => wpEs is sl h2 fun vs h3 => Φ (x :: vs) h3 Q) := w1
  unfold aDc at w1
  split at w1
  · rename_i z; cases z
    obtain ⟨⟨kvs, e1⟩, w1⟩ := w1
    cases r1 with
    | ref hi => exact ⟨.inr (.inr (.inl ⟨rfl, R1.dct hi e1⟩)), ha sl h1 _ w1 m1 σ H1 _ R1 (R.sr s1 S) fun vs h3 m2 H2 us w2 s2 R2 r2 => hs _ _ _ _ _ _ _ _ _ w2 R2 (R1.vr s2 (.ref hi)) r2 (Kq.on q (s1.trans s2))⟩
  · exact w1.elim
theorem cmd0 {n : Str} {Φ : ASp} {apos cpos : Pos} (M : Dmt c n Φ) (h : CE c a i) (hbase : ∀ env : PySem.Env, attributeBase a n env (eval a env) = eval a env := by intro _; rfl) (hline : (apos.endLine == cpos.line) = true := by rfl) :
    CE c (.Call (.Attribute a n apos) [] [] cpos) (.call Φ [.call aDc [i]]) := .mk fun sl hh Q w m σ H Qc R S q => by
  obtain ⟨id, r, pa, sl', hty, hm, hs⟩ := M.go
  refine wE_of (t := tBM0 c.g.K "dict" r (wE c a)) (fun X hX => hX.K ▸ pe_bm0 pa sl' hty (hm X hX) (pe_w hX) (hbase _) hline) (h sl hh _ w m σ H _ R S fun v h1 m1 H1 u w1 s1 R1 r1 => ?_)
  have w1 : aDc [v] h1 (fun x h2 => Φ [x] h2 Q) := w1
  unfold aDc at w1
  split at w1
  · rename_i z; cases z
    obtain ⟨⟨kvs, e1⟩, w1⟩ := w1
    cases r1 with
    | ref hi => exact ⟨.inr (.inr (.inl ⟨rfl, R1.dct hi e1⟩)), hs _ [] _ _ _ _ _ [] _ w1 R1 (.ref hi) .nil (Kq.on q s1)⟩
  · exact w1.elim
def rDGetE : V → List V → Hp → VK → Prop := fun x vs H Q => (∃ a y o, x = .ref a ∧ vs = [y] ∧ DGetE H a y o ∧ Q (o.getD .non) H) ∨ ∃ a y z o, x = .ref a ∧ vs = [y, z] ∧ DGetE H a y o ∧ Q (o.getD z) H
theorem mt_dget {X : Cx} (hu : X.A.units + 1 < cLine) : MtR X "dict.get" rDGetE := fun pins s σ H x xs v us Q I rx rs w => by
  rcases w with ⟨a, y, o, rfl, rfl, g, q⟩ | ⟨a, y, z, o, rfl, rfl, g, q⟩
  · cases (show v = Value.ref a from rx)
    cases rs with
    | cons r1 rs =>
      cases rs
      rcases g with g | ⟨e, rfl, ky⟩
      · exact d_get1 hu I g r1 fun w' s' I' rw' => ⟨_, H, I', rw', q⟩
      · obtain ⟨o1, _, g, I1, back⟩ := fits I e ky
        exact d_get1 hu I1 g r1 fun w' s' I' rw' => ⟨_, H, back s' I', rw', q⟩
  · cases (show v = Value.ref a from rx)
    cases rs with
    | cons r1 rs =>
      cases rs with
      | cons r2 rs =>
        cases rs
        rcases g with g | ⟨e, rfl, ky⟩
        · exact d_get2 hu I g r1 r2 fun w' s' I' rw' => ⟨_, H, I', rw', q⟩
        · obtain ⟨o1, _, g, I1, back⟩ := fits I e ky
          exact d_get2 hu I1 g r1 r2 fun w' s' I' rw' => ⟨_, H, back s' I', rw', q⟩
/-- d.get(k), d.get(k, x) -/
def aDGet : ASp := fun vs h Q => match vs with
  | [.ref a, y] => ∃ kvs k, h[a]? = some (.dct kvs) ∧ keyOf y = some k ∧ sorts kvs k ∧ Q ((dget kvs k).getD .non) h
  | [.ref a, y, z] => ∃ kvs k, h[a]? = some (.dct kvs) ∧ keyOf y = some k ∧ sorts kvs k ∧ Q ((dget kvs k).getD z) h
  | _ => False
theorem dmt_get : Dmt c "get" aDGet := ⟨_, _, PySem.F.plainAttrs_dict, PySem.F.slot_dict_get, PySem.F.type_dict_get, fun X hX => mt_dget hX.hu1, fun x vs h Q m H u us Qc w R rx rs k => by
  unfold aDGet at w
  split at w
  · rename_i z; cases z
    obtain ⟨y, rfl, r1⟩ := vrs1 rs
    obtain ⟨kvs, kk, e, hk, hs, w⟩ := w
    cases rx with
    | ref hi =>
      obtain ⟨o, g, ro⟩ := R.dgetE hi e r1 hk hs
      refine .inl ⟨_, y, o, rfl, rfl, g, k.here R w ?_⟩
      generalize dget kvs kk = g' at ro
      cases ro with
      | non => exact .non
      | som r => exact r
  · rename_i z; cases z
    obtain ⟨y, z, rfl, r1, r2⟩ := vrs2 rs
    obtain ⟨kvs, kk, e, hk, hs, w⟩ := w
    cases rx with
    | ref hi =>
      obtain ⟨o, g, ro⟩ := R.dgetE hi e r1 hk hs
      refine .inr ⟨_, y, z, o, rfl, rfl, g, k.here R w ?_⟩
      generalize dget kvs kk = g' at ro
      cases ro with
      | non => exact r2
      | som r => exact r
  · exact w.elim⟩
/-- l.insert(i, x) -/
def aInsert : ASp := fun vs h Q => match vs with
  | [.ref a, .int n, v] => ∃ xs, h[a]? = some (.lst xs) ∧ xs.length < 1000000 ∧ 0 ≤ n ∧ n < 2 ^ 63 ∧ Q .non (h.set a (.lst (xs.take n.toNat ++ [v] ++ xs.drop n.toNat)))
  | _ => False
theorem lmt_insert : Lmt c "insert" aInsert := ⟨_, _, PySem.F.plainAttrs_list, PySem.F.slot_list_insert, PySem.F.type_list_insert, fun X hX => mt_insert, fun x vs h Q m H u us Qc w R rx rs k => by
  unfold aInsert at w
  split at w
  · rename_i z; cases z
    obtain ⟨y, z, rfl, r1, r2⟩ := vrs2 rs
    obtain ⟨xs, e, hl, h0, h1, w⟩ := w
    cases r1
    cases rx with
    | ref hi =>
      obtain ⟨us, h2, h3⟩ := R.lst hi e
      exact ⟨_, us, _, z, rfl, rfl, h2, by rw [vrs_len h3]; exact Nat.lt_trans hl (by decide), h0, h1, k.wr R hi w (o := .lst (xs.take _ ++ [_] ++ xs.drop _)) ⟨_, rfl, vrs_app (vrs_app (vrs_take _ h3) (.cons r2 .nil)) (vrs_drop _ h3)⟩ .non⟩
  · exact w.elim⟩
end
end Ev
/-! Dict comprehensions of one source, keys ints or texts; dict(pairs). -/
namespace Ev
open PySem PySem.Spec PyProof.Rows L2
def dcW (body : Val → AH → (Option (DK × Val) → AH → Prop) → Prop) (chk : AH → Prop) : List Val → List (DK × Val) → AH → (List (DK × Val) → AH → Prop) → Prop
  | [], kvs, h, Q => chk h ∧ Q kvs h
  | v :: vs, kvs, h, Q => chk h ∧ body v h fun r h1 => match r with
    | some p => sorts kvs p.1 ∧ kvs.length < 1000000 ∧ dcW body chk vs (dput kvs p.1 p.2) h1 Q
    | none => dcW body chk vs kvs h1 Q
/-- {k: v for target in iter if ..}, keys ints or texts -/
def dcI (own : List Nat) (g : IG) (Ψ : ISp) (es : List IE) (ifs : List IT) (k v : IE) : IE := .ext fun sl h Q => wpEs es sl h fun vs h1 => Ψ vs h1 fun xs chk h2 =>
  dcW (fun u h3 K => wpG g u (wipeS sl own) h3 fun sl' h4 => wpQs ifs sl' h4 fun b h5 => if b = true then wpE k sl' h5 fun kv h6 => wpE v sl' h6 fun xv h7 => ∃ kk, keyOf kv = some (.k kk) ∧ K (some (.k kk, xv)) h7 else K none h5) chk xs [] h2 fun kvs h3 => Q (.ref h3.length) (h3 ++ [.dct kvs])
section
variable {c : Cc} {a b d e f tst tg iter kx vx : Expr} {es ifs : List Expr} {i j k : IE} {is js : List IE} {ts : List IT} {g : IG} {pos p p1 p2 : Pos}
structure AccD (K : PySem.W.Frag) (D : Addr) (m : List Addr) (H : Hp) (acc : List (DK × Val)) : Prop where
  nm : D ∉ m
  at_ : ∃ us, H D = some (.dK us) ∧ KRk K m H acc us
theorem AccD.on {K : PySem.W.Frag} {D : Addr} {m m1 : List Addr} {H H1 : Hp} {h : AH} {acc : List (DK × Val)} (A : AccD K D m H acc) (R : Rel K m h H) (s : Stp m H m1 H1) : AccD K D m1 H1 acc := by
  obtain ⟨us, e, r⟩ := A.at_
  exact ⟨(s.fr D _ e A.nm).2, us, (s.fr D _ e A.nm).1, krk_sta (R.sta s) r⟩
theorem AccD.push {K : PySem.W.Frag} {D : Addr} {m0 m : List Addr} {H0 H : Hp} {h : AH} {acc : List (DK × Val)} {k : Key} {v : Val} {u : V} (A : AccD K D m H acc) (R : Rel K m h H) (n0 : H0 D = none) (s0 : Stp m0 H0 m H) (r : VR K m H v u) :
    ∀ us, H D = some (.dK us) → Rel K m h (upd H D (.dK (putK us k u))) ∧ Stp m0 H0 m (upd H D (.dK (putK us k u))) ∧ AccD K D m (upd H D (.dK (putK us k u))) (dput acc (.k k) v) := fun us e => by
  obtain ⟨us', e', r'⟩ := A.at_
  rw [e] at e'; cases e'
  obtain ⟨R1, st⟩ := R.asideW A.nm e (fun _ z => nomatch z) (fun _ _ z => nomatch z) (.dK (putK us k u))
  refine ⟨R1, ⟨s0.pre, fun a o z n => ?_⟩, A.nm, _, upd_same, krk_sta st (krk_put r r')⟩
  have : a ≠ D := fun q => by rw [q, n0] at z; cases z
  rw [upd_ne this]
  exact s0.fr a o z n
theorem dc_run {scope : Scope} {own : List Nat} {l : List Nat} {Ψ : ISp} (hi : CI c tg iter Ψ is) (hg : CGc (c.blk scope) tg g l) (hl : ∀ j ∈ l, j ∈ own) (hq : CQ (c.blk scope) ifs ts) (hk : CE (c.blk scope) kx i) (he : CE (c.blk scope) vx j)
    {sl : Sl} {h : AH} {Q : Val → AH → Prop} (w : wpE (dcI own g Ψ is ts i j) sl h Q) {m : List Addr} {σ : L2.St} {H : Hp} {Qc : VK} (R : Rel c.g.K m h H) (S : SR c.g.K m H sl σ) (q : Kq c.g.K m H Q Qc) :
    tDc (wI c tg iter) (wG (c.blk scope) tg) (wQ (c.blk scope) ifs) (wE (c.blk scope) kx) (wE (c.blk scope) vx) own σ H Qc := by
  have w : wpEs is sl h fun vs h1 => Ψ vs h1 fun xs chk h2 => dcW (fun u h3 K => wpG g u (wipeS sl own) h3 fun sl' h4 => wpQs ts sl' h4 fun b h5 => if b = true then wpE i sl' h5 fun kv h6 => wpE j sl' h6 fun xv h7 => ∃ kk, keyOf kv = some (.k kk) ∧ K (some (.k kk, xv)) h7 else K none h5) chk xs [] h2 fun kvs h3 => Q (.ref h3.length) (h3 ++ [.dct kvs]) := w
  refine hi sl h _ w m σ H _ R S fun J xs chk h1 m1 H1 w1 s1 R1 wk D hD => ?_
  let body : Val → AH → (Option (DK × Val) → AH → Prop) → Prop := fun u h3 K => wpG g u (wipeS sl own) h3 fun sl' h4 => wpQs ts sl' h4 fun b h5 => if b = true then wpE i sl' h5 fun kv h6 => wpE j sl' h6 fun xv h7 => ∃ kk, keyOf kv = some (.k kk) ∧ K (some (.k kk, xv)) h7 else K none h5
  let Qf : List (DK × Val) → AH → Prop := fun kvs h3 => Q (.ref h3.length) (h3 ++ [.dct kvs])
  have w1 : dcW body chk xs [] h1 Qf := w1
  have hD0 : H D = none := s1.back R1 hD
  have hDm : D ∉ m1 := R1.nnew hD
  refine ⟨fun n k H2 => n + k = xs.length ∧ ∃ acc h2 m2, dcW body chk (xs.drop n) acc h2 Qf ∧ Stp m1 H1 m2 H2 ∧ Rel c.g.K m2 h2 H2 ∧ AccD c.g.K D m2 H2 acc, ⟨xs.length, by omega, [], h1, m1, w1, (R1.aside hD _).1, (R1.aside hD _).2, hDm, [], upd_same, .nil⟩, fun n k H2 hW => ?_⟩
  obtain ⟨hnk, acc, h2, m2, w2, s2, R2, A2⟩ := hW
  by_cases hlt : n < xs.length
  · rw [List.drop_eq_getElem_cons hlt] at w2
    obtain ⟨ck, w2⟩ := w2
    obtain ⟨go, _, yld⟩ := wk m2 h2 H2 (R1.sta s2) R2 ck
    refine .inr ⟨go n hlt, fun H' => ∃ acc h2 m2, dcW body chk (xs.drop (n + 1)) acc h2 Qf ∧ Stp m1 H1 m2 H' ∧ Rel c.g.K m2 h2 H' ∧ AccD c.g.K D m2 H' acc, fun H' hN => ⟨k - 1, by omega, by omega, hN⟩, fun u H3 hy => ?_⟩
    obtain ⟨s3, R3, rv⟩ := yld n xs[n] u H3 (List.getElem?_eq_getElem hlt) hy
    have S3 : SR c.g.K m2 H3 sl σ := R2.sr s3 (R1.sr s2 (R.sr s1 S))
    have A3 := A2.on R2 s3
    refine hg _ _ h2 _ w2 m2 (L2.wipe σ own) H3 u _ R3 (S3.wipe own) rv fun sl' σ' w3 S4 hw => ⟨by rw [hw own hl, wipe_idem], ?_⟩
    refine hq sl' h2 _ w3 m2 σ' H3 _ R3 S4 fun b h5 m5 H5 w5 s5 R5 => ?_
    have A5 := A3.on R3 s5
    have s15 := (s2.trans s3).trans s5
    cases b with
    | true =>
      show wE (c.blk scope) kx σ' H5 _
      refine hk sl' h5 _ w5 m5 σ' H5 _ R5 (R3.sr s5 S4) fun kv h6 m6 H6 u6 w6 s6 R6 r6 => ?_
      refine he sl' h6 _ w6 m6 σ' H6 _ R6 (R5.sr s6 (R3.sr s5 S4)) fun xv h7 m7 H7 u7 w7 s7 R7 r7 => ?_
      obtain ⟨kk, ek, w7⟩ := w7
      have A7 := (A5.on R5 s6).on R6 s7
      obtain ⟨us, e7, ru⟩ := A7.at_
      obtain ⟨R8, s8, A8⟩ := A7.push (k := kk) R7 hD ((s15.trans s6).trans s7) r7 us e7
      have hlen : us.length < sizeLine := by
        rw [krk_len ru]
        exact Nat.lt_of_lt_of_le w7.2.1 (show 1000000 ≤ sizeLine by decide)
      have ku := keyOf_k ek (R6.vr s7 r6)
      exact ⟨us, kk, ku, e7, hlen, _, h7, m7, w7.2.2, s8, R8, A8⟩
    | false => exact ⟨acc, h5, m5, w5, s15, R5, A5⟩
  · have hn : xs.drop n = [] := List.drop_eq_nil_of_le (by omega)
    rw [hn] at w2
    obtain ⟨ck, w2⟩ := w2
    obtain ⟨_, stop, _⟩ := wk m2 h2 H2 (R1.sta s2) R2 ck
    have hn2 : n = xs.length := by omega
    refine .inl ⟨by rw [hn2]; exact stop, ?_⟩
    obtain ⟨us, e2, ru⟩ := A2.at_
    have s := s1.trans s2
    exact q _ _ _ _ _ w2 (Stp.join hD0 s) (R2.join A2.nm e2 (o := .dct acc) (.inl ⟨us, rfl, ru⟩)) (.ref (by rw [← R2.len]; simp))
theorem ce_dc {scope : Scope} (own : List (Str × Nat)) {l : List Nat} {Ψ : ISp} (hNd : c.N.Nodup) (hi : CI c tg iter Ψ is) (hg : CGc (c.blk scope) tg g l) (hq : CQ (c.blk scope) ifs ts) (hk : CE (c.blk scope) kx i) (he : CE (c.blk scope) vx j) (ok : (blkC c.N c.sc scope own && l.all fun j => (own.map (·.2)).contains j) = true)
    (hs : ∀ (env : PySem.Env) x, foldedSetIterable iter env x = pure x := by intro _ _; rfl) : CE c (.DictComp kx vx [⟨tg, iter, ifs, 0⟩] scope pos) (dcI (own.map (·.2)) g Ψ is ts i j) := .mk fun sl h Q w m σ H Qc R S q => by
  rw [Bool.and_eq_true] at ok
  exact wE_of (fun X hX => pe_dc hX.calm (by rw [hX.N]; exact hNd) (pi_w hX) (by rw [hX.N, hX.sc]; exact blkOk_by ok.1) (fun s H C cl fp => pg_w (hX.blk scope s H C cl fp)) (fun s H C cl fp => pts_w (hX.blk scope s H C cl fp)) (fun s H C cl fp => pe_w (hX.blk scope s H C cl fp)) (fun s H C cl fp => pe_w (hX.blk scope s H C cl fp)) (hs X.env))
    (dc_run hi hg (fun j hj => by have := List.all_eq_true.mp ok.2 j hj; simpa using this) hq hk he w R S q)
/-! ### dict(pairs) -/
def dputs (kvs : List (DK × Val)) (ps : List (Int × Val)) : List (DK × Val) := ps.foldl (fun kvs p => dput kvs (.k (.inl p.1)) p.2) kvs
/-- dict of a list of pairs, the first an int -/
def aDictP : ASp := fun vs h Q => match vs with
  | [.ref a] => ∃ ps : List (Int × Val), h[a]? = some (.lst (ps.map fun p => .tup [.int p.1, p.2])) ∧ Q (.ref h.length) (h ++ [.dct (dputs [] ps)])
  | _ => False
theorem pairs_vr {K : PySem.W.Frag} {m : List Addr} {H : Hp} : ∀ {ps : List (Int × Val)} {us : List V}, VRs K m H (ps.map fun p => .tup [.int p.1, p.2]) us →
    ∃ (as : List Addr) (kvs : List (Key × V)), us = as.map V.ref ∧ Paired (fun p kv => SqT K H p [kV kv.1, kv.2]) as kvs ∧ ∀ {xs : List (DK × Val)} {ys : List (Key × V)}, KRk K m H xs ys → KRk K m H (dputs xs ps) (mergeK ys kvs)
  | [], us, r => by cases r; exact ⟨[], [], rfl, .nil, fun h => h⟩
  | p :: ps, us, r => by
    cases r with
    | cons r1 r2 =>
      obtain ⟨as, kvs, rfl, pr, hm⟩ := pairs_vr r2
      cases r1 with
      | @tup a us _ e r1 =>
        obtain ⟨u, x, rfl, h1, h2⟩ := vrs2 r1
        cases h1
        exact ⟨a :: as, (.inl p.1, x) :: kvs, rfl, .cons (.inl (.inl e)) pr, fun h => hm (krk_put h2 h)⟩
theorem blt_dict : Blt c "dict" aDictP := ⟨.inr ⟨"dict", _, fun X hX => hX.K ▸ call_dictP hX.calm, fun vs h Q m H us Qc w R r k => by
  unfold aDictP at w
  split at w
  · obtain ⟨u, rfl, r1⟩ := vrs1 r
    obtain ⟨ps, e, w⟩ := w
    cases r1 with
    | ref hi =>
      obtain ⟨us, h1, h2⟩ := R.lst hi e
      obtain ⟨as, kvs, rfl, pr, hm⟩ := pairs_vr h2
      exact ⟨_, as, kvs, rfl, .inl (.inl h1), pr, fun p n => k.new R w (o := .dct (dputs [] ps)) (.inl ⟨_, rfl, hm .nil⟩) n⟩
  · exact w.elim, by decide +kernel⟩⟩
/-! ### x = {.. for ..} -/
theorem sw_dict {gs : List Comprehension} {scope : Scope} {pos py : Pos} {y : Str} {l : Nat} {env : PySem.Env} (h1 : env.scope.kind = .function) (h2 : env.scope.names.lookup y = some .local) (h3 : (py.line == pos.line) = true) (h4 : (scope.names.any fun (n, k) => n == y && (k == .local || k == .cell)) = false) :
    swapsWith (.DictComp kx vx gs scope pos) (some (.Name y py)) l env = pure true := by
  have b1 : env.blockKind = .function := by unfold Env.blockKind; rw [h1]; rfl
  have b2 : env.kindOf y = some .local := h2
  unfold swapsWith
  simp only [b1, b2, h4, Expr.pos, h3]; rfl
theorem ps_setDc {X : Cx} {n : Nat} {y : Str} {py spos : Pos} {scope : Scope} {own : List (Str × Nat)} {wi : TI} {gg : TG} {tt : TT} {tk tv : TE} (hc : X.calm = true) (hN : X.N.Nodup) (hy : X.N[n]? = some y) (hl : X.env.scope.names.lookup y = some .local)
    (hsw : swapsWith (.DictComp kx vx [⟨tg, iter, ifs, 0⟩] scope pos) (some (.Name y py)) spos.line X.env = pure true) (hi : PI X tg iter wi) (ok : BlkOk X.N X.env.scope scope own)
    (hg : ∀ (s : Shared) (H : Hp) (C : Addr) (cl : List (Str × Addr)) (fp : List Addr), PG (X.blk s H scope (compEnvC scope cl C X.env) fp) tg gg)
    (ht : ∀ (s : Shared) (H : Hp) (C : Addr) (cl : List (Str × Addr)) (fp : List Addr), PTs (X.blk s H scope (compEnvC scope cl C X.env) fp) ifs tt)
    (hk : ∀ (s : Shared) (H : Hp) (C : Addr) (cl : List (Str × Addr)) (fp : List Addr), PE (X.blk s H scope (compEnvC scope cl C X.env) fp) kx tk)
    (hv : ∀ (s : Shared) (H : Hp) (C : Addr) (cl : List (Str × Addr)) (fp : List Addr), PE (X.blk s H scope (compEnvC scope cl C X.env) fp) vx tv) (hs : ∀ x, foldedSetIterable iter X.env x = pure x) :
    PS X (.Assign [.Name y py] (.DictComp kx vx [⟨tg, iter, ifs, 0⟩] scope pos) spos) (tAsg (tDc wi gg tt tk tv (own.map (·.2))) (gName n)) := by
  refine ⟨fun pins s σ H D I w => ?_⟩
  rw [exec_Assign_Name_used _ _ _ _ hsw]
  refine wpAny_bind (wpAny_standAt (wpAny_bind ?_))
  show wpAny _ X.A (do let _ ← comprehension (.DictComp kx vx [⟨tg, iter, ifs, 0⟩] scope pos) scope X.env (firstIterPos [⟨tg, iter, ifs, 0⟩] pos) newDict false (eval iter X.env) (some (assign (.Name y py) X.env))) _ _ s
  have w : tDc wi gg tt tk tv (own.map (·.2)) σ H (fun x H1 => gName n x σ H1 D.nx) := w
  refine wpAny_bind (thn (dc_core (Qf := fun _ s' => SP X pins D .next s') hc hN I hi ok hg ht hk hv hs w fun L C s' m H' I' q hn f => ?_) fun _ s' hq => wpAny_pure (wpAny_pure hq))
  show wpAny _ _ (assign (.Name y py) X.env (.ref L)) _ _ _
  refine wpAny_assign_Name (store_ok2 (v := V.ref L) I' hN hy (.inl hl) rfl (fun s2 I2 ⟨a, sb, ha⟩ => ?_) (.inr hl))
  obtain ⟨f0, f1, f2, f3, f4, f5⟩ := f
  have haC : C ≠ a := ha.elim (fun z => z ▸ f1) fun z e => f4 y a z e.symm
  exact ⟨m, hn.sameBut sb haC, fun h3 sb3 => ⟨_, H', I2.turned (t' := s2.toks) (fun b o hb e => (sb3.2 b hb).trans e) f0 f1 f3 f4 f5, q⟩⟩
theorem cs_setDc (n : Nat) {nm : Str} {lpos : Pos} {scope : Scope} (own : List (Str × Nat)) {l : List Nat} {Ψ : ISp} (hNd : c.N.Nodup) (hi : CI c tg iter Ψ is) (hg : CGc (c.blk scope) tg g l) (hq : CQ (c.blk scope) ifs ts) (hk : CE (c.blk scope) kx i) (he : CE (c.blk scope) vx j)
    (ok : (blkC c.N c.sc scope own && l.all fun j => (own.map (·.2)).contains j) = true) (hx : (c.sc.names.lookup nm == some .local && c.N[n]? == some nm) = true) (hkd : c.sc.kind = .function := by rfl) (hl : (p2.line == lpos.line) = true := by rfl)
    (hnot : (scope.names.any fun (m, k) => m == nm && (k == .local || k == .cell)) = false := by decide +kernel) (hs : ∀ (env : PySem.Env) x, foldedSetIterable iter env x = pure x := by intro _ _; rfl) :
    CS c (.Assign [.Name nm p2] (.DictComp kx vx [⟨tg, iter, ifs, 0⟩] scope lpos) pos) (.asg (.name n) (dcI (own.map (·.2)) g Ψ is ts i j)) := .mk fun sl hh D w m σ H D' R S q => by
  rw [Bool.and_eq_true] at ok hx
  have w : wpE (dcI (own.map (·.2)) g Ψ is ts i j) sl hh (fun v h1 => D.nx (sl.set n (some v)) h1) := w
  exact wS_of (fun X hX => ps_setDc hX.calm (by rw [hX.N]; exact hNd) (by rw [hX.N]; exact eq_of_beq hx.2) (by rw [hX.sc]; exact eq_of_beq hx.1) (sw_dict (by rw [hX.sc]; exact hkd) (by rw [hX.sc]; exact eq_of_beq hx.1) hl hnot) (pi_w hX) (by rw [hX.N, hX.sc]; exact blkOk_by ok.1)
      (fun s H C cl fp => pg_w (hX.blk scope s H C cl fp)) (fun s H C cl fp => pts_w (hX.blk scope s H C cl fp)) (fun s H C cl fp => pe_w (hX.blk scope s H C cl fp)) (fun s H C cl fp => pe_w (hX.blk scope s H C cl fp)) (hs X.env))
    (show tDc _ _ _ _ _ _ σ H _ from dc_run hi hg (fun j hj => by have := List.all_eq_true.mp ok.2 j hj; simpa using this) hq hk he w R S fun v h1 m1 H1 u w1 s1 R1 r1 => q.nx _ _ _ _ _ w1 s1 R1 ((R.sr s1 S).set r1))
/-- x = {.. for ..}, x a cell of the def -/
theorem sw_cellD {gs : List Comprehension} {scope : Scope} {y : Str} {l : Nat} {env : PySem.Env} (h : env.scope.names.lookup y = some .cell) : swapsWithSole [.Name y p2] (.DictComp kx vx gs scope pos) l env = pure false := by
  have b : env.kindOf y = some .cell := h
  show swapsWith (.DictComp kx vx gs scope pos) (some (.Name y p2)) l env = pure false
  unfold swapsWith
  simp only [b]
  rw [show (some NameKind.cell == some NameKind.local) = false from rfl]
  simp only [Bool.and_false, Bool.false_and]
theorem cs_cellD {gs : List Comprehension} {scope : Scope} {nm : Str} {lpos : Pos} (h : CE c (.DictComp kx vx gs scope lpos) i) (hg : CG c (.Name nm p2) g) (hb : (c.sc.names.lookup nm == some .cell) = true) (hw : ∀ env : PySem.Env, env.scope = c.sc → swappedStores [.Name nm p2] (.DictComp kx vx gs scope lpos) env = pure none := by intro _ _; rfl)
    (h1 : ∀ env : PySem.Env, (assignEach [.Name nm p2] env).map (·.2) = [assign (.Name nm p2) env] := by intro _; rfl) : CS c (.Assign [.Name nm p2] (.DictComp kx vx gs scope lpos) pos) (.asg g i) := .mk fun sl hh D w m σ H D' R S q =>
  wS_of (fun X hX => ps_asg (pe_w hX) (pg_w hX) (sw_cellD (by rw [hX.sc]; exact eq_of_beq hb)) (hw X.env hX.sc) (h1 X.env)) (h sl hh _ w m σ H _ R S fun v h1 m1 H1 u w1 s1 R1 r1 => hg v sl h1 _ w1 m1 σ H1 u _ R1 (R.sr s1 S) r1 fun sl2 h2 m2 σ2 H2 w2 s2 R2 S2 => q.nx _ _ _ _ _ w2 (s1.trans s2) R2 S2)
theorem sw_cellL {elt : Expr} {gs : List Comprehension} {scope : Scope} {y : Str} {l : Nat} {env : PySem.Env} (h : env.scope.names.lookup y = some .cell) : swapsWithSole [.Name y p2] (.ListComp elt gs scope pos) l env = pure false := by
  have b : env.kindOf y = some .cell := h
  show swapsWith (.ListComp elt gs scope pos) (some (.Name y p2)) l env = pure false
  unfold swapsWith
  simp only [b]
  rw [show (some NameKind.cell == some NameKind.local) = false from rfl]
  simp only [Bool.and_false, Bool.false_and]
theorem cs_cellL {elt : Expr} {gs : List Comprehension} {scope : Scope} {nm : Str} {lpos : Pos} (h : CE c (.ListComp elt gs scope lpos) i) (hg : CG c (.Name nm p2) g) (hb : (c.sc.names.lookup nm == some .cell) = true) (hw : ∀ env : PySem.Env, env.scope = c.sc → swappedStores [.Name nm p2] (.ListComp elt gs scope lpos) env = pure none := by intro _ _; rfl)
    (h1 : ∀ env : PySem.Env, (assignEach [.Name nm p2] env).map (·.2) = [assign (.Name nm p2) env] := by intro _; rfl) : CS c (.Assign [.Name nm p2] (.ListComp elt gs scope lpos) pos) (.asg g i) := .mk fun sl hh D w m σ H D' R S q =>
  wS_of (fun X hX => ps_asg (pe_w hX) (pg_w hX) (sw_cellL (by rw [hX.sc]; exact eq_of_beq hb)) (hw X.env hX.sc) (h1 X.env)) (h sl hh _ w m σ H _ R S fun v h1 m1 H1 u w1 s1 R1 r1 => hg v sl h1 _ w1 m1 σ H1 u _ R1 (R.sr s1 S) r1 fun sl2 h2 m2 σ2 H2 w2 s2 R2 S2 => q.nx _ _ _ _ _ w2 (s1.trans s2) R2 S2)
end
end Ev
/-! Dict comprehensions of two sources, keys ints, texts or tuples of such. -/
namespace Ev
open PySem PySem.Spec PyProof.Rows L2
/-! ### a key put, whatever its form -/
section
variable {X : Cx} {pins : List (Addr × Obj)} {σ : L2.St} {H H' : Hp} {s : Shared} {a : Addr} {y v : V} {u r : Value} {E : Value → Shared → Prop} {Q : Unit → Shared → Prop}
theorem put_t (hu : X.A.units + 1 < cLine) (I : Inv X pins σ H s) {kvs : List (List Key × V)} {k : List Key} {b : Addr} (e : H a = some (.dT kvs)) (eb : H b = some (.tup (k.map kV))) (l : kvs.length < sizeLine) (rv : RelV v r) (h : ∀ s', Inv X pins σ (upd H a (.dT (putK kvs k v))) s' → Q () s') :
    wpAny (model X.prog X.w) X.A (dictSet a (.ref b) r) Q E s := by
  obtain ⟨z, hd, xs, rel, dd⟩ := dt_of I.hok e
  have hz : xs.length ≤ sizeLine := by rw [← Paired.length rel]; exact z
  have hl : (putK kvs k v).length ≤ sizeLine := by have := length_putK kvs k v; omega
  refine wpAny_dictSet_heap (hsz := hz) (show X.A.units < cLine from Nat.lt_of_succ_lt hu) (key_of I.hok eb) dd fun h' dd' hs => h _ ?_
  obtain ⟨q, es, ep, hq, h2, h3, h4, _, h5⟩ := dd'
  refine d_write I (by rw [e]; exact True.intro) hs ⟨q, hq⟩ ⟨hl, hd, _, (rel.put k eb rv).keeps fun c ys ec => ?_, q, es, ep, hq, h2, h3, h4, h5⟩
  rw [upd_ne (ne_of ec e (fun z => nomatch z))]
  exact ec
theorem put_E (hu : X.A.units + 1 < cLine) (I : Inv X pins σ H s) (g : DPutE H a y v H') (ry : RelV y u) (rv : RelV v r) (h : ∀ s', Inv X pins σ H' s' → Q () s') : wpAny (model X.prog X.w) X.A (dictSet a u r) Q E s := by
  rcases g with (⟨kvs, k, e, rfl, l, rfl⟩ | ⟨kvs, k, b, e, rfl, eb, l, rfl⟩) | ⟨e, ⟨k, rfl, rfl⟩ | ⟨b, ks, rfl, eb, rfl⟩⟩
  · exact d_dictSet I e l ry rv h
  · cases (show u = Value.ref b from ry)
    exact put_t hu I e eb l rv h
  · have I1 := conv_inv I e (.dK []) (.inl rfl)
    exact d_dictSet I1 upd_same (by decide) ry rv fun s' I' => h s' (by rw [upd_upd] at I'; exact I')
  · cases (show u = Value.ref b from ry)
    have I1 := conv_inv I e (.dT []) (.inr rfl)
    have hb : b ≠ a := fun z => by subst z; rcases e with e | e <;> (rw [eb] at e; cases e)
    exact put_t hu I1 upd_same (by rw [upd_ne hb]; exact eb) (by decide) rv fun s' I' => h s' (by rw [upd_upd] at I'; exact I')
end
/-! ### the two loops -/
section
theorem turnD_out (kx vx t0 i0 t1 i1 : Expr) (ifs0 ifs1 : List Expr) (scope : Scope) (pos : Pos) (it acc : Value) (env : Env) :
    compTurn (.DictComp kx vx [⟨t0, i0, ifs0, 0⟩, ⟨t1, i1, ifs1, 0⟩] scope pos) 0 it acc env = (do
      standAt i0.pos
      match ← pyNext it with
      | none => pure (.done .next)
      | some v =>
        letOwnedTupleGo t0 it v
        assign t0 env v
        let mut ok := true
        for c in ifs0 do
          if ok then ok ← isTrue c env (eval c env)
        if ok then
          let x ← eval i1 env
          standAt i1.pos
          let x ← foldedSetIterable i1 env x
          let _ ← runOwn (.compStart (.DictComp kx vx [⟨t0, i0, ifs0, 0⟩, ⟨t1, i1, ifs1, 0⟩] scope pos) 1 (← holding [x] (pyIter x)) acc env) env
        again (.compLoop (.DictComp kx vx [⟨t0, i0, ifs0, 0⟩, ⟨t1, i1, ifs1, 0⟩] scope pos) 0 it acc env)) := by rfl
theorem turnD_in (kx vx t0 i0 t1 i1 : Expr) (ifs0 ifs1 : List Expr) (scope : Scope) (pos : Pos) (it : Value) (D : Addr) (env : Env) :
    compTurn (.DictComp kx vx [⟨t0, i0, ifs0, 0⟩, ⟨t1, i1, ifs1, 0⟩] scope pos) 1 it (.ref D) env = (do
      standAt i1.pos
      match ← pyNext it with
      | none => pure (.done .next)
      | some v =>
        letOwnedTupleGo t1 it v
        assign t1 env v
        let mut ok := true
        for c in ifs1 do
          if ok then ok ← isTrue c env (eval c env)
        if ok then
          (do
            let kv ← eval kx env
            let vv ← holding [kv] (eval vx env)
            standAt { kx.pos with endLine := vx.pos.endLine, endCol := vx.pos.endCol }
            holding [kv, vv] (dictSet D kv vv))
        again (.compLoop (.DictComp kx vx [⟨t0, i0, ifs0, 0⟩, ⟨t1, i1, ifs1, 0⟩] scope pos) 1 it (.ref D) env)) := by rfl
variable {prog : Program} {w : World} {A : Around} {R : Result → Shared → Prop} {s : Shared} {kx vx t0 i0 t1 i1 : Expr} {ifs0 ifs1 : List Expr} {scope : Scope} {pos : Pos} {it acc : Value} {D : Addr} {env : Env}
theorem loopD_out (hs : ∀ x, foldedSetIterable i1 env x = pure x) (I : Nat → Shared → Prop)
    (turn : ∀ n s, I n s → wpAny (model prog w) A (pyNext it) (fun r s₁ => match r with
      | none => R (.ok .next) s₁
      | some v => wpAny (model prog w) A (letOwnedTupleGo t0 it v) (fun _ s₁' => wpAny (model prog w) A (assign t0 env v) (fun _ s₂ =>
          wpAny (model prog w) A (forIn ifs0 true fun c r => if r = true then do let ok ← isTrue c env (eval c env); pure (ForInStep.yield ok) else pure (ForInStep.yield r)) (fun ok s₃ =>
            if ok = true then wpAny (model prog w) A (eval i1 env) (fun x s₄ => wpAny (model prog w) A (pyIter x) (fun it1 s₅ =>
              codeAny (model prog w) A (.compStart (.DictComp kx vx [⟨t0, i0, ifs0, 0⟩, ⟨t1, i1, ifs1, 0⟩] scope pos) 1 it1 acc env) (fun r s' => match r with
                | .ok _ => ∃ m, m < n ∧ I m s'
                | .error _ => False) s₅) (notedBy (model prog w) A env fun e s' => R (.error e) s') s₄) (notedBy (model prog w) A env fun e s' => R (.error e) s') s₃
            else ∃ m, m < n ∧ I m s₃) (notedBy (model prog w) A env fun e s' => R (.error e) s') s₂) (notedBy (model prog w) A env fun e s' => R (.error e) s') s₁') (notedBy (model prog w) A env fun e s' => R (.error e) s') s₁) (notedBy (model prog w) A env fun e s' => R (.error e) s') s)
    (n : Nat) (h : I n s) :
    codeAny (model prog w) A (.compLoop (.DictComp kx vx [⟨t0, i0, ifs0, 0⟩, ⟨t1, i1, ifs1, 0⟩] scope pos) 0 it acc env) R s := by
  refine codeAny_loop rfl I (fun n s hI => ?_) n h
  show wpAny _ A ((compTurn (.DictComp kx vx [⟨t0, i0, ifs0, 0⟩, ⟨t1, i1, ifs1, 0⟩] scope pos) 0 it acc env).onRaise (fun x => do noteFrame x env; theTreesLotGoes x)) _ _ s
  refine wpAny_noted ?_
  rw [turnD_out]
  refine wpAny_bind (wpAny_standAt (wpAny_bind (wpAny_mono (turn n s hI) (fun r s₁ h₁ => ?_) fun _ _ z => z)))
  cases r with
  | none => exact wpAny_pure h₁
  | some v =>
    refine wpAny_bind (wpAny_mono h₁ (fun _ s₂ h₂ => ?_) fun _ _ z => z)
    refine wpAny_bind (wpAny_mono h₂ (fun _ s₃ h₃ => wpAny_bind (wpAny_mono h₃ (fun ok s₄ h₄ => ?_) fun _ _ z => z)) fun _ _ z => z)
    cases ok with
    | false => exact wpAny_pure ⟨rfl, h₄⟩
    | true =>
      refine wpAny_bind (wpAny_mono h₄ (fun x s₅ h₅ => ?_) fun _ _ z => z)
      refine wpAny_bind (wpAny_standAt (wpAny_bind (wpAny_of_eq (hs x) (wpAny_bind (wpAny_holding (wpAny_mono h₅ (fun it1 s₆ h₆ => ?_) fun _ _ z => z))))))
      refine wpAny_bind (wpAny_runOwn ?_)
      rw [Around.mark_none]
      refine codeAny_mono h₆ fun r s' hr => ?_
      cases r with
      | ok f =>
        first
          | exact wpAny_pure ⟨rfl, hr⟩
          | exact wpAny_bind (wpAny_pure (wpAny_pure ⟨rfl, hr⟩))
      | error e => exact hr.elim
theorem loopD_in (I : Nat → Shared → Prop)
    (turn : ∀ n s, I n s → wpAny (model prog w) A (pyNext it) (fun r s₁ => match r with
      | none => R (.ok .next) s₁
      | some v => wpAny (model prog w) A (letOwnedTupleGo t1 it v) (fun _ s₁' => wpAny (model prog w) A (assign t1 env v) (fun _ s₂ =>
          wpAny (model prog w) A (forIn ifs1 true fun c r => if r = true then do let ok ← isTrue c env (eval c env); pure (ForInStep.yield ok) else pure (ForInStep.yield r)) (fun ok s₃ =>
            if ok = true then wpAny (model prog w) A (eval kx env) (fun kv s₄ => wpAny (model prog w) A (eval vx env) (fun vv s₅ =>
              wpAny (model prog w) A (dictSet D kv vv) (fun _ s₆ => ∃ m, m < n ∧ I m s₆) (notedBy (model prog w) A env fun e s' => R (.error e) s') s₅) (notedBy (model prog w) A env fun e s' => R (.error e) s') s₄) (notedBy (model prog w) A env fun e s' => R (.error e) s') s₃
            else ∃ m, m < n ∧ I m s₃) (notedBy (model prog w) A env fun e s' => R (.error e) s') s₂) (notedBy (model prog w) A env fun e s' => R (.error e) s') s₁') (notedBy (model prog w) A env fun e s' => R (.error e) s') s₁) (notedBy (model prog w) A env fun e s' => R (.error e) s') s)
    (n : Nat) (h : I n s) :
    codeAny (model prog w) A (.compLoop (.DictComp kx vx [⟨t0, i0, ifs0, 0⟩, ⟨t1, i1, ifs1, 0⟩] scope pos) 1 it (.ref D) env) R s := by
  refine codeAny_loop rfl I (fun n s hI => ?_) n h
  show wpAny _ A ((compTurn (.DictComp kx vx [⟨t0, i0, ifs0, 0⟩, ⟨t1, i1, ifs1, 0⟩] scope pos) 1 it (.ref D) env).onRaise (fun x => do noteFrame x env; theTreesLotGoes x)) _ _ s
  refine wpAny_noted ?_
  rw [turnD_in]
  refine wpAny_bind (wpAny_standAt (wpAny_bind (wpAny_mono (turn n s hI) (fun r s₁ h₁ => ?_) fun _ _ z => z)))
  cases r with
  | none => exact wpAny_pure h₁
  | some v =>
    refine wpAny_bind (wpAny_mono h₁ (fun _ s₂ h₂ => ?_) fun _ _ z => z)
    refine wpAny_bind (wpAny_mono h₂ (fun _ s₃ h₃ => wpAny_bind (wpAny_mono h₃ (fun ok s₄ h₄ => ?_) fun _ _ z => z)) fun _ _ z => z)
    cases ok with
    | false => exact wpAny_pure ⟨rfl, h₄⟩
    | true => exact wpAny_bind (wpAny_bind (wpAny_mono h₄ (fun kv s₅ h₅ => wpAny_bind (wpAny_holding (wpAny_mono h₅ (fun vv s₆ h₆ => wpAny_bind (wpAny_standAt (wpAny_holding (wpAny_mono h₆ (fun _ s₇ h₇ => wpAny_pure ⟨rfl, h₇⟩) fun _ _ z => z)))) fun _ _ z => z))) fun _ _ z => z))
theorem startD_in (h0 : codeAny (model prog w) A (.compLoop (.DictComp kx vx [⟨t0, i0, ifs0, 0⟩, ⟨t1, i1, ifs1, 0⟩] scope pos) 1 it acc env) R s)
    (h : wpAny (model prog w) A (pyIter it) (fun it' s' => codeAny (model prog w) A (.compLoop (.DictComp kx vx [⟨t0, i0, ifs0, 0⟩, ⟨t1, i1, ifs1, 0⟩] scope pos) 1 it' acc env) R s')
      (notedBy (model prog w) A env fun x s' => R (.error x) s') s) :
    codeAny (model prog w) A (.compStart (.DictComp kx vx [⟨t0, i0, ifs0, 0⟩, ⟨t1, i1, ifs1, 0⟩] scope pos) 1 it acc env) R s := by
  refine codeAny_of_tree ?_
  show wpAny _ _ ((compStart (.DictComp kx vx [⟨t0, i0, ifs0, 0⟩, ⟨t1, i1, ifs1, 0⟩] scope pos) 1 it acc env).onRaise (fun x => do noteFrame x env; standAt theWindowsPlace)) _ _ s
  refine wpAny_notedAt ?_
  unfold compStart
  show wpAny _ _ (ask >>= _) _ _ s
  refine wpAny_bind (wpAny_askSetting (wpAny_ite ?_))
  split
  · first
      | exact wpAny_bind (wpAny_pure (wpAny_pure (And.intro rfl h0)))
      | exact wpAny_pure (And.intro rfl h0)
  · first
      | exact wpAny_bind (wpAny_rule (wpAny_bind (wpAny_standAt (wpAny_bind (wpAny_mono h (fun it' s' h' => wpAny_pure (And.intro rfl h')) fun _ _ x => x)))))
      | (refine wpAny_bind (wpAny_rule ?_); show wpAny _ _ (standAt i1.pos >>= _) _ _ s; exact wpAny_bind (wpAny_standAt (wpAny_bind (wpAny_mono h (fun it' s' h' => wpAny_pure (And.intro rfl h')) fun _ _ x => x))))
end
/-! ### the whole -/
section
variable {X : Cx}
def tDc2 (wi : TI) (g : TG) (wi1 : TI) (g1 : TG) (tt : TT) (tk tv : TE) (vs vs1 : List Nat) : TE := fun σ H Q => wi σ H fun J H1 => ∀ D, H1 D = none → ∃ W : Nat → Nat → Hp → Prop, (∃ m, W 0 m (upd H1 D (.dK []))) ∧ ∀ i m H, W i m H →
  (J.stop i H ∧ Q (.ref D) H) ∨ (J.go i H ∧ ∃ Nx : Hp → Prop, (∀ H', Nx H' → ∃ m', m' < m ∧ W (i + 1) m' H') ∧ ∀ x H', J.yld i H x H' → g x (wipe σ vs) H' fun σ2 H2 => wipe σ2 vs = wipe σ vs ∧
    wi1 σ2 H2 fun J1 H4 => ∃ W1 : Nat → Nat → Hp → Prop, (∃ m, W1 0 m H4) ∧ ∀ j k H, W1 j k H →
      (J1.stop j H ∧ Nx H) ∨ (J1.go j H ∧ ∃ Nx1 : Hp → Prop, (∀ H', Nx1 H' → ∃ k', k' < k ∧ W1 (j + 1) k' H') ∧ ∀ x H', J1.yld j H x H' → g1 x (wipe σ2 vs1) H' fun σ3 H5 => wipe σ3 vs1 = wipe σ2 vs1 ∧ tt σ3 H5 fun b H6 =>
        if b = true then tk σ3 H6 fun y H7 => tv σ3 H7 fun z H8 => ∃ H9, DPutE H8 D y z H9 ∧ Nx1 H9 else Nx1 H6))
theorem dc2_core {pins : List (Addr × Obj)} {s : Shared} {σ : L2.St} {H : Hp} {Q : VK} {kx vx tg iter tg1 iter1 : Expr} {ifs : List Expr} {scope : Scope} {own : List (Str × Nat)} {vs1 : List Nat} {pos pos' : Pos} {wi wi1 : TI} {g g1 : TG} {tt : TT} {tk tv : TE} {use : Option (Value → Sem Unit)} {Qf : Value → Shared → Prop}
    (hu : X.A.units + 1 < cLine) (hc : X.calm = true) (hN : X.N.Nodup) (I : Inv X pins σ H s) (hi : PI X tg iter wi) (ok : BlkOk X.N X.env.scope scope own) (hv : ∀ i ∈ vs1, i ∈ own.map (·.2))
    (hg : ∀ (s : Shared) (H : Hp) (C : Addr) (cl : List (Str × Addr)) (fp : List Addr), PG (X.blk s H scope (compEnvC scope cl C X.env) fp) tg g)
    (hi1 : ∀ (s : Shared) (H : Hp) (C : Addr) (cl : List (Str × Addr)) (fp : List Addr), PI (X.blk s H scope (compEnvC scope cl C X.env) fp) tg1 iter1 wi1)
    (hg1 : ∀ (s : Shared) (H : Hp) (C : Addr) (cl : List (Str × Addr)) (fp : List Addr), PG (X.blk s H scope (compEnvC scope cl C X.env) fp) tg1 g1)
    (ht : ∀ (s : Shared) (H : Hp) (C : Addr) (cl : List (Str × Addr)) (fp : List Addr), PTs (X.blk s H scope (compEnvC scope cl C X.env) fp) ifs tt)
    (hk : ∀ (s : Shared) (H : Hp) (C : Addr) (cl : List (Str × Addr)) (fp : List Addr), PE (X.blk s H scope (compEnvC scope cl C X.env) fp) kx tk)
    (he : ∀ (s : Shared) (H : Hp) (C : Addr) (cl : List (Str × Addr)) (fp : List Addr), PE (X.blk s H scope (compEnvC scope cl C X.env) fp) vx tv)
    (hs : ∀ x, foldedSetIterable iter X.env x = pure x) (hs1 : ∀ env x, foldedSetIterable iter1 env x = pure x)
    (h : tDc2 wi g wi1 g1 tt tk tv (own.map (·.2)) vs1 σ H Q)
    (hRR : ∀ D C s' m H', Inv X pins σ H' s' → Q (.ref D) H' → s'.heap.Ns C m → FpOk X pins H' C → compPost (model X.prog X.w) X.A X.xe use Qf (.ref D) C (.ok .next) s') :
    wpAny (model X.prog X.w) X.A (comprehension (.DictComp kx vx [⟨tg, iter, [], 0⟩, ⟨tg1, iter1, ifs, 0⟩] scope pos) scope X.env pos' newDict false (eval iter X.env) use) Qf X.xe s := by
  have hfree : ∀ y ∈ scope.names, y.2 = .free → ∃ c, X.env.cells.lookup y.1 = some c := fun y hy e => (ok.free y hy e).elim (fun k => I.ok.has _ (.inl k)) fun k => I.ok.has _ (.inr k)
  refine wpAny_comprehension_free (use := use) rfl hs (closure_ok hfree) ok.kind (fun y hy e => by rw [ok.uniq y hy, e])
    (thn (hi.run pins s σ H _ I h) fun xv s1 hx => thn hx fun itv s2 h2 => ?_)
  obtain ⟨it, fp, tn, J, H2, rfl, I2, T, st2, f2, q⟩ := h2
  refine wpAny_newObj_type (newEnv_comp ?_)
  generalize hD : s2.heap.objs.size = D
  obtain ⟨W, ⟨m0, w0⟩, turn⟩ := q D (I2.hok.fresh (Nat.le_of_eq hD))
  generalize hs3 : ({ s2 with heap := s2.heap.push { cls := .type "dict", data := .dict #[] } } : Shared) = s3
  have I3 : Inv X pins σ (upd H2 D (.dK [])) s3 := by
    rw [← hs3]
    refine I2.laid (t' := s2.toks) (fun b o e => Heap.get?_push_of_some _ e) (Nat.le_of_eq hD) ?_
    rw [← hD]
    exact dk_empty s2.heap I2.big
  have h3 : s3.heap = s2.heap.push { cls := .type "dict", data := .dict #[] } := by rw [← hs3]
  have f3 : ∀ b ∈ fp, FpOk X pins (upd H2 D (.dK [])) b ∧ b < s3.heap.objs.size := fun b hb => by
    obtain ⟨o, e, _⟩ := T.obj _ _ st2 b hb
    have hlt := Heap.lt_size e
    refine ⟨⟨?_, (f2 b hb).2⟩, by rw [h3, Heap.size_push]; exact Nat.lt_succ_of_lt hlt⟩
    rw [upd_ne (by rw [← hD]; exact Nat.ne_of_lt hlt)]
    exact (f2 b hb).1
  have st3 : tn 0 s3.heap := T.keep _ _ _ st2 fun b _ o e => by rw [h3]; exact Heap.get?_push_of_some _ e
  have I4 := block_start I3 ok hN f3
  have pg := hg s3 (upd H2 D (.dK [])) s3.heap.objs.size (cellsFrom (s3.heap.objs.size + 1) scope.names (cloFrom X.env.cells scope.names [])) fp
  have pt := ht s3 (upd H2 D (.dK [])) s3.heap.objs.size (cellsFrom (s3.heap.objs.size + 1) scope.names (cloFrom X.env.cells scope.names [])) fp
  have pk := hk s3 (upd H2 D (.dK [])) s3.heap.objs.size (cellsFrom (s3.heap.objs.size + 1) scope.names (cloFrom X.env.cells scope.names [])) fp
  have pe := he s3 (upd H2 D (.dK [])) s3.heap.objs.size (cellsFrom (s3.heap.objs.size + 1) scope.names (cloFrom X.env.cells scope.names [])) fp
  have pi1 := hi1 s3 (upd H2 D (.dK [])) s3.heap.objs.size (cellsFrom (s3.heap.objs.size + 1) scope.names (cloFrom X.env.cells scope.names [])) fp
  have pg1 := hg1 s3 (upd H2 D (.dK [])) s3.heap.objs.size (cellsFrom (s3.heap.objs.size + 1) scope.names (cloFrom X.env.cells scope.names [])) fp
  show codeAny _ _ (.compStart (.DictComp kx vx [⟨tg, iter, [], 0⟩, ⟨tg1, iter1, ifs, 0⟩] scope pos) 0 (.ref it) (.ref D) (compEnvC scope (cellsFrom (s3.heap.objs.size + 1) scope.names (cloFrom X.env.cells scope.names [])) s3.heap.objs.size X.env)) (compPost (model X.prog X.w) X.A X.xe use Qf (.ref D) s3.heap.objs.size) { s3 with heap := pushCells (s3.heap.push { cls := .type "dict", data := .dict #[] }) scope.names }
  have nfp : ∀ b ∈ fp, (upd H2 D (.dK [])) b = none := fun b hb => (f3 b hb).1.1
  generalize hce : compEnvC scope (cellsFrom (s3.heap.objs.size + 1) scope.names (cloFrom X.env.cells scope.names [])) s3.heap.objs.size X.env = ce at I4 pg pt pk pe pi1 pg1 ⊢
  have cL : ce.locals = s3.heap.objs.size := by subst hce; rfl
  generalize hH3 : upd H2 D (.dK []) = H3 at I3 I4 pg pt pk pe pi1 pg1 w0 nfp f3
  generalize hs4 : ({ s3 with heap := pushCells (s3.heap.push { cls := .type "dict", data := .dict #[] }) scope.names } : Shared) = s4 at I4 ⊢
  have st4 : tn 0 s4.heap := T.keep _ _ _ st3 fun b _ o e => by rw [← hs4]; exact pushCells_keeps _ _ _ _ (Heap.get?_push_of_some _ e)
  have stat : ∀ {σ' : L2.St} {H' : Hp} {s' : Shared}, Inv (X.blk s3 H3 scope ce fp) [] σ' H' s' → (∀ b ∈ fp, H' b = none) → ∀ b ∈ fp, FpOk (X.blk s3 H3 scope ce fp) [] H' b := fun {σ' H' s'} I' hn b hb =>
    ⟨hn b hb, (I'.ok.exf b hb).1, I'.ok.exfs b hb, .inl hb, fun x c e => (I'.ok.exf b hb).2 x c e, fun p hp => absurd (show p ∈ ([] : List (Addr × Obj)) ++ [] from hp) (by simp)⟩
  let Out : Nat → Shared → Prop := fun n s' => ∃ i H', Inv (X.blk s3 H3 scope ce fp) [] (wipe σ (own.map (·.2))) H' s' ∧ tn i s'.heap ∧ (∀ b ∈ fp, H' b = none) ∧ W i n H'
  have loop : codeAny (model X.prog X.w) X.A (.compLoop (.DictComp kx vx [⟨tg, iter, [], 0⟩, ⟨tg1, iter1, ifs, 0⟩] scope pos) 0 (.ref it) (.ref D) ce) (compPost (model X.prog X.w) X.A X.xe use Qf (.ref D) s3.heap.objs.size) s4 := by
    refine loopD_out (hs1 ce) Out ?_ m0 ⟨0, H3, I4, st4, nfp, w0⟩
    rintro n s5 ⟨i, H5, I5, st5, n5, w5⟩
    rcases turn i n H5 w5 with ⟨stop, qq⟩ | ⟨go, Nx, hNx, step⟩
    · refine thnF (T.done (X.blk s3 H3 scope ce fp) rfl rfl rfl hc i [] s5 _ H5 (fun _ _ => False) I5 (stat I5 n5) st5 stop) fun r s6 ⟨hr, I6⟩ => ?_
      subst hr
      have nC : H5 ce.locals = none := I6.free
      obtain ⟨m, hn, _⟩ := I6.loc
      have hn : s6.heap.Ns ce.locals m := hn
      rw [cL] at hn nC
      exact hRR D s3.heap.objs.size s6 m H5 (I3.call' (ch := fp) I6.os I6.base I6.hok I6.bare fun b hb => ⟨(f3 b hb).1.2.2.2.1, (f3 b hb).1.2.1, (f3 b hb).1.2.2.2.2.1, (f3 b hb).1.2.2.2.2.2⟩) qq hn (I3.fpOk (Nat.le_refl _) nC)
    · refine thnF (T.item (X.blk s3 H3 scope ce fp) rfl rfl rfl hc i [] s5 _ H5 (fun _ _ => False) I5 (stat I5 n5) st5 go) fun r s6 ⟨u, hr, h6⟩ => ?_
      subst hr
      refine thnF h6 fun _ s7 ⟨x, H7, I7, r7, y7, st7, n7⟩ => ?_
      refine thnF (pg.run _ s7 _ H7 x u _ (I7.pinned (stat I7 n7) (T.obj _ _ st7)) r7 (step x H7 y7)) fun _ s8 ⟨σ8, H8, I8, hw8, q8⟩ => ?_
      refine thnF ((pts_nil (X := X.blk s3 H3 scope ce fp)).run _ s8 σ8 H8 (fun b H9 => b = true ∧ H9 = H8) I8 ⟨rfl, rfl⟩) fun b s9 ⟨H9, I9, hb, hH⟩ => ?_
      subst hb hH
      have fin : ∀ {σ9 : L2.St} {s' : Shared} {H' : Hp}, Inv (X.blk s3 H3 scope ce fp) ([] ++ pinsAt fp s7.heap) σ9 H' s' → (wipe σ (own.map (·.2))).length = σ9.length → (∀ (j : Nat) v, (wipe σ (own.map (·.2)))[j]? = some (some v) → σ9[j]? = some (some v)) → Nx H' →
          ∃ m, m < n ∧ Out m s' := fun {σ9 s' H'} I' hl hk nx => by
        obtain ⟨m', hm, w'⟩ := hNx H' nx
        have pin' : ∀ b ∈ fp, ∀ o, s7.heap.get? b = some o → s'.heap.get? b = some o ∧ H' b = none := fun b hb o e =>
          let z := I'.pin (b, o) (List.mem_append_right _ (List.mem_append_right _ (mem_pinsAt hb e)))
          ⟨z.1, z.2.1⟩
        refine ⟨m', hm, i + 1, H', (I'.unpinned (pins := [])).weak hl hk, T.keep _ _ _ st7 fun b hb o e => (pin' b hb o e).1, fun b hb => ?_, w'⟩
        obtain ⟨o, e, _⟩ := T.obj _ _ st7 b hb
        exact (pin' b hb o e).2
      have hl8 : (wipe σ (own.map (·.2))).length = σ8.length := by rw [← hw8, wipe_length]
      have hk9 : ∀ (j : Nat) v, (wipe σ (own.map (·.2)))[j]? = some (some v) → (wipe σ8 vs1)[j]? = some (some v) := fun j v e => by
        rw [← hw8] at e
        obtain ⟨e1, e2⟩ := wipe_some e
        rw [wipe_out fun z => e2 (hv j z)]
        exact e1
      simp only [if_true]
      refine thnF (pi1.run _ s9 σ8 H9 _ I9 q8) fun xv s10 hx => thnF hx fun itv s11 h11 => ?_
      obtain ⟨it1, fp1, tn1, J1, H11, rfl, I11, T1, st11, f11, W1, ⟨m1, w1⟩, turn1⟩ := h11
      have stat1 : ∀ {H' : Hp}, (∀ b ∈ fp1, H' b = none) → ∀ b ∈ fp1, FpOk (X.blk s3 H3 scope ce fp) ([] ++ pinsAt fp s7.heap) H' b := fun hn b hb => ⟨hn b hb, (f11 b hb).2⟩
      let In : Nat → Shared → Prop := fun k s' => ∃ j H', Inv (X.blk s3 H3 scope ce fp) ([] ++ pinsAt fp s7.heap) (wipe σ8 vs1) H' s' ∧ tn1 j s'.heap ∧ (∀ b ∈ fp1, H' b = none) ∧ W1 j k H'
      have loop1 : codeAny (model X.prog X.w) X.A (.compLoop (.DictComp kx vx [⟨tg, iter, [], 0⟩, ⟨tg1, iter1, ifs, 0⟩] scope pos) 1 (.ref it1) (.ref D) ce)
          (fun r s' => match r with
            | .ok _ => ∃ m, m < n ∧ Out m s'
            | .error _ => False) s11 := by
        refine loopD_in In ?_ m1 ⟨0, H11, I11.weak (wipe_length _ _) (fun j v e => (wipe_some e).1), st11, fun b hb => (f11 b hb).1, w1⟩
        rintro k s12 ⟨j, H12, I12, st12, n12, w12⟩
        rcases turn1 j k H12 w12 with ⟨stop1, nx1⟩ | ⟨go1, Nx1, hNx1, step1⟩
        · refine thnF (T1.done (X.blk s3 H3 scope ce fp) rfl rfl rfl hc j _ s12 (wipe σ8 vs1) H12 (fun _ _ => False) I12 (stat1 n12) st12 stop1) fun r s13 ⟨hr, I13⟩ => ?_
          subst hr
          exact fin I13 (hl8.trans (wipe_length σ8 vs1).symm) hk9 nx1
        · refine thnF (T1.item (X.blk s3 H3 scope ce fp) rfl rfl rfl hc j _ s12 (wipe σ8 vs1) H12 (fun _ _ => False) I12 (stat1 n12) st12 go1) fun r s13 ⟨u1, hr, h13⟩ => ?_
          subst hr
          refine thnF h13 fun _ s14 ⟨x1, H14, I14, r14, y14, st14, n14⟩ => ?_
          refine thnF (pg1.run _ s14 (wipe σ8 vs1) H14 x1 u1 _ (I14.pinned (stat1 n14) (T1.obj _ _ st14)) r14 (step1 x1 H14 y14)) fun _ s15 ⟨σ15, H15, I15, hw15, q15⟩ => ?_
          refine thnF (pt.run _ s15 σ15 H15 _ I15 q15) fun b1 s16 ⟨H16, I16, q16⟩ => ?_
          have fin1 : ∀ {s' : Shared} {H' : Hp}, Inv (X.blk s3 H3 scope ce fp) (([] ++ pinsAt fp s7.heap) ++ pinsAt fp1 s14.heap) σ15 H' s' → Nx1 H' → ∃ m, m < k ∧ In m s' := fun {s' H'} I' nx => by
            obtain ⟨m', hm, w'⟩ := hNx1 H' nx
            have pin' : ∀ b ∈ fp1, ∀ o, s14.heap.get? b = some o → s'.heap.get? b = some o ∧ H' b = none := fun b hb o e =>
              let z := I'.pin (b, o) (List.mem_append_right _ (List.mem_append_right _ (mem_pinsAt hb e)))
              ⟨z.1, z.2.1⟩
            refine ⟨m', hm, j + 1, H', I'.unpinned.weak (by rw [← hw15, wipe_length]) (fun j v e => by rw [← hw15] at e; exact (wipe_some e).1), T1.keep _ _ _ st14 fun b hb o e => (pin' b hb o e).1, fun b hb => ?_, w'⟩
            obtain ⟨o, e, _⟩ := T1.obj _ _ st14 b hb
            exact (pin' b hb o e).2
          cases b1 with
          | false =>
            simp only [Bool.false_eq_true, if_false] at q16 ⊢
            exact fin1 I16 q16
          | true =>
            simp only [if_true] at q16 ⊢
            refine thnF (pk.run _ s16 σ15 H16 _ I16 q16) fun z s17 ⟨yk, H17, I17, r17, q17⟩ => ?_
            refine thnF (pe.run _ s17 σ15 H17 _ I17 q17) fun z2 s18 ⟨yv, H18, I18, r18, H19, pu, nx⟩ => ?_
            exact put_E (X := X.blk s3 H3 scope ce fp) hu I18 pu r17 r18 fun s19 I19 => fin1 I19 nx
      exact startD_in loop1 (T1.self X.A 0 _ _ _ st11 loop1)
  exact codeAny_compStart_dict loop (T.self X.A 0 _ _ _ st4 loop)
end
/-! ### read by the small language -/
def dcO (body : Val → List (DK × Val) → AH → (List (DK × Val) → AH → Prop) → Prop) (chk : AH → Prop) : List Val → List (DK × Val) → AH → (List (DK × Val) → AH → Prop) → Prop
  | [], kvs, h, Q => chk h ∧ Q kvs h
  | v :: vs, kvs, h, Q => chk h ∧ body v kvs h fun kvs1 h1 => dcO body chk vs kvs1 h1 Q
def dcB (own1 : List Nat) (g1 : IG) (ifs : List IT) (k v : IE) (sl : Sl) (u : Val) (h : AH) (K : Option (DK × Val) → AH → Prop) : Prop :=
  wpG g1 u (wipeS sl own1) h fun sl2 h8 => wpQs ifs sl2 h8 fun b h9 => if b = true then wpE k sl2 h9 fun kv h10 => wpE v sl2 h10 fun xv h11 => ∃ kk, keyOf kv = some kk ∧ K (some (kk, xv)) h11 else K none h9
/-- {k: v for target in iter for target1 in iter1 if ..} -/
def dcI2 (own own1 : List Nat) (g : IG) (Ψ : ISp) (es : List IE) (g1 : IG) (Ψ1 : ISp) (es1 : List IE) (ifs : List IT) (k v : IE) : IE := .ext fun sl h Q => wpEs es sl h fun vs h1 => Ψ vs h1 fun xs chk h2 =>
  dcO (fun u kvs h3 K => wpG g u (wipeS sl own) h3 fun sl' h4 => wpEs es1 sl' h4 fun vs1 h5 => Ψ1 vs1 h5 fun xs1 chk1 h6 => dcW (dcB own1 g1 ifs k v sl') chk1 xs1 kvs h6 K) chk xs [] h2 fun kvs h3 => Q (.ref h3.length) (h3 ++ [.dct kvs])
section
variable {c : Cc} {tst tg iter kx vx tg1 iter1 : Expr} {es ifs : List Expr} {i j k : IE} {is is1 : List IE} {ts : List IT} {g g1 : IG} {pos p p1 p2 : Pos}
structure AccE (K : PySem.W.Frag) (D : Addr) (m : List Addr) (H : Hp) (acc : List (DK × Val)) : Prop where
  nm : D ∉ m
  at_ : ∃ o, H D = some o ∧ OR K m H (.dct acc) o
theorem AccE.on {K : PySem.W.Frag} {D : Addr} {m m1 : List Addr} {H H1 : Hp} {h : AH} {acc : List (DK × Val)} (A : AccE K D m H acc) (R : Rel K m h H) (s : Stp m H m1 H1) : AccE K D m1 H1 acc := by
  obtain ⟨us, e, r⟩ := A.at_
  exact ⟨(s.fr D _ e A.nm).2, us, (s.fr D _ e A.nm).1, r.sta (R.sta s)⟩
theorem or_put {K : PySem.W.Frag} {m : List Addr} {H : Hp} {a : Addr} {kvs : List (DK × Val)} {x v : Val} {y w : V} {k : DK} {u : HO} (h1 : H a = some u) (h2 : OR K m H (.dct kvs) u) (rx : VR K m H x y) (ek : keyOf x = some k) (s : sorts kvs k) (rv : VR K m H v w) (hl : kvs.length < 1000000) :
    ∃ u', DPutE H a y w (upd H a u') ∧ OR K m H (.dct (dput kvs k v)) u' := by
  have big : (1000000 : Nat) < sizeLine := by decide
  rcases h2 with ⟨xs, rfl, r⟩ | ⟨xs, rfl, r⟩
  · rcases key_vr ek rx with ⟨kk, rfl, rfl⟩ | ⟨ks, b, rfl, rfl, eb⟩
    · exact ⟨_, .inl (DPut.k h1 (by rw [krk_len r]; omega)), .inl ⟨_, rfl, krk_put rv r⟩⟩
    · obtain ⟨rfl, rfl⟩ := sortK r s
      exact ⟨_, .inr ⟨.inl h1, .inr ⟨b, ks, rfl, eb, rfl⟩⟩, .inr ⟨_, rfl, .cons rv .nil⟩⟩
  · rcases key_vr ek rx with ⟨kk, rfl, rfl⟩ | ⟨ks, b, rfl, rfl, eb⟩
    · obtain ⟨rfl, rfl⟩ := sortT r s
      exact ⟨_, .inr ⟨.inr h1, .inl ⟨kk, rfl, rfl⟩⟩, .inl ⟨_, rfl, .cons rv .nil⟩⟩
    · exact ⟨_, .inl (DPut.t h1 eb (by rw [krt_len r]; omega)), .inr ⟨_, rfl, krt_put rv r⟩⟩
theorem AccE.push {K : PySem.W.Frag} {D : Addr} {m0 m : List Addr} {H0 H : Hp} {h : AH} {acc : List (DK × Val)} {x v : Val} {k : DK} {y u : V} (A : AccE K D m H acc) (R : Rel K m h H) (n0 : H0 D = none) (s0 : Stp m0 H0 m H) (rx : VR K m H x y) (ek : keyOf x = some k) (s : sorts acc k) (r : VR K m H v u) (hl : acc.length < 1000000) :
    ∃ H', DPutE H D y u H' ∧ Rel K m h H' ∧ Sta m H m H' ∧ Stp m0 H0 m H' ∧ AccE K D m H' (dput acc k v) := by
  obtain ⟨o, e, ro⟩ := A.at_
  obtain ⟨u', pu, ro'⟩ := or_put e ro rx ek s r hl
  have n1 : ∀ us, o ≠ .tup us := by rcases ro with ⟨_, rfl, _⟩ | ⟨_, rfl, _⟩ <;> exact fun _ z => nomatch z
  have n2 : ∀ o' u, o ≠ .frz o' u := by rcases ro with ⟨_, rfl, _⟩ | ⟨_, rfl, _⟩ <;> exact fun _ _ z => nomatch z
  obtain ⟨R1, st⟩ := R.asideW A.nm e n1 n2 u'
  refine ⟨_, pu, R1, st, ⟨s0.pre, fun a o z n => ?_⟩, A.nm, _, upd_same, ro'.sta st⟩
  have : a ≠ D := fun q => by rw [q, n0] at z; cases z
  rw [upd_ne this]
  exact s0.fr a o z n
theorem dc2_run {scope : Scope} {own own1 : List Nat} {l l1 : List Nat} {Ψ Ψ1 : ISp} (hi : CI c tg iter Ψ is) (hg : CGc (c.blk scope) tg g l) (hl : ∀ j ∈ l, j ∈ own) (hi1 : CI (c.blk scope) tg1 iter1 Ψ1 is1) (hg1 : CGc (c.blk scope) tg1 g1 l1) (hl1 : ∀ j ∈ l1, j ∈ own1)
    (hq : CQ (c.blk scope) ifs ts) (hk : CE (c.blk scope) kx i) (he : CE (c.blk scope) vx j) {sl : Sl} {h : AH} {Q : Val → AH → Prop} (w : wpE (dcI2 own own1 g Ψ is g1 Ψ1 is1 ts i j) sl h Q) {m : List Addr} {σ : L2.St} {H : Hp} {Qc : VK} (R : Rel c.g.K m h H) (S : SR c.g.K m H sl σ) (q : Kq c.g.K m H Q Qc) :
    tDc2 (wI c tg iter) (wG (c.blk scope) tg) (wI (c.blk scope) tg1 iter1) (wG (c.blk scope) tg1) (wQ (c.blk scope) ifs) (wE (c.blk scope) kx) (wE (c.blk scope) vx) own own1 σ H Qc := by
  let body : Val → List (DK × Val) → AH → (List (DK × Val) → AH → Prop) → Prop := fun u kvs h3 K => wpG g u (wipeS sl own) h3 fun sl' h4 => wpEs is1 sl' h4 fun vs1 h5 => Ψ1 vs1 h5 fun xs1 chk1 h6 => dcW (dcB own1 g1 ts i j sl') chk1 xs1 kvs h6 K
  have w : wpEs is sl h fun vs h1 => Ψ vs h1 fun xs chk h2 => dcO body chk xs [] h2 fun kvs h3 => Q (.ref h3.length) (h3 ++ [.dct kvs]) := w
  refine hi sl h _ w m σ H _ R S fun J xs chk h1 m1 H1 w1 s1 R1 wk D hD => ?_
  let Qf : List (DK × Val) → AH → Prop := fun kvs h3 => Q (.ref h3.length) (h3 ++ [.dct kvs])
  have w1 : dcO body chk xs [] h1 Qf := w1
  have hD0 : H D = none := s1.back R1 hD
  have hDm : D ∉ m1 := R1.nnew hD
  refine ⟨fun n k H2 => n + k = xs.length ∧ ∃ acc h2 m2, dcO body chk (xs.drop n) acc h2 Qf ∧ Stp m1 H1 m2 H2 ∧ Rel c.g.K m2 h2 H2 ∧ AccE c.g.K D m2 H2 acc, ⟨xs.length, by omega, [], h1, m1, w1, (R1.aside hD _).1, (R1.aside hD _).2, hDm, _, upd_same, .inl ⟨[], rfl, .nil⟩⟩, fun n k H2 hW => ?_⟩
  obtain ⟨hnk, acc, h2, m2, w2, s2, R2, A2⟩ := hW
  by_cases hlt : n < xs.length
  · rw [List.drop_eq_getElem_cons hlt] at w2
    obtain ⟨ck, w2⟩ := w2
    obtain ⟨go, _, yld⟩ := wk m2 h2 H2 (R1.sta s2) R2 ck
    refine .inr ⟨go n hlt, fun H' => ∃ acc h2 m2, dcO body chk (xs.drop (n + 1)) acc h2 Qf ∧ Stp m1 H1 m2 H' ∧ Rel c.g.K m2 h2 H' ∧ AccE c.g.K D m2 H' acc, fun H' hN => ⟨k - 1, by omega, by omega, hN⟩, fun u H3 hy => ?_⟩
    obtain ⟨s3, R3, rv⟩ := yld n xs[n] u H3 (List.getElem?_eq_getElem hlt) hy
    have S3 : SR c.g.K m2 H3 sl σ := R2.sr s3 (R1.sr s2 (R.sr s1 S))
    have A3 := A2.on R2 s3
    refine hg _ _ h2 _ w2 m2 (L2.wipe σ own) H3 u _ R3 (S3.wipe own) rv fun sl' σ' w3 S4 hw => ⟨by rw [hw own hl, wipe_idem], ?_⟩
    show wI (c.blk scope) tg1 iter1 σ' H3 _
    refine hi1 sl' h2 _ w3 m2 σ' H3 _ R3 S4 fun J1 xs1 chk1 h6 m6 H6 w6 s6 R6 wk1 => ?_
    have A6 := A3.on R3 s6
    have s16 := (s2.trans s3).trans s6
    have S6 : SR c.g.K m6 H6 sl' σ' := R3.sr s6 S4
    let K : List (DK × Val) → AH → Prop := fun kvs1 h' => dcO body chk (xs.drop (n + 1)) kvs1 h' Qf
    have w6 : dcW (dcB own1 g1 ts i j sl') chk1 xs1 acc h6 K := w6
    refine ⟨fun n1 k1 H' => n1 + k1 = xs1.length ∧ ∃ acc1 h2 m2, dcW (dcB own1 g1 ts i j sl') chk1 (xs1.drop n1) acc1 h2 K ∧ Sta m6 H6 m2 H' ∧ Stp m1 H1 m2 H' ∧ Rel c.g.K m2 h2 H' ∧ SR c.g.K m2 H' sl' σ' ∧ AccE c.g.K D m2 H' acc1, ⟨xs1.length, by omega, acc, h6, m6, w6, R6.sta Stp.rfl, s16, R6, S6, A6⟩, fun n1 k1 H7 hW1 => ?_⟩
    obtain ⟨hnk1, acc1, h7, m7, w7, s67, s17, R7, S7, A7⟩ := hW1
    by_cases hlt1 : n1 < xs1.length
    · rw [List.drop_eq_getElem_cons hlt1] at w7
      obtain ⟨ck1, w7⟩ := w7
      obtain ⟨go1, _, yld1⟩ := wk1 m7 h7 H7 s67 R7 ck1
      refine .inr ⟨go1 n1 hlt1, fun H' => ∃ acc1 h2 m2, dcW (dcB own1 g1 ts i j sl') chk1 (xs1.drop (n1 + 1)) acc1 h2 K ∧ Sta m6 H6 m2 H' ∧ Stp m1 H1 m2 H' ∧ Rel c.g.K m2 h2 H' ∧ SR c.g.K m2 H' sl' σ' ∧ AccE c.g.K D m2 H' acc1, fun H' hN => ⟨k1 - 1, by omega, by omega, hN⟩, fun u1 H8 hy1 => ?_⟩
      obtain ⟨s8, R8, rv1⟩ := yld1 n1 xs1[n1] u1 H8 (List.getElem?_eq_getElem hlt1) hy1
      have A8 := A7.on R7 s8
      have S8 := R7.sr s8 S7
      unfold dcB at w7
      refine hg1 _ _ h7 _ w7 m7 (L2.wipe σ' own1) H8 u1 _ R8 (S8.wipe own1) rv1 fun sl2 σ2 w9 S9 hw1 => ⟨by rw [hw1 own1 hl1, wipe_idem], ?_⟩
      refine hq sl2 h7 _ w9 m7 σ2 H8 _ R8 S9 fun b h9 m9 H9 w9 s9 R9 => ?_
      have A9 := A8.on R8 s9
      have t9 := s8.trans s9
      cases b with
      | true =>
        show wE (c.blk scope) kx σ2 H9 _
        refine hk sl2 h9 _ w9 m9 σ2 H9 _ R9 (R8.sr s9 S9) fun kv hA mA HA uA wA sA RA rA => ?_
        refine he sl2 hA _ wA mA σ2 HA _ RA (R9.sr sA (R8.sr s9 S9)) fun xv hB mB HB uB wB sB RB rB => ?_
        obtain ⟨kk, ek, wB⟩ := wB
        have tB := (t9.trans sA).trans sB
        have AB := (A9.on R9 sA).on RA sB
        obtain ⟨H', pu, R', st, s', A'⟩ := AB.push RB hD (s17.trans tB) (RA.vr sB rA) ek wB.1 rB wB.2.1
        have SB := R7.sr tB S7
        exact ⟨H', pu, _, hB, mB, wB.2.2, (s67.trans (R7.sta tB)).trans st, s', R', ⟨SB.len, fun i v e => by
          obtain ⟨u, z1, z2⟩ := SB.at_ i v e
          exact ⟨u, z1, vr_sta st _ _ z2⟩⟩, A'⟩
      | false => exact ⟨acc1, h9, m9, w9, s67.trans (R7.sta t9), s17.trans t9, R9, R7.sr t9 S7, A9⟩
    · have hn1 : xs1.drop n1 = [] := List.drop_eq_nil_of_le (by omega)
      rw [hn1] at w7
      obtain ⟨ck1, w7⟩ := w7
      obtain ⟨_, stop1, _⟩ := wk1 m7 h7 H7 s67 R7 ck1
      have hn2 : n1 = xs1.length := by omega
      exact .inl ⟨by rw [hn2]; exact stop1, acc1, h7, m7, w7, s17, R7, A7⟩
  · have hn : xs.drop n = [] := List.drop_eq_nil_of_le (by omega)
    rw [hn] at w2
    obtain ⟨ck, w2⟩ := w2
    obtain ⟨_, stop, _⟩ := wk m2 h2 H2 (R1.sta s2) R2 ck
    have hn2 : n = xs.length := by omega
    refine .inl ⟨by rw [hn2]; exact stop, ?_⟩
    obtain ⟨us, e2, ru⟩ := A2.at_
    have s := s1.trans s2
    exact q _ _ _ _ _ w2 (Stp.join hD0 s) (R2.join A2.nm e2 (o := .dct acc) ru) (.ref (by rw [← R2.len]; simp))
end
/-! ### x = {.. for .. for ..} -/
section
variable {X : Cx} {kx vx tg iter tg1 iter1 : Expr} {ifs : List Expr}
theorem ps_setDc2 {n : Nat} {y : Str} {py pos spos : Pos} {scope : Scope} {own : List (Str × Nat)} {vs1 : List Nat} {wi wi1 : TI} {g g1 : TG} {tt : TT} {tk tv : TE} (hu : X.A.units + 1 < cLine) (hc : X.calm = true) (hN : X.N.Nodup) (hy : X.N[n]? = some y) (hl : X.env.scope.names.lookup y = some .local)
    (hsw : swapsWith (.DictComp kx vx [⟨tg, iter, [], 0⟩, ⟨tg1, iter1, ifs, 0⟩] scope pos) (some (.Name y py)) spos.line X.env = pure true) (hi : PI X tg iter wi) (ok : BlkOk X.N X.env.scope scope own) (hv : ∀ i ∈ vs1, i ∈ own.map (·.2))
    (hg : ∀ (s : Shared) (H : Hp) (C : Addr) (cl : List (Str × Addr)) (fp : List Addr), PG (X.blk s H scope (compEnvC scope cl C X.env) fp) tg g)
    (hi1 : ∀ (s : Shared) (H : Hp) (C : Addr) (cl : List (Str × Addr)) (fp : List Addr), PI (X.blk s H scope (compEnvC scope cl C X.env) fp) tg1 iter1 wi1)
    (hg1 : ∀ (s : Shared) (H : Hp) (C : Addr) (cl : List (Str × Addr)) (fp : List Addr), PG (X.blk s H scope (compEnvC scope cl C X.env) fp) tg1 g1)
    (ht : ∀ (s : Shared) (H : Hp) (C : Addr) (cl : List (Str × Addr)) (fp : List Addr), PTs (X.blk s H scope (compEnvC scope cl C X.env) fp) ifs tt)
    (hk : ∀ (s : Shared) (H : Hp) (C : Addr) (cl : List (Str × Addr)) (fp : List Addr), PE (X.blk s H scope (compEnvC scope cl C X.env) fp) kx tk)
    (he : ∀ (s : Shared) (H : Hp) (C : Addr) (cl : List (Str × Addr)) (fp : List Addr), PE (X.blk s H scope (compEnvC scope cl C X.env) fp) vx tv)
    (hs : ∀ x, foldedSetIterable iter X.env x = pure x) (hs1 : ∀ env x, foldedSetIterable iter1 env x = pure x) :
    PS X (.Assign [.Name y py] (.DictComp kx vx [⟨tg, iter, [], 0⟩, ⟨tg1, iter1, ifs, 0⟩] scope pos) spos) (tAsg (tDc2 wi g wi1 g1 tt tk tv (own.map (·.2)) vs1) (gName n)) := by
  refine ⟨fun pins s σ H D I w => ?_⟩
  rw [exec_Assign_Name_used _ _ _ _ hsw]
  refine wpAny_bind (wpAny_standAt (wpAny_bind ?_))
  show wpAny _ X.A (do let _ ← comprehension (.DictComp kx vx [⟨tg, iter, [], 0⟩, ⟨tg1, iter1, ifs, 0⟩] scope pos) scope X.env (firstIterPos [⟨tg, iter, [], 0⟩, ⟨tg1, iter1, ifs, 0⟩] pos) newDict false (eval iter X.env) (some (assign (.Name y py) X.env))) _ _ s
  have w : tDc2 wi g wi1 g1 tt tk tv (own.map (·.2)) vs1 σ H (fun x H1 => gName n x σ H1 D.nx) := w
  refine wpAny_bind (thn (dc2_core (Qf := fun _ s' => SP X pins D .next s') hu hc hN I hi ok hv hg hi1 hg1 ht hk he hs hs1 w fun L C s' m H' I' q hn f => ?_) fun _ s' hq => wpAny_pure (wpAny_pure hq))
  show wpAny _ _ (assign (.Name y py) X.env (.ref L)) _ _ _
  refine wpAny_assign_Name (store_ok2 (v := V.ref L) I' hN hy (.inl hl) rfl (fun s2 I2 ⟨a, sb, ha⟩ => ?_) (.inr hl))
  obtain ⟨f0, f1, f2, f3, f4, f5⟩ := f
  have haC : C ≠ a := ha.elim (fun z => z ▸ f1) fun z e => f4 y a z e.symm
  exact ⟨m, hn.sameBut sb haC, fun h3 sb3 => ⟨_, H', I2.turned (t' := s2.toks) (fun b o hb e => (sb3.2 b hb).trans e) f0 f1 f3 f4 f5, q⟩⟩
variable {c : Cc} {i j k : IE} {is is1 : List IE} {ts : List IT} {g g1 : IG} {pos p2 : Pos}
theorem cs_setDc2 (n : Nat) {nm : Str} {lpos : Pos} {scope : Scope} (own : List (Str × Nat)) (own1 : List Nat) {l l1 : List Nat} {Ψ Ψ1 : ISp} (hNd : c.N.Nodup) (hi : CI c tg iter Ψ is) (hg : CGc (c.blk scope) tg g l) (hi1 : CI (c.blk scope) tg1 iter1 Ψ1 is1) (hg1 : CGc (c.blk scope) tg1 g1 l1) (hq : CQ (c.blk scope) ifs ts) (hk : CE (c.blk scope) kx i) (he : CE (c.blk scope) vx j)
    (ok : (blkC c.N c.sc scope own && (l.all fun j => (own.map (·.2)).contains j) && (l1.all fun j => own1.contains j) && (own1.all fun j => (own.map (·.2)).contains j)) = true) (hx : (c.sc.names.lookup nm == some .local && c.N[n]? == some nm) = true) (hkd : c.sc.kind = .function := by rfl) (hl : (p2.line == lpos.line) = true := by rfl)
    (hnot : (scope.names.any fun (m, k) => m == nm && (k == .local || k == .cell)) = false := by decide +kernel) (hs : ∀ (env : PySem.Env) x, foldedSetIterable iter env x = pure x := by intro _ _; rfl) (hs1 : ∀ (env : PySem.Env) x, foldedSetIterable iter1 env x = pure x := by intro _ _; rfl) :
    CS c (.Assign [.Name nm p2] (.DictComp kx vx [⟨tg, iter, [], 0⟩, ⟨tg1, iter1, ifs, 0⟩] scope lpos) pos) (.asg (.name n) (dcI2 (own.map (·.2)) own1 g Ψ is g1 Ψ1 is1 ts i j)) := .mk fun sl hh D w m σ H D' R S q => by
  rw [Bool.and_eq_true, Bool.and_eq_true, Bool.and_eq_true] at ok
  rw [Bool.and_eq_true] at hx
  obtain ⟨⟨⟨k1, k2⟩, k3⟩, k4⟩ := ok
  have w : wpE (dcI2 (own.map (·.2)) own1 g Ψ is g1 Ψ1 is1 ts i j) sl hh (fun v h1 => D.nx (sl.set n (some v)) h1) := w
  exact wS_of (fun X hX => ps_setDc2 hX.hu1 hX.calm (by rw [hX.N]; exact hNd) (by rw [hX.N]; exact eq_of_beq hx.2) (by rw [hX.sc]; exact eq_of_beq hx.1) (sw_dict (by rw [hX.sc]; exact hkd) (by rw [hX.sc]; exact eq_of_beq hx.1) hl hnot) (pi_w hX) (by rw [hX.N, hX.sc]; exact blkOk_by k1) (fun j hj => by have := List.all_eq_true.mp k4 j hj; simpa using this)
      (fun s H C cl fp => pg_w (hX.blk scope s H C cl fp)) (fun s H C cl fp => pi_w (hX.blk scope s H C cl fp)) (fun s H C cl fp => pg_w (hX.blk scope s H C cl fp)) (fun s H C cl fp => pts_w (hX.blk scope s H C cl fp)) (fun s H C cl fp => pe_w (hX.blk scope s H C cl fp)) (fun s H C cl fp => pe_w (hX.blk scope s H C cl fp)) (hs X.env) hs1)
    (show tDc2 _ _ _ _ _ _ _ _ _ σ H _ from dc2_run hi hg (fun j hj => by have := List.all_eq_true.mp k2 j hj; simpa using this) hi1 hg1 (fun j hj => by have := List.all_eq_true.mp k3 j hj; simpa using this) hq hk he w R S fun v h1 m1 H1 u w1 s1 R1 r1 => q.nx _ _ _ _ _ w1 s1 R1 ((R.sr s1 S).set r1))
theorem pe_dc2 {pos : Pos} {scope : Scope} {own : List (Str × Nat)} {vs1 : List Nat} {wi wi1 : TI} {g g1 : TG} {tt : TT} {tk tv : TE} (hu : X.A.units + 1 < cLine) (hc : X.calm = true) (hN : X.N.Nodup) (hi : PI X tg iter wi) (ok : BlkOk X.N X.env.scope scope own) (hv : ∀ i ∈ vs1, i ∈ own.map (·.2))
    (hg : ∀ (s : Shared) (H : Hp) (C : Addr) (cl : List (Str × Addr)) (fp : List Addr), PG (X.blk s H scope (compEnvC scope cl C X.env) fp) tg g)
    (hi1 : ∀ (s : Shared) (H : Hp) (C : Addr) (cl : List (Str × Addr)) (fp : List Addr), PI (X.blk s H scope (compEnvC scope cl C X.env) fp) tg1 iter1 wi1)
    (hg1 : ∀ (s : Shared) (H : Hp) (C : Addr) (cl : List (Str × Addr)) (fp : List Addr), PG (X.blk s H scope (compEnvC scope cl C X.env) fp) tg1 g1)
    (ht : ∀ (s : Shared) (H : Hp) (C : Addr) (cl : List (Str × Addr)) (fp : List Addr), PTs (X.blk s H scope (compEnvC scope cl C X.env) fp) ifs tt)
    (hk : ∀ (s : Shared) (H : Hp) (C : Addr) (cl : List (Str × Addr)) (fp : List Addr), PE (X.blk s H scope (compEnvC scope cl C X.env) fp) kx tk)
    (he : ∀ (s : Shared) (H : Hp) (C : Addr) (cl : List (Str × Addr)) (fp : List Addr), PE (X.blk s H scope (compEnvC scope cl C X.env) fp) vx tv)
    (hs : ∀ x, foldedSetIterable iter X.env x = pure x) (hs1 : ∀ env x, foldedSetIterable iter1 env x = pure x) :
    PE X (.DictComp kx vx [⟨tg, iter, [], 0⟩, ⟨tg1, iter1, ifs, 0⟩] scope pos) (tDc2 wi g wi1 g1 tt tk tv (own.map (·.2)) vs1) := by
  refine ⟨fun pins s σ H Q I h => ?_⟩
  rw [arm_eval_DictComp]
  refine dc2_core hu hc hN I hi ok hv hg hi1 hg1 ht hk he hs hs1 h fun D C s' m H' I' q hn f => ⟨m, hn, fun h'' sb => ?_⟩
  obtain ⟨f0, f1, f2, f3, f4, f5⟩ := f
  exact ⟨.ref D, H', I'.turned (t' := s'.toks) (fun b o hb e => (sb.2 b hb).trans e) f0 f1 f3 f4 f5, rfl, q⟩
theorem ce_dc2 {scope : Scope} (own : List (Str × Nat)) (own1 : List Nat) {l l1 : List Nat} {Ψ Ψ1 : ISp} (hNd : c.N.Nodup) (hi : CI c tg iter Ψ is) (hg : CGc (c.blk scope) tg g l) (hi1 : CI (c.blk scope) tg1 iter1 Ψ1 is1) (hg1 : CGc (c.blk scope) tg1 g1 l1) (hq : CQ (c.blk scope) ifs ts) (hk : CE (c.blk scope) kx i) (he : CE (c.blk scope) vx j)
    (ok : (blkC c.N c.sc scope own && (l.all fun j => (own.map (·.2)).contains j) && (l1.all fun j => own1.contains j) && (own1.all fun j => (own.map (·.2)).contains j)) = true)
    (hs : ∀ (env : PySem.Env) x, foldedSetIterable iter env x = pure x := by intro _ _; rfl) (hs1 : ∀ (env : PySem.Env) x, foldedSetIterable iter1 env x = pure x := by intro _ _; rfl) :
    CE c (.DictComp kx vx [⟨tg, iter, [], 0⟩, ⟨tg1, iter1, ifs, 0⟩] scope pos) (dcI2 (own.map (·.2)) own1 g Ψ is g1 Ψ1 is1 ts i j) := .mk fun sl h Q w m σ H Qc R S q => by
  rw [Bool.and_eq_true, Bool.and_eq_true, Bool.and_eq_true] at ok
  obtain ⟨⟨⟨k1, k2⟩, k3⟩, k4⟩ := ok
  exact wE_of (fun X hX => pe_dc2 hX.hu1 hX.calm (by rw [hX.N]; exact hNd) (pi_w hX) (by rw [hX.N, hX.sc]; exact blkOk_by k1) (fun j hj => by have := List.all_eq_true.mp k4 j hj; simpa using this)
      (fun s H C cl fp => pg_w (hX.blk scope s H C cl fp)) (fun s H C cl fp => pi_w (hX.blk scope s H C cl fp)) (fun s H C cl fp => pg_w (hX.blk scope s H C cl fp)) (fun s H C cl fp => pts_w (hX.blk scope s H C cl fp)) (fun s H C cl fp => pe_w (hX.blk scope s H C cl fp)) (fun s H C cl fp => pe_w (hX.blk scope s H C cl fp)) (hs X.env) hs1)
    (dc2_run hi hg (fun j hj => by have := List.all_eq_true.mp k2 j hj; simpa using this) hi1 hg1 (fun j hj => by have := List.all_eq_true.mp k3 j hj; simpa using this) hq hk he w R S q)
end
end Ev
/-! Going through the small language: steps, loops, what stays of a heap; the laws' shared defs. -/
namespace Ev
open PySem PySem.Spec PyProof.Rows L2
/-! ### steps -/
theorem wp_go {s : IS} {ss : List IS} {sl : Sl} {h : AH} {D : AE} (w : ∀ N : Sl → AH → Prop, (∀ sl' h', wpSs ss sl' h' D → N sl' h') → wpS s sl h { nx := N, rt := D.rt, bk := D.bk, ct := D.ct }) : wpSs (s :: ss) sl h D := w _ fun _ _ x => x
theorem wp_nil {sl : Sl} {h : AH} {D : AE} (w : D.nx sl h) : wpSs [] sl h D := w
theorem for_inv {body : Val → Sl → AH → AE → Prop} {chk : AH → Prop} {D : AE} (I : Nat → Sl → AH → Prop) {xs : List Val} {sl : Sl} {h : AH} (h0 : I 0 sl h)
    (hb : ∀ (i : Nat) (v : Val) (sl : Sl) (h : AH) (N : Sl → AH → Prop), xs[i]? = some v → I i sl h → (∀ sl' h', I (i + 1) sl' h' → N sl' h') → chk h ∧ body v sl h { nx := N, rt := D.rt, bk := D.nx, ct := N })
    (he : ∀ sl h, I xs.length sl h → chk h ∧ D.nx sl h) : forW body chk D xs sl h := by
  have go : ∀ (k n : Nat) (sl : Sl) (h : AH), n + k = xs.length → I n sl h → forW body chk D (xs.drop n) sl h := by
    intro k
    induction k with
    | zero =>
      intro n sl h hn hI
      have e : xs.drop n = [] := List.drop_eq_nil_of_le (by omega)
      rw [e]
      exact he sl h (by rw [← hn]; exact hI)
    | succ k ih =>
      intro n sl h hn hI
      have hlt : n < xs.length := by omega
      rw [List.drop_eq_getElem_cons hlt]
      exact hb n xs[n] sl h _ (List.getElem?_eq_getElem hlt) hI fun sl' h' hI' => ih (n + 1) sl' h' (by omega) hI'
  have := go xs.length 0 sl h (by omega) h0
  rw [List.drop_zero] at this
  exact this
theorem whl_inv {t : Sl → AH → (Bool → AH → Prop) → Prop} {body : Sl → AH → AE → Prop} {D : AE} (I : Nat → Sl → AH → Prop) {sl : Sl} {h : AH} (m0 : Nat) (h0 : I m0 sl h)
    (hb : ∀ (m : Nat) (sl : Sl) (h : AH) (N : Sl → AH → Prop), I m sl h → (∀ m' sl' h', m' < m → I m' sl' h' → N sl' h') → t sl h fun b h1 => if b = true then body sl h1 { nx := N, ct := N, bk := D.nx, rt := D.rt } else D.nx sl h1) : ∃ n, whlW t body D n sl h := by
  refine ⟨m0 + 1, ?_⟩
  have go : ∀ (n m : Nat) (sl : Sl) (h : AH), m ≤ n → I m sl h → whlW t body D (n + 1) sl h := by
    intro n
    induction n with
    | zero =>
      intro m sl h hm hI
      exact hb m sl h _ hI fun m' sl' h' hm' hI' => absurd hm' (by omega)
    | succ n ih =>
      intro m sl h hm hI
      exact hb m sl h _ hI fun m' sl' h' hm' hI' => ih m' sl' h' (by omega) hI'
  exact go m0 m0 sl h (Nat.le_refl _) h0
theorem lc_inv {body : Val → AH → (List Val → AH → Prop) → Prop} {chk : AH → Prop} {Q : List Val → AH → Prop} (I : Nat → List Val → AH → Prop) {xs : List Val} {h : AH} (h0 : I 0 [] h)
    (hb : ∀ (i : Nat) (v : Val) (acc : List Val) (h : AH) (K : List Val → AH → Prop), xs[i]? = some v → I i acc h → (∀ rs h', (acc ++ rs).length ≤ 1000000 → I (i + 1) (acc ++ rs) h' → K rs h') → chk h ∧ body v h K)
    (he : ∀ acc h, I xs.length acc h → chk h ∧ Q acc h) : lcW body chk xs [] h Q := by
  have go : ∀ (k n : Nat) (acc : List Val) (h : AH), n + k = xs.length → I n acc h → lcW body chk (xs.drop n) acc h Q := by
    intro k
    induction k with
    | zero =>
      intro n acc h hn hI
      have e : xs.drop n = [] := List.drop_eq_nil_of_le (by omega)
      rw [e]
      exact he acc h (by rw [← hn]; exact hI)
    | succ k ih =>
      intro n acc h hn hI
      have hlt : n < xs.length := by omega
      rw [List.drop_eq_getElem_cons hlt]
      exact hb n xs[n] acc h _ (List.getElem?_eq_getElem hlt) hI fun rs h' hl hI' => ⟨hl, ih (n + 1) (acc ++ rs) h' (by omega) hI'⟩
  have := go xs.length 0 [] h (by omega) h0
  rw [List.drop_zero] at this
  exact this
/-- each item's element by itself -/
theorem lc_map {body : Val → AH → (List Val → AH → Prop) → Prop} {chk : AH → Prop} {Q : List Val → AH → Prop} (P : AH → Prop) (f : Nat → Val) {xs : List Val} {h : AH} (hn : xs.length ≤ 1000000) (h0 : P h)
    (hb : ∀ (i : Nat) (v : Val) (h : AH) (K : List Val → AH → Prop), xs[i]? = some v → P h → (∀ h', P h' → K [f i] h') → chk h ∧ body v h K)
    (he : ∀ h, P h → chk h ∧ Q ((List.range xs.length).map f) h) : lcW body chk xs [] h Q := by
  refine lc_inv (fun i acc h => P h ∧ i ≤ xs.length ∧ acc = (List.range i).map f) ⟨h0, Nat.zero_le _, rfl⟩ (fun i v acc h K hv ⟨hP, hi, hacc⟩ hK => ?_) (fun acc h ⟨hP, _, hacc⟩ => by subst hacc; exact he h hP)
  have hlt : i < xs.length := (List.getElem?_eq_some_iff.mp hv).1
  refine hb i v h _ hv hP fun h' hP' => hK _ _ ?_ ⟨hP', hlt, ?_⟩
  · subst hacc
    rw [List.length_append, List.length_map, List.length_range, List.length_singleton]
    omega
  · subst hacc
    rw [List.range_succ, List.map_append]; rfl
/-! ### what stays -/
/-- the heap has grown alone -/
structure Gr (h h' : AH) : Prop where
  le : h.length ≤ h'.length
  at_ : ∀ i, i < h.length → h'[i]? = h[i]?
/-- all but b stays -/
structure Kp (b : Nat) (h h' : AH) : Prop where
  le : h.length ≤ h'.length
  at_ : ∀ i, i < h.length → i ≠ b → h'[i]? = h[i]?
section
variable {h h' h1 h2 : AH} {b i : Nat} {o : AO}
theorem Gr.rfl : Gr h h := ⟨Nat.le_refl _, fun _ _ => Eq.refl _⟩
theorem Gr.trans (a : Gr h h1) (c : Gr h1 h2) : Gr h h2 := ⟨Nat.le_trans a.le c.le, fun i hi => (c.at_ i (Nat.lt_of_lt_of_le hi a.le)).trans (a.at_ i hi)⟩
theorem Gr.app (n : AH) : Gr h (h ++ n) := ⟨by simp, fun i hi => List.getElem?_append_left hi⟩
theorem Gr.get (g : Gr h h') (e : h[i]? = some o) : h'[i]? = some o := (g.at_ i (List.getElem?_eq_some_iff.mp e).1).trans e
theorem Gr.kp (g : Gr h h') : Kp b h h' := ⟨g.le, fun i hi _ => g.at_ i hi⟩
theorem Kp.rfl : Kp b h h := Gr.rfl.kp
theorem Kp.trans (a : Kp b h h1) (c : Kp b h1 h2) : Kp b h h2 := ⟨Nat.le_trans a.le c.le, fun i hi hb => (c.at_ i (Nat.lt_of_lt_of_le hi a.le) hb).trans (a.at_ i hi hb)⟩
theorem Kp.app (n : AH) : Kp b h (h ++ n) := (Gr.app n).kp
theorem Kp.set (o : AO) : Kp b h (h.set b o) := ⟨by simp, fun i hi hb => List.getElem?_set_ne (Ne.symm hb)⟩
theorem Kp.get (g : Kp b h h') (e : h[i]? = some o) (hb : i ≠ b) : h'[i]? = some o := (g.at_ i (List.getElem?_eq_some_iff.mp e).1 hb).trans e
theorem lt_of (e : h[i]? = some o) : i < h.length := (List.getElem?_eq_some_iff.mp e).1
theorem get_new : (h ++ [o])[h.length]? = some o := by simp
theorem get_app {n : AH} (e : h[i]? = some o) : (h ++ n)[i]? = some o := by rw [List.getElem?_append_left (lt_of e)]; exact e
theorem get_set (hi : i < h.length) : (h.set i o)[i]? = some o := List.getElem?_set_self hi
theorem get_setN (hb : i ≠ b) : (h.set b o)[i]? = h[i]? := List.getElem?_set_ne (Ne.symm hb)
/-- a list that is new since h -/
theorem Gr.setNew (g : Gr h h') (hb : h.length ≤ b) : Gr h (h'.set b o) := ⟨by simp; exact g.le, fun i hi => by rw [get_setN (by omega)]; exact g.at_ i hi⟩
theorem Kp.setNew {j : Nat} (g : Kp b h h') (hb : h.length ≤ j) : Kp b h (h'.set j o) := ⟨by simp; exact g.le, fun i hi hn => by rw [get_setN (by omega)]; exact g.at_ i hi hn⟩
end
/-! ### indices -/
theorem atI_n {α : Type} {xs : List α} (k : Nat) : atI xs (k : Int) = xs[k]? := by
  unfold atI ixN
  by_cases h : k < xs.length
  · simp [h]
  · simp [h]
theorem atI_0 {α : Type} {xs : List α} : atI xs 0 = xs[0]? := atI_n 0
theorem atI_1 {α : Type} {xs : List α} : atI xs 1 = xs[1]? := atI_n 1
theorem atI_2 {α : Type} {xs : List α} : atI xs 2 = xs[2]? := atI_n 2
theorem atI_3 {α : Type} {xs : List α} : atI xs 3 = xs[3]? := atI_n 3
theorem ixN_n {n : Nat} (k : Nat) (h : k < n) : ixN n (k : Int) = some k := by
  unfold ixN
  simp [h]
theorem ixN3_0 : ixN 3 0 = some 0 := rfl
theorem ixN3_1 : ixN 3 1 = some 1 := rfl
theorem ixN3_2 : ixN 3 2 = some 2 := rfl
theorem cmul_r {i j : Int} (h : (decide (-(2 ^ 64) < j) && decide (j < 2 ^ 64)) = true) : CMul i j := by
  simp only [Bool.and_eq_true, decide_eq_true_eq] at h
  exact .inr h
theorem cmul_l {i j : Int} (h : (decide (-(2 ^ 64) < i) && decide (i < 2 ^ 64)) = true) : CMul i j := by
  simp only [Bool.and_eq_true, decide_eq_true_eq] at h
  exact .inl h
theorem seq_ref {h : AH} {a : Nat} {xs : List Val} (e : h[a]? = some (.lst xs)) : seqOf h (.ref a) = some xs := lst_seq e
theorem dct_ref {h : AH} {a : Nat} {kvs : List (DK × Val)} (e : h[a]? = some (.dct kvs)) : dctOf h (.ref a) = some kvs := by
  show (match h[a]? with | some (.dct kvs) => some kvs | _ => none) = some kvs
  rw [e]
theorem seq_dct {h : AH} {a : Nat} {kvs : List (DK × Val)} (e : h[a]? = some (.dct kvs)) : seqOf h (.ref a) = none := by
  show (match h[a]? with | some (.lst vs) => some vs | _ => none) = none
  rw [e]
local macro_rules | `(tactic| decreasing_trivial) => `(tactic| simp only [wpS, wpE, wpEs, wpAnd, wpOr, wpT, wpTA, wpTO, wpQs, wpG, wpGs, truth, Option.map_some, Option.map_none, startA, List.map_cons, List.map_nil, List.length_cons, List.length_nil, List.cons_append, List.nil_append, List.replicate, List.getElem?_cons_zero, List.getElem?_cons_succ, Option.some.injEq, exists_eq_left', exists_eq_left, exists_eq_right, exists_eq', List.set_cons_zero, List.set_cons_succ, wipeS,
  and_assoc, exists_and_left, Val.bl.injEq, Val.int.injEq, Val.str.injEq, Val.tup.injEq, Val.ref.injEq, decide_eq_true_eq, and_true, true_and, seqOf, dctOf, if_true, if_false, Bool.false_eq_true, ite_true, ite_false, reduceIte, reduceCtorEq, false_and, exists_false, and_false, List.cons.injEq, Nat.reduceAdd, Nat.reduceSub, Nat.zero_add,
  aAdd, aSub, aMul, aMod, aDiv, aPow, aNeg, aCmp, aLt, aLe, aGt, aGe, aTup, aLst, aGet, aSet, aLenA, aTuple, aList, aAbs, aInt, aDivmod, aAll, aAny, aMaxA, aMinA, aSum, aDict0, aLs, aDc, aAppend, aI, aSl00, aSl01, aSl10, aSl11, aCut, aIs, isNon, Bool.false_bne, Bool.true_bne, wSeq, wRng1, wRng2, wEnum, wZip, aEq, atI_0, atI_1, atI_2, atI_3, atI_n, ixN3_0, ixN3_1, ixN3_2, get_set, List.length_set, List.set_set, List.getElem?_map, *])
def ir_law_box : List IS := [.asg (.name 2) (.ite (.bool (.call aLt [.l 1, .call aLenA [.l 0]])) (.call aGet [.l 0, .l 1]) (.c (.int 0))),
  .ret (.call aLst [.call aMul [.call aAbs [.l 2], .call aInt [.call aGe [.call aAbs [.l 2], .call aPow [.c (.int 10), .c (.int 18)]]]], .call aMod [.call aMul [.call aAdd [.call aAdd [.call aMod [.l 2, .c (.int 2147483629)], .call aMul [.c (.int 15485863), .l 1]], .c (.int 43)], .c (.int 48271)], .c (.int 2147483647)], .c (.int 0)])]
def Φ_box : ASp := fun vs h Q => vs.length = 2 ∧ ∃ (a : Nat) (ns : List Int) (k : Nat), vs = [.ref a, .int k] ∧ h[a]? = some (.lst (ns.map .int)) ∧ k ≤ 63 ∧ ∀ n x : Int, 0 ≤ n → 0 ≤ x → x < 2147483647 → Q (.ref h.length) (h ++ [.lst [.int n, .int x, .int 0]])
end Ev
namespace Ev
open PySem PySem.Spec PyProof.Rows L2
local macro_rules | `(tactic| decreasing_trivial) => `(tactic| simp only [wpS, wpE, wpEs, wpAnd, wpOr, wpT, wpTA, wpTO, wpQs, wpG, wpGs, truth, Option.map_some, Option.map_none, startA, List.map_cons, List.map_nil, List.length_cons, List.length_nil, List.cons_append, List.nil_append, List.replicate, List.getElem?_cons_zero, List.getElem?_cons_succ, Option.some.injEq, exists_eq_left', exists_eq_left, exists_eq_right, exists_eq', List.set_cons_zero, List.set_cons_succ, wipeS,
  and_assoc, exists_and_left, Val.bl.injEq, Val.int.injEq, Val.str.injEq, Val.tup.injEq, Val.ref.injEq, decide_eq_true_eq, and_true, true_and, seqOf, dctOf, if_true, if_false, Bool.false_eq_true, ite_true, ite_false, reduceIte, reduceCtorEq, false_and, exists_false, and_false, List.cons.injEq, Nat.reduceAdd, Nat.reduceSub, Nat.zero_add,
  aAdd, aSub, aMul, aMod, aDiv, aPow, aNeg, aCmp, aLt, aLe, aGt, aGe, aTup, aLst, aGet, aSet, aLenA, aTuple, aList, aAbs, aInt, aDivmod, aAll, aAny, aMaxA, aMinA, aSum, aDict0, aLs, aDc, aAppend, aI, aSl00, aSl01, aSl10, aSl11, aCut, aIs, isNon, Bool.false_bne, Bool.true_bne, wSeq, wRng1, wRng2, wEnum, wZip, aEq, atI_0, atI_1, atI_2, atI_3, atI_n, ixN3_0, ixN3_1, ixN3_2, get_set, List.length_set, List.set_set, List.getElem?_map, *])
theorem cpow18 : CPow 10 18 := ⟨by decide, by decide, by decide⟩
theorem cpow7 : CPow 10 7 := ⟨by decide, by decide, by decide⟩
theorem wp_box : ∀ vs h Q, Φ_box vs h Q → vs.length = 2 → wpSs ir_law_box (startA 3 vs) h { nx := fun _ h' => Q .non h', rt := Q } := by
  rintro vs h Q ⟨-, a, ns, k, rfl, ha, hk, q⟩ -
  refine wp_go fun N hN => ?_
  have key : ∀ z : Int, N [some (.ref a), some (.int k), some (.int z)] h := fun z => by
    refine hN _ _ (wp_go fun N hN => ?_)
    decreasing_trivial
    refine ⟨cpow18, ?_, by decide, cmul_l (by decide), cmul_r (by decide), by decide, by decide, ?_⟩
    · refine .inr ?_
      split <;> split <;> omega
    · refine q _ _ ?_ (Int.emod_nonneg _ (by decide)) (Int.emod_lt_of_pos _ (by decide))
      split <;> split <;> omega
  revert key
  decreasing_trivial
  intro key
  split
  · rename_i hlt
    rw [List.length_map] at hlt
    rw [List.getElem?_eq_getElem (by omega)]
    exact key _
  · exact key _
/-! ### boxes -/
def boxMax : Nat := 1000000000
def BoxAt (h : AH) (b M : Nat) : Prop := ∃ n x c : Int, h[b]? = some (.lst [.int n, .int x, .int c]) ∧ 0 ≤ n ∧ 0 ≤ x ∧ x < 2147483647 ∧ 0 ≤ c ∧ c ≤ (M : Int)
theorem BoxAt.mono {h : AH} {b M M' : Nat} (B : BoxAt h b M) (hM : M ≤ M') : BoxAt h b M' := let ⟨n, x, c, e, h1, h2, h3, h4, h5⟩ := B; ⟨n, x, c, e, h1, h2, h3, h4, by omega⟩
theorem BoxAt.gr {h h' : AH} {b M : Nat} (B : BoxAt h b M) (g : Gr h h') : BoxAt h' b M := let ⟨n, x, c, e, r⟩ := B; ⟨n, x, c, g.get e, r⟩
theorem BoxAt.lt {h : AH} {b M : Nat} (B : BoxAt h b M) : b < h.length := let ⟨n, x, c, e, r⟩ := B; lt_of e
theorem BoxAt.ne {h : AH} {b M i : Nat} (B : BoxAt h b M) (hi : h.length ≤ i) : i ≠ b := by have := B.lt; omega
def ir_law_take (Φ__law_take : ASp) : List IS := [.iff (.bool (.call aGt [.call aGet [.l 0, .c (.int 0)], .c (.int 0)])) [.asg (.tup [.sub aSet (.l 0) (.c (.int 0)), .name 5]) (.call aDivmod [.call aGet [.l 0, .c (.int 0)], .l 1]),
  .ret (.l 5)] [],
  .iff (.bool (.call aGt [.l 1, .call aPow [.c (.int 10), .c (.int 7)]])) [.ret (.call aMod [.call aAdd [.call Φ__law_take [.l 0, .call aPow [.c (.int 10), .c (.int 7)]], .call aMul [.call aPow [.c (.int 10), .c (.int 7)], .call Φ__law_take [.l 0, .call aAdd [.call aDiv [.call aSub [.l 1, .c (.int 1)], .call aPow [.c (.int 10), .c (.int 7)]], .c (.int 1)]]]], .l 1])] [],
  .asg (.sub aSet (.l 0) (.c (.int 2))) (.call aAdd [.call aGet [.l 0, .c (.int 2)], .c (.int 1)]),
  .asg (.name 2) (.call aAdd [.c (.int 69621), .call aMul [.call aGet [.l 0, .c (.int 2)], .call aGet [.l 0, .c (.int 2)]]]),
  .asg (.name 3) (.call aMod [.call aMul [.call aAdd [.call aGet [.l 0, .c (.int 1)], .call aMul [.c (.int 39373), .call aGet [.l 0, .c (.int 2)]]], .l 2], .c (.int 2147483587)]),
  .asg (.name 4) (.call aMod [.call aAdd [.call aMul [.l 3, .call aAdd [.call aMod [.l 3, .c (.int 30011)], .c (.int 5)]], .call aGet [.l 0, .c (.int 2)]], .c (.int 2147483563)]),
  .ret (.call aMod [.call aDiv [.call aMod [.call aMul [.l 4, .call aAdd [.call aMod [.l 4, .c (.int 1013)], .c (.int 3)]], .c (.int 998244353)], .c (.int 16)], .l 1])]
/-- a draw below s -/
def Φ_take : ASp := fun vs h Q => vs.length = 2 ∧ ∃ (b M : Nat) (s : Int), vs = [.ref b, .int s] ∧ BoxAt h b M ∧ M + 1 ≤ boxMax ∧ 1 ≤ s ∧ s ≤ 10000000 ∧
  ∀ (z : Nat) (h' : AH), (z : Int) < s → Kp b h h' → h'.length = h.length → BoxAt h' b (M + 1) → Q (.int z) h'
def aBot : ASp := fun _ _ _ => False
theorem wp_take : ∀ vs h Q, Φ_take vs h Q → vs.length = 2 → wpSs (ir_law_take aBot) (startA 6 vs) h { nx := fun _ h' => Q .non h', rt := Q } := by
  rintro vs h Q ⟨-, b, M, s, rfl, ⟨n, x, c, e, hn, hx, hx2, hc, hM⟩, hM2, hs, hs2, q⟩ -
  unfold boxMax at hM2
  have hb := lt_of e
  have q' : ∀ (z : Int) (l : AO), 0 ≤ z → z < s → (∃ n x c : Int, l = .lst [.int n, .int x, .int c] ∧ 0 ≤ n ∧ 0 ≤ x ∧ x < 2147483647 ∧ 0 ≤ c ∧ c ≤ ((M + 1 : Nat) : Int)) → Q (.int z) (h.set b l) := fun z l h0 h1 ⟨n, x, c, e, r⟩ => by
    have := q z.toNat (h.set b l) (by omega) (Kp.set l) (by simp) ⟨n, x, c, by rw [get_set hb, e], r⟩
    rw [Int.toNat_of_nonneg h0] at this; exact this
  refine wp_go fun N hN => ?_
  decreasing_trivial
  split
  · refine wp_go fun N' hN' => ?_
    decreasing_trivial
    refine ⟨⟨by omega, by omega⟩, hN' _ _ (wp_go fun N'' _ => ?_)⟩
    decreasing_trivial
    refine q' _ _ (Int.emod_nonneg _ (by omega)) (Int.emod_lt_of_pos _ (by omega)) ⟨_, _, _, rfl, Int.ediv_nonneg hn (by omega), hx, hx2, hc, by omega⟩
  refine hN _ _ (wp_go fun N hN => ?_)
  decreasing_trivial
  refine ⟨cpow7, ?_⟩
  rw [if_neg (by have : (10:Int) ^ Int.toNat 7 = 10000000 := by decide
                 omega)]
  refine hN _ _ (wp_go fun N hN => ?_)
  decreasing_trivial
  have hl : b < (h.set b (.lst [.int n, .int x, .int (c + 1)])).length := by simpa using hb
  refine hN _ _ (wp_go fun N hN => ?_)
  decreasing_trivial
  refine ⟨.inl ⟨by omega, by omega⟩, hN _ _ (wp_go fun N hN => ?_)⟩
  decreasing_trivial
  refine ⟨cmul_l (by decide), .inr ?_, by decide, hN _ _ (wp_go fun N hN => ?_)⟩
  · have : 0 ≤ (c + 1) * (c + 1) := Int.mul_nonneg (by omega) (by omega)
    have : (c + 1) * (c + 1) ≤ 1000000001 * 1000000001 := Int.mul_le_mul (by omega) (by omega) (by omega) (by omega)
    omega
  generalize (x + 39373 * (c + 1)) * (69621 + (c + 1) * (c + 1)) = y
  have y0 := Int.emod_nonneg y (show (2147483587 : Int) ≠ 0 by decide)
  have y1 := Int.emod_lt_of_pos y (show (0 : Int) < 2147483587 by decide)
  decreasing_trivial
  refine ⟨by decide, .inl ⟨by omega, by omega⟩, by decide, hN _ _ (wp_go fun N hN => ?_)⟩
  generalize (y % 2147483587 * (y % 2147483587 % 30011 + 5) + (c + 1)) = z
  have z0 := Int.emod_nonneg z (show (2147483563 : Int) ≠ 0 by decide)
  have z1 := Int.emod_lt_of_pos z (show (0 : Int) < 2147483563 by decide)
  decreasing_trivial
  refine ⟨by decide, .inl ⟨by omega, by omega⟩, by decide, ⟨by decide, by decide⟩, by omega, ?_⟩
  refine q' _ _ (Int.emod_nonneg _ (by omega)) (Int.emod_lt_of_pos _ (by omega)) ⟨_, _, _, rfl, hn, hx, hx2, by omega, by omega⟩
end Ev
namespace Ev
open PySem PySem.Spec PyProof.Rows L2
mutual
/-- no dict within, texts well made, nested at most so deep -/
def okD : Nat → PyData → Bool
  | _, .none => true
  | _, .bool _ => true
  | _, .int _ => true
  | _, .str x => PyData.strOk x
  | 0, .list _ => false
  | 0, .tuple _ => false
  | n + 1, .list xs => okDs n xs
  | n + 1, .tuple xs => okDs n xs
  | _, .dict _ => false
def okDs : Nat → List PyData → Bool
  | _, [] => true
  | n, x :: xs => okD n x && okDs n xs
end
theorem okDs_all {n : Nat} : ∀ {xs : List PyData}, okDs n xs = true ↔ ∀ x ∈ xs, okD n x = true
  | [] => by simp [okDs]
  | x :: xs => by
    rw [okDs, Bool.and_eq_true, okDs_all (xs := xs)]
    simp
mutual
theorem okD_lay : ∀ (n : Nat) (d : PyData), okD n d = true → d.canLay0 = true ∧ d.depth ≤ n
  | _, .none, _ => ⟨rfl, Nat.zero_le _⟩
  | _, .bool _, _ => ⟨rfl, Nat.zero_le _⟩
  | _, .int _, _ => ⟨rfl, Nat.zero_le _⟩
  | _, .str x, h => ⟨by simpa [okD, PyData.canLay0] using h, Nat.zero_le _⟩
  | 0, .list _, h => by simp [okD] at h
  | 0, .tuple _, h => by simp [okD] at h
  | n + 1, .list xs, h => by
    have := okDs_lay n xs (by simpa [okD] using h)
    exact ⟨by simpa [PyData.canLay0] using this.1, by simpa [PyData.depth] using this.2⟩
  | n + 1, .tuple xs, h => by
    have := okDs_lay n xs (by simpa [okD] using h)
    exact ⟨by simpa [PyData.canLay0] using this.1, by simpa [PyData.depth] using this.2⟩
  | 0, .dict _, h => by simp [okD] at h
  | n + 1, .dict _, h => by simp [okD] at h
theorem okDs_lay : ∀ (n : Nat) (ds : List PyData), okDs n ds = true → PyData.canLayAll0 ds = true ∧ PyData.depthAll ds ≤ n
  | _, [], _ => ⟨rfl, Nat.zero_le _⟩
  | n, d :: ds, h => by
    rw [okDs, Bool.and_eq_true] at h
    have h1 := okD_lay n d h.1
    have h2 := okDs_lay n ds h.2
    exact ⟨by simp [PyData.canLayAll0, h1.1, h2.1], by rw [PyData.depthAll]; exact Nat.max_le.mpr ⟨h1.2, h2.2⟩⟩
end
theorem okD_shaped {n : Nat} {d : PyData} (h : okD n d = true) (hn : n ≤ 64 := by decide) : SeqAt.shaped d = true := by
  have := okD_lay n d h
  unfold SeqAt.shaped
  rw [this.1, decide_eq_true (Nat.le_trans this.2 hn)]; rfl
mutual
theorem eqv_self : ∀ (n : Nat) (d : PyData), okD n d = true → PyData.eqv d d = true
  | _, .none, _ => by simp [PyData.eqv]
  | _, .bool b, _ => by simp [PyData.eqv]
  | _, .int _, _ => by simp [PyData.eqv]
  | _, .str _, _ => by simp [PyData.eqv]
  | 0, .list _, h => by simp [okD] at h
  | 0, .tuple _, h => by simp [okD] at h
  | n + 1, .list xs, h => by
    have := eqvs_self n xs (by simpa [okD] using h)
    simpa [PyData.eqv] using this
  | n + 1, .tuple xs, h => by
    have := eqvs_self n xs (by simpa [okD] using h)
    simpa [PyData.eqv] using this
  | 0, .dict _, h => by simp [okD] at h
  | n + 1, .dict _, h => by simp [okD] at h
theorem eqvs_self : ∀ (n : Nat) (ds : List PyData), okDs n ds = true → PyData.eqvAll ds ds = true
  | _, [], _ => by simp [PyData.eqvAll]
  | n, d :: ds, h => by
    rw [okDs, Bool.and_eq_true] at h
    simp [PyData.eqvAll, eqv_self n d h.1, eqvs_self n ds h.2]
end
mutual
theorem okD_mono : ∀ (n m : Nat) (d : PyData), n ≤ m → okD n d = true → okD m d = true
  | _, _, .none, _, _ => by simp [okD]
  | _, _, .bool _, _, _ => by simp [okD]
  | _, _, .int _, _, _ => by simp [okD]
  | _, _, .str x, _, h => by simpa [okD] using h
  | 0, _, .list _, _, h => by simp [okD] at h
  | 0, _, .tuple _, _, h => by simp [okD] at h
  | n + 1, 0, .list xs, hm, _ => by omega
  | n + 1, 0, .tuple xs, hm, _ => by omega
  | n + 1, m + 1, .list xs, hm, h => by
    have := okDs_mono n m xs (by omega) (by simpa [okD] using h)
    simpa [okD] using this
  | n + 1, m + 1, .tuple xs, hm, h => by
    have := okDs_mono n m xs (by omega) (by simpa [okD] using h)
    simpa [okD] using this
  | 0, _, .dict _, _, h => by simp [okD] at h
  | n + 1, _, .dict _, _, h => by simp [okD] at h
theorem okDs_mono : ∀ (n m : Nat) (ds : List PyData), n ≤ m → okDs n ds = true → okDs m ds = true
  | _, _, [], _, _ => by simp [okDs]
  | n, m, d :: ds, hm, h => by
    rw [okDs, Bool.and_eq_true] at h
    rw [okDs, okD_mono n m d hm h.1, okDs_mono n m ds hm h.2]; rfl
end
/-- the same with lists in the place of all tuples -/
def toL : PyData → PyData
  | .list xs => .list (toLs xs)
  | .tuple xs => .list (toLs xs)
  | .none => .none
  | .bool b => .bool b
  | .int i => .int i
  | .str s => .str s
  | .dict kvs => .dict kvs
where toLs : List PyData → List PyData
  | [] => []
  | x :: xs => toL x :: toLs xs
theorem toLs_map : ∀ xs : List PyData, toL.toLs xs = xs.map toL
  | [] => by rw [toL.toLs]; rfl
  | x :: xs => by rw [toL.toLs, toLs_map xs]; rfl
def pD (q : Nat × Nat) : PyData := .tuple [.int q.1, .int q.2]
def rowD (r : List (Nat × Nat)) : PyData := .tuple (r.map pD)
def kD (k : List (List (Nat × Nat))) : PyData := .tuple (k.map rowD)
def kat (k : List (List (Nat × Nat))) (r d : Nat) : Option (Nat × Nat) := k[r]?.bind fun row => row[d]?
/-- so many doors in each row, so many rests, each pair led back -/
structure GK (D R : Nat) (k : List (List (Nat × Nat))) : Prop where
  rows : k.length = R
  doors : ∀ row ∈ k, row.length = D
  back : ∀ r d e s, kat k r d = some (e, s) → kat k s e = some (d, r)
theorem GK.at {D R : Nat} {k : List (List (Nat × Nat))} (h : GK D R k) {r d : Nat} (hr : r < R) (hd : d < D) : ∃ e s, kat k r d = some (e, s) ∧ e < D ∧ s < R := by
  have hr' : r < k.length := by rw [h.rows]; exact hr
  have hrow := h.doors _ (List.getElem_mem hr')
  have hd' : d < (k[r]).length := by rw [hrow]; exact hd
  have e1 : kat k r d = some ((k[r])[d]) := by
    unfold kat
    rw [List.getElem?_eq_getElem hr']
    exact List.getElem?_eq_getElem hd'
  refine ⟨((k[r])[d]).1, ((k[r])[d]).2, e1, ?_⟩
  have e2 := h.back r d ((k[r])[d]).1 ((k[r])[d]).2 e1
  unfold kat at e2
  cases q : k[((k[r])[d]).2]? with
  | none => rw [q] at e2; cases e2
  | some row =>
    rw [q] at e2
    have hs := (List.getElem?_eq_some_iff.mp q).1
    have hm : row ∈ k := List.mem_of_getElem? q
    have he : ((k[r])[d]).1 < row.length := (List.getElem?_eq_some_iff.mp (show row[((k[r])[d]).1]? = some (d, r) from e2)).1
    rw [h.doors _ hm] at he
    rw [h.rows] at hs
    exact ⟨he, hs⟩
theorem kat_row {k : List (List (Nat × Nat))} {r d : Nat} {q : Nat × Nat} (h : kat k r d = some q) : ∃ row, k[r]? = some row ∧ row[d]? = some q := by
  unfold kat at h
  cases e : k[r]? with
  | none => rw [e] at h; cases h
  | some row => rw [e] at h; exact ⟨row, rfl, h⟩
theorem ok_pD (q : Nat × Nat) : okD 1 (pD q) = true := by simp [pD, okD, okDs]
theorem ok_rowD (r : List (Nat × Nat)) : okD 2 (rowD r) = true := by
  unfold rowD okD
  rw [okDs_all]
  intro x hx
  obtain ⟨q, _, rfl⟩ := List.mem_map.mp hx
  exact ok_pD q
theorem ok_kD (k : List (List (Nat × Nat))) : okD 3 (kD k) = true := by
  unfold kD okD
  rw [okDs_all]
  intro x hx
  obtain ⟨q, _, rfl⟩ := List.mem_map.mp hx
  exact ok_rowD q
theorem eraseIdx_mapD {α β} (f : α → β) : ∀ (l : List α) (i : Nat), (l.map f).eraseIdx i = (l.eraseIdx i).map f
  | [], i => by simp
  | a :: l, 0 => by simp
  | a :: l, i + 1 => by simp [eraseIdx_mapD f l i]
def mkK (D R : Nat) (f : Nat → Nat → Nat × Nat) : List (List (Nat × Nat)) := (List.range R).map fun r => (List.range D).map (f r)
theorem mkK_row {D R : Nat} {f : Nat → Nat → Nat × Nat} {r : Nat} (h : r < R) : (mkK D R f)[r]? = some ((List.range D).map (f r)) := by
  unfold mkK
  rw [List.getElem?_map, List.getElem?_range h]; rfl
theorem mkK_at {D R : Nat} {f : Nat → Nat → Nat × Nat} {r d : Nat} (h : r < R) (h2 : d < D) : kat (mkK D R f) r d = some (f r d) := by
  unfold kat
  rw [mkK_row h]
  show ((List.range D).map (f r))[d]? = _
  rw [List.getElem?_map, List.getElem?_range h2]; rfl
theorem mkK_inv {D R : Nat} {f : Nat → Nat → Nat × Nat} {r d : Nat} {q : Nat × Nat} (h : kat (mkK D R f) r d = some q) : r < R ∧ d < D ∧ q = f r d := by
  obtain ⟨row, h1, h2⟩ := kat_row h
  have hr : r < R := by
    have := (List.getElem?_eq_some_iff.mp h1).1
    simpa [mkK] using this
  rw [mkK_row hr] at h1
  have h1 := Option.some.inj h1
  subst h1
  have hd : d < D := by
    have := (List.getElem?_eq_some_iff.mp h2).1
    simpa using this
  rw [List.getElem?_map, List.getElem?_range hd] at h2
  exact ⟨hr, hd, (Option.some.inj h2).symm⟩
/-- each pair is led back -/
def Backs (D R : Nat) (f : Nat → Nat → Nat × Nat) : Prop := ∀ r d, r < R → d < D → (f r d).1 < D ∧ (f r d).2 < R ∧ f (f r d).2 (f r d).1 = (d, r)
theorem Backs.gk {D R : Nat} {f : Nat → Nat → Nat × Nat} (h : Backs D R f) : GK D R (mkK D R f) := by
  refine ⟨by simp [mkK], fun row hrow => ?_, fun r d e s hk => ?_⟩
  · unfold mkK at hrow
    obtain ⟨r, _, rfl⟩ := List.mem_map.mp hrow
    simp
  · obtain ⟨hr, hd, e1⟩ := mkK_inv hk
    obtain ⟨b1, b2, b3⟩ := h r d hr hd
    rw [← e1] at b1 b2 b3
    rw [mkK_at b2 b1, b3]
theorem GK.mk' {D R : Nat} {k : List (List (Nat × Nat))} (h : GK D R k) : ∃ f, k = mkK D R f ∧ Backs D R f := by
  refine ⟨fun r d => (kat k r d).getD (0, 0), ?_, fun r d hr hd => ?_⟩
  · apply List.ext_getElem?
    intro r
    by_cases hr : r < R
    · rw [mkK_row hr]
      have hr' : r < k.length := by rw [h.rows]; exact hr
      rw [List.getElem?_eq_getElem hr']
      have hl := h.doors _ (List.getElem_mem hr')
      congr 1
      apply List.ext_getElem?
      intro d
      by_cases hd : d < D
      · rw [List.getElem?_map, List.getElem?_range hd, List.getElem?_eq_getElem (by rw [hl]; exact hd)]
        show _ = some ((kat k r d).getD (0, 0))
        unfold kat
        rw [List.getElem?_eq_getElem hr']
        show _ = some ((k[r])[d]?.getD (0, 0))
        rw [List.getElem?_eq_getElem (by rw [hl]; exact hd)]; rfl
      · rw [List.getElem?_eq_none (by rw [hl]; omega), List.getElem?_eq_none (by simp; omega)]
    · rw [List.getElem?_eq_none (by rw [h.rows]; omega), List.getElem?_eq_none (by simp [mkK]; omega)]
  · obtain ⟨e, s, h1, h2, h3⟩ := h.at hr hd
    have h4 := h.back r d e s h1
    show ((kat k r d).getD (0, 0)).1 < D ∧ ((kat k r d).getD (0, 0)).2 < R ∧ (kat k ((kat k r d).getD (0, 0)).2 ((kat k r d).getD (0, 0)).1).getD (0, 0) = (d, r)
    rw [h1]
    refine ⟨h2, h3, ?_⟩
    show (kat k s e).getD (0, 0) = (d, r)
    rw [h4]; rfl
theorem rowD_mk {D : Nat} {g : Nat → Nat × Nat} : rowD ((List.range D).map g) = .tuple ((List.range D).map fun d => pD (g d)) := by
  unfold rowD
  rw [List.map_map]; rfl
theorem kD_mk {D R : Nat} {f : Nat → Nat → Nat × Nat} : kD (mkK D R f) = .tuple ((List.range R).map fun r => .tuple ((List.range D).map fun d => pD (f r d))) := by
  unfold kD mkK
  rw [List.map_map]
  congr 1
  apply List.map_congr_left
  intro r _
  exact rowD_mk
theorem rng_get {α : Type} {n i : Nat} {f : Nat → α} {d : α} (h : ((List.range n).map f)[i]? = some d) : i < n ∧ d = f i := by
  have hi : i < n := by
    have := (List.getElem?_eq_some_iff.mp h).1
    simpa using this
  rw [List.getElem?_map, List.getElem?_range hi] at h
  exact ⟨hi, (Option.some.inj h).symm⟩
theorem rng_at {α : Type} {n i : Nat} {f : Nat → α} (h : i < n) : ((List.range n).map f)[i]? = some (f i) := by
  rw [List.getElem?_map, List.getElem?_range h]; rfl
theorem rng_snoc {α : Type} {n : Nat} {f : Nat → α} : (List.range (n + 1)).map f = (List.range n).map f ++ [f n] := by rw [List.range_succ, List.map_append]; rfl
theorem rows_mk {D R : Nat} {f : Nat → Nat → Nat × Nat} : (mkK D R f).map rowD = (List.range R).map fun r => PyData.tuple ((List.range D).map fun d => pD (f r d)) := by
  have h := kD_mk (D := D) (R := R) (f := f)
  unfold kD at h
  injection h
theorem rng_rev {α : Type} {n i : Nat} {f : Nat → α} (h : i < n) : (((List.range n).map f).reverse)[i]? = some (f (n - 1 - i)) := by
  rw [List.getElem?_reverse (by simpa using h)]
  rw [List.length_map, List.length_range]
  exact rng_at (by omega)
theorem rng_app {α : Type} {a b : Nat} {f : Nat → α} : (List.range (a + b)).map f = (List.range a).map f ++ (List.range b).map fun i => f (a + i) := by
  rw [List.range_add, List.map_append, List.map_map]; rfl
/-- short ints, no texts, no dicts -/
def smD : PyData → Bool
  | .int i => decide (i.natAbs < 10 ^ 12)
  | .none => true
  | .bool _ => true
  | .list xs => smDs xs
  | .tuple xs => smDs xs
  | .str _ => false
  | .dict _ => false
where smDs : List PyData → Bool
  | [] => true
  | x :: xs => smD x && smDs xs
theorem smDs_all : ∀ {xs : List PyData}, smD.smDs xs = true ↔ ∀ x ∈ xs, smD x = true
  | [] => by simp [smD.smDs]
  | x :: xs => by rw [smD.smDs, Bool.and_eq_true, smDs_all (xs := xs)]; simp
theorem log2_small {i : Int} (h : i.natAbs < 10 ^ 12) : i.natAbs.log2 < 1920 := by
  by_cases z : i.natAbs = 0
  · rw [z]; decide
  · have h2 : i.natAbs < 2 ^ 40 := Nat.lt_trans h (by decide)
    have := (Nat.log2_lt z).mpr h2
    omega
mutual
theorem smD_sh : ∀ (d : PyData), smD d = true → d.showable = true ∧ d.leavesShort 13 = true
  | .none, _ => ⟨rfl, rfl⟩
  | .bool _, _ => ⟨rfl, rfl⟩
  | .int i, h => by
    have h := of_decide_eq_true (show decide (i.natAbs < 10 ^ 12) = true from h)
    exact ⟨decide_eq_true (log2_small h), decide_eq_true (PyData.shown_int_le h)⟩
  | .list xs, h => smDs_sh xs h
  | .tuple xs, h => smDs_sh xs h
  | .str _, h => nomatch h
  | .dict _, h => nomatch h
theorem smDs_sh : ∀ (xs : List PyData), smD.smDs xs = true → PyData.showableAll xs = true ∧ PyData.leavesShortAll 13 xs = true
  | [], _ => ⟨rfl, rfl⟩
  | x :: xs, h => by
    rw [smD.smDs, Bool.and_eq_true] at h
    obtain ⟨a1, a2⟩ := smD_sh x h.1
    obtain ⟨b1, b2⟩ := smDs_sh xs h.2
    exact ⟨by rw [PyData.showableAll, a1, b1]; rfl, by rw [PyData.leavesShortAll, a2, b2]; rfl⟩
end
theorem show_of {n : Nat} {d : PyData} (h1 : okD n d = true) (h2 : smD d = true) (h3 : d.bulk ≤ 2 ^ 20) (hn : n ≤ 60 := by decide) : ShowOk d := by
  obtain ⟨a1, a2⟩ := okD_lay n d h1
  obtain ⟨b1, b2⟩ := smD_sh d h2
  exact ⟨b1, PyData.hasDict_of_canLay d a1, Nat.le_trans a2 hn, PyData.shown_fits_bulk (by decide) (by decide) b2 h3⟩
theorem bulkAll_le {b : Nat} : ∀ (xs : List PyData), (∀ x ∈ xs, x.bulk ≤ b) → PyData.bulkAll xs ≤ xs.length * (b + 1)
  | [], _ => Nat.zero_le _
  | x :: xs, h => by
    have h1 := h x List.mem_cons_self
    have h2 := bulkAll_le xs fun y hy => h y (List.mem_cons_of_mem _ hy)
    rw [PyData.bulkAll, List.length_cons, Nat.add_mul]
    omega
theorem bulk_kD {D R : Nat} {f : Nat → Nat → Nat × Nat} : (kD (mkK D R f)).bulk ≤ R * (D * 3 + 1) := by
  rw [kD_mk]
  show PyData.bulkAll _ ≤ _
  refine Nat.le_trans (bulkAll_le (b := D * 3) _ fun x hx => ?_) (by simp)
  obtain ⟨r, _, rfl⟩ := List.mem_map.mp hx
  show PyData.bulkAll _ ≤ _
  refine Nat.le_trans (bulkAll_le (b := 2) _ fun x hx => ?_) (by simp)
  obtain ⟨d, _, rfl⟩ := List.mem_map.mp hx
  exact Nat.le_of_eq rfl
theorem sm_kD {D R : Nat} {f : Nat → Nat → Nat × Nat} (hB : Backs D R f) (h1 : D ≤ 1000000) (h2 : R ≤ 1000000) : smD (kD (mkK D R f)) = true := by
  rw [kD_mk]
  refine smDs_all.mpr fun x hx => ?_
  obtain ⟨r, hr, rfl⟩ := List.mem_map.mp hx
  refine smDs_all.mpr fun x hx => ?_
  obtain ⟨d, hd, rfl⟩ := List.mem_map.mp hx
  obtain ⟨b1, b2, _⟩ := hB r d (List.mem_range.mp hr) (List.mem_range.mp hd)
  have e1 : ((f r d).1 : Int).natAbs < 10 ^ 12 := by
    have : (10 : Nat) ^ 12 = 1000000000000 := by decide
    omega
  have e2 : ((f r d).2 : Int).natAbs < 10 ^ 12 := by
    have : (10 : Nat) ^ 12 = 1000000000000 := by decide
    omega
  show (decide _ && (decide _ && true)) = true
  rw [decide_eq_true e1, decide_eq_true e2]; rfl
theorem pD_inj {a b : Nat × Nat} (h : pD a = pD b) : a = b := by
  unfold pD at h
  simp only [PyData.tuple.injEq, List.cons.injEq, PyData.int.injEq, and_true] at h
  exact Prod.ext (by omega) (by omega)
theorem map_inj {α β : Type} {f : α → β} (hf : ∀ a b, f a = f b → a = b) : ∀ {xs ys : List α}, xs.map f = ys.map f → xs = ys
  | [], [], _ => rfl
  | [], _ :: _, h => by simp at h
  | _ :: _, [], h => by simp at h
  | x :: xs, y :: ys, h => by
    rw [List.map_cons, List.map_cons, List.cons.injEq] at h
    rw [hf _ _ h.1, map_inj hf h.2]
theorem rowD_inj {a b : List (Nat × Nat)} (h : rowD a = rowD b) : a = b := by
  unfold rowD at h
  rw [PyData.tuple.injEq] at h
  exact map_inj (fun _ _ => pD_inj) h
theorem kD_inj {a b : List (List (Nat × Nat))} (h : kD a = kD b) : a = b := by
  unfold kD at h
  rw [PyData.tuple.injEq] at h
  exact map_inj (fun _ _ => rowD_inj) h
theorem mkK_eq {D R D' R' : Nat} {f f' : Nat → Nat → Nat × Nat} (h : kD (mkK D R f) = kD (mkK D' R' f')) (hR : 0 < R) : D = D' ∧ R = R' ∧ ∀ r d, r < R → d < D → f r d = f' r d := by
  have h := kD_inj h
  have e1 : R = R' := by
    have := congrArg List.length h
    simpa [mkK] using this
  subst e1
  have rows : ∀ r, r < R → (List.range D).map (f r) = (List.range D').map (f' r) := fun r hr => by
    have := congrArg (fun k => k[r]?) h
    simp only [mkK_row hr] at this
    exact Option.some.inj this
  have e2 : D = D' := by
    have := congrArg List.length (rows 0 hR)
    simpa using this
  subst e2
  refine ⟨rfl, rfl, fun r d hr hd => ?_⟩
  have := congrArg (fun k => k[d]?) (rows r hr)
  simp only [rng_at hd] at this
  exact Option.some.inj this
theorem mkK_congr {D R : Nat} {f g : Nat → Nat → Nat × Nat} (h : ∀ r d, r < R → d < D → f r d = g r d) : mkK D R f = mkK D R g := by
  unfold mkK
  refine List.map_congr_left fun r hr => List.map_congr_left fun d hd => h r d (List.mem_range.mp hr) (List.mem_range.mp hd)
/-! ### of which type -/
theorem kb_NoneType_bool : kitB "NoneType" "bool" = some false := by decide +kernel
theorem kb_NoneType_int : kitB "NoneType" "int" = some false := by decide +kernel
theorem kb_NoneType_str : kitB "NoneType" "str" = some false := by decide +kernel
theorem kb_NoneType_list : kitB "NoneType" "list" = some false := by decide +kernel
theorem kb_NoneType_tuple : kitB "NoneType" "tuple" = some false := by decide +kernel
theorem kb_bool_bool : kitB "bool" "bool" = some true := by decide +kernel
theorem kb_bool_int : kitB "bool" "int" = some true := by decide +kernel
theorem kb_bool_str : kitB "bool" "str" = some false := by decide +kernel
theorem kb_bool_list : kitB "bool" "list" = some false := by decide +kernel
theorem kb_bool_tuple : kitB "bool" "tuple" = some false := by decide +kernel
theorem kb_int_bool : kitB "int" "bool" = some false := by decide +kernel
theorem kb_int_int : kitB "int" "int" = some true := by decide +kernel
theorem kb_int_str : kitB "int" "str" = some false := by decide +kernel
theorem kb_int_list : kitB "int" "list" = some false := by decide +kernel
theorem kb_int_tuple : kitB "int" "tuple" = some false := by decide +kernel
theorem kb_str_bool : kitB "str" "bool" = some false := by decide +kernel
theorem kb_str_int : kitB "str" "int" = some false := by decide +kernel
theorem kb_str_str : kitB "str" "str" = some true := by decide +kernel
theorem kb_str_list : kitB "str" "list" = some false := by decide +kernel
theorem kb_str_tuple : kitB "str" "tuple" = some false := by decide +kernel
theorem kb_list_bool : kitB "list" "bool" = some false := by decide +kernel
theorem kb_list_int : kitB "list" "int" = some false := by decide +kernel
theorem kb_list_str : kitB "list" "str" = some false := by decide +kernel
theorem kb_list_list : kitB "list" "list" = some true := by decide +kernel
theorem kb_list_tuple : kitB "list" "tuple" = some false := by decide +kernel
theorem kb_tuple_bool : kitB "tuple" "bool" = some false := by decide +kernel
theorem kb_tuple_int : kitB "tuple" "int" = some false := by decide +kernel
theorem kb_tuple_str : kitB "tuple" "str" = some false := by decide +kernel
theorem kb_tuple_list : kitB "tuple" "list" = some false := by decide +kernel
theorem kb_tuple_tuple : kitB "tuple" "tuple" = some true := by decide +kernel
theorem aEq_i {neg : Bool} {i j : Int} {h : AH} {Q : Val → AH → Prop} : aEq neg [.int i, .int j] h Q = Q (.bl (neg != decide (i = j))) h := rfl
theorem aEq_s {neg : Bool} {i j : Str} {h : AH} {Q : Val → AH → Prop} : aEq neg [.str i, .str j] h Q = Q (.bl (neg != decide (i = j))) h := rfl
theorem aEq_b {neg : Bool} {i j : Bool} {h : AH} {Q : Val → AH → Prop} : aEq neg [.bl i, .bl j] h Q = Q (.bl (neg != decide (i = j))) h := rfl
theorem seqOf_tup {h : AH} {vs : List Val} : seqOf h (.tup vs) = some vs := rfl
theorem seqOf_scr {h : AH} {ns : List Int} : seqOf h (.scr ns) = some (ns.map .int) := rfl
theorem seqOf_ref {h : AH} {i : Nat} : seqOf h (.ref i) = match h[i]? with | some (.lst vs) => some vs | _ => none := rfl
theorem seqOf_int {h : AH} {i : Int} : seqOf h (.int i) = none := rfl
theorem seqOf_bl {h : AH} {b : Bool} : seqOf h (.bl b) = none := rfl
theorem seqOf_str {h : AH} {x : Str} : seqOf h (.str x) = none := rfl
theorem seqOf_non {h : AH} : seqOf h .non = none := rfl
theorem dctOf_ref {h : AH} {i : Nat} : dctOf h (.ref i) = match h[i]? with | some (.dct vs) => some vs | _ => none := rfl
theorem dctOf_tup {h : AH} {vs : List Val} : dctOf h (.tup vs) = none := rfl
end Ev
namespace Ev
open PySem PySem.Spec PyProof.Rows L2
local macro_rules | `(tactic| decreasing_trivial) => `(tactic| simp only [wpS, wpE, wpEs, wpAnd, wpOr, wpT, wpTA, wpTO, wpQs, wpG, wpGs, truth, Option.map_some, Option.map_none, startA, List.map_cons, List.map_nil, List.length_cons, List.length_nil, List.cons_append, List.nil_append, List.replicate, List.getElem?_cons_zero, List.getElem?_cons_succ, Option.some.injEq, exists_eq_left', exists_eq_left, exists_eq_right, exists_eq', List.set_cons_zero, List.set_cons_succ, wipeS,
  and_assoc, exists_and_left, Val.bl.injEq, Val.int.injEq, Val.str.injEq, Val.tup.injEq, Val.ref.injEq, decide_eq_true_eq, and_true, true_and, seqOf_tup, seqOf_ref, seqOf_scr, seqOf_int, seqOf_bl, seqOf_str, seqOf_non, dctOf_ref, dctOf_tup, if_true, if_false, Bool.false_eq_true, ite_true, ite_false, reduceIte, reduceCtorEq, false_and, exists_false, and_false, List.cons.injEq, Nat.reduceAdd, Nat.reduceSub, Nat.zero_add,
  aAdd, aSub, aMul, aMod, aDiv, aPow, aNeg, aCmp, aLt, aLe, aGt, aGe, aTup, aLst, aGet, aSet, aLenA, aTuple, aList, aAbs, aInt, aDivmod, aAll, aAny, aMaxA, aMinA, aSum, aDict0, aLs, aDc, aAppend, aI, aSl00, aSl01, aSl10, aSl11, aCut, aIs, isNon, Bool.false_bne, Bool.true_bne, wSeq, wRng1, wRng2, wEnum, wZip, aEq_i, aEq_s, aEq_b, atI_0, atI_1, atI_2, atI_3, atI_n, ixN3_0, ixN3_1, ixN3_2, get_set, List.length_set, List.set_set, List.getElem?_map, aIsi, aIsi2, tyA, Bool.or_true, Bool.true_or, Bool.or_false, Bool.false_or, Bool.and_true, Bool.true_and, Bool.and_false, Bool.false_and, Bool.not_true, Bool.not_false, beq_self_eq_true, bne_self_eq_false, decide_true, decide_false, kb_NoneType_bool, kb_NoneType_int, kb_NoneType_str, kb_NoneType_list, kb_NoneType_tuple, kb_bool_bool, kb_bool_int, kb_bool_str, kb_bool_list, kb_bool_tuple, kb_int_bool, kb_int_int, kb_int_str, kb_int_list, kb_int_tuple, kb_str_bool, kb_str_int, kb_str_str, kb_str_list, kb_str_tuple, kb_list_bool, kb_list_int, kb_list_str, kb_list_list, kb_list_tuple, kb_tuple_bool, kb_tuple_int, kb_tuple_str, kb_tuple_list, kb_tuple_tuple, get_new, aLstRg1, aTupRg1, aAddI, aSubI, aDict1, List.length_map, List.length_range, rgL_len, Nat.reduceLeDiff, Nat.zero_le, AO.lst.injEq, AO.dct.injEq, *])
local macro_rules | `(tactic| array_get_dec) => `(tactic| try simp only [wpS, wpE, wpEs, wpAnd, wpOr, wpT, wpTA, wpTO, wpQs, wpG, wpGs, Option.map_some, Option.map_none, startA, List.map_cons, List.map_nil, List.length_cons, List.length_nil, List.cons_append, List.nil_append, List.replicate, List.getElem?_cons_zero, List.getElem?_cons_succ, Option.some.injEq, exists_eq_left', exists_eq_left, List.set_cons_zero, List.set_cons_succ, wipeS, if_true, if_false, Bool.false_eq_true, ite_true, ite_false, reduceIte, Nat.reduceAdd, Nat.reduceSub, Nat.zero_add])
/-! ### values as data, that stay -/
theorem Reps.len {h : AH} : ∀ {vs : List Val} {ds : List PyData}, Reps h vs ds → vs.length = ds.length
  | _, _, .nil => rfl
  | _, _, .cons _ t => by rw [List.length_cons, List.length_cons, Reps.len t]
theorem Reps.get {h : AH} : ∀ {vs : List Val} {ds : List PyData} {i : Nat} {v : Val}, Reps h vs ds → vs[i]? = some v → ∃ d, ds[i]? = some d ∧ Rep h v d
  | _, _, _, _, .nil, e => by cases e
  | _, _, 0, _, .cons r _, e => by cases e; exact ⟨_, rfl, r⟩
  | v :: vs, d :: ds, i + 1, _, .cons _ t, e => Reps.get (vs := vs) (ds := ds) (i := i) t (by simpa using e)
theorem Reps.of {h : AH} : ∀ {vs : List Val} {ds : List PyData}, vs.length = ds.length → (∀ (i : Nat) (v : Val) (d : PyData), vs[i]? = some v → ds[i]? = some d → Rep h v d) → Reps h vs ds
  | [], [], _, _ => .nil
  | [], _ :: _, e, _ => by cases e
  | _ :: _, [], e, _ => by cases e
  | v :: vs, d :: ds, e, f => .cons (f 0 v d rfl rfl) (Reps.of (by simpa using e) fun i v d h1 h2 => f (i + 1) v d h1 h2)
theorem Reps.rng {h : AH} {n : Nat} {f : Nat → Val} {g : Nat → PyData} (H : ∀ i, i < n → Rep h (f i) (g i)) : Reps h ((List.range n).map f) ((List.range n).map g) :=
  Reps.of (by simp) fun i v d h1 h2 => by
    obtain ⟨hi, rfl⟩ := rng_get h1
    obtain ⟨_, rfl⟩ := rng_get h2
    exact H i hi
mutual
theorem Rep.gr {h h' : AH} (g : Gr h h') : ∀ (d : PyData) (v : Val), Rep h v d → Rep h' v d
  | .none, _, r => by cases r; exact .non
  | .bool _, _, r => by cases r; exact .bl _
  | .int _, _, r => by cases r; exact .int _
  | .str _, _, r => by cases r; exact .str _
  | .tuple ds, _, r => by
    cases r with
    | tup r => exact .tup (Reps.gr g ds _ r)
  | .list ds, _, r => by
    cases r with
    | lst e r => exact .lst (g.get e) (Reps.gr g ds _ r)
  | .dict _, _, r => by cases r
theorem Reps.gr {h h' : AH} (g : Gr h h') : ∀ (ds : List PyData) (vs : List Val), Reps h vs ds → Reps h' vs ds
  | [], _, r => by cases r; exact .nil
  | d :: ds, _, r => by
    cases r with
    | cons r t => exact .cons (Rep.gr g d _ r) (Reps.gr g ds _ t)
end
/-- data, also when b is written -/
def RepS (b : Nat) (h : AH) (v : Val) (d : PyData) : Prop := ∀ h', Kp b h h' → Rep h' v d
def RepsS (b : Nat) (h : AH) (vs : List Val) (ds : List PyData) : Prop := ∀ h', Kp b h h' → Reps h' vs ds
section
variable {b i : Nat} {h h' : AH} {v : Val} {d : PyData} {vs : List Val} {ds : List PyData}
theorem RepS.r (r : RepS b h v d) : Rep h v d := r h Kp.rfl
theorem RepS.kp (r : RepS b h v d) (g : Kp b h h') : RepS b h' v d := fun _ g' => r _ (g.trans g')
theorem RepsS.kp (r : RepsS b h vs ds) (g : Kp b h h') : RepsS b h' vs ds := fun _ g' => r _ (g.trans g')
theorem RepS.tup (r : RepsS b h vs ds) : RepS b h (.tup vs) (.tuple ds) := fun h' g => .tup (r h' g)
theorem RepS.lst (e : h[i]? = some (.lst vs)) (hb : i ≠ b) (r : RepsS b h vs ds) : RepS b h (.ref i) (.list ds) := fun h' g => .lst (g.get e hb) (r h' g)
theorem RepS.int {i : Int} : RepS b h (.int i) (.int i) := fun _ _ => .int i
theorem RepS.bl {t : Bool} : RepS b h (.bl t) (.bool t) := fun _ _ => .bl t
theorem RepS.str {x : Str} : RepS b h (.str x) (.str x) := fun _ _ => .str x
theorem RepS.non : RepS b h .non .none := fun _ _ => .non
theorem RepsS.nil : RepsS b h [] [] := fun _ _ => .nil
theorem RepsS.cons (r : RepS b h v d) (t : RepsS b h vs ds) : RepsS b h (v :: vs) (d :: ds) := fun h' g => .cons (r h' g) (t h' g)
theorem RepsS.rng {n : Nat} {f : Nat → Val} {g : Nat → PyData} (H : ∀ i, i < n → RepS b h (f i) (g i)) : RepsS b h ((List.range n).map f) ((List.range n).map g) := fun h' k => Reps.rng fun i hi => H i hi h' k
end
/-! ### == of small things -/
theorem eq_pair {h : AH} {neg : Bool} {a b c d : Int} {Q : Val → AH → Prop} (q : Q (.bl (neg != (decide (a = c) && decide (b = d)))) h) : aEq neg [.tup [.int a, .int b], .tup [.int c, .int d]] h Q := by
  have e : PyData.eqv (.tuple [.int a, .int b]) (.tuple [.int c, .int d]) = (decide (a = c) && decide (b = d)) := by
    simp only [PyData.eqv, PyData.eqvAll, Bool.and_true]
    rfl
  refine ⟨_, _, .tup (.cons (.int _) (.cons (.int _) .nil)), .tup (.cons (.int _) (.cons (.int _) .nil)), okD_shaped (n := 2) (by simp [okD, okDs]), okD_shaped (n := 2) (by simp [okD, okDs]), ?_⟩
  rw [e]; exact q
theorem eq_non {h : AH} {neg : Bool} {Q : Val → AH → Prop} (q : Q (.bl (!neg)) h) : aEq neg [.non, .non] h Q := by
  refine ⟨_, _, .non, .non, okD_shaped (n := 2) (by simp [okD, okDs]), okD_shaped (n := 2) (by simp [okD, okDs]), ?_⟩
  have : PyData.eqv .none .none = true := by simp [PyData.eqv]
  rw [this]
  cases neg <;> exact q
/-! ### same, lists -/
def ir_law_same (Φ__law_same : ASp) : List IS := [.iff (.val (.call (aIsi2 "list" "tuple") [.l 1])) [.iff (.or [.bool (.call (aEq true) [.call (aIsi "list") [.l 0], .call (aIsi "list") [.l 1]]), .bool (.call (aEq true) [.call (aIsi "tuple") [.l 0], .call (aIsi "tuple") [.l 1]])]) [.ret (.c (.bl false))] [],
  .ret (.and [.call (aEq false) [.call aLenA [.l 0], .call aLenA [.l 1]], .call aAll [.lc [2, 3] (.tup [.name 2, .name 3]) wZip [.l 0, .l 1] [] (.call Φ__law_same [.l 2, .l 3])]])] [],
  .iff (.or [.bool (.call (aIs false) [.l 1, .c .non]), .val (.call (aIsi "str") [.l 1])]) [.ret (.and [.call (aEq false) [.l 0, .l 1], .call (aEq false) [.call (aIsi "str") [.l 0], .call (aIsi "str") [.l 1]]])] [],
  .ret (.and [.call (aIsi "int") [.l 0], .call (aEq false) [.call (aIsi "bool") [.l 0], .call (aIsi "bool") [.l 1]], .call (aEq false) [.l 0, .l 1]])]
def Φ_same (n : Nat) : ASp := fun vs h Q => vs.length = 2 ∧ ∃ x y d, vs = [x, y] ∧ okD n d = true ∧ d.bulk ≤ 1000000 ∧ Rep h x d ∧ Rep h y d ∧ ∀ h', Gr h h' → Q (.bl true) h'

theorem Rep.seq {h : AH} {v : Val} {d : PyData} (r : Rep h v d) : (∃ vs ds, d = .tuple ds ∧ v = .tup vs ∧ Reps h vs ds) ∨ (∃ i vs ds, d = .list ds ∧ v = .ref i ∧ h[i]? = some (.lst vs) ∧ Reps h vs ds) ∨
    (d = .none ∧ v = .non) ∨ (∃ b, d = .bool b ∧ v = .bl b) ∨ (∃ i, d = .int i ∧ v = .int i) ∨ ∃ x, d = .str x ∧ v = .str x := by
  cases r with
  | tup r => exact .inl ⟨_, _, rfl, rfl, r⟩
  | lst e r => exact .inr (.inl ⟨_, _, _, rfl, rfl, e, r⟩)
  | non => exact .inr (.inr (.inl ⟨rfl, rfl⟩))
  | bl => exact .inr (.inr (.inr (.inl ⟨_, rfl, rfl⟩)))
  | int => exact .inr (.inr (.inr (.inr (.inl ⟨_, rfl, rfl⟩))))
  | str => exact .inr (.inr (.inr (.inr (.inr ⟨_, rfl, rfl⟩))))
theorem len_bulk : ∀ ds : List PyData, ds.length ≤ PyData.bulkAll ds
  | [] => Nat.zero_le _
  | d :: ds => by have := len_bulk ds; rw [PyData.bulkAll, List.length_cons]; omega
theorem mem_bulk {d : PyData} : ∀ {ds : List PyData}, d ∈ ds → d.bulk ≤ PyData.bulkAll ds
  | e :: ds, m => by
    rw [PyData.bulkAll]
    rcases List.mem_cons.mp m with rfl | m
    · omega
    · have := mem_bulk m; omega
theorem bls (n : Nat) (g : Nat → Bool) : (List.range n).map (fun i => Val.bl (g i)) = ((List.range n).map g).map .bl := by simp
theorem all_rng {n : Nat} {g : Nat → Bool} (h : ∀ i, i < n → g i = true) : ((List.range n).map g).all id = true := by simpa using h
theorem same_lc {n : Nat} {h : AH} {us vs : List Val} {ds : List PyData} {chk : AH → Prop} {K : List Val → AH → Prop} (ru : Reps h us ds) (rv : Reps h vs ds) (hd : okDs n ds = true) (hb : PyData.bulkAll ds ≤ 1000000) (hc : ∀ h', Gr h h' → chk h')
    {body : Val → AH → (List Val → AH → Prop) → Prop} (hbd : ∀ x y h3 K, Φ_same n [x, y] h3 (fun r h6 => K [r] h6) → body (.tup [x, y]) h3 K) (k : ∀ h', Gr h h' → K (((List.range (zipL us vs).length).map fun _ => true).map .bl) h') : lcW body chk (zipL us vs) [] h K := by
  have lu := ru.len
  have lv := rv.len
  have lb := len_bulk ds
  refine lc_map (Gr h) (fun _ => .bl true) (by rw [zipL_len]; omega) Gr.rfl (fun i v h' K hv g k => ⟨hc _ g, ?_⟩) fun h' g => ⟨hc _ g, ?_⟩
  · obtain ⟨a, b, e1, e2, rfl⟩ := zipL_get hv
    obtain ⟨d1, f1, s1⟩ := ru.get e1
    obtain ⟨d2, f2, s2⟩ := rv.get e2
    rw [f1] at f2; cases f2
    have m := List.mem_of_getElem? f1
    exact hbd _ _ _ _ ⟨rfl, _, _, d1, rfl, okDs_all.mp hd _ m, Nat.le_trans (mem_bulk m) hb, s1.gr g, s2.gr g, fun h2 g2 => k _ (g.trans g2)⟩
  · rw [bls]; exact k _ g
theorem wp_sameG (n : Nat) (Ψ : ASp) (hΨ : ∀ m, n = m + 1 → ∀ vs h Q, Φ_same m vs h Q → Ψ vs h Q) : ∀ vs h Q, Φ_same n vs h Q → vs.length = 2 → wpSs (ir_law_same Ψ) (startA 4 vs) h { nx := fun _ h' => Q .non h', rt := Q } := by
  rintro vs h Q ⟨-, x, y, d, rfl, hd, hb, rx, ry, q⟩ -
  rcases ry.seq with ⟨vs, ds, rfl, rfl, r⟩ | ⟨i, vs, ds, rfl, rfl, e, r⟩ | ⟨rfl, rfl⟩ | ⟨b, rfl, rfl⟩ | ⟨i, rfl, rfl⟩ | ⟨s, rfl, rfl⟩
  · cases n with
    | zero => simp [okD] at hd
    | succ n =>
    have hΨ := hΨ n rfl
    cases rx with
    | @tup us _ ru =>
    have lu := ru.len
    have lv := r.len
    refine wp_go fun N hN => ?_
    decreasing_trivial
    refine wp_go fun N hN => ?_
    decreasing_trivial
    refine hN _ _ (wp_go fun N hN => ?_)
    decreasing_trivial
    refine same_lc ru r (by simpa [okD] using hd) (by simpa [PyData.bulk] using hb) (fun _ _ => trivial) (fun x y h3 K w => ⟨_, rfl, rfl, _, _, rfl, _, _, rfl, rfl, hΨ _ _ _ w⟩) fun h' g => ⟨_, rfl, ?_⟩
    rw [all_rng fun _ _ => rfl]; exact q _ (g.trans (Gr.app _))
  · cases n with
    | zero => simp [okD] at hd
    | succ n =>
    have hΨ := hΨ n rfl
    cases rx with
    | @lst j us _ e2 ru =>
    have lu := ru.len
    have lv := r.len
    refine wp_go fun N hN => ?_
    decreasing_trivial
    refine wp_go fun N hN => ?_
    decreasing_trivial
    refine hN _ _ (wp_go fun N hN => ?_)
    decreasing_trivial
    refine same_lc ru r (by simpa [okD] using hd) (by simpa [PyData.bulk] using hb) (fun _ g => ⟨g.get e2, g.get e⟩) (fun x y h3 K w => ⟨_, rfl, rfl, _, _, rfl, _, _, rfl, rfl, hΨ _ _ _ w⟩) fun h' g => ⟨_, rfl, ?_⟩
    rw [all_rng fun _ _ => rfl]; exact q _ (g.trans (Gr.app _))
  · cases rx
    refine wp_go fun N hN => ?_
    decreasing_trivial
    refine hN _ _ (wp_go fun N hN => ?_)
    decreasing_trivial
    refine wp_go fun N hN => ?_
    decreasing_trivial
    refine eq_non ⟨_, rfl, ?_⟩
    exact q _ Gr.rfl
  · cases rx
    refine wp_go fun N hN => ?_
    decreasing_trivial
    refine hN _ _ (wp_go fun N hN => ?_)
    decreasing_trivial
    refine hN _ _ (wp_go fun N hN => ?_)
    decreasing_trivial
    exact q _ Gr.rfl
  · cases rx
    refine wp_go fun N hN => ?_
    decreasing_trivial
    refine hN _ _ (wp_go fun N hN => ?_)
    decreasing_trivial
    refine hN _ _ (wp_go fun N hN => ?_)
    decreasing_trivial
    exact q _ Gr.rfl
  · cases rx
    refine wp_go fun N hN => ?_
    decreasing_trivial
    refine hN _ _ (wp_go fun N hN => ?_)
    decreasing_trivial
    refine wp_go fun N hN => ?_
    decreasing_trivial
    exact q _ Gr.rfl
theorem wp_same (n : Nat) : ∀ vs h Q, Φ_same (n + 1) vs h Q → vs.length = 2 → wpSs (ir_law_same (Φ_same n)) (startA 4 vs) h { nx := fun _ h' => Q .non h', rt := Q } := wp_sameG (n + 1) _ fun m e vs h Q w => by cases e; exact w
theorem wp_same0 : ∀ vs h Q, Φ_same 0 vs h Q → vs.length = 2 → wpSs (ir_law_same aBot) (startA 4 vs) h { nx := fun _ h' => Q .non h', rt := Q } := wp_sameG 0 _ fun m e => nomatch e
end Ev
namespace Ev
open PySem PySem.Spec PyProof.Rows L2
local macro_rules | `(tactic| decreasing_trivial) => `(tactic| simp only [wpS, wpE, wpEs, wpAnd, wpOr, wpT, wpTA, wpTO, wpQs, wpG, wpGs, truth, Option.map_some, Option.map_none, startA, List.map_cons, List.map_nil, List.length_cons, List.length_nil, List.cons_append, List.nil_append, List.replicate, List.getElem?_cons_zero, List.getElem?_cons_succ, Option.some.injEq, exists_eq_left', exists_eq_left, exists_eq_right, exists_eq', List.set_cons_zero, List.set_cons_succ, wipeS,
  and_assoc, exists_and_left, Val.bl.injEq, Val.int.injEq, Val.str.injEq, Val.tup.injEq, Val.ref.injEq, decide_eq_true_eq, and_true, true_and, seqOf_tup, seqOf_ref, seqOf_scr, seqOf_int, seqOf_bl, seqOf_str, seqOf_non, dctOf_ref, dctOf_tup, if_true, if_false, Bool.false_eq_true, ite_true, ite_false, reduceIte, reduceCtorEq, false_and, exists_false, and_false, List.cons.injEq, Nat.reduceAdd, Nat.reduceSub, Nat.zero_add,
  aAdd, aSub, aMul, aMod, aDiv, aPow, aNeg, aCmp, aLt, aLe, aGt, aGe, aTup, aLst, aGet, aSet, aLenA, aTuple, aList, aAbs, aInt, aDivmod, aAll, aAny, aMaxA, aMinA, aSum, aDict0, aLs, aDc, aAppend, aI, aSl00, aSl01, aSl10, aSl11, aCut, aIs, isNon, Bool.false_bne, Bool.true_bne, wSeq, wRng1, wRng2, wEnum, wZip, aEq_i, aEq_s, aEq_b, atI_0, atI_1, atI_2, atI_3, atI_n, ixN3_0, ixN3_1, ixN3_2, get_set, List.length_set, List.set_set, List.getElem?_map, aIsi, aIsi2, tyA, Bool.or_true, Bool.true_or, Bool.or_false, Bool.false_or, Bool.and_true, Bool.true_and, Bool.and_false, Bool.false_and, Bool.not_true, Bool.not_false, beq_self_eq_true, bne_self_eq_false, decide_true, decide_false, kb_NoneType_bool, kb_NoneType_int, kb_NoneType_str, kb_NoneType_list, kb_NoneType_tuple, kb_bool_bool, kb_bool_int, kb_bool_str, kb_bool_list, kb_bool_tuple, kb_int_bool, kb_int_int, kb_int_str, kb_int_list, kb_int_tuple, kb_str_bool, kb_str_int, kb_str_str, kb_str_list, kb_str_tuple, kb_list_bool, kb_list_int, kb_list_str, kb_list_list, kb_list_tuple, kb_tuple_bool, kb_tuple_int, kb_tuple_str, kb_tuple_list, kb_tuple_tuple, get_new, aLstRg1, aTupRg1, aAddI, aSubI, aDict1, List.length_map, List.length_range, rgL_len, Nat.reduceLeDiff, Nat.zero_le, AO.lst.injEq, AO.dct.injEq, *])
local macro_rules | `(tactic| array_get_dec) => `(tactic| try simp only [wpS, wpE, wpEs, wpAnd, wpOr, wpT, wpTA, wpTO, wpQs, wpG, wpGs, Option.map_some, Option.map_none, startA, List.map_cons, List.map_nil, List.length_cons, List.length_nil, List.cons_append, List.nil_append, List.replicate, List.getElem?_cons_zero, List.getElem?_cons_succ, Option.some.injEq, exists_eq_left', exists_eq_left, List.set_cons_zero, List.set_cons_succ, wipeS, if_true, if_false, Bool.false_eq_true, ite_true, ite_false, reduceIte, Nat.reduceAdd, Nat.reduceSub, Nat.zero_add])
theorem lc_kp {body : Val → AH → (List Val → AH → Prop) → Prop} {chk : AH → Prop} {Q : List Val → AH → Prop} {b : Nat} (P : AH → Prop) (R : Nat → Val → AH → Prop) (hR : ∀ i v h h', R i v h → Kp b h h' → R i v h') {xs : List Val} {h : AH} (hn : xs.length ≤ 1000000) (h0 : P h)
    (hb : ∀ (i : Nat) (v : Val) (h' : AH) (K : List Val → AH → Prop), xs[i]? = some v → Kp b h h' → P h' → (∀ r h2, Kp b h' h2 → P h2 → R i r h2 → K [r] h2) → chk h' ∧ body v h' K)
    (he : ∀ acc h', Kp b h h' → P h' → acc.length = xs.length → (∀ i r, acc[i]? = some r → R i r h') → chk h' ∧ Q acc h') : lcW body chk xs [] h Q := by
  refine lc_inv (fun i acc h' => Kp b h h' ∧ P h' ∧ acc.length = i ∧ ∀ j r, acc[j]? = some r → R j r h') ⟨Kp.rfl, h0, rfl, fun j r e => by simp at e⟩ (fun i v acc h' K hv ⟨g, hP, hl, hr⟩ hK => ?_) (fun acc h' ⟨g, hP, hl, hr⟩ => he acc h' g hP hl hr)
  have hlt : i < xs.length := (List.getElem?_eq_some_iff.mp hv).1
  refine hb i v h' _ hv g hP fun r h2 g2 hP2 hr2 => hK _ _ ?_ ⟨g.trans g2, hP2, by simp [hl], fun j r' e => ?_⟩
  · rw [List.length_append, hl, List.length_singleton]; omega
  · rw [List.getElem?_append] at e
    by_cases hj : j < acc.length
    · rw [if_pos hj] at e; exact hR _ _ _ _ (hr j r' e) g2
    · rw [if_neg hj] at e
      have hj0 : j - acc.length = 0 := by
        by_cases z : j - acc.length = 0
        · exact z
        · rw [List.getElem?_eq_none (by simp; omega)] at e; cases e
      rw [hj0] at e; cases e
      have : j = i := by omega
      subst this; exact hr2
/-! ### kinds, written as tuples -/
def pV (q : Nat × Nat) : Val := .tup [.int q.1, .int q.2]
def rowV (r : List (Nat × Nat)) : Val := .tup (r.map pV)
def kV (k : List (List (Nat × Nat))) : Val := .tup (k.map rowV)
theorem rowV_mk {D : Nat} {g : Nat → Nat × Nat} : rowV ((List.range D).map g) = .tup ((List.range D).map fun d => pV (g d)) := by
  unfold rowV
  rw [List.map_map]; rfl
theorem kV_mk {D R : Nat} {f : Nat → Nat → Nat × Nat} : kV (mkK D R f) = .tup ((List.range R).map fun r => .tup ((List.range D).map fun d => pV (f r d))) := by
  unfold kV mkK
  rw [List.map_map]
  congr 1
  refine List.map_congr_left fun r _ => ?_
  exact rowV_mk
theorem rep_pV {h : AH} (q : Nat × Nat) : Rep h (pV q) (pD q) := .tup (.cons (.int _) (.cons (.int _) .nil))
theorem reps_map {α : Type} {h : AH} {f : α → Val} {g : α → PyData} (H : ∀ a, Rep h (f a) (g a)) : ∀ xs : List α, Reps h (xs.map f) (xs.map g)
  | [] => .nil
  | x :: xs => .cons (H x) (reps_map H xs)
theorem rep_rowV {h : AH} (r : List (Nat × Nat)) : Rep h (rowV r) (rowD r) := .tup (reps_map rep_pV r)
theorem rep_kV {h : AH} (k : List (List (Nat × Nat))) : Rep h (kV k) (kD k) := .tup (reps_map rep_rowV k)
theorem reps_kV {b : Nat} {h : AH} (k : List (List (Nat × Nat))) : RepS b h (kV k) (kD k) := fun _ _ => rep_kV k
theorem dget_put {kvs : List (DK × Val)} {k j : DK} {v : Val} : dget (dput kvs k v) j = if j = k then some v else dget kvs j := by
  have map : ∀ kvs : List (DK × Val), dget (kvs.map fun kv => if kv.1 = k then (kv.1, v) else kv) j = (dget kvs j).map fun x => if j = k then v else x := by
    intro kvs
    induction kvs with
    | nil => rfl
    | cons q r ih =>
      unfold dget at ih ⊢
      rw [List.map_cons, List.find?_cons, List.find?_cons]
      by_cases h1 : q.1 = k
      · rw [if_pos h1]
        by_cases h2 : q.1 = j
        · rw [decide_eq_true (show (q.1, v).1 = j from h2)]
          simp [show j = k from h2.symm.trans h1]
        · rw [decide_eq_false (show ¬ (q.1, v).1 = j from h2)]
          exact ih
      · rw [if_neg h1]
        by_cases h2 : q.1 = j
        · rw [decide_eq_true h2]
          simp [show ¬ j = k from fun e => h1 (h2.trans e)]
        · rw [decide_eq_false h2]
          exact ih
  have app : ∀ kvs : List (DK × Val), (kvs.any fun kv => decide (kv.1 = k)) = false → dget (kvs ++ [(k, v)]) j = if j = k then some v else dget kvs j := by
    intro kvs h
    induction kvs with
    | nil =>
      unfold dget
      rw [List.nil_append, List.find?_cons]
      by_cases h2 : j = k
      · rw [if_pos h2, decide_eq_true (show (k, v).1 = j from h2.symm)] <;> rfl
      · rw [if_neg h2, decide_eq_false (show ¬ (k, v).1 = j from fun e => h2 e.symm)] <;> rfl
    | cons q r ih =>
      rw [List.any_cons, Bool.or_eq_false_iff] at h
      have hq : ¬ q.1 = k := of_decide_eq_false h.1
      have := ih h.2
      unfold dget at this ⊢
      rw [List.cons_append, List.find?_cons, List.find?_cons]
      by_cases h2 : q.1 = j
      · rw [decide_eq_true h2]
        rw [if_neg (fun e : j = k => hq (h2.trans e))]
      · rw [decide_eq_false h2]
        exact this
  have isn : ∀ kvs : List (DK × Val), (kvs.any fun kv => decide (kv.1 = j)) = true → ∃ u, dget kvs j = some u := by
    intro kvs h
    induction kvs with
    | nil => cases h
    | cons q r ih =>
      unfold dget
      rw [List.find?_cons]
      by_cases h2 : q.1 = j
      · rw [decide_eq_true h2]; exact ⟨_, rfl⟩
      · rw [List.any_cons, decide_eq_false h2] at h
        rw [decide_eq_false h2]
        exact ih (by simpa using h)
  unfold dput
  split
  · rename_i h
    rw [map]
    by_cases hj : j = k
    · subst hj
      obtain ⟨u, hu⟩ := isn kvs h
      rw [hu, if_pos rfl]; simp
    · rw [if_neg hj]
      cases dget kvs j <;> simp [hj]
  · rename_i h
    exact app kvs (Bool.not_eq_true _ ▸ h)
/-! ### drawn kinds: the mathematics -/
def pk (q : Nat × Nat) : DK := .t [.inl (q.1 : Int), .inl (q.2 : Int)]
theorem pk_inj {q v : Nat × Nat} (h : pk q = pk v) : q = v := by
  unfold pk at h
  simp only [DK.t.injEq, List.cons.injEq, Sum.inl.injEq, and_true] at h
  exact Prod.ext (by omega) (by omega)
def allP (D R : Nat) : List (Nat × Nat) := (List.range R).flatMap fun r => (List.range D).map fun d => (d, r)
theorem mem_allP {D R : Nat} {q : Nat × Nat} : q ∈ allP D R ↔ q.1 < D ∧ q.2 < R := by
  unfold allP
  simp only [List.mem_flatMap, List.mem_range, List.mem_map]
  constructor
  · rintro ⟨r, hr, d, hd, rfl⟩
    exact ⟨hd, hr⟩
  · rintro ⟨h1, h2⟩
    exact ⟨q.2, h2, q.1, h1, rfl⟩
theorem allP_succ (D R : Nat) : allP D (R + 1) = allP D R ++ (List.range D).map fun d => (d, R) := by
  unfold allP
  rw [List.range_succ, List.flatMap_append, List.flatMap_cons, List.flatMap_nil, List.append_nil]
theorem len_allP (D R : Nat) : (allP D R).length = D * R := by
  induction R with
  | zero => rfl
  | succ R ih => rw [allP_succ, List.length_append, ih, List.length_map, List.length_range, Nat.mul_succ]
theorem nd_allP (D R : Nat) : (allP D R).Nodup := by
  induction R with
  | zero => exact List.nodup_nil
  | succ R ih =>
    rw [allP_succ, List.nodup_append]
    refine ⟨ih, ?_, fun a ha b hb => ?_⟩
    · refine List.Pairwise.map _ (fun a b h e => h (by cases e; rfl)) List.nodup_range
    · rintro rfl
      obtain ⟨d, _, rfl⟩ := List.mem_map.mp hb
      have := (mem_allP.mp ha).2
      omega
structure KInv (D R : Nat) (L : List (Nat × Nat)) (kvs : List (DK × Val)) : Prop where
  nd : L.Nodup
  sub : ∀ q ∈ L, q.1 < D ∧ q.2 < R
  led : ∀ q : Nat × Nat, q.1 < D → q.2 < R → q ∉ L → ∃ v : Nat × Nat, v.1 < D ∧ v.2 < R ∧ v ∉ L ∧ dget kvs (pk q) = some (pV v) ∧ dget kvs (pk v) = some (pV q)
theorem KInv.start (D R : Nat) : KInv D R (allP D R) [] := ⟨nd_allP D R, fun q h => mem_allP.mp h, fun q h1 h2 h3 => absurd (mem_allP.mpr ⟨h1, h2⟩) h3⟩
theorem mem_erase {L : List (Nat × Nat)} (h : L.Nodup) {i : Nat} {q : Nat × Nat} (hi : L[i]? = some q) : ∀ x, x ∈ L.eraseIdx i ↔ x ∈ L ∧ x ≠ q := by
  intro x
  obtain ⟨hl, rfl⟩ := List.getElem?_eq_some_iff.mp hi
  constructor
  · intro hx
    obtain ⟨j, hj, e⟩ := List.mem_eraseIdx_iff_getElem?.mp hx
    refine ⟨List.mem_of_getElem? e, fun z => ?_⟩
    subst z
    obtain ⟨hjl, ej⟩ := List.getElem?_eq_some_iff.mp e
    exact hj ((List.getElem_inj h).mp ej)
  · rintro ⟨hx, hne⟩
    obtain ⟨j, hj, rfl⟩ := List.mem_iff_getElem.mp hx
    refine List.mem_eraseIdx_iff_getElem?.mpr ⟨j, fun e => hne (by subst e; rfl), List.getElem?_eq_getElem hj⟩
theorem KInv.step {D R : Nat} {L L2 : List (Nat × Nat)} {kvs : List (DK × Val)} {one other : Nat × Nat} (I : KInv D R L kvs) (h1 : one ∈ L) (h2 : other ∈ L) (n2 : L2.Nodup) (hm : ∀ x, x ∈ L2 ↔ x ∈ L ∧ x ≠ one ∧ x ≠ other) :
    KInv D R L2 (dput (dput kvs (pk one) (pV other)) (pk other) (pV one)) := by
  have gput : ∀ q, dget (dput (dput kvs (pk one) (pV other)) (pk other) (pV one)) (pk q) = if q = other then some (pV one) else if q = one then some (pV other) else dget kvs (pk q) := by
    intro q
    rw [dget_put, dget_put]
    by_cases e1 : q = other
    · rw [if_pos (by rw [e1]), if_pos e1]
    · rw [if_neg (fun e => e1 (pk_inj e)), if_neg e1]
      by_cases e2 : q = one
      · rw [if_pos (by rw [e2]), if_pos e2]
      · rw [if_neg (fun e => e2 (pk_inj e)), if_neg e2]
  have g1 : dget (dput (dput kvs (pk one) (pV other)) (pk other) (pV one)) (pk one) = some (pV other) := by
    rw [gput]
    by_cases e : one = other
    · rw [if_pos e, e]
    · rw [if_neg e, if_pos rfl]
  have g2 : dget (dput (dput kvs (pk one) (pV other)) (pk other) (pV one)) (pk other) = some (pV one) := by rw [gput, if_pos rfl]
  refine ⟨n2, fun q hq => I.sub q ((hm q).mp hq).1, fun q hq1 hq2 hq => ?_⟩
  by_cases e1 : q = one
  · subst e1
    exact ⟨other, (I.sub _ h2).1, (I.sub _ h2).2, fun z => ((hm _).mp z).2.2 rfl, g1, g2⟩
  by_cases e2 : q = other
  · subst e2
    exact ⟨one, (I.sub _ h1).1, (I.sub _ h1).2, fun z => ((hm _).mp z).2.1 rfl, g2, g1⟩
  have hqL : q ∉ L := fun z => hq ((hm q).mpr ⟨z, e1, e2⟩)
  obtain ⟨v, v1, v2, v3, v4, v5⟩ := I.led q hq1 hq2 hqL
  have n1 : v ≠ one := fun z => v3 (by rw [z]; exact h1)
  have n3 : v ≠ other := fun z => v3 (by rw [z]; exact h2)
  refine ⟨v, v1, v2, fun z => v3 ((hm v).mp z).1, ?_, ?_⟩
  · rw [gput, if_neg e2, if_neg e1]; exact v4
  · rw [gput, if_neg n3, if_neg n1]; exact v5
/-- the kind that a table tells -/
def tabT (kvs : List (DK × Val)) (q : Nat × Nat) : Nat × Nat := match dget kvs (pk q) with
  | some (.tup [.int a, .int b]) => (a.toNat, b.toNat)
  | _ => (0, 0)
def tabK (D R : Nat) (kvs : List (DK × Val)) : List (List (Nat × Nat)) := (List.range R).map fun r => (List.range D).map fun d => tabT kvs (d, r)
theorem tabT_eq {kvs : List (DK × Val)} {q v : Nat × Nat} (h : dget kvs (pk q) = some (pV v)) : tabT kvs q = v := by
  unfold tabT
  rw [h]
  simp [pV]
theorem kat_tab {D R : Nat} {kvs : List (DK × Val)} {r d : Nat} {v : Nat × Nat} (h : kat (tabK D R kvs) r d = some v) : r < R ∧ d < D ∧ v = tabT kvs (d, r) := by
  obtain ⟨row, h1, h2⟩ := kat_row h
  unfold tabK at h1
  rw [List.getElem?_map] at h1
  by_cases hr : r < R
  · rw [List.getElem?_range hr] at h1
    have h1 := Option.some.inj h1
    subst h1
    rw [List.getElem?_map] at h2
    by_cases hd : d < D
    · rw [List.getElem?_range hd] at h2
      exact ⟨hr, hd, (Option.some.inj h2).symm⟩
    · rw [List.getElem?_eq_none (by simpa using hd)] at h2; cases h2
  · rw [List.getElem?_eq_none (by simpa using hr)] at h1; cases h1
theorem tab_kat {D R : Nat} {kvs : List (DK × Val)} {r d : Nat} (hr : r < R) (hd : d < D) : kat (tabK D R kvs) r d = some (tabT kvs (d, r)) := by
  unfold kat tabK
  rw [List.getElem?_map, List.getElem?_range hr]
  show ((List.range D).map fun d => tabT kvs (d, r))[d]? = _
  rw [List.getElem?_map, List.getElem?_range hd]; rfl
theorem KInv.kind {D R : Nat} {kvs : List (DK × Val)} (I : KInv D R [] kvs) : GK D R (tabK D R kvs) ∧ ∀ r d, r < R → d < D → dget kvs (pk (d, r)) = some (pV (tabT kvs (d, r))) := by
  have look : ∀ r d, r < R → d < D → ∃ v : Nat × Nat, v.1 < D ∧ v.2 < R ∧ dget kvs (pk (d, r)) = some (pV v) ∧ dget kvs (pk v) = some (pV (d, r)) := fun r d hr hd => by
    obtain ⟨v, v1, v2, _, v4, v5⟩ := I.led (d, r) hd hr (by simp)
    exact ⟨v, v1, v2, v4, v5⟩
  refine ⟨⟨by simp [tabK], fun row hrow => ?_, fun r d e s h => ?_⟩, fun r d hr hd => ?_⟩
  · unfold tabK at hrow
    obtain ⟨r, _, rfl⟩ := List.mem_map.mp hrow
    simp
  · obtain ⟨hr, hd, hv⟩ := kat_tab h
    obtain ⟨v, v1, v2, v4, v5⟩ := look r d hr hd
    rw [tabT_eq v4] at hv
    subst hv
    rw [tab_kat v2 v1, tabT_eq v5]
  · obtain ⟨v, v1, v2, v4, v5⟩ := look r d hr hd
    rw [tabT_eq v4, v4]
end Ev
namespace Ev
open PySem PySem.Spec PyProof.Rows L2
local macro_rules | `(tactic| decreasing_trivial) => `(tactic| simp only [wpS, wpE, wpEs, wpAnd, wpOr, wpT, wpTA, wpTO, wpQs, wpG, wpGs, truth, Option.map_some, Option.map_none, startA, List.map_cons, List.map_nil, List.length_cons, List.length_nil, List.cons_append, List.nil_append, List.replicate, List.getElem?_cons_zero, List.getElem?_cons_succ, Option.some.injEq, exists_eq_left', exists_eq_left, exists_eq_right, exists_eq', List.set_cons_zero, List.set_cons_succ, wipeS,
  and_assoc, exists_and_left, Val.bl.injEq, Val.int.injEq, Val.str.injEq, Val.tup.injEq, Val.ref.injEq, decide_eq_true_eq, and_true, true_and, seqOf_tup, seqOf_ref, seqOf_scr, seqOf_int, seqOf_bl, seqOf_str, seqOf_non, dctOf_ref, dctOf_tup, if_true, if_false, Bool.false_eq_true, ite_true, ite_false, reduceIte, reduceCtorEq, false_and, exists_false, and_false, List.cons.injEq, Nat.reduceAdd, Nat.reduceSub, Nat.zero_add,
  aAdd, aSub, aMul, aMod, aDiv, aPow, aNeg, aCmp, aLt, aLe, aGt, aGe, aTup, aLst, aGet, aSet, aLenA, aTuple, aList, aAbs, aInt, aDivmod, aAll, aAny, aMaxA, aMinA, aSum, aDict0, aLs, aDc, aAppend, aI, aSl00, aSl01, aSl10, aSl11, aCut, aIs, isNon, Bool.false_bne, Bool.true_bne, wSeq, wRng1, wRng2, wEnum, wZip, aEq_i, aEq_s, aEq_b, atI_0, atI_1, atI_2, atI_3, atI_n, ixN3_0, ixN3_1, ixN3_2, get_set, List.length_set, List.set_set, List.getElem?_map, aIsi, aIsi2, tyA, Bool.or_true, Bool.true_or, Bool.or_false, Bool.false_or, Bool.and_true, Bool.true_and, Bool.and_false, Bool.false_and, Bool.not_true, Bool.not_false, beq_self_eq_true, bne_self_eq_false, decide_true, decide_false, kb_NoneType_bool, kb_NoneType_int, kb_NoneType_str, kb_NoneType_list, kb_NoneType_tuple, kb_bool_bool, kb_bool_int, kb_bool_str, kb_bool_list, kb_bool_tuple, kb_int_bool, kb_int_int, kb_int_str, kb_int_list, kb_int_tuple, kb_str_bool, kb_str_int, kb_str_str, kb_str_list, kb_str_tuple, kb_list_bool, kb_list_int, kb_list_str, kb_list_list, kb_list_tuple, kb_tuple_bool, kb_tuple_int, kb_tuple_str, kb_tuple_list, kb_tuple_tuple, get_new, aLstRg1, aTupRg1, aAddI, aSubI, aDict1, List.length_map, List.length_range, rgL_len, Nat.reduceLeDiff, Nat.zero_le, AO.lst.injEq, AO.dct.injEq, *])
local macro_rules | `(tactic| array_get_dec) => `(tactic| try simp only [wpS, wpE, wpEs, wpAnd, wpOr, wpT, wpTA, wpTO, wpQs, wpG, wpGs, Option.map_some, Option.map_none, startA, List.map_cons, List.map_nil, List.length_cons, List.length_nil, List.cons_append, List.nil_append, List.replicate, List.getElem?_cons_zero, List.getElem?_cons_succ, Option.some.injEq, exists_eq_left', exists_eq_left, List.set_cons_zero, List.set_cons_succ, wipeS, if_true, if_false, Bool.false_eq_true, ite_true, ite_false, reduceIte, Nat.reduceAdd, Nat.reduceSub, Nat.zero_add])
theorem take_ok {b M : Nat} {s : Int} {h : AH} {Q : Val → AH → Prop} (B : BoxAt h b M) (hM : M + 1 ≤ boxMax) (h1 : 1 ≤ s) (h2 : s ≤ 10000000) (k : ∀ (z : Nat) (h' : AH), (z : Int) < s → Kp b h h' → h'.length = h.length → BoxAt h' b (M + 1) → Q (.int z) h') : Φ_take [.ref b, .int s] h Q := ⟨rfl, b, M, s, rfl, B, hM, h1, h2, k⟩
def ir_law_kind (Φ__law_take : ASp) : List IS := [.asg (.tup [.name 3, .name 4, .name 5]) (.call aTup [.call aLst [], .call aDict0 [], .call aGet [.call aLst [.c (.int 2), .c (.int 5), .c (.int 9)], .call Φ__law_take [.l 0, .c (.int 3)]]]),
  .for (.name 6) wRng1 [.l 2] [.asg (.name 3) (.call aAdd [.l 3, .lc [10] (.name 10) wRng1 [.l 1] [] (.call aTup [.l 10, .l 6])])],
  .for (.name 7) wRng1 [.call aMul [.l 1, .l 2]] [.iff (.bool (.call (aEq true) [.l 3, .call aLst []])) [.asg (.name 8) (.call aPop (.call aLs [.l 3] :: [.call Φ__law_take [.l 0, .call aLenA [.l 3]]])),
  .asg (.name 9) (.ite (.and [.bool (.call (aEq true) [.l 3, .call aLst []]), .bool (.call aGt [.call Φ__law_take [.l 0, .l 5], .c (.int 0)])]) (.call aPop (.call aLs [.l 3] :: [.call Φ__law_take [.l 0, .call aLenA [.l 3]]])) (.l 8)),
  .asg (.tup [.sub aSet (.l 4) (.l 8), .sub aSet (.l 4) (.l 9)]) (.call aTup [.l 9, .l 8])] []],
  .ret (.call aTuple [.lc [6] (.name 6) wRng1 [.l 2] [] (.call aTuple [.lc [10] (.name 10) wRng1 [.l 1] [] (.call aGet [.l 4, .call aTup [.l 10, .l 6]])])])]
def Φ_kind : ASp := fun vs h Q => vs.length = 3 ∧ ∃ b M D R : Nat, vs = [.ref b, .int D, .int R] ∧ BoxAt h b M ∧ M + 4000 ≤ boxMax ∧ 1 ≤ D ∧ D ≤ 12 ∧ 1 ≤ R ∧ R ≤ 64 ∧ ∀ f h', Backs D R f → Kp b h h' → BoxAt h' b (M + 4000) → Q (kV (mkK D R f)) h'
theorem ne_nil {h : AH} {neg : Bool} {l e : Nat} {L : List (Nat × Nat)} {Q : Val → AH → Prop} (hl : h[l]? = some (.lst (L.map pV))) (he : h[e]? = some (.lst [])) (q : Q (.bl (neg != decide (L = []))) h) : aEq neg [.ref l, .ref e] h Q := by
  refine ⟨.list (L.map pD), .list [], .lst hl (reps_map rep_pV L), .lst he .nil, okD_shaped (n := 2) ?_, rfl, ?_⟩
  · unfold okD
    rw [okDs_all]
    intro x hx
    obtain ⟨q, _, rfl⟩ := List.mem_map.mp hx
    exact ok_pD q
  · have : PyData.eqv (.list (L.map pD)) (.list []) = decide (L = []) := by
      cases L with
      | nil => simp [PyData.eqv, PyData.eqvAll]
      | cons q r => simp [PyData.eqv, PyData.eqvAll]
    rw [this]; exact q
theorem pop_at {h : AH} {l k : Nat} {xs : List Val} {y : Val} {Q : Val → AH → Prop} (e : h[l]? = some (.lst xs)) (hk : xs[k]? = some y) (hl : xs.length ≤ 1000000) (q : Q y (h.set l (.lst (xs.eraseIdx k)))) : aPop [.ref l, .int k] h Q := ⟨xs, k, y, e, hl, rfl, hk, q⟩
theorem key_pV (q : Nat × Nat) : keyOf (pV q) = some (pk q) := rfl
theorem dput_mem {kvs : List (DK × Val)} {k : DK} {v : Val} {p : DK × Val} (h : p ∈ dput kvs k v) : p.1 = k ∨ ∃ p' ∈ kvs, p'.1 = p.1 := by
  unfold dput at h
  split at h
  · obtain ⟨p', h1, rfl⟩ := List.mem_map.mp h
    split
    · exact .inr ⟨p', h1, rfl⟩
    · exact .inr ⟨p', h1, rfl⟩
  · rcases List.mem_append.mp h with h | h
    · exact .inr ⟨p, h, rfl⟩
    · rw [List.mem_singleton.mp h]; exact .inl rfl
theorem dput_len {kvs : List (DK × Val)} {k : DK} {v : Val} : (dput kvs k v).length ≤ kvs.length + 1 := by
  unfold dput
  split <;> simp
theorem dput_k {kvs : List (DK × Val)} {k : DK} {v : Val} {t : Bool} (hk : ∀ p ∈ kvs, p.1.isK = t) (h : k.isK = t) : ∀ p ∈ dput kvs k v, p.1.isK = t := fun p hp => by
  rcases dput_mem hp with e | ⟨p', m, e⟩
  · rw [e]; exact h
  · rw [← e]; exact hk p' m
theorem wp_kind : ∀ vs h Q, Φ_kind vs h Q → vs.length = 3 → wpSs (ir_law_kind Φ_take) (startA 11 vs) h { nx := fun _ h' => Q .non h', rt := Q } := by
  rintro vs h Q ⟨-, b, M, D, R, rfl, B, hM, hD1, hD2, hR1, hR2, q⟩ -
  have hDR : D * R ≤ 768 := Nat.le_trans (Nat.mul_le_mul hD2 hR2) (by decide)
  have hb := B.lt
  unfold boxMax at hM
  refine wp_go fun N hN => ?_
  have key : ∀ (o : Nat) (h1 : AH), 2 ≤ o → o ≤ 9 → Kp b h h1 → BoxAt h1 b (M + 1) → h1[h.length]? = some (.lst []) → h1[h.length + 1]? = some (.dct []) → N [some (.ref b), some (.int D), some (.int R), some (.ref h.length), some (.ref (h.length + 1)), some (.int o), none, none, none, none, none] h1 := by
    intro o h1 ho1 ho2 g1 B1 eL eT
    have ll := lt_of eT
    refine hN _ _ (wp_go fun N hN => ?_)
    decreasing_trivial
    refine ⟨⟨by omega, by omega, by omega, by omega⟩, for_inv (fun i sl h' => ∃ (l : Nat) (c6 : Option Val), sl = [some (.ref b), some (.int D), some (.int R), some (.ref l), some (.ref (h.length + 1)), some (.int o), c6, none, none, none, none] ∧ Kp b h h' ∧ BoxAt h' b (M + 1) ∧ h.length ≤ l ∧ l ≠ h.length + 1 ∧ h'[l]? = some (.lst ((allP D i).map pV)) ∧ h'[h.length + 1]? = some (.dct []))
      ⟨_, _, rfl, g1, B1, Nat.le_refl _, by omega, eL, eT⟩ (fun i v sl h' N' hv hI hN' => ⟨trivial, ?_⟩) fun sl h' hI => ⟨trivial, ?_⟩⟩
    · obtain ⟨l, c6, rfl, g, B', hl, hl2, eL, eT⟩ := hI
      obtain ⟨hi, rfl⟩ := rgL_get hv
      decreasing_trivial
      refine wp_go fun N2 hN2 => ?_
      decreasing_trivial
      have hi : i < R := by omega
      have hDi : D * i ≤ D * R := Nat.mul_le_mul_left D (by omega)
      refine ⟨⟨by omega, by omega, by omega, by omega⟩, lc_map (fun h3 => Gr h' h3) (fun j => pV (j, i)) (by rw [rgL_len]; omega) Gr.rfl (fun j v h3 K hv g3 k => ⟨trivial, ?_⟩) fun h3 g3 => ⟨trivial, _, get_app (g3.get eL), ?_, hN2 _ _ (hN' _ _ ⟨_, _, rfl, ?_, ?_, ?_, ?_, ?_, ?_⟩)⟩⟩
      · obtain ⟨hj, rfl⟩ := rgL_get hv
        rw [Int.zero_add, Int.zero_add]
        exact k _ g3
      · rw [List.length_map, List.length_map, len_allP, List.length_range, rgL_len]; omega
      · exact g.trans ((g3.trans (Gr.app _)).trans (Gr.app _)).kp
      · exact B'.gr ((g3.trans (Gr.app _)).trans (Gr.app _))
      · have := g.le; have := g3.le; simp; omega
      · have := lt_of eT; have := g3.le; simp; omega
      · rw [get_new, allP_succ, List.map_append, List.map_map, rgL_len]
        congr 4
      · exact get_app (get_app (g3.get eT))
    · obtain ⟨l, c6, rfl, g, B', hl, hl2, eL, eT⟩ := hI
      rw [rgL_len, show ((R : Int) - 0).toNat = R by omega] at eL
      refine hN _ _ (wp_go fun N hN => ?_)
      decreasing_trivial
      have hdr : (D : Int) * R = ((D * R : Nat) : Int) := by simp
      rw [hdr]
      refine ⟨.inl ⟨by omega, by omega⟩, ⟨by omega, by omega, by omega, by omega⟩, ?_⟩
      refine for_inv (fun t sl h' => ∃ (l : Nat) (L : List (Nat × Nat)) (kvs : List (DK × Val)) (m : Nat) (c6 c7 c8 c9 : Option Val), sl = [some (.ref b), some (.int D), some (.int R), some (.ref l), some (.ref (h.length + 1)), some (.int o), c6, c7, c8, c9, none] ∧ Kp b h h' ∧ BoxAt h' b m ∧ h.length ≤ l ∧ l ≠ h.length + 1 ∧ h'[l]? = some (.lst (L.map pV)) ∧ h'[h.length + 1]? = some (.dct kvs) ∧
          KInv D R L kvs ∧ (∀ p ∈ kvs, p.1.isK = false) ∧ (L = [] ∨ L.length + t ≤ D * R) ∧ m ≤ M + 1 + 3 * t ∧ kvs.length ≤ 2 * t)
        ⟨l, allP D R, [], M + 1, c6, none, none, none, rfl, g, B', hl, hl2, eL, eT, KInv.start D R, (fun _ m => nomatch m), .inr (by rw [len_allP]; omega), by omega, by simp⟩ (fun t v sl h' N' hv hI hN' => ⟨trivial, ?_⟩) fun sl h' hI => ⟨trivial, ?_⟩
      · obtain ⟨l, L, kvs, m, c6, c7, c8, c9, rfl, g, B', hl, hl2, eL, eT, KI, hk, hL, hm, hkv⟩ := hI
        obtain ⟨ht, rfl⟩ := rgL_get hv
        rw [Int.zero_add] at hv ⊢
        have ht : t < D * R := by omega
        have lh := lt_of eT
        have hgl := g.le
        have lL := lt_of eL
        decreasing_trivial
        refine wp_go fun N2 hN2 => ?_
        decreasing_trivial
        refine ne_nil (get_app eL) get_new ?_
        by_cases hLn : L = []
        · decreasing_trivial
          exact hN2 _ _ (hN' _ _ ⟨l, L, kvs, m, _, _, _, _, rfl, g.trans (Kp.app _), B'.gr (Gr.app _), hl, hl2, get_app eL, get_app eT, KI, hk, .inl hLn, by omega, by omega⟩)
        have hL' : L.length + t ≤ D * R := hL.resolve_left hLn
        have hpos : 0 < L.length := List.length_pos_iff.mpr hLn
        decreasing_trivial
        have eL1 := get_app (n := [AO.lst []]) eL
        have eT1 := get_app (n := [AO.lst []]) eT
        have g1 : Kp b h (h' ++ [AO.lst []]) := g.trans (Kp.app _)
        have B1 : BoxAt (h' ++ [AO.lst []]) b m := B'.gr (Gr.app _)
        have lL1 := lt_of eL1
        have lT1 := lt_of eT1
        generalize h' ++ [AO.lst []] = k1 at eL1 eT1 g1 B1 lL1 lT1 ⊢
        refine wp_go fun N3 hN3 => ?_
        decreasing_trivial
        refine take_ok B1 (by unfold boxMax; omega) (by omega) (by omega) fun z1 k2 hz1 g2 hl2' B2 => ?_
        have eL2 := g2.get eL1 (by omega)
        have eT2 := g2.get eT1 (by omega)
        have hz1 : z1 < L.length := by simpa using hz1
        refine pop_at eL2 (by rw [List.getElem?_map, List.getElem?_eq_getElem hz1]; rfl) (by rw [List.length_map]; omega) ?_
        rw [eraseIdx_mapD]
        have hone : L[z1]? = some L[z1] := List.getElem?_eq_getElem hz1
        generalize L[z1] = one at hone ⊢
        have hoL : one ∈ L := List.mem_of_getElem? hone
        have nL1 : (L.eraseIdx z1).Nodup := KI.nd.eraseIdx _
        have mL1 := mem_erase KI.nd hone
        have l1 : (L.eraseIdx z1).length = L.length - 1 := List.length_eraseIdx_of_lt hz1
        generalize L.eraseIdx z1 = L1 at nL1 mL1 l1 ⊢
        have eL3 := get_set (o := .lst (L1.map pV)) (lt_of eL2)
        have eT3 : (k2.set l (.lst (L1.map pV)))[h.length + 1]? = some (.dct kvs) := by rw [get_setN (by omega)]; exact eT2
        have g3 : Kp b h (k2.set l (.lst (L1.map pV))) := (g1.trans g2).setNew (by omega)
        have B3 : BoxAt (k2.set l (.lst (L1.map pV))) b (m + 1) := let ⟨n, x, c, e, r⟩ := B2; ⟨n, x, c, by rw [get_setN (by omega)]; exact e, r⟩
        generalize k2.set l (.lst (L1.map pV)) = k3 at eL3 eT3 g3 B3 ⊢
        refine hN3 _ _ (wp_go fun N4 hN4 => ?_)
        have fin : ∀ (other : Nat × Nat) (L2 : List (Nat × Nat)) (k4 : AH) (mm : Nat), mm ≤ m + 3 → other ∈ L → L2.Nodup → (∀ x, x ∈ L2 ↔ x ∈ L ∧ x ≠ one ∧ x ≠ other) → L2.length + 1 ≤ L.length → k4[l]? = some (.lst (L2.map pV)) → k4[h.length + 1]? = some (.dct kvs) → Kp b h k4 → BoxAt k4 b mm →
            N4 [some (.ref b), some (.int D), some (.int R), some (.ref l), some (.ref (h.length + 1)), some (.int o), c6, some (.int t), some (pV one), some (pV other), none] k4 := by
          intro other L2 k4 mm hmm hot n2 hm2 hl2 eL4 eT4 g4 B4
          refine hN4 _ _ (wp_go fun N5 hN5 => ?_)
          have lk4 := lt_of eT4
          have ko := key_pV one
          have kt := key_pV other
          decreasing_trivial
          have le1 := dput_len (kvs := kvs) (k := pk one) (v := pV other)
          refine ⟨hk, by omega, dput_k hk rfl, by omega, hN5 _ _ (hN2 _ _ (hN' _ _ ⟨l, L2, _, mm, _, _, _, _, rfl, g4.setNew (by omega), ?_, hl, by omega, ?_, get_set lk4, KI.step hoL hot n2 hm2, dput_k (dput_k hk rfl) rfl, .inr (by omega), by omega, ?_⟩))⟩
          · obtain ⟨n, x, c, e, r⟩ := B4
            exact ⟨n, x, c, by rw [get_setN (by omega)]; exact e, r⟩
          · rw [get_setN (by omega)]; exact eL4
          · have := dput_len (kvs := dput kvs (pk one) (pV other)) (k := pk other) (v := pV one)
            omega
        have lL3 := lt_of eL3
        decreasing_trivial
        refine ne_nil (get_app eL3) get_new ?_
        have eL4 := get_app (n := [AO.lst []]) eL3
        have eT4 := get_app (n := [AO.lst []]) eT3
        have g4 : Kp b h (k3 ++ [AO.lst []]) := g3.trans (Kp.app _)
        have B4 : BoxAt (k3 ++ [AO.lst []]) b (m + 1) := B3.gr (Gr.app _)
        generalize k3 ++ [AO.lst []] = k4 at eL4 eT4 g4 B4 ⊢
        have self : ∀ x, x ∈ L1 ↔ x ∈ L ∧ x ≠ one ∧ x ≠ one := fun x => by rw [mL1]; exact ⟨fun ⟨a, b⟩ => ⟨a, b, b⟩, fun ⟨a, b, _⟩ => ⟨a, b⟩⟩
        by_cases hL1 : L1 = []
        · have := fin one L1 k4 (m + 1) (by omega) hoL nL1 self (by omega) eL4 eT4 g4 B4
          decreasing_trivial
        decreasing_trivial
        have hpos1 : 0 < L1.length := List.length_pos_iff.mpr hL1
        refine take_ok B4 (by unfold boxMax; omega) (by omega) (by omega) fun z2 k5 hz2 g5 _ B5 => ?_
        have eL5 := g5.get eL4 (by omega)
        have eT5 := g5.get eT4 (by omega)
        have b5 := fin one L1 k5 (m + 2) (by omega) hoL nL1 self (by omega) eL5 eT5 (g4.trans g5) B5
        decreasing_trivial
        split
        · refine take_ok B5 (by unfold boxMax; omega) (by omega) (by omega) fun z3 k6 hz3 g6 _ B6 => ?_
          have eL6 := g6.get eL5 (by omega)
          have eT6 := g6.get eT5 (by omega)
          have hz3 : z3 < L1.length := by omega
          refine pop_at eL6 (by rw [List.getElem?_map, List.getElem?_eq_getElem hz3]; rfl) (by rw [List.length_map]; omega) ?_
          rw [eraseIdx_mapD]
          have hoth : L1[z3]? = some L1[z3] := List.getElem?_eq_getElem hz3
          generalize L1[z3] = other at hoth ⊢
          have hm1 := (mL1 other).mp (List.mem_of_getElem? hoth)
          refine fin other (L1.eraseIdx z3) _ (m + 3) (by omega) hm1.1 (nL1.eraseIdx _) (fun x => ?_) ?_ (get_set (lt_of eL6)) (by rw [get_setN (by omega)]; exact eT6) (((g4.trans g5).trans g6).setNew (by omega)) ?_
          · rw [mem_erase nL1 hoth, mL1]
            exact ⟨fun ⟨⟨a, b⟩, c⟩ => ⟨a, b, c⟩, fun ⟨a, b, c⟩ => ⟨⟨a, b⟩, c⟩⟩
          · rw [List.length_eraseIdx_of_lt hz3]; omega
          · obtain ⟨n, x, c, e, r⟩ := B6
            exact ⟨n, x, c, by rw [get_setN (by omega)]; exact e, r⟩
        · trivial
      · obtain ⟨l, L, kvs, m, c6, c7, c8, c9, rfl, g, B', hl, hl2, eL, eT, KI, hk, hL, hm, hkv⟩ := hI
        rw [rgL_len] at hL hm
        have hL0 : L = [] := by
          rcases hL with e | e
          · exact e
          · exact List.length_eq_zero_iff.mp (by omega)
        subst hL0
        obtain ⟨gk, look⟩ := KI.kind
        refine hN _ _ (wp_go fun N hN => ?_)
        decreasing_trivial
        refine ⟨⟨by omega, by omega, by omega, by omega⟩, lc_map (fun h3 => Gr h' h3) (fun r => .tup ((List.range D).map fun d => pV (tabT kvs (d, r)))) (by rw [rgL_len]; omega) Gr.rfl (fun r v h3 K hv g3 k => ⟨trivial, ⟨by omega, by omega, by omega, by omega⟩, 
          lc_map (fun h4 => Gr h' h4) (fun d => pV (tabT kvs (d, r))) (by rw [rgL_len]; omega) g3 (fun d w h4 K' hw g4 k' => ⟨trivial, ?_⟩) fun h4 g4 => ⟨trivial, ?_⟩⟩) fun h3 g3 => ⟨trivial, ?_⟩⟩
        · obtain ⟨hr, rfl⟩ := rgL_get hv
          obtain ⟨hd, rfl⟩ := rgL_get hw
          have eT4 := g4.get eT
          have kk : keyOf (.tup [.int (d : Nat), .int (r : Nat)]) = some (pk (d, r)) := rfl
          have lk := look r d (by omega) (by omega)
          have kq := k' _ g4
          rw [Int.zero_add, Int.zero_add]
          decreasing_trivial
        · rw [rgL_len]
          exact k _ (g4.trans (Gr.app _))
        · rw [rgL_len]
          have : (List.range ((R : Int) - 0).toNat).map (fun r => Val.tup ((List.range D).map fun d => pV (tabT kvs (d, r)))) = (List.range R).map (fun r => Val.tup ((List.range D).map fun d => pV (tabT kvs (d, r)))) := by rw [show ((R : Int) - 0).toNat = R by omega]
          rw [this, ← kV_mk (f := fun r d => tabT kvs (d, r))]
          obtain ⟨f, e1, e2⟩ := gk.mk'
          have e3 : mkK D R (fun r d => tabT kvs (d, r)) = mkK D R f := e1
          rw [e3]
          exact q f _ e2 (g.trans (g3.trans (Gr.app _)).kp) ((B'.gr (g3.trans (Gr.app _))).mono (by omega))
  decreasing_trivial
  refine take_ok (M := M) (B.gr (((Gr.app _).trans (Gr.app _)).trans (Gr.app _))) (by unfold boxMax; omega) (by decide) (by decide) fun z h1 hz g1 hl1 B1 => ?_
  have e3 := g1.get (get_new (h := h ++ [.lst []] ++ [.dct []]) (o := .lst [.int 2, .int 5, .int 9])) (by simp; omega)
  have e2 := g1.get (get_app (n := [.lst [.int 2, .int 5, .int 9]]) (get_new (h := h ++ [.lst []]) (o := .dct []))) (by simp; omega)
  have e1 := g1.get (get_app (n := [.lst [.int 2, .int 5, .int 9]]) (get_app (n := [.dct []]) (get_new (h := h) (o := .lst [])))) (by omega)
  have g0 : Kp b h h1 := ((((Gr.app _).trans (Gr.app _)).trans (Gr.app _)).kp).trans g1
  have el : (h ++ [AO.lst []]).length = h.length + 1 := by simp
  rw [el] at e2
  have hz : z = 0 ∨ z = 1 ∨ z = 2 := by omega
  rcases hz with rfl | rfl | rfl <;> decreasing_trivial
  · exact key 2 _ (by decide) (by decide) g0 B1 e1 e2
  · exact key 5 _ (by decide) (by decide) g0 B1 e1 e2
  · exact key 9 _ (by decide) (by decide) g0 B1 e1 e2
end Ev
namespace Ev
open PySem PySem.Spec PyProof.Rows L2
local macro_rules | `(tactic| decreasing_trivial) => `(tactic| simp only [wpS, wpE, wpEs, wpAnd, wpOr, wpT, wpTA, wpTO, wpQs, wpG, wpGs, truth, Option.map_some, Option.map_none, startA, List.map_cons, List.map_nil, List.length_cons, List.length_nil, List.cons_append, List.nil_append, List.replicate, List.getElem?_cons_zero, List.getElem?_cons_succ, Option.some.injEq, exists_eq_left', exists_eq_left, exists_eq_right, exists_eq', List.set_cons_zero, List.set_cons_succ, wipeS,
  and_assoc, exists_and_left, Val.bl.injEq, Val.int.injEq, Val.str.injEq, Val.tup.injEq, Val.ref.injEq, decide_eq_true_eq, and_true, true_and, seqOf_tup, seqOf_ref, seqOf_scr, seqOf_int, seqOf_bl, seqOf_str, seqOf_non, dctOf_ref, dctOf_tup, if_true, if_false, Bool.false_eq_true, ite_true, ite_false, reduceIte, reduceCtorEq, false_and, exists_false, and_false, List.cons.injEq, Nat.reduceAdd, Nat.reduceSub, Nat.zero_add,
  aAdd, aSub, aMul, aMod, aDiv, aPow, aNeg, aCmp, aLt, aLe, aGt, aGe, aTup, aLst, aGet, aSet, aLenA, aTuple, aList, aAbs, aInt, aDivmod, aAll, aAny, aMaxA, aMinA, aSum, aDict0, aLs, aDc, aAppend, aI, aSl00, aSl01, aSl10, aSl11, aCut, aIs, isNon, Bool.false_bne, Bool.true_bne, wSeq, wRng1, wRng2, wEnum, wZip, aEq_i, aEq_s, aEq_b, atI_0, atI_1, atI_2, atI_3, atI_n, ixN3_0, ixN3_1, ixN3_2, get_set, List.length_set, List.set_set, List.getElem?_map, aIsi, aIsi2, tyA, Bool.or_true, Bool.true_or, Bool.or_false, Bool.false_or, Bool.and_true, Bool.true_and, Bool.and_false, Bool.false_and, Bool.not_true, Bool.not_false, beq_self_eq_true, bne_self_eq_false, decide_true, decide_false, kb_NoneType_bool, kb_NoneType_int, kb_NoneType_str, kb_NoneType_list, kb_NoneType_tuple, kb_bool_bool, kb_bool_int, kb_bool_str, kb_bool_list, kb_bool_tuple, kb_int_bool, kb_int_int, kb_int_str, kb_int_list, kb_int_tuple, kb_str_bool, kb_str_int, kb_str_str, kb_str_list, kb_str_tuple, kb_list_bool, kb_list_int, kb_list_str, kb_list_list, kb_list_tuple, kb_tuple_bool, kb_tuple_int, kb_tuple_str, kb_tuple_list, kb_tuple_tuple, get_new, aLstRg1, aTupRg1, aAddI, aSubI, aDict1, List.length_map, List.length_range, rgL_len, Nat.reduceLeDiff, Nat.zero_le, AO.lst.injEq, AO.dct.injEq, *])
local macro_rules | `(tactic| array_get_dec) => `(tactic| try simp only [wpS, wpE, wpEs, wpAnd, wpOr, wpT, wpTA, wpTO, wpQs, wpG, wpGs, Option.map_some, Option.map_none, startA, List.map_cons, List.map_nil, List.length_cons, List.length_nil, List.cons_append, List.nil_append, List.replicate, List.getElem?_cons_zero, List.getElem?_cons_succ, Option.some.injEq, exists_eq_left', exists_eq_left, List.set_cons_zero, List.set_cons_succ, wipeS, if_true, if_false, Bool.false_eq_true, ite_true, ite_false, reduceIte, Nat.reduceAdd, Nat.reduceSub, Nat.zero_add])
/-! ### sequences as data -/
def seqD : PyData → Option (List PyData)
  | .list xs => some xs
  | .tuple xs => some xs
  | _ => none
def isN : PyData → Bool
  | .none => true
  | _ => false
def nodict : PyData → Bool
  | .dict _ => false
  | _ => true
theorem okD_nodict {n : Nat} {d : PyData} (h : okD n d = true) : nodict d = true := by
  cases d with
  | dict kvs => cases n <;> simp [okD] at h
  | none => rfl
  | bool _ => rfl
  | int _ => rfl
  | str _ => rfl
  | list _ => rfl
  | tuple _ => rfl
def isTupB : PyData → Bool
  | .tuple _ => true
  | _ => false
def isIntB : PyData → Bool
  | .int _ => true
  | .bool _ => true
  | _ => false
def isBoolB : PyData → Bool
  | .bool _ => true
  | _ => false
/-- a whole number, no truth, below b -/
def numB (x : PyData) (b : Int) : Bool := match x with
  | .int i => decide (0 ≤ i) && decide (i < b)
  | _ => false
def pairB (x : PyData) (d r : Int) : Bool := match x with
  | .tuple [a, b] => numB a d && numB b r
  | _ => false
/-- no list or tuple within is longer than b -/
def lenLe (b : Nat) : PyData → Bool
  | .list xs => decide (xs.length ≤ b) && lenLes b xs
  | .tuple xs => decide (xs.length ≤ b) && lenLes b xs
  | _ => true
where lenLes (b : Nat) : List PyData → Bool
  | [] => true
  | x :: xs => lenLe b x && lenLes b xs
theorem lenLes_all {b : Nat} : ∀ {xs : List PyData}, lenLe.lenLes b xs = true ↔ ∀ x ∈ xs, lenLe b x = true
  | [] => by simp [lenLe.lenLes]
  | x :: xs => by rw [lenLe.lenLes, Bool.and_eq_true, lenLes_all (xs := xs)]; simp
def Bnd (D R : Nat) (f : Nat → Nat → Nat × Nat) : Prop := ∀ r d, r < R → d < D → (f r d).1 < D ∧ (f r d).2 < R
theorem Backs.bnd {D R : Nat} {f : Nat → Nat → Nat × Nat} (h : Backs D R f) : Bnd D R f := fun r d hr hd => ⟨(h r d hr hd).1, (h r d hr hd).2.1⟩
/-- rows of pairs of numbers below doors and rests -/
def RowsK (x : PyData) : Prop := ∃ D R f, 1 ≤ D ∧ 1 ≤ R ∧ x = kD (mkK D R f) ∧ Bnd D R f
def itemsD : PyData → List PyData
  | .tuple xs => xs
  | _ => []
theorem numB_of {x : PyData} {b : Int} (h : numB x b = true) : ∃ n : Nat, x = .int n ∧ (n : Int) < b := by
  cases x with
  | int i =>
    have h : (decide (0 ≤ i) && decide (i < b)) = true := h
    rw [Bool.and_eq_true, decide_eq_true_eq, decide_eq_true_eq] at h
    exact ⟨i.toNat, by rw [Int.toNat_of_nonneg h.1], by omega⟩
  | none => cases h
  | bool _ => cases h
  | str _ => cases h
  | list _ => cases h
  | tuple _ => cases h
  | dict _ => cases h
theorem numB_nat {n b : Nat} (h : n < b) : numB (.int (n : Nat)) (b : Nat) = true := by
  show (decide (0 ≤ (n : Int)) && decide ((n : Int) < (b : Int))) = true
  rw [decide_eq_true (by omega), decide_eq_true (by omega)]; rfl
theorem pairB_of {x : PyData} {d r : Nat} (h : pairB x d r = true) : ∃ q : Nat × Nat, x = pD q ∧ q.1 < d ∧ q.2 < r := by
  unfold pairB at h
  split at h
  · rw [Bool.and_eq_true] at h
    obtain ⟨n, rfl, h1⟩ := numB_of h.1
    obtain ⟨m, rfl, h2⟩ := numB_of h.2
    exact ⟨(n, m), rfl, by show n < d; omega, by show m < r; omega⟩
  · cases h
/-- what makes rows: all tuples, as long as the first one, which is not empty, of pairs -/
theorem rowsK_of {xs : List PyData} {D : Nat} (h0 : xs ≠ []) (ht : ∀ x ∈ xs, isTupB x = true) (hD : 1 ≤ D) (hl : ∀ x ∈ xs, (itemsD x).length = D) (hp : ∀ x ∈ xs, ∀ p ∈ itemsD x, pairB p (D : Nat) (xs.length : Nat) = true) : RowsK (.tuple xs) := by
  have hR : 1 ≤ xs.length := List.length_pos_iff.mpr h0
  have cell : ∀ r d, r < xs.length → d < D → ∃ q : Nat × Nat, (itemsD (xs[r]?.getD .none))[d]? = some (pD q) ∧ q.1 < D ∧ q.2 < xs.length := by
    intro r d hr hd
    have hx : xs[r]?.getD .none = xs[r] := by rw [List.getElem?_eq_getElem hr]; rfl
    rw [hx]
    have hm : xs[r] ∈ xs := List.getElem_mem hr
    have hdl : d < (itemsD xs[r]).length := by rw [hl _ hm]; exact hd
    obtain ⟨q, e1, e2, e3⟩ := pairB_of (hp _ hm _ (List.getElem_mem hdl))
    exact ⟨q, by rw [List.getElem?_eq_getElem hdl, e1], e2, e3⟩
  let f : Nat → Nat → Nat × Nat := fun r d => if h : r < xs.length ∧ d < D then (cell r d h.1 h.2).choose else (0, 0)
  have hf : ∀ r d (hr : r < xs.length) (hd : d < D), (itemsD (xs[r]?.getD .none))[d]? = some (pD (f r d)) ∧ (f r d).1 < D ∧ (f r d).2 < xs.length := by
    intro r d hr hd
    have e : f r d = (cell r d hr hd).choose := by show (if h : r < xs.length ∧ d < D then _ else _) = _; rw [dif_pos ⟨hr, hd⟩]
    rw [e]
    exact (cell r d hr hd).choose_spec
  refine ⟨D, xs.length, f, hD, hR, ?_, fun r d hr hd => (hf r d hr hd).2⟩
  rw [kD_mk]
  congr 1
  apply List.ext_getElem?
  intro r
  by_cases hr : r < xs.length
  · rw [rng_at hr, List.getElem?_eq_getElem hr]
    congr 1
    have hm : xs[r] ∈ xs := List.getElem_mem hr
    have hx : xs[r]?.getD .none = xs[r] := by rw [List.getElem?_eq_getElem hr]; rfl
    have ht' := ht _ hm
    have hl' := hl _ hm
    have hc := fun d hd => (hf r d hr hd).1
    rw [hx] at hc
    cases q : xs[r] with
    | tuple ys =>
      rw [q] at hl' hc
      congr 1
      apply List.ext_getElem?
      intro d
      by_cases hd : d < D
      · rw [rng_at hd]; exact hc d hd
      · rw [List.getElem?_eq_none (by have : ys.length = D := hl'; omega), List.getElem?_eq_none (by simp; omega)]
    | none => rw [q] at ht'; cases ht'
    | bool _ => rw [q] at ht'; cases ht'
    | int _ => rw [q] at ht'; cases ht'
    | str _ => rw [q] at ht'; cases ht'
    | list _ => rw [q] at ht'; cases ht'
    | dict _ => rw [q] at ht'; cases ht'
  · rw [List.getElem?_eq_none (by omega), List.getElem?_eq_none (by simp; omega)]
theorem of_rowsK {xs : List PyData} (h : RowsK (.tuple xs)) : ∃ D, 1 ≤ D ∧ xs ≠ [] ∧ (∀ x ∈ xs, isTupB x = true) ∧ (∀ x ∈ xs, (itemsD x).length = D) ∧ ∀ x ∈ xs, ∀ p ∈ itemsD x, pairB p (D : Nat) (xs.length : Nat) = true := by
  obtain ⟨D, R, f, hD, hR, e, hB⟩ := h
  rw [kD_mk, PyData.tuple.injEq] at e
  subst e
  refine ⟨D, hD, ?_, fun x hx => ?_, fun x hx => ?_, fun x hx p hp => ?_⟩
  · intro z
    have := congrArg List.length z
    simp at this
    omega
  · obtain ⟨r, _, rfl⟩ := List.mem_map.mp hx
    rfl
  · obtain ⟨r, _, rfl⟩ := List.mem_map.mp hx
    show ((List.range D).map _).length = D
    simp
  · obtain ⟨r, hr, rfl⟩ := List.mem_map.mp hx
    obtain ⟨d, hd, rfl⟩ := List.mem_map.mp (show p ∈ (List.range D).map fun d => pD (f r d) from hp)
    obtain ⟨b1, b2⟩ := hB r d (List.mem_range.mp hr) (List.mem_range.mp hd)
    rw [List.length_map, List.length_range]
    show (numB _ _ && numB _ _) = true
    rw [numB_nat b1, numB_nat b2]; rfl
def BackAt (f : Nat → Nat → Nat × Nat) (r d : Nat) : Prop := f (f r d).2 (f r d).1 = (d, r)
/-- the first rest and door whose pair does not lead back -/
def FaultIs (D R : Nat) (f : Nat → Nat → Nat × Nat) (v : PyData) : Prop :=
  ((∀ r d, r < R → d < D → BackAt f r d) ∧ v = .none) ∨ ∃ r d, r < R ∧ d < D ∧ ¬ BackAt f r d ∧ (∀ r' d', r' < R → d' < D → (r' < r ∨ (r' = r ∧ d' < d)) → BackAt f r' d') ∧ v = .tuple [.int (r : Nat), .int (d : Nat)]
theorem FaultIs.one {D R : Nat} {f : Nat → Nat → Nat × Nat} {v v' : PyData} (h : FaultIs D R f v) (h' : FaultIs D R f v') : v = v' := by
  rcases h with ⟨a, rfl⟩ | ⟨r, d, hr, hd, a, b, rfl⟩
  · rcases h' with ⟨_, rfl⟩ | ⟨r', d', hr', hd', a', _, _⟩
    · rfl
    · exact absurd (a r' d' hr' hd') a'
  · rcases h' with ⟨a', _⟩ | ⟨r', d', hr', hd', a', b', rfl⟩
    · exact absurd (a' r d hr hd) a
    · have e1 : r = r' := by
        rcases Nat.lt_trichotomy r r' with z | z | z
        · exact absurd (b' r d hr hd (.inl z)) a
        · exact z
        · exact absurd (b r' d' hr' hd' (.inl z)) a'
      subst e1
      have e2 : d = d' := by
        rcases Nat.lt_trichotomy d d' with z | z | z
        · exact absurd (b' r d hr hd (.inr ⟨rfl, z⟩)) a
        · exact z
        · exact absurd (b r d' hr' hd' (.inr ⟨rfl, z⟩)) a'
      subst e2
      rfl
/-! ### a kind told by lists or tuples, in any mix -/
structure KG (D R : Nat) (f : Nat → Nat → Nat × Nat) (x : PyData) : Prop where
  ex : ∃ xs, seqD x = some xs ∧ xs.length = R ∧ ∀ r, r < R → ∃ y ys, xs[r]? = some y ∧ seqD y = some ys ∧ ys.length = D ∧ ∀ d, d < D → ∃ p, ys[d]? = some p ∧ seqD p = some [.int (f r d).1, .int (f r d).2]
theorem KG_mk {D R : Nat} {f : Nat → Nat → Nat × Nat} : KG D R f (kD (mkK D R f)) := by
  refine ⟨?_⟩
  rw [kD_mk]
  exact ⟨_, rfl, by simp, fun r hr => ⟨_, _, rng_at hr, rfl, by simp, fun d hd => ⟨_, rng_at hd, rfl⟩⟩⟩
theorem KG_mkL {D R : Nat} {f : Nat → Nat → Nat × Nat} : KG D R f (toL (kD (mkK D R f))) := by
  refine ⟨?_⟩
  rw [kD_mk, toL, toLs_map, List.map_map]
  refine ⟨_, rfl, by simp, fun r hr => ⟨_, (List.range D).map fun d => toL (pD (f r d)), rng_at hr, ?_, by simp, fun d hd => ⟨_, rng_at hd, ?_⟩⟩⟩
  · show seqD (toL (.tuple _)) = _
    rw [toL, toLs_map, List.map_map]; rfl
  · show seqD (toL (.tuple [.int (f r d).1, .int (f r d).2])) = _
    rw [toL, toLs_map]; rfl
/-- a kind as the document tells it -/
def IsKind (x : PyData) : Prop := ∃ D R f, 1 ≤ D ∧ 1 ≤ R ∧ x = kD (mkK D R f) ∧ Backs D R f
theorem KG_one {D R D' R' : Nat} {f f' : Nat → Nat → Nat × Nat} (h : KG D R f (kD (mkK D' R' f'))) (hR : 0 < R') : D = D' ∧ R = R' ∧ ∀ r d, r < R → d < D → f r d = f' r d := by
  obtain ⟨⟨xs, e1, e2, e3⟩⟩ := h
  rw [kD_mk] at e1
  cases e1
  have q1 : R = R' := by rw [← e2]; simp
  subst q1
  obtain ⟨y, ys, a1, a2, a3, _⟩ := e3 0 hR
  rw [rng_at hR] at a1; cases a1; cases a2
  have q2 : D = D' := by rw [← a3]; simp
  subst q2
  refine ⟨rfl, rfl, fun r d hr hd => ?_⟩
  obtain ⟨y, ys, a1, a2, a3, a4⟩ := e3 r hr
  rw [rng_at hr] at a1; cases a1; cases a2
  obtain ⟨p, b1, b2⟩ := a4 d hd
  rw [rng_at hd] at b1; cases b1
  have b2 : some [PyData.int ((f' r d).1 : Nat), PyData.int ((f' r d).2 : Nat)] = _ := b2
  simp only [Option.some.injEq, List.cons.injEq, PyData.int.injEq, and_true] at b2
  exact Prod.ext (by omega) (by omega)
def chainF (many : Nat) (r d : Nat) : Nat × Nat := if d = 0 then (if r + 1 < many then (1, r + 1) else (0, r)) else (if 0 < r then (0, r - 1) else (1, r))
theorem chain_backs (many : Nat) : Backs 2 many (chainF many) := by
  intro r d hr hd
  have hd : d = 0 ∨ d = 1 := by omega
  unfold chainF
  rcases hd with rfl | rfl
  · by_cases h : r + 1 < many
    · rw [if_pos rfl, if_pos h]
      refine ⟨(by show 1 < 2; decide), h, ?_⟩
      show (if 1 = 0 then _ else (if 0 < r + 1 then (0, r + 1 - 1) else (1, r + 1))) = _
      rw [if_neg (by decide), if_pos (by omega)]
      rfl
    · rw [if_pos rfl, if_neg h]
      refine ⟨(by show 0 < 2; decide), hr, ?_⟩
      show (if 0 = 0 then (if r + 1 < many then (1, r + 1) else (0, r)) else _) = _
      rw [if_pos rfl, if_neg h]
  · by_cases h : 0 < r
    · rw [if_neg (by decide), if_pos h]
      refine ⟨(by show 0 < 2; decide), by show r - 1 < many; omega, ?_⟩
      show (if 0 = 0 then (if r - 1 + 1 < many then (1, r - 1 + 1) else (0, r - 1)) else _) = _
      rw [if_pos rfl, if_pos (by omega), show r - 1 + 1 = r from by omega]
    · rw [if_neg (by decide), if_neg h]
      refine ⟨(by show 1 < 2; decide), hr, ?_⟩
      show (if 1 = 0 then _ else (if 0 < r then (0, r - 1) else (1, r))) = _
      rw [if_neg (by decide), if_neg h]
def dblF (R : Nat) (f : Nat → Nat → Nat × Nat) (r d : Nat) : Nat × Nat := if r < R then f r d else ((f (r - R) d).1, (f (r - R) d).2 + R)
theorem dbl_backs {D R : Nat} {f : Nat → Nat → Nat × Nat} (h : Backs D R f) : Backs D (2 * R) (dblF R f) := by
  intro r d hr hd
  unfold dblF
  by_cases h1 : r < R
  · obtain ⟨b1, b2, b3⟩ := h r d h1 hd
    rw [if_pos h1]
    exact ⟨b1, by omega, by rw [if_pos b2]; exact b3⟩
  · obtain ⟨b1, b2, b3⟩ := h (r - R) d (by omega) hd
    rw [if_neg h1]
    refine ⟨b1, by show _ + R < _; omega, ?_⟩
    show (if (f (r - R) d).2 + R < R then _ else ((f ((f (r - R) d).2 + R - R) (f (r - R) d).1).1, (f ((f (r - R) d).2 + R - R) (f (r - R) d).1).2 + R)) = _
    rw [if_neg (by omega), Nat.add_sub_cancel, b3]
    show (d, r - R + R) = (d, r)
    rw [Nat.sub_add_cancel (by omega)]
/-! ### kinds side by side: the mathematics -/
def bsF (D1 R2 : Nat) (f1 f2 : Nat → Nat → Nat × Nat) (t d : Nat) : Nat × Nat := if d < D1 then ((f1 (t / R2) d).1, (f1 (t / R2) d).2 * R2 + t % R2) else ((f2 (t % R2) (d - D1)).1 + D1, t / R2 * R2 + (f2 (t % R2) (d - D1)).2)
theorem dm {R2 q s : Nat} (h : s < R2) : (q * R2 + s) / R2 = q ∧ (q * R2 + s) % R2 = s := by
  have hp : 0 < R2 := by omega
  refine ⟨?_, ?_⟩
  · rw [Nat.mul_comm, Nat.mul_add_div hp, Nat.div_eq_of_lt h, Nat.add_zero]
  · rw [Nat.mul_comm, Nat.mul_add_mod, Nat.mod_eq_of_lt h]
theorem bs_backs {D1 R1 D2 R2 : Nat} {f1 f2 : Nat → Nat → Nat × Nat} (h1 : Backs D1 R1 f1) (h2 : Backs D2 R2 f2) : Backs (D1 + D2) (R1 * R2) (bsF D1 R2 f1 f2) := by
  intro t d ht hd
  have hR2 : 0 < R2 := by
    rcases Nat.eq_zero_or_pos R2 with z | z
    · subst z; omega
    · exact z
  have q1 : t / R2 < R1 := (Nat.div_lt_iff_lt_mul hR2).mpr ht
  have q2 : t % R2 < R2 := Nat.mod_lt _ hR2
  have q3 : t / R2 * R2 + t % R2 = t := by rw [Nat.mul_comm]; exact Nat.div_add_mod t R2
  unfold bsF
  by_cases hdd : d < D1
  · obtain ⟨b1, b2, b3⟩ := h1 (t / R2) d q1 hdd
    rw [if_pos hdd]
    refine ⟨by show _ < D1 + D2; omega, ?_, ?_⟩
    · show (f1 (t / R2) d).2 * R2 + t % R2 < R1 * R2
      have : ((f1 (t / R2) d).2 + 1) * R2 ≤ R1 * R2 := Nat.mul_le_mul_right R2 b2
      rw [Nat.add_mul] at this
      omega
    · obtain ⟨e1, e2⟩ := dm (q := (f1 (t / R2) d).2) q2
      show (if (f1 (t / R2) d).1 < D1 then ((f1 (((f1 (t / R2) d).2 * R2 + t % R2) / R2) (f1 (t / R2) d).1).1, (f1 (((f1 (t / R2) d).2 * R2 + t % R2) / R2) (f1 (t / R2) d).1).2 * R2 + ((f1 (t / R2) d).2 * R2 + t % R2) % R2) else _) = _
      rw [if_pos b1, e1, e2, b3, q3]
  · obtain ⟨b1, b2, b3⟩ := h2 (t % R2) (d - D1) q2 (by omega)
    rw [if_neg hdd]
    refine ⟨by show _ + D1 < D1 + D2; omega, ?_, ?_⟩
    · show t / R2 * R2 + (f2 (t % R2) (d - D1)).2 < R1 * R2
      have : (t / R2 + 1) * R2 ≤ R1 * R2 := Nat.mul_le_mul_right R2 q1
      rw [Nat.add_mul] at this
      omega
    · obtain ⟨e1, e2⟩ := dm (q := t / R2) b2
      show (if (f2 (t % R2) (d - D1)).1 + D1 < D1 then _ else ((f2 ((t / R2 * R2 + (f2 (t % R2) (d - D1)).2) % R2) ((f2 (t % R2) (d - D1)).1 + D1 - D1)).1 + D1, (t / R2 * R2 + (f2 (t % R2) (d - D1)).2) / R2 * R2 + (f2 ((t / R2 * R2 + (f2 (t % R2) (d - D1)).2) % R2) ((f2 (t % R2) (d - D1)).1 + D1 - D1)).2)) = _
      rw [if_neg (by omega), e1, e2, Nat.add_sub_cancel, b3, q3]
      congr 1
      omega
theorem bs_congr {D1 R1 D2 R2 : Nat} {f1 f2 f1' f2' : Nat → Nat → Nat × Nat} (h1 : ∀ r d, r < R1 → d < D1 → f1 r d = f1' r d) (h2 : ∀ r d, r < R2 → d < D2 → f2 r d = f2' r d) : mkK (D1 + D2) (R1 * R2) (bsF D1 R2 f1 f2) = mkK (D1 + D2) (R1 * R2) (bsF D1 R2 f1' f2') := by
  rcases Nat.eq_zero_or_pos R2 with z | p2
  · subst z; rfl
  refine mkK_congr fun t d ht hd => ?_
  have q1 : t / R2 < R1 := (Nat.div_lt_iff_lt_mul p2).mpr ht
  have q2 : t % R2 < R2 := Nat.mod_lt _ p2
  unfold bsF
  by_cases hdd : d < D1
  · rw [if_pos hdd, if_pos hdd, h1 _ _ q1 hdd]
  · rw [if_neg hdd, if_neg hdd, h2 _ _ q2 (by omega)]
/-- three in two ways -/
theorem bs_assoc {D1 R1 D2 R2 D3 R3 : Nat} {f1 f2 f3 : Nat → Nat → Nat × Nat} (h1 : Backs D1 R1 f1) (h2 : Backs D2 R2 f2) (h3 : Backs D3 R3 f3) :
    mkK (D1 + D2 + D3) (R1 * R2 * R3) (bsF (D1 + D2) R3 (bsF D1 R2 f1 f2) f3) = mkK (D1 + (D2 + D3)) (R1 * (R2 * R3)) (bsF D1 (R2 * R3) f1 (bsF D2 R3 f2 f3)) := by
  rw [Nat.add_assoc, Nat.mul_assoc]
  refine mkK_congr fun t d ht hd => ?_
  have p3 : 0 < R3 := by
    rcases Nat.eq_zero_or_pos R3 with z | z
    · subst z; simp at ht
    · exact z
  have p2 : 0 < R2 := by
    rcases Nat.eq_zero_or_pos R2 with z | z
    · subst z; simp at ht
    · exact z
  -- t = (a * R2 + b) * R3 + s
  have e1 : t / (R2 * R3) = t / R3 / R2 := by rw [Nat.mul_comm R2 R3, Nat.div_div_eq_div_mul]
  have e2 : t % (R2 * R3) / R3 = t / R3 % R2 := by rw [Nat.mul_comm R2 R3, Nat.mod_mul_right_div_self]
  have e3 : t % (R2 * R3) % R3 = t % R3 := Nat.mod_mul_left_mod _ _ _
  have e4 : t % (R2 * R3) = t / R3 % R2 * R3 + t % R3 := by
    have := Nat.div_add_mod (t % (R2 * R3)) R3
    rw [e2, e3, Nat.mul_comm R3] at this
    exact this.symm
  unfold bsF
  rw [e1, e2, e3]
  by_cases c1 : d < D1
  · rw [if_pos (show d < D1 + D2 by omega), if_pos c1, if_pos c1]
    show ((f1 (t / R3 / R2) d).1, ((f1 (t / R3 / R2) d).2 * R2 + t / R3 % R2) * R3 + t % R3) = _
    rw [e4, Nat.add_mul, Nat.mul_assoc, Nat.add_assoc]
  · by_cases c2 : d < D1 + D2
    · rw [if_pos c2, if_neg c1, if_neg c1, if_pos (show d - D1 < D2 by omega)]
      show ((f2 (t / R3 % R2) (d - D1)).1 + D1, (t / R3 / R2 * R2 + (f2 (t / R3 % R2) (d - D1)).2) * R3 + t % R3) = ((f2 (t / R3 % R2) (d - D1)).1 + D1, t / R3 / R2 * (R2 * R3) + ((f2 (t / R3 % R2) (d - D1)).2 * R3 + t % R3))
      rw [Nat.add_mul, Nat.mul_assoc, Nat.add_assoc]
    · rw [if_neg c2, if_neg c1, if_neg (show ¬ d - D1 < D2 by omega), Nat.sub_sub]
      show ((f3 (t % R3) (d - (D1 + D2))).1 + (D1 + D2), t / R3 * R3 + (f3 (t % R3) (d - (D1 + D2))).2) = ((f3 (t % R3) (d - (D1 + D2))).1 + D2 + D1, t / R3 / R2 * (R2 * R3) + (t / R3 % R2 * R3 + (f3 (t % R3) (d - (D1 + D2))).2))
      have e5 : t / R3 = t / R3 / R2 * R2 + t / R3 % R2 := by
        have := Nat.div_add_mod (t / R3) R2
        rw [Nat.mul_comm] at this
        exact this.symm
      congr 1
      · omega
      · conv => lhs; rw [e5]
        rw [Nat.add_mul, Nat.mul_assoc, Nat.add_assoc]
/-- one door of one rest beside it -/
def dotF (_ _ : Nat) : Nat × Nat := (0, 0)
theorem dot_backs : Backs 1 1 dotF := fun r d hr hd => by
  have : r = 0 := by omega
  have : d = 0 := by omega
  subst r d
  exact ⟨by decide, by decide, rfl⟩
end Ev
namespace Ev
open PySem PySem.Spec PyProof.Rows L2
local macro_rules | `(tactic| decreasing_trivial) => `(tactic| simp only [wpS, wpE, wpEs, wpAnd, wpOr, wpT, wpTA, wpTO, wpQs, wpG, wpGs, truth, Option.map_some, Option.map_none, startA, List.map_cons, List.map_nil, List.length_cons, List.length_nil, List.cons_append, List.nil_append, List.replicate, List.getElem?_cons_zero, List.getElem?_cons_succ, Option.some.injEq, exists_eq_left', exists_eq_left, exists_eq_right, exists_eq', List.set_cons_zero, List.set_cons_succ, wipeS,
  and_assoc, exists_and_left, Val.bl.injEq, Val.int.injEq, Val.str.injEq, Val.tup.injEq, Val.ref.injEq, decide_eq_true_eq, and_true, true_and, seqOf_tup, seqOf_ref, seqOf_scr, seqOf_int, seqOf_bl, seqOf_str, seqOf_non, dctOf_ref, dctOf_tup, if_true, if_false, Bool.false_eq_true, ite_true, ite_false, reduceIte, reduceCtorEq, false_and, exists_false, and_false, List.cons.injEq, Nat.reduceAdd, Nat.reduceSub, Nat.zero_add,
  aAdd, aSub, aMul, aMod, aDiv, aPow, aNeg, aCmp, aLt, aLe, aGt, aGe, aTup, aLst, aGet, aSet, aLenA, aTuple, aList, aAbs, aInt, aDivmod, aAll, aAny, aMaxA, aMinA, aSum, aDict0, aLs, aDc, aAppend, aI, aSl00, aSl01, aSl10, aSl11, aCut, aIs, isNon, Bool.false_bne, Bool.true_bne, wSeq, wRng1, wRng2, wEnum, wZip, aEq_i, aEq_s, aEq_b, atI_0, atI_1, atI_2, atI_3, atI_n, ixN3_0, ixN3_1, ixN3_2, get_set, List.length_set, List.set_set, List.getElem?_map, aIsi, aIsi2, tyA, Bool.or_true, Bool.true_or, Bool.or_false, Bool.false_or, Bool.and_true, Bool.true_and, Bool.and_false, Bool.false_and, Bool.not_true, Bool.not_false, beq_self_eq_true, bne_self_eq_false, decide_true, decide_false, kb_NoneType_bool, kb_NoneType_int, kb_NoneType_str, kb_NoneType_list, kb_NoneType_tuple, kb_bool_bool, kb_bool_int, kb_bool_str, kb_bool_list, kb_bool_tuple, kb_int_bool, kb_int_int, kb_int_str, kb_int_list, kb_int_tuple, kb_str_bool, kb_str_int, kb_str_str, kb_str_list, kb_str_tuple, kb_list_bool, kb_list_int, kb_list_str, kb_list_list, kb_list_tuple, kb_tuple_bool, kb_tuple_int, kb_tuple_str, kb_tuple_list, kb_tuple_tuple, get_new, aLstRg1, aTupRg1, aAddI, aSubI, aDict1, List.length_map, List.length_range, rgL_len, Nat.reduceLeDiff, Nat.zero_le, AO.lst.injEq, AO.dct.injEq, *])
local macro_rules | `(tactic| array_get_dec) => `(tactic| try simp only [wpS, wpE, wpEs, wpAnd, wpOr, wpT, wpTA, wpTO, wpQs, wpG, wpGs, Option.map_some, Option.map_none, startA, List.map_cons, List.map_nil, List.length_cons, List.length_nil, List.cons_append, List.nil_append, List.replicate, List.getElem?_cons_zero, List.getElem?_cons_succ, Option.some.injEq, exists_eq_left', exists_eq_left, List.set_cons_zero, List.set_cons_succ, wipeS, if_true, if_false, Bool.false_eq_true, ite_true, ite_false, reduceIte, Nat.reduceAdd, Nat.reduceSub, Nat.zero_add])
/-! ### data, read as values -/
theorem rep_seqD {h : AH} {v : Val} {x : PyData} {ds : List PyData} (r : Rep h v x) (e : seqD x = some ds) : ∃ vs, seqOf h v = some vs ∧ Reps h vs ds ∧ (v = .tup vs ∨ ∃ a, v = .ref a ∧ h[a]? = some (.lst vs)) := by
  cases r with
  | tup r => cases e; exact ⟨_, rfl, r, .inl rfl⟩
  | lst e2 r => cases e; exact ⟨_, seq_ref e2, r, .inr ⟨_, rfl, e2⟩⟩
  | _ => cases e
theorem enum_of {h : AH} {v : Val} {vs : List Val} {R : List Val → (AH → Prop) → AH → Prop} (hv : v = .tup vs ∨ ∃ a, v = .ref a ∧ h[a]? = some (.lst vs)) (k : ∀ chk, (∀ h', Gr h h' → chk h') → R (enumL vs) chk h) : wEnum [v] h R := by
  rcases hv with rfl | ⟨a, rfl, e⟩
  · exact k _ fun _ _ => trivial
  · exact ⟨vs, e, k _ fun _ g => g.get e⟩
theorem seq_of {h : AH} {v : Val} {vs : List Val} {R : List Val → (AH → Prop) → AH → Prop} (hv : v = .tup vs ∨ ∃ a, v = .ref a ∧ h[a]? = some (.lst vs)) (k : ∀ chk, (∀ h', Gr h h' → chk h') → R vs chk h) : wSeq [v] h R := by
  rcases hv with rfl | ⟨a, rfl, e⟩
  · exact k _ fun _ _ => trivial
  · exact ⟨vs, e, k _ fun _ g => g.get e⟩
/-- x[i] of a sequence -/
theorem get_of {h : AH} {v y : Val} {vs : List Val} {i : Nat} {Q : Val → AH → Prop} (e : seqOf h v = some vs) (e2 : vs[i]? = some y) (q : Q y h) : aGet [v, .int i] h Q := by
  simp only [aGet, e, atI_n, e2]
  exact q
theorem len_of {h : AH} {v : Val} {vs : List Val} {Q : Val → AH → Prop} (e : seqOf h v = some vs) (q : Q (.int vs.length) h) : aLenA [v] h Q := by
  cases v with
  | str s => cases e
  | _ => unfold aLenA; simp only; rw [e]; exact q
theorem tuple_of {h : AH} {v : Val} {vs : List Val} {Q : Val → AH → Prop} (e : seqOf h v = some vs) (q : Q (.tup vs) h) : aTuple [v] h Q := ⟨vs, e, q⟩
/-- a kind that can be read -/
structure Kd (h : AH) (D R : Nat) (f : Nat → Nat → Nat × Nat) (v : Val) (rows : List Val) : Prop where
  sq : seqOf h v = some rows
  ty : v = .tup rows ∨ ∃ a, v = .ref a ∧ h[a]? = some (.lst rows)
  len : rows.length = R
  row : ∀ r, r < R → ∃ w ps, rows[r]? = some w ∧ seqOf h w = some ps ∧ (w = .tup ps ∨ ∃ a, w = .ref a ∧ h[a]? = some (.lst ps)) ∧ ps.length = D ∧ ∀ d, d < D → ∃ p, ps[d]? = some p ∧ seqOf h p = some [.int (f r d).1, .int (f r d).2]
theorem kd_of {h : AH} {v : Val} {x : PyData} {D R : Nat} {f : Nat → Nat → Nat × Nat} (r : Rep h v x) (k : KG D R f x) : ∃ rows, Kd h D R f v rows := by
  obtain ⟨⟨xs, e1, e2, e3⟩⟩ := k
  obtain ⟨vs, s1, s2, s3⟩ := rep_seqD r e1
  refine ⟨vs, s1, s3, s2.len.trans e2, fun r hr => ?_⟩
  obtain ⟨y, ys, a1, a2, a3, a4⟩ := e3 r hr
  have hl : r < vs.length := by rw [s2.len, e2]; exact hr
  obtain ⟨y', b1, b2⟩ := s2.get (List.getElem?_eq_getElem hl)
  rw [a1] at b1; cases b1
  obtain ⟨ps, t1, t2, t3⟩ := rep_seqD b2 a2
  refine ⟨_, ps, List.getElem?_eq_getElem hl, t1, t3, t2.len.trans a3, fun d hd => ?_⟩
  obtain ⟨p, c1, c2⟩ := a4 d hd
  have hl2 : d < ps.length := by rw [t2.len, a3]; exact hd
  obtain ⟨p', d1, d2⟩ := t2.get (List.getElem?_eq_getElem hl2)
  rw [c1] at d1; cases d1
  obtain ⟨qs, u1, u2, _⟩ := rep_seqD d2 c2
  refine ⟨_, List.getElem?_eq_getElem hl2, ?_⟩
  rw [u1]
  match qs, u2 with
  | [_, _], .cons z1 (.cons z2 .nil) => cases z1; cases z2; rfl
theorem isNon_rep {h : AH} {v : Val} {x : PyData} (r : Rep h v x) : isNon v = isN x := by cases r <;> rfl
/-! ### first_fault -/
def ir_first_fault : List IS := [.for (.tup [.name 1, .name 2]) wEnum [.l 0] [.for (.tup [.name 3, .tup [.name 4, .name 5]]) wEnum [.l 2] [.iff (.bool (.call (aEq true) [.call aTuple [.call aGet [.call aGet [.l 0, .l 5], .l 4]], .call aTup [.l 3, .l 1]])) [.ret (.call aTup [.l 1, .l 3])] []]],
  .ret (.c .non)]
def Φ_first : ASp := fun vs h Q => vs.length = 1 ∧ ∃ v x D R f, vs = [v] ∧ Rep h v x ∧ KG D R f x ∧ Bnd D R f ∧ D ≤ 1000000 ∧ R ≤ 1000000 ∧ ∀ w d, FaultIs D R f d → (∀ h, Rep h w d) → Q w h
theorem wp_first : ∀ vs h Q, Φ_first vs h Q → vs.length = 1 → wpSs ir_first_fault (startA 6 vs) h { nx := fun _ h' => Q .non h', rt := Q } := by
  rintro vs h Q ⟨-, v, x, D, R, f, rfl, rp, k, hB, hD, hR, q⟩ -
  obtain ⟨rows, K⟩ := kd_of rp k
  refine wp_go fun N hN => ?_
  have lr := K.len
  have sq := K.sq
  simp only [wpS, wpEs, wpE, startA, List.map_cons, List.map_nil, List.length_cons, List.length_nil, List.cons_append, List.nil_append, List.replicate, List.getElem?_cons_zero, Option.some.injEq, exists_eq_left']
  refine enum_of K.ty fun chk hc => for_inv (fun r sl h' => h = h' ∧ (∃ c1 c2 c3 c4 c5 : Option Val, sl = [some v, c1, c2, c3, c4, c5]) ∧ ∀ r' d, r' < r → d < D → BackAt f r' d) ⟨rfl, ⟨_, _, _, _, _, rfl⟩, fun _ _ z => absurd z (Nat.not_lt_zero _)⟩ (fun r w sl h' N' hw hI hN' => ?_) fun sl h' hI => ?_
  · obtain ⟨rfl, ⟨c1, c2, c3, c4, c5, rfl⟩, hback⟩ := hI
    refine ⟨hc _ Gr.rfl, ?_⟩
    obtain ⟨w, e1, rfl⟩ := enumL_get hw
    have hr : r < R := by rw [← K.len]; exact (List.getElem?_eq_some_iff.mp e1).1
    obtain ⟨w', ps, f1, f2, f3, f4, f5⟩ := K.row r hr
    rw [e1] at f1; cases f1
    decreasing_trivial
    refine wp_go fun N2 hN2 => ?_
    simp only [wpS, wpEs, wpE, List.getElem?_cons_zero, List.getElem?_cons_succ, Option.some.injEq, exists_eq_left']
    refine enum_of f3 fun chk2 hc2 => for_inv (fun d sl h' => h = h' ∧ (∃ c3 c4 c5 : Option Val, sl = [some v, some (.int (r : Nat)), some w, c3, c4, c5]) ∧ ∀ d', d' < d → BackAt f r d') ⟨rfl, ⟨_, _, _, rfl⟩, fun _ z => absurd z (Nat.not_lt_zero _)⟩ (fun d u sl h' N3 hu hI hN3 => ?_) fun sl h' hI => ?_
    · obtain ⟨rfl, ⟨c3, c4, c5, rfl⟩, hb2⟩ := hI
      refine ⟨hc2 _ Gr.rfl, ?_⟩
      obtain ⟨p, e2, rfl⟩ := enumL_get hu
      have hd : d < D := by rw [← f4]; exact (List.getElem?_eq_some_iff.mp e2).1
      obtain ⟨p', g1, g2⟩ := f5 d hd
      rw [e2] at g1; cases g1
      obtain ⟨b1, b2⟩ := hB r d hr hd
      decreasing_trivial
      obtain ⟨w2, ps2, i1, i2, i3, i4, i5⟩ := K.row _ b2
      obtain ⟨p2, j1, j2⟩ := i5 _ b1
      refine wp_go fun N4 hN4 => ?_
      simp only [wpS, wpT, wpEs, wpE, List.getElem?_cons_zero, List.getElem?_cons_succ, Option.some.injEq, exists_eq_left']
      refine get_of sq i1 (get_of i2 j1 (tuple_of j2 ⟨by simp, eq_pair ⟨_, rfl, ?_⟩⟩))
      split
      · rename_i hne
        simp only [Bool.true_bne, Bool.not_eq_true', Bool.and_eq_false_iff, decide_eq_false_iff_not] at hne
        refine wp_go fun N5 hN5 => ?_
        decreasing_trivial
        refine q _ (.tuple [.int r, .int d]) (.inr ⟨r, d, hr, hd, fun z => ?_, fun r' d' h1 h2 h3 => ?_, rfl⟩) fun _ => .tup (.cons (.int _) (.cons (.int _) .nil))
        · unfold BackAt at z
          rw [z] at hne
          rcases hne with hne | hne <;> exact hne rfl
        · rcases h3 with h3 | ⟨rfl, h3⟩
          · exact hback r' d' h3 h2
          · exact hb2 d' h3
      · rename_i hne
        simp only [Bool.true_bne, Bool.not_eq_true', Bool.and_eq_false_iff, decide_eq_false_iff_not, not_or, Decidable.not_not] at hne
        refine hN4 _ _ (hN3 _ _ ⟨rfl, ⟨_, _, _, rfl⟩, fun d' hd' => ?_⟩)
        by_cases z : d' = d
        · subst z; exact Prod.ext (by omega) (by omega)
        · exact hb2 d' (by omega)
    · obtain ⟨rfl, ⟨c3, c4, c5, rfl⟩, hb2⟩ := hI
      refine ⟨hc2 _ Gr.rfl, hN2 _ _ (hN' _ _ ⟨rfl, ⟨_, _, _, _, _, rfl⟩, fun r' d h1 h2 => ?_⟩)⟩
      by_cases z : r' = r
      · subst z; exact hb2 d (by rw [enumL_len, f4]; exact h2)
      · exact hback r' d (by omega) h2
  · obtain ⟨rfl, ⟨c1, c2, c3, c4, c5, rfl⟩, hback⟩ := hI
    refine ⟨hc _ Gr.rfl, hN _ _ (wp_go fun N2 hN2 => ?_)⟩
    decreasing_trivial
    exact q _ .none (.inl ⟨fun r d hr hd => hback r d (by rw [enumL_len, K.len]; exact hr) hd, rfl⟩) fun _ => .non
end Ev
namespace Ev
open PySem PySem.Spec PyProof.Rows L2
local macro_rules | `(tactic| decreasing_trivial) => `(tactic| simp only [wpS, wpE, wpEs, wpAnd, wpOr, wpT, wpTA, wpTO, wpQs, wpG, wpGs, truth, Option.map_some, Option.map_none, startA, List.map_cons, List.map_nil, List.length_cons, List.length_nil, List.cons_append, List.nil_append, List.replicate, List.getElem?_cons_zero, List.getElem?_cons_succ, Option.some.injEq, exists_eq_left', exists_eq_left, exists_eq_right, exists_eq', List.set_cons_zero, List.set_cons_succ, wipeS,
  and_assoc, exists_and_left, Val.bl.injEq, Val.int.injEq, Val.str.injEq, Val.tup.injEq, Val.ref.injEq, decide_eq_true_eq, and_true, true_and, seqOf_tup, seqOf_ref, seqOf_scr, seqOf_int, seqOf_bl, seqOf_str, seqOf_non, dctOf_ref, dctOf_tup, if_true, if_false, Bool.false_eq_true, ite_true, ite_false, reduceIte, reduceCtorEq, false_and, exists_false, and_false, List.cons.injEq, Nat.reduceAdd, Nat.reduceSub, Nat.zero_add,
  aAdd, aSub, aMul, aMod, aDiv, aPow, aNeg, aCmp, aLt, aLe, aGt, aGe, aTup, aLst, aGet, aSet, aLenA, aTuple, aList, aAbs, aInt, aDivmod, aAll, aAny, aMaxA, aMinA, aSum, aDict0, aLs, aDc, aAppend, aI, aSl00, aSl01, aSl10, aSl11, aCut, aIs, isNon, Bool.false_bne, Bool.true_bne, wSeq, wRng1, wRng2, wEnum, wZip, aEq_i, aEq_s, aEq_b, atI_0, atI_1, atI_2, atI_3, atI_n, ixN3_0, ixN3_1, ixN3_2, get_set, List.length_set, List.set_set, List.getElem?_map, aIsi, aIsi2, tyA, Bool.or_true, Bool.true_or, Bool.or_false, Bool.false_or, Bool.and_true, Bool.true_and, Bool.and_false, Bool.false_and, Bool.not_true, Bool.not_false, beq_self_eq_true, bne_self_eq_false, decide_true, decide_false, kb_NoneType_bool, kb_NoneType_int, kb_NoneType_str, kb_NoneType_list, kb_NoneType_tuple, kb_bool_bool, kb_bool_int, kb_bool_str, kb_bool_list, kb_bool_tuple, kb_int_bool, kb_int_int, kb_int_str, kb_int_list, kb_int_tuple, kb_str_bool, kb_str_int, kb_str_str, kb_str_list, kb_str_tuple, kb_list_bool, kb_list_int, kb_list_str, kb_list_list, kb_list_tuple, kb_tuple_bool, kb_tuple_int, kb_tuple_str, kb_tuple_list, kb_tuple_tuple, get_new, aLstRg1, aTupRg1, aAddI, aSubI, aDict1, List.length_map, List.length_range, rgL_len, Nat.reduceLeDiff, Nat.zero_le, AO.lst.injEq, AO.dct.injEq, *])
local macro_rules | `(tactic| array_get_dec) => `(tactic| try simp only [wpS, wpE, wpEs, wpAnd, wpOr, wpT, wpTA, wpTO, wpQs, wpG, wpGs, Option.map_some, Option.map_none, startA, List.map_cons, List.map_nil, List.length_cons, List.length_nil, List.cons_append, List.nil_append, List.replicate, List.getElem?_cons_zero, List.getElem?_cons_succ, Option.some.injEq, exists_eq_left', exists_eq_left, List.set_cons_zero, List.set_cons_succ, wipeS, if_true, if_false, Bool.false_eq_true, ite_true, ite_false, reduceIte, Nat.reduceAdd, Nat.reduceSub, Nat.zero_add])
/-! ### fault, the law's own -/
def ir_law_fault : List IS := [.for (.tup [.name 1, .name 2]) wEnum [.l 0] [.for (.tup [.name 3, .name 4]) wEnum [.l 2] [.iff (.bool (.call (aEq true) [.call aTuple [.call aGet [.call aGet [.l 0, .call aGet [.l 4, .c (.int 1)]], .call aGet [.l 4, .c (.int 0)]]], .call aTup [.l 3, .l 1]])) [.ret (.call aTup [.l 1, .l 3])] []]],
  .ret (.c .non)]
theorem wp_fault : ∀ vs h Q, Φ_first vs h Q → vs.length = 1 → wpSs ir_law_fault (startA 5 vs) h { nx := fun _ h' => Q .non h', rt := Q } := by
  rintro vs h Q ⟨-, v, x, D, R, f, rfl, rp, k, hB, hD, hR, q⟩ -
  obtain ⟨rows, K⟩ := kd_of rp k
  refine wp_go fun N hN => ?_
  have lr := K.len
  have sq := K.sq
  simp only [wpS, wpEs, wpE, startA, List.map_cons, List.map_nil, List.length_cons, List.length_nil, List.cons_append, List.nil_append, List.replicate, List.getElem?_cons_zero, Option.some.injEq, exists_eq_left']
  refine enum_of K.ty fun chk hc => for_inv (fun r sl h' => h = h' ∧ (∃ c1 c2 c3 c4 : Option Val, sl = [some v, c1, c2, c3, c4]) ∧ ∀ r' d, r' < r → d < D → BackAt f r' d) ⟨rfl, ⟨_, _, _, _, rfl⟩, fun _ _ z => absurd z (Nat.not_lt_zero _)⟩ (fun r w sl h' N' hw hI hN' => ?_) fun sl h' hI => ?_
  · obtain ⟨rfl, ⟨c1, c2, c3, c4, rfl⟩, hback⟩ := hI
    refine ⟨hc _ Gr.rfl, ?_⟩
    obtain ⟨w, e1, rfl⟩ := enumL_get hw
    have hr : r < R := by rw [← K.len]; exact (List.getElem?_eq_some_iff.mp e1).1
    obtain ⟨w', ps, f1, f2, f3, f4, f5⟩ := K.row r hr
    rw [e1] at f1; cases f1
    decreasing_trivial
    refine wp_go fun N2 hN2 => ?_
    simp only [wpS, wpEs, wpE, List.getElem?_cons_zero, List.getElem?_cons_succ, Option.some.injEq, exists_eq_left']
    refine enum_of f3 fun chk2 hc2 => for_inv (fun d sl h' => h = h' ∧ (∃ c3 c4 : Option Val, sl = [some v, some (.int (r : Nat)), some w, c3, c4]) ∧ ∀ d', d' < d → BackAt f r d') ⟨rfl, ⟨_, _, rfl⟩, fun _ z => absurd z (Nat.not_lt_zero _)⟩ (fun d u sl h' N3 hu hI hN3 => ?_) fun sl h' hI => ?_
    · obtain ⟨rfl, ⟨c3, c4, rfl⟩, hb2⟩ := hI
      refine ⟨hc2 _ Gr.rfl, ?_⟩
      obtain ⟨p, e2, rfl⟩ := enumL_get hu
      have hd : d < D := by rw [← f4]; exact (List.getElem?_eq_some_iff.mp e2).1
      obtain ⟨p', g1, g2⟩ := f5 d hd
      rw [e2] at g1; cases g1
      obtain ⟨b1, b2⟩ := hB r d hr hd
      decreasing_trivial
      obtain ⟨w2, ps2, i1, i2, i3, i4, i5⟩ := K.row _ b2
      obtain ⟨p2, j1, j2⟩ := i5 _ b1
      refine wp_go fun N4 hN4 => ?_
      simp only [wpS, wpT, wpEs, wpE, List.getElem?_cons_zero, List.getElem?_cons_succ, Option.some.injEq, exists_eq_left']
      refine get_of (i := 1) g2 rfl (get_of sq i1 (get_of (i := 0) g2 rfl (get_of i2 j1 (tuple_of j2 ⟨by simp, eq_pair ⟨_, rfl, ?_⟩⟩))))
      split
      · rename_i hne
        simp only [Bool.true_bne, Bool.not_eq_true', Bool.and_eq_false_iff, decide_eq_false_iff_not] at hne
        refine wp_go fun N5 hN5 => ?_
        decreasing_trivial
        refine q _ (.tuple [.int r, .int d]) (.inr ⟨r, d, hr, hd, fun z => ?_, fun r' d' h1 h2 h3 => ?_, rfl⟩) fun _ => .tup (.cons (.int _) (.cons (.int _) .nil))
        · unfold BackAt at z
          rw [z] at hne
          rcases hne with hne | hne <;> exact hne rfl
        · rcases h3 with h3 | ⟨rfl, h3⟩
          · exact hback r' d' h3 h2
          · exact hb2 d' h3
      · rename_i hne
        simp only [Bool.true_bne, Bool.not_eq_true', Bool.and_eq_false_iff, decide_eq_false_iff_not, not_or, Decidable.not_not] at hne
        refine hN4 _ _ (hN3 _ _ ⟨rfl, ⟨_, _, rfl⟩, fun d' hd' => ?_⟩)
        by_cases z : d' = d
        · subst z; exact Prod.ext (by omega) (by omega)
        · exact hb2 d' (by omega)
    · obtain ⟨rfl, ⟨c3, c4, rfl⟩, hb2⟩ := hI
      refine ⟨hc2 _ Gr.rfl, hN2 _ _ (hN' _ _ ⟨rfl, ⟨_, _, _, _, rfl⟩, fun r' d h1 h2 => ?_⟩)⟩
      by_cases z : r' = r
      · subst z; exact hb2 d (by rw [enumL_len, f4]; exact h2)
      · exact hback r' d (by omega) h2
  · obtain ⟨rfl, ⟨c1, c2, c3, c4, rfl⟩, hback⟩ := hI
    refine ⟨hc _ Gr.rfl, hN _ _ (wp_go fun N2 hN2 => ?_)⟩
    decreasing_trivial
    exact q _ .none (.inl ⟨fun r d hr hd => hback r d (by rw [enumL_len, K.len]; exact hr) hd, rfl⟩) fun _ => .non
/-! ### lists of all -/
def ir_law_lists (Φ__law_lists : ASp) : List IS := [.ret (.ite (.val (.call (aIsi2 "list" "tuple") [.l 0])) (.lc [1] (.name 1) wSeq [.l 0] [] (.call Φ__law_lists [.l 1])) (.l 0))]
def Φ_lists (n : Nat) : ASp := fun vs h Q => vs.length = 1 ∧ ∃ b v x, vs = [v] ∧ b < h.length ∧ okD n x = true ∧ x.bulk ≤ 1000000 ∧ RepS b h v x ∧ ∀ w h', Gr h h' → RepS b h' w (toL x) → Q w h'
theorem RepS.seq {b : Nat} {h : AH} {v : Val} {x : PyData} {ds : List PyData} (r : RepS b h v x) (e : seqD x = some ds) : ∃ vs, seqOf h v = some vs ∧ RepsS b h vs ds ∧ (v = .tup vs ∨ ∃ a, v = .ref a ∧ a ≠ b ∧ h[a]? = some (.lst vs)) := by
  cases r.r with
  | @tup vs ds' r2 =>
    cases e
    refine ⟨vs, rfl, fun h' g => ?_, .inl rfl⟩
    cases r h' g with
    | tup r3 => exact r3
  | @lst i vs ds' e2 r2 =>
    cases e
    have hb : i ≠ b := fun z => by
      subst z
      have := r (h.set i (.dct [])) (Kp.set _)
      cases this with
      | lst e3 _ => rw [get_set (lt_of e2)] at e3; cases e3
    refine ⟨vs, seq_ref e2, fun h' g => ?_, .inr ⟨_, rfl, hb, e2⟩⟩
    cases r h' g with
    | lst e3 r3 =>
      rw [g.get e2 hb] at e3; cases e3
      exact r3
  | _ => cases e
theorem seqS_of {b : Nat} {h : AH} {v : Val} {vs : List Val} {R : List Val → (AH → Prop) → AH → Prop} (hv : v = .tup vs ∨ ∃ a, v = .ref a ∧ a ≠ b ∧ h[a]? = some (.lst vs)) (k : ∀ chk, (∀ h', Kp b h h' → chk h') → R vs chk h) : wSeq [v] h R := by
  rcases hv with rfl | ⟨a, rfl, hb, e⟩
  · exact k _ fun _ _ => trivial
  · exact ⟨vs, e, k _ fun _ g => g.get e hb⟩
theorem RepsS.get {b i : Nat} {h : AH} {vs : List Val} {ds : List PyData} {v : Val} (r : RepsS b h vs ds) (e : vs[i]? = some v) : ∃ d, ds[i]? = some d ∧ RepS b h v d := by
  obtain ⟨d, h1, h2⟩ := (r h Kp.rfl).get e
  refine ⟨d, h1, fun h' g => ?_⟩
  obtain ⟨d', h3, h4⟩ := (r h' g).get e
  rw [h1] at h3; cases h3
  exact h4
theorem RepsS.of {b : Nat} {h : AH} {vs : List Val} {ds : List PyData} (l : vs.length = ds.length) (H : ∀ (i : Nat) (v : Val) (d : PyData), vs[i]? = some v → ds[i]? = some d → RepS b h v d) : RepsS b h vs ds := fun h' g => Reps.of l fun i v d h1 h2 => H i v d h1 h2 h' g
theorem RepS.new {b : Nat} {h : AH} {vs : List Val} {ds : List PyData} (hb : b < h.length) (r : RepsS b h vs ds) : RepS b (h ++ [.lst vs]) (.ref h.length) (.list ds) := RepS.lst get_new (by omega) (r.kp (Kp.app _))
theorem wp_listsG (n : Nat) (Ψ : ASp) (hΨ : ∀ m, n = m + 1 → ∀ vs h Q, Φ_lists m vs h Q → Ψ vs h Q) : ∀ vs h Q, Φ_lists n vs h Q → vs.length = 1 → wpSs (ir_law_lists Ψ) (startA 2 vs) h { nx := fun _ h' => Q .non h', rt := Q } := by
  rintro vs h Q ⟨-, b, v, x, rfl, hb, hx, hbk, rp, q⟩ -
  have body : ∀ (vs : List Val) (ds : List PyData) (chk : AH → Prop) (f : Val → AH → (List Val → AH → Prop) → Prop), seqD x = some ds → toL x = .list (ds.map toL) → (∀ m, n = m + 1 → okDs m ds = true) → n ≠ 0 → PyData.bulkAll ds ≤ 1000000 → RepsS b h vs ds → (∀ h', Kp b h h' → chk h') → 
      (∀ u h3 K, Ψ [u] h3 (fun r h6 => K [r] h6) → f u h3 K) → lcW f chk vs [] h fun acc h3 => Q (.ref h3.length) (h3 ++ [.lst acc]) := by
    intro vs ds chk f e1 e2 hds hn hbd rs hc hf
    obtain ⟨n', rfl⟩ := Nat.exists_eq_succ_of_ne_zero hn
    replace hds := hds n' rfl
    replace hΨ := hΨ n' rfl
    have ll := (rs.kp Kp.rfl h Kp.rfl).len
    have lb := len_bulk ds
    refine lc_kp (b := b) (Gr h) (fun i r h' => ∀ d, ds[i]? = some d → RepS b h' r (toL d)) (fun i v h h' H g d e => (H d e).kp g) (by omega) Gr.rfl (fun i u h' K hu g gr k => ⟨hc _ g, hf _ _ _ (hΨ _ _ _ ?_)⟩) fun acc h' g gr hl hr => ⟨hc _ g, ?_⟩
    · obtain ⟨d, h1, h2⟩ := rs.get hu
      have m := List.mem_of_getElem? h1
      refine ⟨rfl, b, u, d, rfl, by have := gr.le; omega, okDs_all.mp hds _ m, Nat.le_trans (mem_bulk m) hbd, h2.kp g, fun w h2 g2 hw => k _ _ g2.kp (gr.trans g2) fun d' e' => ?_⟩
      rw [h1] at e'; cases e'
      exact hw
    · refine q _ _ (gr.trans (Gr.app _)) ?_
      rw [e2]
      refine RepS.new (by have := gr.le; omega) (RepsS.of (by rw [List.length_map]; omega) fun i u d h1 h2 => ?_)
      rw [List.getElem?_map] at h2
      obtain ⟨d', h3, rfl⟩ := Option.map_eq_some_iff.mp h2
      exact hr i u h1 d' h3
  have leaf : toL x = x → Q v h := fun e => q _ _ Gr.rfl (by rw [e]; exact rp)
  refine wp_go fun N hN => ?_
  cases x with
  | tuple ds =>
    obtain ⟨vs, e1, rs, hv⟩ := rp.seq rfl
    have bd := fun chk f => body vs ds chk f rfl (by rw [toL, toLs_map]) (fun m e => by subst e; simpa [okD] using hx) (fun e => by subst e; simp [okD] at hx) (by simpa [PyData.bulk] using hbk) rs
    cases rp.r with
    | tup _ =>
      cases e1
      clear body
      decreasing_trivial
      exact bd _ _ (fun _ _ => trivial) fun u h3 K w => w
  | list ds =>
    obtain ⟨vs, e1, rs, hv⟩ := rp.seq rfl
    have bd := fun chk f => body vs ds chk f rfl (by rw [toL, toLs_map]) (fun m e => by subst e; simpa [okD] using hx) (fun e => by subst e; simp [okD] at hx) (by simpa [PyData.bulk] using hbk) rs
    rcases hv with rfl | ⟨a, rfl, hab, e⟩
    · cases rp.r
    · clear body
      decreasing_trivial
      exact bd _ _ (fun _ g => g.get e hab) fun u h3 K w => w
  | dict _ => cases n <;> simp [okD] at hx
  | none =>
    cases rp.r
    have := leaf (by rw [toL] <;> (intros; nofun))
    decreasing_trivial
  | bool _ =>
    cases rp.r
    have := leaf (by rw [toL] <;> (intros; nofun))
    decreasing_trivial
  | int _ =>
    cases rp.r
    have := leaf (by rw [toL] <;> (intros; nofun))
    decreasing_trivial
  | str _ =>
    cases rp.r
    have := leaf (by rw [toL] <;> (intros; nofun))
    decreasing_trivial
theorem wp_lists (n : Nat) : ∀ vs h Q, Φ_lists (n + 1) vs h Q → vs.length = 1 → wpSs (ir_law_lists (Φ_lists n)) (startA 2 vs) h { nx := fun _ h' => Q .non h', rt := Q } := wp_listsG (n + 1) _ fun m e vs h Q w => by cases e; exact w
theorem wp_lists0 : ∀ vs h Q, Φ_lists 0 vs h Q → vs.length = 1 → wpSs (ir_law_lists aBot) (startA 2 vs) h { nx := fun _ h' => Q .non h', rt := Q } := wp_listsG 0 _ fun m e => nomatch e
end Ev
namespace Ev
open PySem PySem.Spec PyProof.Rows L2
local macro_rules | `(tactic| decreasing_trivial) => `(tactic| simp only [wpS, wpE, wpEs, wpAnd, wpOr, wpT, wpTA, wpTO, wpQs, wpG, wpGs, truth, Option.map_some, Option.map_none, startA, List.map_cons, List.map_nil, List.length_cons, List.length_nil, List.cons_append, List.nil_append, List.replicate, List.getElem?_cons_zero, List.getElem?_cons_succ, Option.some.injEq, exists_eq_left', exists_eq_left, exists_eq_right, exists_eq', List.set_cons_zero, List.set_cons_succ, wipeS,
  and_assoc, exists_and_left, Val.bl.injEq, Val.int.injEq, Val.str.injEq, Val.tup.injEq, Val.ref.injEq, decide_eq_true_eq, and_true, true_and, seqOf_tup, seqOf_ref, seqOf_scr, seqOf_int, seqOf_bl, seqOf_str, seqOf_non, dctOf_ref, dctOf_tup, if_true, if_false, Bool.false_eq_true, ite_true, ite_false, reduceIte, reduceCtorEq, false_and, exists_false, and_false, List.cons.injEq, Nat.reduceAdd, Nat.reduceSub, Nat.zero_add,
  aAdd, aSub, aMul, aMod, aDiv, aPow, aNeg, aCmp, aLt, aLe, aGt, aGe, aTup, aLst, aGet, aSet, aLenA, aTuple, aList, aAbs, aInt, aDivmod, aAll, aAny, aMaxA, aMinA, aSum, aDict0, aLs, aDc, aAppend, aI, aSl00, aSl01, aSl10, aSl11, aCut, aIs, isNon, Bool.false_bne, Bool.true_bne, wSeq, wRng1, wRng2, wEnum, wZip, aEq_i, aEq_s, aEq_b, atI_0, atI_1, atI_2, atI_3, atI_n, ixN3_0, ixN3_1, ixN3_2, get_set, List.length_set, List.set_set, List.getElem?_map, aIsi, aIsi2, tyA, Bool.or_true, Bool.true_or, Bool.or_false, Bool.false_or, Bool.and_true, Bool.true_and, Bool.and_false, Bool.false_and, Bool.not_true, Bool.not_false, beq_self_eq_true, bne_self_eq_false, decide_true, decide_false, kb_NoneType_bool, kb_NoneType_int, kb_NoneType_str, kb_NoneType_list, kb_NoneType_tuple, kb_bool_bool, kb_bool_int, kb_bool_str, kb_bool_list, kb_bool_tuple, kb_int_bool, kb_int_int, kb_int_str, kb_int_list, kb_int_tuple, kb_str_bool, kb_str_int, kb_str_str, kb_str_list, kb_str_tuple, kb_list_bool, kb_list_int, kb_list_str, kb_list_list, kb_list_tuple, kb_tuple_bool, kb_tuple_int, kb_tuple_str, kb_tuple_list, kb_tuple_tuple, get_new, aLstRg1, aTupRg1, aAddI, aSubI, aDict1, List.length_map, List.length_range, rgL_len, Nat.reduceLeDiff, Nat.zero_le, AO.lst.injEq, AO.dct.injEq, *])
local macro_rules | `(tactic| array_get_dec) => `(tactic| try simp only [wpS, wpE, wpEs, wpAnd, wpOr, wpT, wpTA, wpTO, wpQs, wpG, wpGs, Option.map_some, Option.map_none, startA, List.map_cons, List.map_nil, List.length_cons, List.length_nil, List.cons_append, List.nil_append, List.replicate, List.getElem?_cons_zero, List.getElem?_cons_succ, Option.some.injEq, exists_eq_left', exists_eq_left, List.set_cons_zero, List.set_cons_succ, wipeS, if_true, if_false, Bool.false_eq_true, ite_true, ite_false, reduceIte, Nat.reduceAdd, Nat.reduceSub, Nat.zero_add])
theorem rowsV_mk {D R : Nat} {f : Nat → Nat → Nat × Nat} : (mkK D R f).map rowV = (List.range R).map fun r => Val.tup ((List.range D).map fun d => pV (f r d)) := by
  unfold mkK
  rw [List.map_map]
  refine List.map_congr_left fun r _ => ?_
  exact rowV_mk
theorem seq_pV {h : AH} {q : Nat × Nat} : seqOf h (pV q) = some [.int q.1, .int q.2] := rfl
/-! ### chains -/
def ir_law_turned_chain : List IS := [.asg (.name 1) (.call aLenA [.l 0]),
  .ret (.call aTuple [.lc [2] (.name 2) wSeq [.call aRev [.l 0]] [] (.call aTuple [.lc [3, 4] (.tup [.name 3, .name 4]) wSeq [.l 2] [] (.call aTup [.l 3, .call aSub [.call aSub [.l 1, .c (.int 1)], .l 4]])])])]
def Φ_turned : ASp := fun vs h Q => vs.length = 1 ∧ ∃ a D R f, vs = [.ref a] ∧ h[a]? = some (.lst ((mkK D R f).map rowV)) ∧ Backs D R f ∧ D ≤ 100 ∧ R ≤ 100 ∧ ∀ f2 h', Backs D R f2 → Gr h h' → Q (kV (mkK D R f2)) h'
theorem turn_backs {D R : Nat} {f : Nat → Nat → Nat × Nat} (hB : Backs D R f) : Backs D R fun r d => ((f (R - 1 - r) d).1, R - 1 - (f (R - 1 - r) d).2) := fun r d hr hd => by
  obtain ⟨b1, b2, b3⟩ := hB (R - 1 - r) d (by omega) hd
  refine ⟨b1, by show R - 1 - _ < R; omega, ?_⟩
  show ((f (R - 1 - (R - 1 - (f (R - 1 - r) d).2)) (f (R - 1 - r) d).1).1, R - 1 - (f (R - 1 - (R - 1 - (f (R - 1 - r) d).2)) (f (R - 1 - r) d).1).2) = (d, r)
  rw [show R - 1 - (R - 1 - (f (R - 1 - r) d).2) = (f (R - 1 - r) d).2 from by omega, b3]
  show (d, R - 1 - (R - 1 - r)) = (d, r)
  rw [show R - 1 - (R - 1 - r) = r from by omega]
theorem wp_turned : ∀ vs h Q, Φ_turned vs h Q → vs.length = 1 → wpSs ir_law_turned_chain (startA 5 vs) h { nx := fun _ h' => Q .non h', rt := Q } := by
  rintro vs h Q ⟨-, a, D, R, f, rfl, e, hB, hD, hR, q⟩ -
  rw [rowsV_mk] at e
  refine wp_go fun N hN => ?_
  decreasing_trivial
  refine hN _ _ (wp_go fun N hN => ?_)
  decreasing_trivial
  simp only [aRev]
  refine ⟨_, e, ?_⟩
  decreasing_trivial
  have g0 : Gr h (h ++ [AO.lst ((List.range R).map fun r => Val.tup ((List.range D).map fun d => pV (f r d))).reverse]) := Gr.app _
  have e0 := get_new (h := h) (o := AO.lst ((List.range R).map fun r => Val.tup ((List.range D).map fun d => pV (f r d))).reverse)
  generalize h ++ [AO.lst ((List.range R).map fun r => Val.tup ((List.range D).map fun d => pV (f r d))).reverse] = h0 at g0 e0 ⊢
  refine lc_map (Gr h0) (fun r => .tup ((List.range D).map fun d => pV ((f (R - 1 - r) d).1, R - 1 - (f (R - 1 - r) d).2))) (by simp; omega) Gr.rfl (fun r v h3 K hv g k => ⟨g.get e0, ?_⟩) fun h3 g => ⟨g.get e0, ?_⟩
  · have hr : r < R := by simpa using (List.getElem?_eq_some_iff.mp hv).1
    rw [rng_rev hr] at hv
    cases hv
    decreasing_trivial
    refine lc_map (Gr h0) (fun d => pV ((f (R - 1 - r) d).1, R - 1 - (f (R - 1 - r) d).2)) (by simp; omega) g (fun d v h3 K hv g k => ⟨trivial, ?_⟩) fun h3 g => ⟨trivial, ?_⟩
    · obtain ⟨hd, rfl⟩ := rng_get hv
      obtain ⟨b1, b2, _⟩ := hB (R - 1 - r) d (by omega) hd
      refine ⟨_, seq_pV, rfl, _, _, rfl, _, _, rfl, rfl, ?_⟩
      have := k _ g
      unfold pV at this
      rw [show ((R - 1 - (f (R - 1 - r) d).2 : Nat) : Int) = (R : Int) - 1 - ((f (R - 1 - r) d).2 : Nat) by omega] at this
      exact this
    · rw [List.length_map, List.length_range]
      exact k _ (g.trans (Gr.app _))
  · have := q _ _ (turn_backs hB) ((g0.trans g).trans (Gr.app [AO.lst ((List.range R).map fun r => Val.tup ((List.range D).map fun d => pV ((f (R - 1 - r) d).1, R - 1 - (f (R - 1 - r) d).2)))]))
    rw [kV_mk] at this
    rw [List.length_reverse, List.length_map, List.length_range]
    exact this
/-! ### doubled -/
def ir_law_doubled : List IS := [.asg (.tup [.name 1, .name 2]) (.call aTup [.call aLenA [.l 0], .call aLst []]),
  .for (.name 3) wRng1 [.c (.int 2)] [.asg (.name 2) (.call aAdd [.l 2, .lc [4] (.name 4) wSeq [.l 0] [] (.call aTuple [.lc [5, 6] (.tup [.name 5, .name 6]) wSeq [.l 4] [] (.call aTup [.l 5, .call aAdd [.l 6, .call aMul [.l 3, .l 1]]])])])],
  .ret (.call aTuple [.l 2])]
def Φ_doubled : ASp := fun vs h Q => vs.length = 1 ∧ ∃ D R f, vs = [kV (mkK D R f)] ∧ Backs D R f ∧ D ≤ 100 ∧ R ≤ 100 ∧ ∀ h', Gr h h' → Q (kV (mkK D (2 * R) (dblF R f))) h'
theorem wp_doubled : ∀ vs h Q, Φ_doubled vs h Q → vs.length = 1 → wpSs ir_law_doubled (startA 7 vs) h { nx := fun _ h' => Q .non h', rt := Q } := by
  rintro vs h Q ⟨-, D, R, f, rfl, hB, hD, hR, q⟩ -
  refine wp_go fun N hN => ?_
  rw [kV_mk]
  decreasing_trivial
  refine hN _ _ (wp_go fun N hN => ?_)
  decreasing_trivial
  refine ⟨⟨by decide, by decide, by decide, by decide⟩, for_inv (fun i sl h' => ∃ (l : Nat) (c3 : Option Val), sl = [some (Val.tup ((List.range R).map fun r => Val.tup ((List.range D).map fun d => pV (f r d)))), some (.int R), some (.ref l), c3, none, none, none] ∧ Gr h h' ∧ h'[l]? = some (.lst ((List.range (i * R)).map fun r => Val.tup ((List.range D).map fun d => pV (dblF R f r d)))))
    ⟨_, _, rfl, Gr.app _, by rw [Nat.zero_mul]; exact get_new⟩ (fun i v sl h' N' hv hI hN' => ⟨trivial, ?_⟩) fun sl h' hI => ⟨trivial, ?_⟩⟩
  · obtain ⟨l, c3, rfl, g, e⟩ := hI
    obtain ⟨hi, rfl⟩ := rgL_get hv
    have hi : i = 0 ∨ i = 1 := by omega
    rw [Int.zero_add]
    decreasing_trivial
    refine wp_go fun N2 hN2 => ?_
    decreasing_trivial
    refine lc_map (Gr h') (fun r => .tup ((List.range D).map fun d => pV (dblF R f (i * R + r) d))) (by simp; omega) Gr.rfl (fun r v h3 K hv g3 k => ⟨trivial, ?_⟩) fun h3 g3 => ⟨trivial, _, get_app (g3.get e), ?_, hN2 _ _ (hN' _ _ ⟨_, _, rfl, (g.trans g3).trans ((Gr.app _).trans (Gr.app _)), ?_⟩)⟩
    · obtain ⟨hr, rfl⟩ := rng_get hv
      decreasing_trivial
      refine lc_map (Gr h') (fun d => pV (dblF R f (i * R + r) d)) (by simp; omega) g3 (fun d v h3 K hv g k => ⟨trivial, ?_⟩) fun h3 g => ⟨trivial, ?_⟩
      · obtain ⟨hd, rfl⟩ := rng_get hv
        obtain ⟨b1, b2, _⟩ := hB r d (by omega) hd
        refine ⟨_, seq_pV, rfl, _, _, rfl, _, _, rfl, rfl, .inl ⟨by omega, by omega⟩, ?_⟩
        have := k _ g
        unfold pV dblF at this
        rcases hi with rfl | rfl
        · rw [if_pos (by omega), show 0 * R + r = r by omega] at this
          show K [.tup [.int (f r d).1, .int (((f r d).2 : Int) + ((0 : Nat) : Int) * (R : Int))]] h3
          rw [show ((f r d).2 : Int) + ((0 : Nat) : Int) * (R : Int) = ((f r d).2 : Int) by simp]
          exact this
        · rw [if_neg (by omega), show 1 * R + r - R = r by omega] at this
          show K [.tup [.int (f r d).1, .int (((f r d).2 : Int) + ((1 : Nat) : Int) * (R : Int))]] h3
          rw [show ((f r d).2 : Int) + ((1 : Nat) : Int) * (R : Int) = (((f r d).2 + R : Nat) : Int) by simp]
          exact this
      · rw [List.length_map, List.length_range]
        exact k _ (g.trans (Gr.app _))
    · simp
      rcases hi with rfl | rfl <;> omega
    · rw [get_new, List.length_map, List.length_range, show (i + 1) * R = i * R + R by rw [Nat.succ_mul], rng_app]
  · obtain ⟨l, c3, rfl, g, e⟩ := hI
    rw [rgL_len, show ((2 : Int) - 0).toNat = 2 by decide] at e
    have q := q h' g
    rw [kV_mk] at q
    refine hN _ _ (wp_go fun N2 hN2 => ?_)
    decreasing_trivial
/-! ### chain -/
def ir_law_chain (Φ__law_turned_chain : ASp) : List IS := [.asg (.name 2) (.call aLst []),
  .for (.name 3) wRng1 [.l 0] [.asg (.name 4) (.ite (.bool (.call aLt [.call aAdd [.l 3, .c (.int 1)], .l 0])) (.call aTup [.c (.int 1), .call aAdd [.l 3, .c (.int 1)]]) (.call aTup [.c (.int 0), .l 3])),
  .exp (.call aAppend (.call aLs [.l 2] :: [.call aTup [.l 4, .ite (.bool (.call aGt [.l 3, .c (.int 0)])) (.call aTup [.c (.int 0), .call aSub [.l 3, .c (.int 1)]]) (.call aTup [.c (.int 1), .l 3])]]))],
  .ret (.ite (.bool (.call (aEq false) [.l 1, .c (.int 0)])) (.call aTuple [.l 2]) (.call Φ__law_turned_chain [.l 2]))]
def Φ_chain : ASp := fun vs h Q => vs.length = 2 ∧ ∃ (n : Nat) (b : Int), vs = [.int n, .int b] ∧ 1 ≤ n ∧ n ≤ 100 ∧ ∀ f h', Backs 2 n f → Gr h h' → Q (kV (mkK 2 n f)) h'
theorem wp_chain : ∀ vs h Q, Φ_chain vs h Q → vs.length = 2 → wpSs (ir_law_chain Φ_turned) (startA 5 vs) h { nx := fun _ h' => Q .non h', rt := Q } := by
  rintro vs h Q ⟨-, n, b, rfl, hn1, hn2, q⟩ -
  refine wp_go fun N hN => ?_
  decreasing_trivial
  refine hN _ _ (wp_go fun N hN => ?_)
  decreasing_trivial
  refine ⟨⟨by omega, by omega, by omega, by omega⟩, for_inv (fun i sl h' => ∃ (c3 c4 : Option Val), sl = [some (.int n), some (.int b), some (.ref h.length), c3, c4] ∧ Gr h h' ∧ h'[h.length]? = some (.lst ((List.range i).map fun r => Val.tup ((List.range 2).map fun d => pV (chainF n r d)))))
    ⟨_, _, rfl, Gr.app _, get_new⟩ (fun i v sl h' N' hv hI hN' => ⟨trivial, ?_⟩) fun sl h' hI => ⟨trivial, ?_⟩⟩
  · obtain ⟨c3, c4, rfl, g, e⟩ := hI
    obtain ⟨hi, rfl⟩ := rgL_get hv
    rw [Int.zero_add]
    decreasing_trivial
    have lh := lt_of e
    have key : ∀ c4 : Option Val, c4 = some (pV (chainF n i 0)) → N' [some (.int n), some (.int b), some (.ref h.length), some (.int i), c4] (h'.set h.length (.lst ((List.range (i + 1)).map fun r => Val.tup ((List.range 2).map fun d => pV (chainF n r d))))) := fun c4 e4 => by
      refine hN' _ _ ⟨_, _, rfl, g.setNew (Nat.le_refl _), get_set lh⟩
    refine wp_go fun N2 hN2 => ?_
    have step : ∀ c4 : Val, c4 = pV (chainF n i 0) → N2 [some (.int n), some (.int b), some (.ref h.length), some (.int i), some c4] h' := fun c4 e4 => by
      refine hN2 _ _ (wp_go fun N3 hN3 => ?_)
      have fin : ∀ p : Val, p = pV (chainF n i 1) → N3 [some (.int n), some (.int b), some (.ref h.length), some (.int i), some (pV (chainF n i 0))] (h'.set h.length (.lst ((List.range i).map (fun r => Val.tup ((List.range 2).map fun d => pV (chainF n r d))) ++ [.tup [pV (chainF n i 0), p]]))) := fun p ep => by
        have := key _ rfl
        rw [rng_snoc] at this
        subst ep
        exact hN3 _ _ this
      decreasing_trivial
      split
      · refine ⟨by omega, fin _ ?_⟩
        unfold chainF pV
        rw [if_neg (by decide), if_pos (by omega), show ((i - 1 : Nat) : Int) = (i : Int) - 1 by omega]
        rfl
      · refine ⟨by omega, fin _ ?_⟩
        unfold chainF pV
        rw [if_neg (by decide), if_neg (by omega)]
        rfl
    decreasing_trivial
    split
    · refine step _ ?_
      unfold chainF pV
      rw [if_pos rfl, if_pos (by omega)]
      rfl
    · refine step _ ?_
      unfold chainF pV
      rw [if_pos rfl, if_neg (by omega)]
      rfl
  · obtain ⟨c3, c4, rfl, g, e⟩ := hI
    rw [rgL_len, show ((n : Int) - 0).toNat = n by omega] at e
    have q1 := q _ h' (chain_backs n) g
    rw [kV_mk] at q1
    refine hN _ _ (wp_go fun N2 hN2 => ?_)
    decreasing_trivial
    split
    · trivial
    · exact ⟨rfl, _, 2, n, chainF n, rfl, by rw [rowsV_mk]; exact e, chain_backs n, by decide, hn2, fun f2 h2 hb g2 => q _ _ hb (g.trans g2)⟩
end Ev
namespace Ev
open PySem PySem.Spec PyProof.Rows L2
local macro_rules | `(tactic| decreasing_trivial) => `(tactic| simp only [wpS, wpE, wpEs, wpAnd, wpOr, wpT, wpTA, wpTO, wpQs, wpG, wpGs, truth, Option.map_some, Option.map_none, startA, List.map_cons, List.map_nil, List.length_cons, List.length_nil, List.cons_append, List.nil_append, List.replicate, List.getElem?_cons_zero, List.getElem?_cons_succ, Option.some.injEq, exists_eq_left', exists_eq_left, exists_eq_right, exists_eq', List.set_cons_zero, List.set_cons_succ, wipeS,
  and_assoc, exists_and_left, Val.bl.injEq, Val.int.injEq, Val.str.injEq, Val.tup.injEq, Val.ref.injEq, decide_eq_true_eq, and_true, true_and, seqOf_tup, seqOf_ref, seqOf_scr, seqOf_int, seqOf_bl, seqOf_str, seqOf_non, dctOf_ref, dctOf_tup, if_true, if_false, Bool.false_eq_true, ite_true, ite_false, reduceIte, reduceCtorEq, false_and, exists_false, and_false, List.cons.injEq, Nat.reduceAdd, Nat.reduceSub, Nat.zero_add,
  aAdd, aSub, aMul, aMod, aDiv, aPow, aNeg, aCmp, aLt, aLe, aGt, aGe, aTup, aLst, aGet, aSet, aLenA, aTuple, aList, aAbs, aInt, aDivmod, aAll, aAny, aMaxA, aMinA, aSum, aDict0, aLs, aDc, aAppend, aI, aSl00, aSl01, aSl10, aSl11, aCut, aIs, isNon, Bool.false_bne, Bool.true_bne, wSeq, wRng1, wRng2, wEnum, wZip, aEq_i, aEq_s, aEq_b, atI_0, atI_1, atI_2, atI_3, atI_n, ixN3_0, ixN3_1, ixN3_2, get_set, List.length_set, List.set_set, List.getElem?_map, aIsi, aIsi2, tyA, Bool.or_true, Bool.true_or, Bool.or_false, Bool.false_or, Bool.and_true, Bool.true_and, Bool.and_false, Bool.false_and, Bool.not_true, Bool.not_false, beq_self_eq_true, bne_self_eq_false, decide_true, decide_false, kb_NoneType_bool, kb_NoneType_int, kb_NoneType_str, kb_NoneType_list, kb_NoneType_tuple, kb_bool_bool, kb_bool_int, kb_bool_str, kb_bool_list, kb_bool_tuple, kb_int_bool, kb_int_int, kb_int_str, kb_int_list, kb_int_tuple, kb_str_bool, kb_str_int, kb_str_str, kb_str_list, kb_str_tuple, kb_list_bool, kb_list_int, kb_list_str, kb_list_list, kb_list_tuple, kb_tuple_bool, kb_tuple_int, kb_tuple_str, kb_tuple_list, kb_tuple_tuple, get_new, aLstRg1, aTupRg1, aAddI, aSubI, aDict1, List.length_map, List.length_range, rgL_len, Nat.reduceLeDiff, Nat.zero_le, AO.lst.injEq, AO.dct.injEq, *])
local macro_rules | `(tactic| array_get_dec) => `(tactic| try simp only [wpS, wpE, wpEs, wpAnd, wpOr, wpT, wpTA, wpTO, wpQs, wpG, wpGs, Option.map_some, Option.map_none, startA, List.map_cons, List.map_nil, List.length_cons, List.length_nil, List.cons_append, List.nil_append, List.replicate, List.getElem?_cons_zero, List.getElem?_cons_succ, Option.some.injEq, exists_eq_left', exists_eq_left, List.set_cons_zero, List.set_cons_succ, wipeS, if_true, if_false, Bool.false_eq_true, ite_true, ite_false, reduceIte, Nat.reduceAdd, Nat.reduceSub, Nat.zero_add])
/-! ### any kind (k02) -/
def ir_law_any_kind (Φ__law_take : ASp) (Φ__law_kind : ASp) (Φ__law_chain : ASp) (Φ__law_doubled : ASp) : List IS := [.asg (.name 1) (.call Φ__law_take [.l 0, .c (.int 8)]),
  .iff (.bool (.call (aEq false) [.l 1, .c (.int 0)])) [.ret (.call Φ__law_kind [.l 0, .call aAdd [.c (.int 1), .call Φ__law_take [.l 0, .c (.int 6)]], .c (.int 8)])] [],
  .iff (.bool (.call (aEq false) [.l 1, .c (.int 1)])) [.ret (.call Φ__law_chain [.call aAdd [.c (.int 2), .call Φ__law_take [.l 0, .c (.int 7)]], .call Φ__law_take [.l 0, .c (.int 2)]])] [],
  .iff (.bool (.call (aEq false) [.l 1, .c (.int 2)])) [.ret (.call Φ__law_doubled [.call Φ__law_kind [.l 0, .call aAdd [.c (.int 1), .call Φ__law_take [.l 0, .c (.int 3)]], .call aAdd [.c (.int 1), .call Φ__law_take [.l 0, .c (.int 4)]]]])] [],
  .ret (.call Φ__law_kind [.l 0, .call aAdd [.c (.int 1), .call Φ__law_take [.l 0, .c (.int 4)]], .call aAdd [.c (.int 1), .call Φ__law_take [.l 0, .c (.int 5)]]])]
def Φ_any : ASp := fun vs h Q => vs.length = 1 ∧ ∃ b M : Nat, vs = [.ref b] ∧ BoxAt h b M ∧ M + 4010 ≤ boxMax ∧ ∀ D R f h', 1 ≤ D → D ≤ 12 → 1 ≤ R → R ≤ 64 → Backs D R f → Kp b h h' → BoxAt h' b (M + 4010) → Q (kV (mkK D R f)) h'
theorem kind_ok {b M D R : Nat} {h : AH} {Q : Val → AH → Prop} (B : BoxAt h b M) (hM : M + 4000 ≤ boxMax) (h1 : 1 ≤ D) (h2 : D ≤ 12) (h3 : 1 ≤ R) (h4 : R ≤ 64) (k : ∀ f h', Backs D R f → Kp b h h' → BoxAt h' b (M + 4000) → Q (kV (mkK D R f)) h') : Φ_kind [.ref b, .int D, .int R] h Q := ⟨rfl, b, M, D, R, rfl, B, hM, h1, h2, h3, h4, k⟩
theorem wp_any : ∀ vs h Q, Φ_any vs h Q → vs.length = 1 → wpSs (ir_law_any_kind Φ_take Φ_kind Φ_chain Φ_doubled) (startA 2 vs) h { nx := fun _ h' => Q .non h', rt := Q } := by
  rintro vs h Q ⟨-, b, M, rfl, B, hM, q⟩ -
  have c1 : ∀ z : Nat, (1 : Int) + z = ((1 + z : Nat) : Int) := fun z => by omega
  have c2 : ∀ z : Nat, (2 : Int) + z = ((2 + z : Nat) : Int) := fun z => by omega
  unfold boxMax at hM
  refine wp_go fun N hN => ?_
  decreasing_trivial
  refine take_ok B (by unfold boxMax; omega) (by decide) (by decide) fun w k1 hw g1 _ B1 => ?_
  refine hN _ _ (wp_go fun N2 hN2 => ?_)
  decreasing_trivial
  split
  · refine wp_go fun N3 hN3 => ?_
    decreasing_trivial
    refine take_ok B1 (by unfold boxMax; omega) (by decide) (by decide) fun z k2 hz g2 _ B2 => ?_
    decreasing_trivial
    exact kind_ok (R := 8) B2 (by unfold boxMax; omega) (by omega) (by omega) (by decide) (by decide) fun f k3 hf g3 B3 => q _ _ f k3 (by omega) (by omega) (by decide) (by decide) hf ((g1.trans g2).trans g3) (B3.mono (by omega))
  refine hN2 _ _ (wp_go fun N3 hN3 => ?_)
  decreasing_trivial
  split
  · refine wp_go fun N4 hN4 => ?_
    decreasing_trivial
    refine take_ok B1 (by unfold boxMax; omega) (by decide) (by decide) fun z k2 hz g2 _ B2 => ?_
    refine take_ok B2 (by unfold boxMax; omega) (by decide) (by decide) fun y k3 hy g3 _ B3 => ?_
    decreasing_trivial
    refine ⟨rfl, _, _, rfl, by omega, by omega, fun f k4 hf g4 => q _ _ f k4 (by decide) (by decide) (by omega) (by omega) hf (((g1.trans g2).trans g3).trans g4.kp) ((B3.gr g4).mono (by omega))⟩
  refine hN3 _ _ (wp_go fun N4 hN4 => ?_)
  decreasing_trivial
  split
  · refine wp_go fun N5 hN5 => ?_
    decreasing_trivial
    refine take_ok B1 (by unfold boxMax; omega) (by decide) (by decide) fun z k2 hz g2 _ B2 => ?_
    refine take_ok B2 (by unfold boxMax; omega) (by decide) (by decide) fun y k3 hy g3 _ B3 => ?_
    decreasing_trivial
    refine kind_ok B3 (by unfold boxMax; omega) (by omega) (by omega) (by omega) (by omega) fun f k4 hf g4 B4 => ?_
    exact ⟨rfl, _, _, f, rfl, hf, by omega, by omega, fun k5 g5 => q _ _ _ k5 (by omega) (by omega) (by omega) (by omega) (dbl_backs hf) ((((g1.trans g2).trans g3).trans g4).trans g5.kp) ((B4.gr g5).mono (by omega))⟩
  refine hN4 _ _ (wp_go fun N5 hN5 => ?_)
  decreasing_trivial
  refine take_ok B1 (by unfold boxMax; omega) (by decide) (by decide) fun z k2 hz g2 _ B2 => ?_
  refine take_ok B2 (by unfold boxMax; omega) (by decide) (by decide) fun y k3 hy g3 _ B3 => ?_
  decreasing_trivial
  exact kind_ok B3 (by unfold boxMax; omega) (by omega) (by omega) (by omega) (by omega) fun f k4 hf g4 B4 => q _ _ f k4 (by omega) (by omega) (by omega) (by omega) hf (((g1.trans g2).trans g3).trans g4) (B4.mono (by omega))
end Ev
namespace Ev
open PySem PySem.Spec PyProof.Rows L2
local macro_rules | `(tactic| decreasing_trivial) => `(tactic| simp only [wpS, wpE, wpEs, wpAnd, wpOr, wpT, wpTA, wpTO, wpQs, wpG, wpGs, truth, Option.map_some, Option.map_none, startA, List.map_cons, List.map_nil, List.length_cons, List.length_nil, List.cons_append, List.nil_append, List.replicate, List.getElem?_cons_zero, List.getElem?_cons_succ, Option.some.injEq, exists_eq_left', exists_eq_left, exists_eq_right, exists_eq', List.set_cons_zero, List.set_cons_succ, wipeS,
  and_assoc, exists_and_left, Val.bl.injEq, Val.int.injEq, Val.str.injEq, Val.tup.injEq, Val.ref.injEq, decide_eq_true_eq, and_true, true_and, seqOf_tup, seqOf_ref, seqOf_scr, seqOf_int, seqOf_bl, seqOf_str, seqOf_non, dctOf_ref, dctOf_tup, if_true, if_false, Bool.false_eq_true, ite_true, ite_false, reduceIte, reduceCtorEq, false_and, exists_false, and_false, List.cons.injEq, Nat.reduceAdd, Nat.reduceSub, Nat.zero_add,
  aAdd, aSub, aMul, aMod, aDiv, aPow, aNeg, aCmp, aLt, aLe, aGt, aGe, aTup, aLst, aGet, aSet, aLenA, aTuple, aList, aAbs, aInt, aDivmod, aAll, aAny, aMaxA, aMinA, aSum, aDict0, aLs, aDc, aAppend, aI, aSl00, aSl01, aSl10, aSl11, aCut, aIs, isNon, Bool.false_bne, Bool.true_bne, wSeq, wRng1, wRng2, wEnum, wZip, aEq_i, aEq_s, aEq_b, atI_0, atI_1, atI_2, atI_3, atI_n, ixN3_0, ixN3_1, ixN3_2, get_set, List.length_set, List.set_set, List.getElem?_map, aIsi, aIsi2, tyA, Bool.or_true, Bool.true_or, Bool.or_false, Bool.false_or, Bool.and_true, Bool.true_and, Bool.and_false, Bool.false_and, Bool.not_true, Bool.not_false, beq_self_eq_true, bne_self_eq_false, decide_true, decide_false, kb_NoneType_bool, kb_NoneType_int, kb_NoneType_str, kb_NoneType_list, kb_NoneType_tuple, kb_bool_bool, kb_bool_int, kb_bool_str, kb_bool_list, kb_bool_tuple, kb_int_bool, kb_int_int, kb_int_str, kb_int_list, kb_int_tuple, kb_str_bool, kb_str_int, kb_str_str, kb_str_list, kb_str_tuple, kb_list_bool, kb_list_int, kb_list_str, kb_list_list, kb_list_tuple, kb_tuple_bool, kb_tuple_int, kb_tuple_str, kb_tuple_list, kb_tuple_tuple, get_new, aLstRg1, aTupRg1, aAddI, aSubI, aDict1, List.length_map, List.length_range, rgL_len, Nat.reduceLeDiff, Nat.zero_le, AO.lst.injEq, AO.dct.injEq, *])
local macro_rules | `(tactic| array_get_dec) => `(tactic| try simp only [wpS, wpE, wpEs, wpAnd, wpOr, wpT, wpTA, wpTO, wpQs, wpG, wpGs, Option.map_some, Option.map_none, startA, List.map_cons, List.map_nil, List.length_cons, List.length_nil, List.cons_append, List.nil_append, List.replicate, List.getElem?_cons_zero, List.getElem?_cons_succ, Option.some.injEq, exists_eq_left', exists_eq_left, List.set_cons_zero, List.set_cons_succ, wipeS, if_true, if_false, Bool.false_eq_true, ite_true, ite_false, reduceIte, Nat.reduceAdd, Nat.reduceSub, Nat.zero_add])
/-! ### is_kind, of any data -/
def ir_is_number_below : List IS := [.ret (.and [.call (aIsi "int") [.l 0], .not (.call (aIsi "bool") [.l 0]), .chn aLe aLt (.c (.int 0)) (.l 0) (.l 1)])]
def Φ_num : ASp := fun vs h Q => vs.length = 2 ∧ ∃ v x b, vs = [v, .int b] ∧ Rep h v x ∧ Q (.bl (numB x b)) h
theorem wp_num : ∀ vs h Q, Φ_num vs h Q → vs.length = 2 → wpSs ir_is_number_below (startA 2 vs) h { nx := fun _ h' => Q .non h', rt := Q } := by
  rintro vs h Q ⟨-, v, x, b, rfl, r, q⟩ -
  refine wp_go fun N hN => ?_
  cases r with
  | lst e _ => decreasing_trivial; exact q
  | int i =>
    have q : Q (.bl (decide (0 ≤ i) && decide (i < b))) h := q
    decreasing_trivial
    by_cases h0 : 0 ≤ i
    · rw [decide_eq_true h0, Bool.true_and] at q
      decreasing_trivial
    · rw [decide_eq_false h0, Bool.false_and] at q
      decreasing_trivial
  | _ => decreasing_trivial; exact q
def ir_is_pair_within (Φ_is_number_below : ASp) : List IS := [.iff (.or [.not (.val (.call (aIsi "tuple") [.l 0])), .bool (.call (aEq true) [.call aLenA [.l 0], .c (.int 2)])]) [.ret (.c (.bl false))] [],
  .asg (.tup [.name 3, .name 4]) (.l 0),
  .ret (.and [.call Φ_is_number_below [.l 3, .l 1], .call Φ_is_number_below [.l 4, .l 2]])]
def Φ_pair : ASp := fun vs h Q => vs.length = 3 ∧ ∃ v x d r, vs = [v, .int d, .int r] ∧ Rep h v x ∧ Q (.bl (pairB x d r)) h
theorem wp_pair : ∀ vs h Q, Φ_pair vs h Q → vs.length = 3 → wpSs (ir_is_pair_within Φ_num) (startA 5 vs) h { nx := fun _ h' => Q .non h', rt := Q } := by
  rintro vs h Q ⟨-, v, x, d, r, rfl, rp, q⟩ -
  refine wp_go fun N hN => ?_
  cases rp with
  | lst e _ => decreasing_trivial; exact wp_go fun N hN => (by decreasing_trivial; exact q)
  | @tup vs ds rs =>
    have hlen := rs.len
    match vs, ds, rs with
    | [], [], _ => decreasing_trivial; exact wp_go fun N hN => (by decreasing_trivial; exact q)
    | [_], [_], _ => decreasing_trivial; exact wp_go fun N hN => (by decreasing_trivial; exact q)
    | _ :: _ :: _ :: us, _ :: _ :: _ :: es, _ =>
      decreasing_trivial
      exact wp_go fun N hN => (by decreasing_trivial; exact q)
    | [v1, v2], [x1, x2], .cons r1 (.cons r2 .nil) =>
      have q : Q (.bl (numB x1 d && numB x2 r)) h := q
      decreasing_trivial
      refine hN _ _ (wp_go fun N hN => ?_)
      decreasing_trivial
      refine hN _ _ (wp_go fun N hN => ?_)
      decreasing_trivial
      refine ⟨rfl, v1, x1, d, rfl, r1, _, rfl, ?_⟩
      cases e : numB x1 d with
      | false =>
        rw [e, Bool.false_and] at q
        exact q
      | true =>
        rw [e, Bool.true_and] at q
        exact ⟨rfl, v2, x2, r, rfl, r2, q⟩
  | _ => decreasing_trivial; exact wp_go fun N hN => (by decreasing_trivial; exact q)
def ir_has_rows (Φ_is_pair_within : ASp) : List IS := [.iff (.or [.not (.val (.call (aIsi "tuple") [.l 0])), .not (.val (.l 0)), .not (.val (.call aAll [.lc [5] (.name 5) wSeq [.l 0] [] (.call (aIsi "tuple") [.l 5])]))]) [.ret (.c (.bl false))] [],
  .asg (.star 1 2) (.l 0),
  .asg (.tup [.name 3, .name 4]) (.call aTup [.call aLenA [.l 1], .call aLenA [.l 0]]),
  .iff (.or [.bool (.call (aEq false) [.l 3, .c (.int 0)]), .val (.call aAny [.lc [5] (.name 5) wSeq [.l 2] [] (.call (aEq true) [.call aLenA [.l 5], .l 3])])]) [.ret (.c (.bl false))] [],
  .ret (.call aAll [.lc2 [5, 6] [6] (.name 5) wSeq [.l 0] (.name 6) wSeq [.l 5] [] (.call Φ_is_pair_within [.l 6, .l 3, .l 4])])]
def Φ_rows : ASp := fun vs h Q => vs.length = 1 ∧ ∃ v x, vs = [v] ∧ Rep h v x ∧ lenLe 1000 x = true ∧ ∀ t h', (t = true ↔ RowsK x) → Gr h h' → Q (.bl t) h'
theorem rowsK_tup {x : PyData} (h : RowsK x) : ∃ xs, x = .tuple xs := by
  obtain ⟨D, R, f, _, _, e, _⟩ := h
  exact ⟨_, by rw [e, kD_mk]⟩
theorem all_map {α : Type} {xs : List α} {g : α → Bool} : (xs.map g).all id = true ↔ ∀ x ∈ xs, g x = true := by simp
theorem rep_isTup {h : AH} {v : Val} {x : PyData} (r : Rep h v x) : ∃ t, tyA h v = some t ∧ kitB t "tuple" = some (isTupB x) := by
  cases r with
  | non => exact ⟨_, rfl, kb_NoneType_tuple⟩
  | bl => exact ⟨_, rfl, kb_bool_tuple⟩
  | int => exact ⟨_, rfl, kb_int_tuple⟩
  | str => exact ⟨_, rfl, kb_str_tuple⟩
  | tup => exact ⟨_, rfl, kb_tuple_tuple⟩
  | lst e => exact ⟨"list", by simp only [tyA, e], kb_list_tuple⟩
theorem getD_all {α : Type} {xs : List α} {d : α} {P : α → Prop} {n : Nat} (hn : n = xs.length) : (∀ i, i < n → P (xs.getD i d)) ↔ ∀ x ∈ xs, P x := by
  subst hn
  constructor
  · intro H x hx
    obtain ⟨i, hi, rfl⟩ := List.mem_iff_getElem.mp hx
    have := H i hi
    rwa [List.getD_eq_getElem?_getD, List.getElem?_eq_getElem hi] at this
  · intro H i hi
    rw [List.getD_eq_getElem?_getD, List.getElem?_eq_getElem hi]
    exact H _ (List.getElem_mem hi)
theorem any_getD {α : Type} {xs : List α} {d : α} {g : α → Bool} {n : Nat} (hn : n = xs.length) : ((List.range n).map fun i => g (xs.getD i d)).any id = true ↔ ¬ ∀ x ∈ xs, g x = false := by
  rw [← getD_all (d := d) hn]
  simp
theorem wp_rows : ∀ vs h Q, Φ_rows vs h Q → vs.length = 1 → wpSs (ir_has_rows Φ_pair) (startA 7 vs) h { nx := fun _ h' => Q .non h', rt := Q } := by
  rintro vs h Q ⟨-, v, x, rfl, rp, hle, q⟩ -
  have no : ¬ RowsK x → Q (.bl false) h := fun hn => q false h ⟨(fun z => nomatch z), (fun z => absurd z hn)⟩ Gr.rfl
  refine wp_go fun N hN => ?_
  cases rp with
  | lst e _ =>
    have := no fun z => by obtain ⟨_, e⟩ := rowsK_tup z; cases e
    decreasing_trivial; exact wp_go fun N hN => (by decreasing_trivial)
  | @tup vs ds rs =>
    have hlen := rs.len
    have hle2 : ds.length ≤ 1000 ∧ ∀ x ∈ ds, lenLe 1000 x = true := by
      unfold lenLe at hle
      rw [Bool.and_eq_true, decide_eq_true_eq, lenLes_all] at hle
      exact hle
    by_cases h0 : vs = []
    · subst h0
      cases rs
      have := no fun z => by
        obtain ⟨D, R, f, _, hR, e, _⟩ := z
        rw [kD_mk, PyData.tuple.injEq] at e
        have := congrArg List.length e
        simp at this; omega
      decreasing_trivial
      exact wp_go fun N hN => (by decreasing_trivial)
    have hpos : 0 < vs.length := List.length_pos_iff.mpr h0
    have hne : vs.isEmpty = false := by cases vs with
      | nil => exact absurd rfl h0
      | cons _ _ => rfl
    have hds0 : ds ≠ [] := fun z => by subst z; cases rs; exact h0 rfl
    decreasing_trivial
    refine lc_map (Gr h) (fun i => .bl (isTupB (ds.getD i .none))) (by omega) Gr.rfl (fun i v h3 K hv g k => ⟨trivial, ?_⟩) fun h3 g => ⟨trivial, _, bls _ _, ?_⟩
    · obtain ⟨d, e1, e2⟩ := rs.get hv
      obtain ⟨t, e3, e4⟩ := rep_isTup (e2.gr g)
      have := k _ g
      rw [show ds.getD i .none = d by rw [List.getD_eq_getElem?_getD, e1]; rfl] at this
      exact ⟨t, e3, _, e4, this⟩
    have allT : ((List.range vs.length).map fun i => isTupB (ds.getD i .none)).all id = true ↔ ∀ x ∈ ds, isTupB x = true := by
      rw [all_map]
      constructor
      · intro H x hx
        obtain ⟨i, hi, rfl⟩ := List.mem_iff_getElem.mp hx
        have := H i (List.mem_range.mpr (by omega))
        rwa [List.getD_eq_getElem?_getD, List.getElem?_eq_getElem hi] at this
      · intro H i hi
        have hi : i < ds.length := by have := List.mem_range.mp hi; omega
        rw [List.getD_eq_getElem?_getD, List.getElem?_eq_getElem hi]
        exact H _ (List.getElem_mem hi)
    have qs := fun t h' H => q t h' H
    have no : ∀ h', ¬ RowsK (.tuple ds) → Gr h h' → Q (.bl false) h' := fun h' hn g => q false h' ⟨(fun z => nomatch z), (fun z => absurd z hn)⟩ g
    replace g := g.trans (Gr.app [AO.lst ((List.range vs.length).map fun i => Val.bl (isTupB (ds.getD i .none)))])
    generalize h3 ++ [AO.lst ((List.range vs.length).map fun i => Val.bl (isTupB (ds.getD i .none)))] = h3 at g ⊢
    by_cases ht : ∀ x ∈ ds, isTupB x = true
    case neg =>
      rw [show ((List.range vs.length).map fun i => isTupB (ds.getD i .none)).all id = false by rw [← Bool.not_eq_true, allT]; exact ht]
      have := no h3 (fun z => ht (let ⟨_, _, _, h, _⟩ := of_rowsK z; h)) g
      decreasing_trivial
      exact wp_go fun N hN => (by decreasing_trivial)
    rw [allT.mpr ht]
    decreasing_trivial
    -- first, *others
    match vs, ds, rs with
    | [], _, _ => exact absurd rfl h0
    | v0 :: vs, d0 :: ds, .cons r0 rs =>
      have hd0 := ht d0 List.mem_cons_self
      cases r0 with
      | @tup fs es r0 =>
        have hf := r0.len
        have hlen' := rs.len
        refine hN _ _ (wp_go fun N hN => ?_)
        decreasing_trivial
        refine hN _ _ (wp_go fun N hN => ?_)
        decreasing_trivial
        refine hN _ _ (wp_go fun N hN => ?_)
        decreasing_trivial
        split
        · have := no _ (fun z => by
            obtain ⟨D, hD, _, _, hl, _⟩ := of_rowsK z
            have h1 : es.length = D := hl _ List.mem_cons_self
            omega) (g.trans (Gr.app [AO.lst vs]))
          exact wp_go fun N hN => (by decreasing_trivial)
        rename_i hes
        replace g := g.trans (Gr.app [AO.lst vs])
        have eo := get_new (h := h3) (o := .lst vs)
        generalize hk : h3 ++ [AO.lst vs] = k3 at g eo ⊢
        refine lc_map (fun h' => Gr k3 h') (fun i => .bl (!decide (((itemsD (ds.getD i .none)).length : Int) = es.length))) (by have := hle2.1; simp at this; omega) Gr.rfl (fun i v h4 K hv g4 k => ⟨g4.get eo, ?_⟩) fun h4 g4 => ⟨g4.get eo, _, bls _ _, ?_⟩
        · obtain ⟨d, e1, e2⟩ := rs.get hv
          have hd := ht d (List.mem_cons_of_mem _ (List.mem_of_getElem? e1))
          cases e2 with
          | @tup gs ks r1 =>
            have := k _ g4
            rw [show ds.getD i .none = .tuple ks by rw [List.getD_eq_getElem?_getD, e1]; rfl] at this
            rw [show itemsD (.tuple ks) = ks from rfl, ← r1.len] at this
            exact this
          | _ => cases hd
        have anyT : ((List.range vs.length).map fun i => !decide (((itemsD (ds.getD i .none)).length : Int) = es.length)).any id = true ↔ ¬ ∀ x ∈ ds, (itemsD x).length = es.length := by
          rw [any_getD (g := fun x => !decide (((itemsD x).length : Int) = es.length)) hlen']
          simp only [Bool.not_eq_false', decide_eq_true_eq, Int.ofNat_inj]
        replace g := (g.trans g4).trans (Gr.app [AO.lst ((List.range vs.length).map fun i => Val.bl (!decide (((itemsD (ds.getD i .none)).length : Int) = es.length)))])
        generalize h4 ++ [AO.lst ((List.range vs.length).map fun i => Val.bl (!decide (((itemsD (ds.getD i .none)).length : Int) = es.length)))] = k5 at g ⊢
        split
        · rename_i hb
          have := no k5 (fun z => by
            obtain ⟨D, hD, _, _, hl, _⟩ := of_rowsK z
            have h1 : es.length = D := hl _ List.mem_cons_self
            exact anyT.mp hb fun x hx => (hl x (List.mem_cons_of_mem _ hx)).trans h1.symm) g
          exact wp_go fun N hN => (by decreasing_trivial)
        rename_i hb
        have hall : ∀ x ∈ PyData.tuple es :: ds, (itemsD x).length = es.length := fun x hx => by
          rcases List.mem_cons.mp hx with rfl | hx
          · rfl
          · exact Classical.byContradiction fun z => hb (anyT.mpr fun H => z (H x hx))
        refine hN _ _ (wp_go fun N hN => ?_)
        clear anyT eo
        have rs' : Reps h (Val.tup fs :: vs) (PyData.tuple es :: ds) := .cons (.tup r0) rs
        decreasing_trivial
        have hR : ((ds.length + 1 : Nat) : Int) = ((PyData.tuple es :: ds).length : Int) := rfl
        rw [hR]
        have tot := hle2
        have htt := ht
        clear hlen hle2 hpos hne allT
        have hlen2 := rs'.len
        generalize PyData.tuple es :: ds = all at rs' hall ht hds0 q qs no tot hlen2 hR ⊢
        generalize Val.tup fs :: vs = av at rs' hlen2 ⊢
        refine lc_inv (fun i acc h' => Gr h h' ∧ ∃ bs : List Bool, acc = bs.map .bl ∧ bs.length ≤ i * 1000 ∧ (bs.all id = true ↔ ∀ r, r < i → ∀ p ∈ itemsD (all.getD r .none), pairB p es.length all.length = true)) ⟨g, [], rfl, by simp, by simp⟩ (fun i v acc h' K hv ⟨g, bs, ha, hl, hbs⟩ k => ⟨trivial, ?_⟩) fun acc h' ⟨g, bs, ha, hl, hbs⟩ => ⟨trivial, bs, ha, q _ _ ?_ (g.trans (Gr.app _))⟩
        · obtain ⟨d, e1, e2⟩ := rs'.get hv
          have m := List.mem_of_getElem? e1
          have hi : i < all.length := (List.getElem?_eq_some_iff.mp e1).1
          have hd := ht d m
          have hgd : all.getD i .none = d := by rw [List.getD_eq_getElem?_getD, e1]; rfl
          cases e2 with
          | @tup gs ks r1 =>
            have hk1 := r1.len
            have hkl : ks.length ≤ 1000 := by
              have := tot.2 _ m
              unfold lenLe at this
              rw [Bool.and_eq_true, decide_eq_true_eq] at this
              exact this.1
            refine lc_map (Gr h) (fun j => .bl (pairB (ks.getD j .none) es.length all.length)) (by omega) g (fun j w h3 K hw g3 k => ⟨trivial, ?_⟩) fun h3 g3 => ⟨trivial, k _ _ ?_ ⟨g3, bs ++ (List.range gs.length).map fun j => pairB (ks.getD j .none) es.length all.length, ?_, ?_, ?_⟩⟩
            · obtain ⟨p, f1, f2⟩ := r1.get hw
              refine ⟨rfl, _, p, _, _, rfl, f2.gr g3, ?_⟩
              have := k _ g3
              rwa [show ks.getD j .none = p by rw [List.getD_eq_getElem?_getD, f1]; rfl] at this
            · have : i * 1000 ≤ 999 * 1000 := Nat.mul_le_mul_right _ (by have := tot.1; omega)
              rw [ha, List.length_append, List.length_map, List.length_map, List.length_range]
              omega
            · rw [ha, List.map_append, bls]
            · rw [List.length_append, List.length_map, List.length_range]; omega
            · rw [List.all_append, Bool.and_eq_true, hbs, all_map]
              have e3 : (∀ j, j ∈ List.range gs.length → pairB (ks.getD j .none) es.length all.length = true) ↔ ∀ p ∈ ks, pairB p es.length all.length = true := by
                rw [← getD_all (d := .none) hk1]
                exact ⟨fun H j hj => H j (List.mem_range.mpr hj), fun H j hj => H j (List.mem_range.mp hj)⟩
              rw [e3]
              constructor
              · rintro ⟨h1, h2⟩ r hr
                by_cases z : r = i
                · subst z; rw [hgd]; exact h2
                · exact h1 r (by omega)
              · intro H
                refine ⟨fun r hr => H r (by omega), ?_⟩
                have := H i (by omega)
                rw [hgd] at this; exact this
          | _ => cases hd
        · rw [hbs, hlen2, getD_all (P := fun x => ∀ p ∈ itemsD x, pairB p es.length all.length = true) rfl]
          have hD : 1 ≤ es.length := by omega
          constructor
          · intro H
            exact rowsK_of hds0 ht hD hall H
          · intro H
            obtain ⟨D', hD', _, _, hl', hp⟩ := of_rowsK H
            cases all with
            | nil => exact absurd rfl hds0
            | cons a as =>
              have : es.length = D' := (hall a List.mem_cons_self).symm.trans (hl' a List.mem_cons_self)
              subst this
              exact hp
      | _ => cases hd0
  | _ => 
    have := no fun z => by obtain ⟨_, e⟩ := rowsK_tup z; cases e
    decreasing_trivial; exact wp_go fun N hN => (by decreasing_trivial)
def ir_is_kind (Φ_has_rows : ASp) (Φ_first_fault : ASp) : List IS := [.ret (.and [.call Φ_has_rows [.l 0], .call (aIs false) [.call Φ_first_fault [.l 0], .c .non]])]
def Φ_isk : ASp := fun vs h Q => vs.length = 1 ∧ ∃ v x, vs = [v] ∧ Rep h v x ∧ lenLe 1000 x = true ∧ ∀ t h', (t = true ↔ IsKind x) → Gr h h' → Q (.bl t) h'
theorem wp_isk : ∀ vs h Q, Φ_isk vs h Q → vs.length = 1 → wpSs (ir_is_kind Φ_rows Φ_first) (startA 1 vs) h { nx := fun _ h' => Q .non h', rt := Q } := by
  rintro vs h Q ⟨-, v, x, rfl, rp, hle, q⟩ -
  refine wp_go fun N hN => ?_
  decreasing_trivial
  refine ⟨rfl, v, x, rfl, rp, hle, fun t h1 ht g => ⟨t, rfl, ?_⟩⟩
  cases t with
  | false => exact q _ _ ⟨(fun z => nomatch z), fun ⟨D, R, f, h1, h2, e, b⟩ => absurd (ht.mpr ⟨D, R, f, h1, h2, e, b.bnd⟩) (by decide)⟩ g
  | true =>
    obtain ⟨D, R, f, hD, hR, rfl, hB⟩ := ht.mp rfl
    have le : D ≤ 1000 ∧ R ≤ 1000 := by
      rw [kD_mk] at hle
      unfold lenLe at hle
      rw [Bool.and_eq_true, decide_eq_true_eq, lenLes_all] at hle
      have h1 := hle.1
      have h2 := hle.2 (.tuple ((List.range D).map fun d => pD (f 0 d))) (List.mem_map.mpr ⟨0, List.mem_range.mpr hR, rfl⟩)
      unfold lenLe at h2
      rw [Bool.and_eq_true, decide_eq_true_eq] at h2
      simp at h1 h2
      exact ⟨h2.1, h1⟩
    refine ⟨rfl, v, _, D, R, f, rfl, rp.gr g, KG_mk, hB, by omega, by omega, fun w d hf hw => ?_⟩
    have := isNon_rep (hw h1)
    decreasing_trivial
    show Q (.bl (isNon w)) h1
    rw [this]
    refine q _ _ ?_ g
    rcases hf with ⟨hb, rfl⟩ | ⟨r, e, hr, he, hn, _, rfl⟩
    · exact ⟨fun _ => ⟨D, R, f, hD, hR, rfl, fun r d hr hd => ⟨(hB r d hr hd).1, (hB r d hr hd).2, hb r d hr hd⟩⟩, fun _ => rfl⟩
    · refine ⟨(fun z => nomatch z), fun ⟨D', R', f', h1, h2, e', b'⟩ => absurd ?_ hn⟩
      obtain ⟨rfl, rfl, ef⟩ := mkK_eq e' hR
      obtain ⟨b1, b2, b3⟩ := b' r e hr he
      unfold BackAt
      rw [← ef r e hr he] at b1 b2 b3
      rw [ef _ _ b2 b1]; exact b3
end Ev
namespace Ev
open PySem PySem.Spec PyProof.Rows L2
local macro_rules | `(tactic| decreasing_trivial) => `(tactic| simp only [wpS, wpE, wpEs, wpAnd, wpOr, wpT, wpTA, wpTO, wpQs, wpG, wpGs, truth, Option.map_some, Option.map_none, startA, List.map_cons, List.map_nil, List.length_cons, List.length_nil, List.cons_append, List.nil_append, List.replicate, List.getElem?_cons_zero, List.getElem?_cons_succ, Option.some.injEq, exists_eq_left', exists_eq_left, exists_eq_right, exists_eq', List.set_cons_zero, List.set_cons_succ, wipeS,
  and_assoc, exists_and_left, Val.bl.injEq, Val.int.injEq, Val.str.injEq, Val.tup.injEq, Val.ref.injEq, decide_eq_true_eq, and_true, true_and, seqOf_tup, seqOf_ref, seqOf_scr, seqOf_int, seqOf_bl, seqOf_str, seqOf_non, dctOf_ref, dctOf_tup, if_true, if_false, Bool.false_eq_true, ite_true, ite_false, reduceIte, reduceCtorEq, false_and, exists_false, and_false, List.cons.injEq, Nat.reduceAdd, Nat.reduceSub, Nat.zero_add,
  aAdd, aSub, aMul, aMod, aDiv, aPow, aNeg, aCmp, aLt, aLe, aGt, aGe, aTup, aLst, aGet, aSet, aLenA, aTuple, aList, aAbs, aInt, aDivmod, aAll, aAny, aMaxA, aMinA, aSum, aDict0, aLs, aDc, aAppend, aI, aSl00, aSl01, aSl10, aSl11, aCut, aIs, isNon, Bool.false_bne, Bool.true_bne, wSeq, wRng1, wRng2, wEnum, wZip, aEq_i, aEq_s, aEq_b, atI_0, atI_1, atI_2, atI_3, atI_n, ixN3_0, ixN3_1, ixN3_2, get_set, List.length_set, List.set_set, List.getElem?_map, aIsi, aIsi2, tyA, Bool.or_true, Bool.true_or, Bool.or_false, Bool.false_or, Bool.and_true, Bool.true_and, Bool.and_false, Bool.false_and, Bool.not_true, Bool.not_false, beq_self_eq_true, bne_self_eq_false, decide_true, decide_false, kb_NoneType_bool, kb_NoneType_int, kb_NoneType_str, kb_NoneType_list, kb_NoneType_tuple, kb_bool_bool, kb_bool_int, kb_bool_str, kb_bool_list, kb_bool_tuple, kb_int_bool, kb_int_int, kb_int_str, kb_int_list, kb_int_tuple, kb_str_bool, kb_str_int, kb_str_str, kb_str_list, kb_str_tuple, kb_list_bool, kb_list_int, kb_list_str, kb_list_list, kb_list_tuple, kb_tuple_bool, kb_tuple_int, kb_tuple_str, kb_tuple_list, kb_tuple_tuple, get_new, aLstRg1, aTupRg1, aAddI, aSubI, aDict1, List.length_map, List.length_range, rgL_len, Nat.reduceLeDiff, Nat.zero_le, AO.lst.injEq, AO.dct.injEq, *])
local macro_rules | `(tactic| array_get_dec) => `(tactic| try simp only [wpS, wpE, wpEs, wpAnd, wpOr, wpT, wpTA, wpTO, wpQs, wpG, wpGs, Option.map_some, Option.map_none, startA, List.map_cons, List.map_nil, List.length_cons, List.length_nil, List.cons_append, List.nil_append, List.replicate, List.getElem?_cons_zero, List.getElem?_cons_succ, Option.some.injEq, exists_eq_left', exists_eq_left, List.set_cons_zero, List.set_cons_succ, wipeS, if_true, if_false, Bool.false_eq_true, ite_true, ite_false, reduceIte, Nat.reduceAdd, Nat.reduceSub, Nat.zero_add])
/-! ### the script, folded -/
def ir_law_folded : List IS := [.asg (.name 2) (.call aList [.call aSl01 [.l 0, .l 1]]),
  .for (.tup [.name 3, .name 4]) wEnum [.call aSl11 [.l 0, .call aI [.l 1], .c (.int 63)]] [.asg (.sub aSet (.l 2) (.call aMod [.l 3, .l 1])) (.call aAdd [.call aGet [.l 2, .call aMod [.l 3, .l 1]], .call aMul [.l 4, .call aAdd [.l 3, .c (.int 2)]]])],
  .ret (.l 2)]
def Φ_folded : ASp := fun vs h Q => vs.length = 2 ∧ ∃ (ns : List Int) (s : Nat), vs = [.scr ns, .int s] ∧ ns.length ≤ 63 ∧ 1 ≤ s ∧ s ≤ 63 ∧ ∀ (a : Nat) (ms : List Int) (h' : AH), h'[a]? = some (.lst (ms.map .int)) → ms.length = min ns.length s → h.length ≤ a → Gr h h' → Q (.ref a) h'
theorem cut_front (ns : List Int) (s : Nat) : cutL (ns.map Val.int) none (some (s : Int)) = (ns.take s).map .int := by
  unfold cutL
  rw [HT.sIx_none, HT.sIx_nat, List.drop_zero, Nat.sub_zero, List.map_take, List.take_eq_take_iff]
  simp
theorem cut_mid (ns : List Int) (s : Nat) (h : ns.length ≤ 63) : cutL (ns.map Val.int) (some (s : Int)) (some 63) = (ns.drop s).map .int := by
  unfold cutL
  rw [HT.sIx_nat, show (63 : Int) = ((63 : Nat) : Int) from rfl, HT.sIx_nat, List.length_map, List.map_drop, List.take_of_length_le (by simp; omega)]
  by_cases z : s ≤ ns.length
  · rw [Nat.min_eq_left z]
  · rw [List.drop_eq_nil_of_le (by simp; omega), List.drop_eq_nil_of_le (by simp; omega)]
theorem wp_folded : ∀ vs h Q, Φ_folded vs h Q → vs.length = 2 → wpSs ir_law_folded (startA 5 vs) h { nx := fun _ h' => Q .non h', rt := Q } := by
  rintro vs h Q ⟨-, ns, s, rfl, hn, h1, h2, q⟩ -
  refine wp_go fun N hN => ?_
  have cf := cut_front ns s
  decreasing_trivial
  refine hN _ _ (wp_go fun N hN => ?_)
  have cm := cut_mid ns s hn
  decreasing_trivial
  have g0 : Gr h (h ++ [AO.lst ((ns.take s).map Val.int)] ++ [AO.lst ((ns.take s).map Val.int)]) := (Gr.app _).trans (Gr.app _)
  have e0 := get_new (h := h ++ [AO.lst ((ns.take s).map Val.int)]) (o := .lst ((ns.take s).map Val.int))
  have hl : h.length ≤ (h ++ [AO.lst ((ns.take s).map Val.int)]).length := by simp
  generalize (h ++ [AO.lst ((ns.take s).map Val.int)]).length = a at e0 hl ⊢
  generalize h ++ [AO.lst ((ns.take s).map Val.int)] ++ [AO.lst ((ns.take s).map Val.int)] = k0 at g0 e0 ⊢
  have e1 := get_new (h := k0) (o := .lst ((ns.drop s).map Val.int))
  have e0' := get_app (n := [AO.lst ((ns.drop s).map Val.int)]) e0
  have g1 := g0.trans (Gr.app [AO.lst ((ns.drop s).map Val.int)])
  have hak := lt_of e0
  refine for_inv (fun i sl h' => ∃ (ms : List Int) (c3 c4 : Option Val), sl = [some (.scr ns), some (.int s), some (.ref a), c3, c4] ∧ ms.length = min ns.length s ∧ Gr h h' ∧ h'[a]? = some (.lst (ms.map .int)) ∧ h'[k0.length]? = some (.lst ((ns.drop s).map .int)))
    ⟨ns.take s, _, _, rfl, by rw [List.length_take]; omega, g1, e0', e1⟩ (fun i v sl h' N' hv hI hN' => ?_) fun sl h' hI => ?_
  · obtain ⟨ms, c3, c4, rfl, hm, g, ea, ek⟩ := hI
    refine ⟨ek, ?_⟩
    obtain ⟨x, hx, rfl⟩ := enumL_get hv
    rw [List.getElem?_map] at hx
    obtain ⟨y, hy, rfl⟩ := Option.map_eq_some_iff.mp hx
    have hi : i < (ns.drop s).length := (List.getElem?_eq_some_iff.mp hy).1
    rw [List.length_drop] at hi
    have hs : (i : Int) % (s : Int) = ((i % s : Nat) : Int) := by omega
    have hlt : i % s < ms.length := by
      rw [hm]
      have := Nat.mod_lt i (show 0 < s by omega)
      omega
    have hat : ms[i % s]? = some ms[i % s] := List.getElem?_eq_getElem hlt
    have hix := ixN_n (n := ms.length) (i % s) hlt
    rw [hm] at hix
    have la := lt_of ea
    decreasing_trivial
    refine wp_go fun N2 hN2 => ?_
    decreasing_trivial
    refine ⟨by omega, cmul_r (by simp; omega), by omega, hN2 _ _ (hN' _ _ ⟨ms.set (i % s) (ms[i % s] + y * ((i : Int) + 2)), _, _, rfl, by rw [List.length_set]; exact hm, g.setNew hl, ?_, ?_⟩)⟩
    · rw [get_set la, List.map_set]
    · rw [get_setN (by omega)]; exact ek
  · obtain ⟨ms, c3, c4, rfl, hm, g, ea, ek⟩ := hI
    refine ⟨ek, hN _ _ (wp_go fun N2 hN2 => ?_)⟩
    decreasing_trivial
    exact q _ ms _ ea hm hl g
end Ev
namespace Ev
open PySem PySem.Spec PyProof.Rows L2
local macro_rules | `(tactic| decreasing_trivial) => `(tactic| simp only [wpS, wpE, wpEs, wpAnd, wpOr, wpT, wpTA, wpTO, wpQs, wpG, wpGs, truth, Option.map_some, Option.map_none, startA, List.map_cons, List.map_nil, List.length_cons, List.length_nil, List.cons_append, List.nil_append, List.replicate, List.getElem?_cons_zero, List.getElem?_cons_succ, Option.some.injEq, exists_eq_left', exists_eq_left, exists_eq_right, exists_eq', List.set_cons_zero, List.set_cons_succ, wipeS,
  and_assoc, exists_and_left, Val.bl.injEq, Val.int.injEq, Val.str.injEq, Val.tup.injEq, Val.ref.injEq, decide_eq_true_eq, and_true, true_and, seqOf_tup, seqOf_ref, seqOf_scr, seqOf_int, seqOf_bl, seqOf_str, seqOf_non, dctOf_ref, dctOf_tup, if_true, if_false, Bool.false_eq_true, ite_true, ite_false, reduceIte, reduceCtorEq, false_and, exists_false, and_false, List.cons.injEq, Nat.reduceAdd, Nat.reduceSub, Nat.zero_add,
  aAdd, aSub, aMul, aMod, aDiv, aPow, aNeg, aCmp, aLt, aLe, aGt, aGe, aTup, aLst, aGet, aSet, aLenA, aTuple, aList, aAbs, aInt, aDivmod, aAll, aAny, aMaxA, aMinA, aSum, aDict0, aLs, aDc, aAppend, aI, aSl00, aSl01, aSl10, aSl11, aCut, aIs, isNon, Bool.false_bne, Bool.true_bne, wSeq, wRng1, wRng2, wEnum, wZip, aEq_i, aEq_s, aEq_b, atI_0, atI_1, atI_2, atI_3, atI_n, ixN3_0, ixN3_1, ixN3_2, get_set, List.length_set, List.set_set, List.getElem?_map, aIsi, aIsi2, tyA, Bool.or_true, Bool.true_or, Bool.or_false, Bool.false_or, Bool.and_true, Bool.true_and, Bool.and_false, Bool.false_and, Bool.not_true, Bool.not_false, beq_self_eq_true, bne_self_eq_false, decide_true, decide_false, kb_NoneType_bool, kb_NoneType_int, kb_NoneType_str, kb_NoneType_list, kb_NoneType_tuple, kb_bool_bool, kb_bool_int, kb_bool_str, kb_bool_list, kb_bool_tuple, kb_int_bool, kb_int_int, kb_int_str, kb_int_list, kb_int_tuple, kb_str_bool, kb_str_int, kb_str_str, kb_str_list, kb_str_tuple, kb_list_bool, kb_list_int, kb_list_str, kb_list_list, kb_list_tuple, kb_tuple_bool, kb_tuple_int, kb_tuple_str, kb_tuple_list, kb_tuple_tuple, get_new, aLstRg1, aTupRg1, aAddI, aSubI, aDict1, List.length_map, List.length_range, rgL_len, Nat.reduceLeDiff, Nat.zero_le, AO.lst.injEq, AO.dct.injEq, *])
local macro_rules | `(tactic| array_get_dec) => `(tactic| try simp only [wpS, wpE, wpEs, wpAnd, wpOr, wpT, wpTA, wpTO, wpQs, wpG, wpGs, Option.map_some, Option.map_none, startA, List.map_cons, List.map_nil, List.length_cons, List.length_nil, List.cons_append, List.nil_append, List.replicate, List.getElem?_cons_zero, List.getElem?_cons_succ, Option.some.injEq, exists_eq_left', exists_eq_left, List.set_cons_zero, List.set_cons_succ, wipeS, if_true, if_false, Bool.false_eq_true, ite_true, ite_false, reduceIte, Nat.reduceAdd, Nat.reduceSub, Nat.zero_add])
/-! ### kinds as values: rows, pairs; in any mix of lists and tuples -/
def prs (D : Nat) (g : Nat → Nat × Nat) : List Val := (List.range D).map fun d => pV (g d)
def rws (D R : Nat) (f : Nat → Nat → Nat × Nat) : List Val := (List.range R).map fun r => .tup (prs D (f r))
theorem kV_rws {D R : Nat} {f : Nat → Nat → Nat × Nat} : kV (mkK D R f) = .tup (rws D R f) := kV_mk
theorem prs_len {D : Nat} {g : Nat → Nat × Nat} : (prs D g).length = D := by simp [prs]
theorem rws_len {D R : Nat} {f : Nat → Nat → Nat × Nat} : (rws D R f).length = R := by simp [rws]
theorem rws_get {D R r : Nat} {f : Nat → Nat → Nat × Nat} (h : r < R) : (rws D R f)[r]? = some (.tup (prs D (f r))) := rng_at h
theorem prs_get {D d : Nat} {g : Nat → Nat × Nat} (h : d < D) : (prs D g)[d]? = some (pV (g d)) := rng_at h
theorem rws_inv {D R r : Nat} {f : Nat → Nat → Nat × Nat} {v : Val} (h : (rws D R f)[r]? = some v) : r < R ∧ v = .tup (prs D (f r)) := rng_get h
theorem prs_inv {D d : Nat} {g : Nat → Nat × Nat} {v : Val} (h : (prs D g)[d]? = some v) : d < D ∧ v = pV (g d) := rng_get h
def sqB (a : Bool) (xs : List PyData) : PyData := if a then .list xs else .tuple xs
def mixD (a b c : Bool) (D R : Nat) (f : Nat → Nat → Nat × Nat) : PyData := sqB a ((List.range R).map fun r => sqB b ((List.range D).map fun d => sqB c [.int (f r d).1, .int (f r d).2]))
theorem kD_mix {D R : Nat} {f : Nat → Nat → Nat × Nat} : kD (mkK D R f) = mixD false false false D R f := kD_mk
theorem seq_sqB {a : Bool} {xs : List PyData} : seqD (sqB a xs) = some xs := by cases a <;> rfl
theorem KG_mix {a b c : Bool} {D R : Nat} {f : Nat → Nat → Nat × Nat} : KG D R f (mixD a b c D R f) :=
  ⟨_, seq_sqB, by simp, fun r hr => ⟨_, _, rng_at hr, seq_sqB, by simp, fun d hd => ⟨_, rng_at hd, seq_sqB⟩⟩⟩
theorem okD_sqB {n : Nat} {a : Bool} {xs : List PyData} (h : ∀ x ∈ xs, okD n x = true) : okD (n + 1) (sqB a xs) = true := by
  cases a
  · show okDs n xs = true
    exact okDs_all.mpr h
  · show okDs n xs = true
    exact okDs_all.mpr h
theorem ok_mix {a b c : Bool} {D R : Nat} {f : Nat → Nat → Nat × Nat} : okD 3 (mixD a b c D R f) = true := by
  refine okD_sqB fun x hx => ?_
  obtain ⟨r, _, rfl⟩ := List.mem_map.mp hx
  refine okD_sqB fun x hx => ?_
  obtain ⟨d, _, rfl⟩ := List.mem_map.mp hx
  refine okD_sqB fun x hx => ?_
  simp at hx
  rcases hx with rfl | rfl <;> rfl
theorem bulk_sqB {a : Bool} {xs : List PyData} : (sqB a xs).bulk = PyData.bulkAll xs := by cases a <;> simp [sqB, PyData.bulk]
theorem bulk_mix {a b c : Bool} {D R : Nat} {f : Nat → Nat → Nat × Nat} : (mixD a b c D R f).bulk ≤ R * (D * 3 + 1) := by
  unfold mixD
  rw [bulk_sqB]
  refine Nat.le_trans (bulkAll_le (b := D * 3) _ fun x hx => ?_) (by simp)
  obtain ⟨r, _, rfl⟩ := List.mem_map.mp hx
  rw [bulk_sqB]
  refine Nat.le_trans (bulkAll_le (b := 2) _ fun x hx => ?_) (by simp)
  obtain ⟨d, _, rfl⟩ := List.mem_map.mp hx
  rw [bulk_sqB]
  simp [PyData.bulkAll, PyData.bulk]
theorem sm_sqB {a : Bool} {xs : List PyData} (h : ∀ x ∈ xs, smD x = true) : smD (sqB a xs) = true := by
  cases a
  · show smD.smDs xs = true
    exact smDs_all.mpr h
  · show smD.smDs xs = true
    exact smDs_all.mpr h
theorem sm_mix {a b c : Bool} {D R : Nat} {f : Nat → Nat → Nat × Nat} (hB : Bnd D R f) (h1 : D ≤ 1000000) (h2 : R ≤ 1000000) : smD (mixD a b c D R f) = true := by
  refine sm_sqB fun x hx => ?_
  obtain ⟨r, hr, rfl⟩ := List.mem_map.mp hx
  refine sm_sqB fun x hx => ?_
  obtain ⟨d, hd, rfl⟩ := List.mem_map.mp hx
  have := hB r d (List.mem_range.mp hr) (List.mem_range.mp hd)
  refine sm_sqB fun x hx => ?_
  simp at hx
  rcases hx with rfl | rfl
  · show decide _ = true
    exact decide_eq_true (by omega)
  · show decide _ = true
    exact decide_eq_true (by omega)
theorem toL_mix {a b c : Bool} {D R : Nat} {f : Nat → Nat → Nat × Nat} : toL (mixD a b c D R f) = mixD true true true D R f := by
  have sq : ∀ (a : Bool) (xs : List PyData), toL (sqB a xs) = .list (xs.map toL) := fun a xs => by cases a <;> (show toL _ = _) <;> simp [sqB, toL, toLs_map]
  unfold mixD
  rw [sq, List.map_map]
  congr 1
  refine List.map_congr_left fun r _ => ?_
  rw [Function.comp, sq, List.map_map]
  congr 1
  refine List.map_congr_left fun d _ => ?_
  rw [Function.comp, sq]
  simp [toL, sqB]
/-- the kind is there, in whatever mix -/
def GoodK (b : Nat) (h : AH) (D R : Nat) (f : Nat → Nat → Nat × Nat) (v : Val) : Prop := ∃ x a1 a2 a3, x = mixD a1 a2 a3 D R f ∧ RepS b h v x
theorem GoodK.kp {b D R : Nat} {h h' : AH} {f : Nat → Nat → Nat × Nat} {v : Val} (g : GoodK b h D R f v) (k : Kp b h h') : GoodK b h' D R f v := let ⟨x, a1, a2, a3, e, r⟩ := g; ⟨x, a1, a2, a3, e, r.kp k⟩
theorem rep_prs {b D : Nat} {h : AH} {g : Nat → Nat × Nat} : RepsS b h (prs D g) ((List.range D).map fun d => sqB false [.int (g d).1, .int (g d).2]) := RepsS.rng fun d _ h' _ => rep_pV (g d)
theorem rep_rws {b D R : Nat} {h : AH} {f : Nat → Nat → Nat × Nat} : RepsS b h (rws D R f) ((List.range R).map fun r => sqB false ((List.range D).map fun d => sqB false [.int (f r d).1, .int (f r d).2])) := RepsS.rng fun r _ => RepS.tup rep_prs
theorem good_kV {b D R : Nat} {h : AH} {f : Nat → Nat → Nat × Nat} : GoodK b h D R f (.tup (rws D R f)) := ⟨_, false, false, false, rfl, RepS.tup rep_rws⟩
theorem none_of {D R : Nat} {f : Nat → Nat → Nat × Nat} {d : PyData} (h : FaultIs D R f d) (hB : Backs D R f) : d = .none := by
  rcases h with ⟨_, e⟩ | ⟨r, e, hr, he, hn, _, _⟩
  · exact e
  · exact absurd (hB r e hr he).2.2 hn
theorem isk_iff {D R : Nat} {f : Nat → Nat → Nat × Nat} {d : PyData} (h : FaultIs D R f d) (hB : Bnd D R f) (hD : 1 ≤ D) (hR : 1 ≤ R) : isN d = true ↔ IsKind (kD (mkK D R f)) := by
  rcases h with ⟨hb, rfl⟩ | ⟨r, e, hr, he, hn, _, rfl⟩
  · exact ⟨fun _ => ⟨D, R, f, hD, hR, rfl, fun r d hr hd => ⟨(hB r d hr hd).1, (hB r d hr hd).2, hb r d hr hd⟩⟩, fun _ => rfl⟩
  · refine ⟨(fun z => nomatch z), fun ⟨D', R', f', h1, h2, e', b'⟩ => absurd ?_ hn⟩
    obtain ⟨rfl, rfl, ef⟩ := mkK_eq e' hR
    obtain ⟨b1, b2, b3⟩ := b' r e hr he
    unfold BackAt
    rw [← ef r e hr he] at b1 b2 b3
    rw [ef _ _ b2 b1]; exact b3
theorem len_mix {a b c : Bool} {D R : Nat} {f : Nat → Nat → Nat × Nat} (h1 : D ≤ 1000) (h2 : R ≤ 1000) : lenLe 1000 (mixD a b c D R f) = true := by
  have sq : ∀ (a : Bool) (xs : List PyData), xs.length ≤ 1000 → (∀ x ∈ xs, lenLe 1000 x = true) → lenLe 1000 (sqB a xs) = true := fun a xs h1 h2 => by
    cases a
    · show (decide _ && lenLe.lenLes 1000 xs) = true
      rw [decide_eq_true h1, lenLes_all.mpr h2]; rfl
    · show (decide _ && lenLe.lenLes 1000 xs) = true
      rw [decide_eq_true h1, lenLes_all.mpr h2]; rfl
  refine sq _ _ (by simpa using h2) fun x hx => ?_
  obtain ⟨r, _, rfl⟩ := List.mem_map.mp hx
  refine sq _ _ (by simpa using h1) fun x hx => ?_
  obtain ⟨d, _, rfl⟩ := List.mem_map.mp hx
  refine sq _ _ (by simp) fun x hx => ?_
  simp at hx
  rcases hx with rfl | rfl <;> rfl
theorem rep_same {n : Nat} {h : AH} {x y : Val} {d : PyData} {Q : Val → AH → Prop} (hd : okD n d = true) (hb : d.bulk ≤ 1000000) (r1 : Rep h x d) (r2 : Rep h y d) (k : ∀ h', Gr h h' → Q (.bl true) h') : Φ_same n [x, y] h Q := ⟨rfl, x, y, d, rfl, hd, hb, r1, r2, k⟩
theorem ok_fault {D R : Nat} {f : Nat → Nat → Nat × Nat} {d : PyData} (h : FaultIs D R f d) : okD 1 d = true ∧ d.bulk ≤ 2 := by
  rcases h with ⟨_, rfl⟩ | ⟨r, e, _, _, _, _, rfl⟩
  · exact ⟨rfl, by simp [PyData.bulk]⟩
  · exact ⟨by simp [okD, okDs], by simp [PyData.bulk, PyData.bulkAll]⟩
/-- [list(x) for x in ..] -/
theorem lc_copy {h : AH} {vs : List Val} {chk : AH → Prop} {Q : List Val → AH → Prop} (g : Nat → List Val) (hn : vs.length ≤ 1000000) (hs : ∀ i v, vs[i]? = some v → ∀ h', Gr h h' → seqOf h' v = some (g i)) (hc : ∀ h', Gr h h' → chk h')
    (k : Q ((List.range vs.length).map fun r => .ref (h.length + r)) (h ++ (List.range vs.length).map fun r => AO.lst (g r))) : lcW (fun v h3 K => ∃ xs, seqOf h3 v = some xs ∧ K [Val.ref (List.length h3)] (h3 ++ [AO.lst xs])) chk vs [] h Q := by
  refine lc_inv (fun i acc h' => i ≤ vs.length ∧ acc = (List.range i).map (fun r => .ref (h.length + r)) ∧ h' = h ++ (List.range i).map fun r => AO.lst (g r)) ⟨Nat.zero_le _, rfl, by simp⟩ (fun i v acc h' K hv ⟨hi, ha, hh⟩ hK => ?_) fun acc h' ⟨hi, ha, hh⟩ => ?_
  · have gr : Gr h h' := by rw [hh]; exact Gr.app _
    have hlt : i < vs.length := (List.getElem?_eq_some_iff.mp hv).1
    have e : h'.length = h.length + i := by rw [hh]; simp
    refine ⟨hc _ gr, _, hs i v hv _ gr, hK _ _ (by rw [ha]; simp; omega) ⟨hlt, ?_, ?_⟩⟩
    · rw [e, ha, rng_snoc]
    · rw [hh, rng_snoc, List.append_assoc]
  · subst ha hh
    exact ⟨hc _ (Gr.app _), k⟩
theorem get_rng {h : AH} {n r : Nat} {g : Nat → List Val} (hr : r < n) : (h ++ (List.range n).map fun r => AO.lst (g r))[h.length + r]? = some (.lst (g r)) := by
  rw [List.getElem?_append_right (by omega), Nat.add_sub_cancel_left, rng_at hr]
theorem prs_set {D j : Nat} {g : Nat → Nat × Nat} {q : Nat × Nat} : (prs D g).set j (pV q) = prs D (fun d => if d = j then q else g d) := by
  apply List.ext_getElem?
  intro d
  by_cases hd : d < D
  · rw [prs_get hd, List.getElem?_set]
    by_cases e : j = d
    · subst e; rw [if_pos rfl, if_pos (by rw [prs_len]; exact hd), if_pos rfl]
    · rw [if_neg e, prs_get hd, if_neg (fun z => e z.symm)]
  · rw [List.getElem?_eq_none (by rw [List.length_set, prs_len]; omega), List.getElem?_eq_none (by rw [prs_len]; omega)]
theorem prs_congr {D : Nat} {g g' : Nat → Nat × Nat} (h : ∀ d, d < D → g d = g' d) : prs D g = prs D g' := List.map_congr_left fun d hd => by rw [h d (List.mem_range.mp hd)]
theorem copy_rows {h : AH} {b D R : Nat} {f : Nat → Nat → Nat × Nat} (hb : b < h.length) : RepsS b (h ++ (List.range R).map fun r => AO.lst (prs D (f r))) ((List.range R).map fun r => .ref (h.length + r)) ((List.range R).map fun r => sqB true ((List.range D).map fun d => sqB false [.int (f r d).1, .int (f r d).2])) :=
  RepsS.rng fun r hr => RepS.lst (get_rng hr) (by omega) rep_prs
theorem copy_prs {h : AH} {b D : Nat} {g : Nat → Nat × Nat} (hb : b < h.length) : RepsS b (h ++ (List.range D).map fun d => AO.lst [.int (g d).1, .int (g d).2]) ((List.range D).map fun d => .ref (h.length + d)) ((List.range D).map fun d => sqB true [.int (g d).1, .int (g d).2]) :=
  RepsS.rng fun r hr => RepS.lst (get_rng (g := fun d => [.int (g d).1, .int (g d).2]) hr) (by omega) fun _ _ => .cons (.int _) (.cons (.int _) .nil)
theorem repr_ok {b D R : Nat} {h h' : AH} {f : Nat → Nat → Nat × Nat} {v : Val} {a1 a2 a3 : Bool} {Q : Val → AH → Prop} (r : RepS b h v (mixD a1 a2 a3 D R f)) (g : Kp b h h') (hB : Bnd D R f) (hD : D ≤ 1000) (hR : R ≤ 200) (q : Q (.str (mixD a1 a2 a3 D R f).shown) h') : aRepr [v] h' Q := by
  obtain ⟨vs, e, _, _⟩ := rep_seqD (r h' g) (x := mixD a1 a2 a3 D R f) seq_sqB
  refine ⟨_, ⟨vs, e⟩, r h' g, show_of (n := 3) ok_mix (sm_mix hB (by omega) (by omega)) (Nat.le_trans bulk_mix ?_), q⟩
  have : R * (D * 3 + 1) ≤ 200 * 3001 := Nat.mul_le_mul hR (by omega)
  have : (2 : Nat) ^ 20 = 1048576 := by decide
  omega
theorem Gr.kpn {h0 h h' : AH} {b : Nat} (g : Gr h0 h) (hb : h0.length ≤ b) (k : Kp b h h') : Gr h0 h' := ⟨Nat.le_trans g.le k.le, fun i hi => (k.at_ i (Nat.lt_of_lt_of_le hi g.le) (by omega)).trans (g.at_ i hi)⟩
/-- all([.. for turn in range(n)]), each turn with the box -/
theorem lc_turns {h0 h : AH} {b n C : Nat} {body : Val → AH → (List Val → AH → Prop) → Prop} {Q : List Val → AH → Prop} (hn : n ≤ 1000000) (hb : h0.length ≤ b) (g0 : Gr h0 h) (B : BoxAt h b 0)
    (hbd : ∀ (i : Nat) (v : Val) (h' : AH) (K : List Val → AH → Prop), i < n → BoxAt h' b (C * i) → Gr h0 h' → (∀ h2, Kp b h' h2 → BoxAt h2 b (C * i + C) → K [.bl true] h2) → body v h' K)
    (k : ∀ h', Gr h0 h' → Q (((List.range n).map fun _ => true).map .bl) h') : lcW body nochk (rgL 0 (n : Int)) [] h Q := by
  refine lc_inv (fun i acc h' => i ≤ n ∧ acc = (List.range i).map (fun _ => Val.bl true) ∧ BoxAt h' b (C * i) ∧ Gr h0 h') ⟨Nat.zero_le _, rfl, B, g0⟩ (fun i v acc h' K hv ⟨hi, ha, hB, hg⟩ hK => ⟨trivial, ?_⟩) fun acc h' ⟨hi, ha, hB, hg⟩ => ⟨trivial, ?_⟩
  · obtain ⟨hlt, _⟩ := rgL_get hv
    have hlt : i < n := by omega
    refine hbd i v h' _ hlt hB hg fun h2 g2 B2 => hK _ _ (by rw [ha]; simp; omega) ⟨hlt, by rw [ha, rng_snoc], ?_, hg.kpn hb g2⟩
    rw [Nat.mul_succ]; exact B2
  · rw [rgL_len, show ((n : Int) - 0).toNat = n by omega] at ha
    rw [ha, bls]
    exact k _ hg
theorem box_new {h : AH} {n x : Int} (h1 : 0 ≤ n) (h2 : 0 ≤ x) (h3 : x < 2147483647) : BoxAt (h ++ [.lst [.int n, .int x, .int 0]]) h.length 0 := ⟨n, x, 0, get_new, h1, h2, h3, by decide, by decide⟩
theorem rep_flat {n : Nat} {x : Val} : (List.replicate n [x]).flatten = (List.range n).map fun _ => x := by
  induction n with
  | zero => rfl
  | succ n ih => rw [List.replicate_succ', List.flatten_append, ih, List.range_succ, List.map_append]; rfl
end Ev
namespace Ev
open PySem PySem.Spec PyProof.Rows L2
local macro_rules | `(tactic| decreasing_trivial) => `(tactic| simp only [wpS, wpE, wpEs, wpAnd, wpOr, wpT, wpTA, wpTO, wpQs, wpG, wpGs, truth, Option.map_some, Option.map_none, startA, List.map_cons, List.map_nil, List.length_cons, List.length_nil, List.cons_append, List.nil_append, List.replicate, List.getElem?_cons_zero, List.getElem?_cons_succ, Option.some.injEq, exists_eq_left', exists_eq_left, exists_eq_right, exists_eq', List.set_cons_zero, List.set_cons_succ, wipeS,
  and_assoc, exists_and_left, Val.bl.injEq, Val.int.injEq, Val.str.injEq, Val.tup.injEq, Val.ref.injEq, decide_eq_true_eq, and_true, true_and, seqOf_tup, seqOf_ref, seqOf_scr, seqOf_int, seqOf_bl, seqOf_str, seqOf_non, dctOf_ref, dctOf_tup, if_true, if_false, Bool.false_eq_true, ite_true, ite_false, reduceIte, reduceCtorEq, false_and, exists_false, and_false, List.cons.injEq, Nat.reduceAdd, Nat.reduceSub, Nat.zero_add,
  aAdd, aSub, aMul, aMod, aDiv, aPow, aNeg, aCmp, aLt, aLe, aGt, aGe, aTup, aLst, aGet, aSet, aLenA, aTuple, aList, aAbs, aInt, aDivmod, aAll, aAny, aMaxA, aMinA, aSum, aDict0, aLs, aDc, aAppend, aI, aSl00, aSl01, aSl10, aSl11, aCut, aIs, isNon, Bool.false_bne, Bool.true_bne, wSeq, wRng1, wRng2, wEnum, wZip, aEq_i, aEq_s, aEq_b, atI_0, atI_1, atI_2, atI_3, atI_n, ixN3_0, ixN3_1, ixN3_2, get_set, List.length_set, List.set_set, List.getElem?_map, aIsi, aIsi2, tyA, Bool.or_true, Bool.true_or, Bool.or_false, Bool.false_or, Bool.and_true, Bool.true_and, Bool.and_false, Bool.false_and, Bool.not_true, Bool.not_false, beq_self_eq_true, bne_self_eq_false, decide_true, decide_false, kb_NoneType_bool, kb_NoneType_int, kb_NoneType_str, kb_NoneType_list, kb_NoneType_tuple, kb_bool_bool, kb_bool_int, kb_bool_str, kb_bool_list, kb_bool_tuple, kb_int_bool, kb_int_int, kb_int_str, kb_int_list, kb_int_tuple, kb_str_bool, kb_str_int, kb_str_str, kb_str_list, kb_str_tuple, kb_list_bool, kb_list_int, kb_list_str, kb_list_list, kb_list_tuple, kb_tuple_bool, kb_tuple_int, kb_tuple_str, kb_tuple_list, kb_tuple_tuple, get_new, aLstRg1, aTupRg1, aAddI, aSubI, aDict1, List.length_map, List.length_range, rgL_len, Nat.reduceLeDiff, Nat.zero_le, AO.lst.injEq, AO.dct.injEq, *])
local macro_rules | `(tactic| array_get_dec) => `(tactic| try simp only [wpS, wpE, wpEs, wpAnd, wpOr, wpT, wpTA, wpTO, wpQs, wpG, wpGs, Option.map_some, Option.map_none, startA, List.map_cons, List.map_nil, List.length_cons, List.length_nil, List.cons_append, List.nil_append, List.replicate, List.getElem?_cons_zero, List.getElem?_cons_succ, Option.some.injEq, exists_eq_left', exists_eq_left, List.set_cons_zero, List.set_cons_succ, wipeS, if_true, if_false, Bool.false_eq_true, ite_true, ite_false, reduceIte, Nat.reduceAdd, Nat.reduceSub, Nat.zero_add])
/-! ### a drawn order -/
def ir_law_order (Φ__law_take : ASp) : List IS := [.asg (.tup [.name 2, .name 3]) (.call aTup [.call aLstRg1 [.l 1], .call aLst []]),
  .for (.name 4) wRng1 [.l 1] [.exp (.call aAppend (.call aLs [.l 3] :: [.call aPop (.call aLs [.l 2] :: [.call Φ__law_take [.l 0, .call aLenA [.l 2]]])]))],
  .ret (.l 3)]
def intsN (L : List Nat) : List Val := L.map fun n => .int (n : Nat)
theorem intsN_len {L : List Nat} : (intsN L).length = L.length := by simp [intsN]
theorem intsN_get {L : List Nat} {i n : Nat} (h : L[i]? = some n) : (intsN L)[i]? = some (.int (n : Nat)) := by unfold intsN; rw [List.getElem?_map, h]; rfl
def Φ_order : ASp := fun vs h Q => vs.length = 2 ∧ ∃ b M n : Nat, vs = [.ref b, .int n] ∧ BoxAt h b M ∧ M + n ≤ boxMax ∧ n ≤ 100000 ∧ ∀ (a : Nat) (T : List Nat) (h' : AH), T.Perm (List.range n) → h.length ≤ a → h'[a]? = some (.lst (intsN T)) → Kp b h h' → BoxAt h' b (M + n) → Q (.ref a) h'
theorem perm_eraseIdx : ∀ {L : List Nat} {z y : Nat}, L[z]? = some y → (y :: L.eraseIdx z).Perm L
  | [], _, _, e => by simp at e
  | x :: L, 0, y, e => by cases e; exact .refl _
  | x :: L, z + 1, y, e => by
    have := perm_eraseIdx (L := L) (z := z) (y := y) (by simpa using e)
    rw [List.eraseIdx_cons_succ]
    exact (List.Perm.swap x y _).trans (this.cons x)
theorem wp_order : ∀ vs h Q, Φ_order vs h Q → vs.length = 2 → wpSs (ir_law_order Φ_take) (startA 5 vs) h { nx := fun _ h' => Q .non h', rt := Q } := by
  rintro vs h Q ⟨-, b, M, n, rfl, B, hM, hn, q⟩ -
  unfold boxMax at hM
  have hb := B.lt
  refine wp_go fun N hN => ?_
  decreasing_trivial
  refine ⟨⟨by decide, by decide, by omega, by omega⟩, ?_⟩
  have e0 := get_app (n := [AO.lst []]) (get_new (h := h) (o := .lst (rgL 0 n)))
  have e1 := get_new (h := h ++ [.lst (rgL 0 n)]) (o := .lst [])
  have g0 : Kp b h (h ++ [AO.lst (rgL 0 n)] ++ [AO.lst []]) := ((Gr.app _).trans (Gr.app _)).kp
  have B0 := B.gr ((Gr.app [AO.lst (rgL 0 n)]).trans (Gr.app [AO.lst []]))
  have el : (h ++ [AO.lst (rgL 0 n)]).length = h.length + 1 := by simp
  rw [el] at e1 ⊢
  generalize h ++ [AO.lst (rgL 0 n)] ++ [AO.lst []] = h0 at e0 e1 g0 B0 ⊢
  have er : rgL 0 (n : Int) = intsN (List.range n) := by
    unfold rgL intsN
    rw [show ((n : Int) - 0).toNat = n by omega]
    simp
  rw [er] at e0
  clear er
  refine hN _ _ (wp_go fun N hN => ?_)
  decreasing_trivial
  refine ⟨⟨by decide, by decide, by omega, by omega⟩, for_inv (fun t sl h' => ∃ (c4 : Option Val) (L F : List Nat), sl = [some (.ref b), some (.int n), some (.ref h.length), some (.ref (h.length + 1)), c4] ∧ Kp b h h' ∧ BoxAt h' b (M + t) ∧ h'[h.length]? = some (.lst (intsN L)) ∧ h'[h.length + 1]? = some (.lst (intsN F)) ∧ (F ++ L).Perm (List.range n) ∧ L.length + t = n)
    ⟨none, List.range n, [], rfl, g0, B0, e0, e1, List.Perm.refl _, by simp⟩ (fun t v sl h1 N' hv hI hN' => ⟨trivial, ?_⟩) fun sl h1 hI => ⟨trivial, ?_⟩⟩
  · obtain ⟨c4, L, F, rfl, g1, B1, eL, eF, hp, hl⟩ := hI
    obtain ⟨ht, rfl⟩ := rgL_get hv
    have ht : t < n := by omega
    rw [Int.zero_add]
    have lF := lt_of eF
    decreasing_trivial
    refine wp_go fun N2 hN2 => ?_
    decreasing_trivial
    have hM1 : M + n ≤ 1000000000 := hM
    rw [intsN_len]
    refine take_ok B1 (by unfold boxMax; omega) (by omega) (by omega) fun z h2 hz g2 _ B2 => ?_
    have hz : z < L.length := by omega
    have ez : L[z]? = some L[z] := List.getElem?_eq_getElem hz
    have eL2 := g2.get eL (by omega)
    have eF2 := g2.get eF (by omega)
    have hpe : (F ++ [L[z]] ++ L.eraseIdx z).Perm (List.range n) := by
      refine List.Perm.trans ?_ hp
      rw [List.append_assoc]
      refine List.Perm.append_left F ?_
      rw [List.singleton_append]
      exact perm_eraseIdx ez
    have hFl : F.length ≤ n := by have := hp.length_eq; simp at this; omega
    generalize L[z] = y at ez hpe ⊢
    refine pop_at eL2 (intsN_get ez) (by rw [intsN_len]; omega) ?_
    refine ⟨intsN F, by rw [get_setN (by omega)]; exact eF2, by rw [intsN_len]; omega, hN2 _ _ (hN' _ _ ⟨_, L.eraseIdx z, F ++ [y], rfl, ((g1.trans g2).setNew (by omega)).setNew (by omega), ?_, ?_, ?_, hpe, ?_⟩)⟩
    · obtain ⟨n', x, c, e, r⟩ := B2
      exact ⟨n', x, c, by rw [get_setN (by omega), get_setN (by omega)]; exact e, by omega⟩
    · rw [get_setN (by omega), get_set (lt_of eL2)]
      unfold intsN
      rw [eraseIdx_mapD]
    · rw [get_set (by simp; exact lt_of eF2)]
      simp [intsN]
    · rw [List.length_eraseIdx_of_lt hz]; omega
  · obtain ⟨c4, L, F, rfl, g1, B1, eL, eF, hp, hl⟩ := hI
    have hL : L = [] := List.length_eq_zero_iff.mp (by rw [rgL_len] at hl; omega)
    subst hL
    rw [List.append_nil] at hp
    rw [rgL_len] at B1
    refine hN _ _ (wp_go fun N2 hN2 => ?_)
    decreasing_trivial
    exact q _ F _ hp (by omega) eF g1 (B1.mono (by omega))
/-! ### renamed -/
def ir_law_renamed : List IS := [.asg (.name 3) (.lc [5] (.name 5) wSeq [.l 0] [] (.call aMul [.call aLst [.c .non], .call aLenA [.l 1]])),
  .for (.tup [.name 4, .name 5]) wEnum [.l 0] [.for (.tup [.name 6, .name 7]) wEnum [.l 5] [.asg (.sub aSet (.call aGet [.l 3, .call aGet [.l 2, .l 4]]) (.call aGet [.l 1, .l 6])) (.call aTup [.call aGet [.l 1, .call aGet [.l 7, .c (.int 0)]], .call aGet [.l 2, .call aGet [.l 7, .c (.int 1)]]])]],
  .ret (.call aTuple [.lc [5] (.name 5) wSeq [.l 3] [] (.call aTuple [.l 5])])]
/-- a perm of the first n, read both ways -/
theorem idx_at {T : List Nat} {n i : Nat} (p : T.Perm (List.range n)) (h : i < n) : T.idxOf (T.getD i 0) = i ∧ T.getD i 0 < n ∧ T[i]? = some (T.getD i 0) := by
  have hl : T.length = n := by have := p.length_eq; simpa using this
  have hi : i < T.length := by omega
  have nd : T.Nodup := p.nodup_iff.mpr List.nodup_range
  have e : T.getD i 0 = T[i] := by rw [List.getD_eq_getElem?_getD, List.getElem?_eq_getElem hi]; rfl
  have hm : T[i] ∈ List.range n := p.subset (List.getElem_mem hi)
  have e2 : T.idxOf T[i] = i := by
    have h1 : T.idxOf T[i] < T.length := List.idxOf_lt_length_of_mem (List.getElem_mem hi)
    have h2 := List.getElem_idxOf h1
    exact (List.getElem_inj nd).mp h2
  refine ⟨by rw [e, e2], by rw [e]; exact List.mem_range.mp hm, by rw [e, List.getElem?_eq_getElem hi]⟩
theorem at_idx {T : List Nat} {n x : Nat} (p : T.Perm (List.range n)) (h : x < n) : T.getD (T.idxOf x) 0 = x ∧ T.idxOf x < n := by
  have hl : T.length = n := by have := p.length_eq; simpa using this
  have hm : x ∈ T := p.symm.subset (List.mem_range.mpr h)
  have h1 : T.idxOf x < T.length := List.idxOf_lt_length_of_mem hm
  refine ⟨?_, by omega⟩
  rw [List.getD_eq_getElem?_getD, List.getElem?_eq_getElem h1]
  exact List.getElem_idxOf h1
/-- the kind in which door d is called S d, rest r is called T r -/
def renF (S T : List Nat) (f : Nat → Nat → Nat × Nat) (r d : Nat) : Nat × Nat := (S.getD (f (T.idxOf r) (S.idxOf d)).1 0, T.getD (f (T.idxOf r) (S.idxOf d)).2 0)
theorem ren_backs {D R : Nat} {S T : List Nat} {f : Nat → Nat → Nat × Nat} (hS : S.Perm (List.range D)) (hT : T.Perm (List.range R)) (hf : Backs D R f) : Backs D R (renF S T f) := fun r d hr hd => by
  obtain ⟨t1, t2⟩ := at_idx hT hr
  obtain ⟨s1, s2⟩ := at_idx hS hd
  obtain ⟨b1, b2, b3⟩ := hf _ _ t2 s2
  obtain ⟨u1, u2, _⟩ := idx_at hS b1
  obtain ⟨v1, v2, _⟩ := idx_at hT b2
  refine ⟨u2, v2, ?_⟩
  unfold renF
  rw [u1, v1, b3, s1, t1]
theorem ren_at {D R r d : Nat} {S T : List Nat} {f : Nat → Nat → Nat × Nat} (hS : S.Perm (List.range D)) (hT : T.Perm (List.range R)) (hr : r < R) (hd : d < D) : renF S T f (T.getD r 0) (S.getD d 0) = (S.getD (f r d).1 0, T.getD (f r d).2 0) := by
  unfold renF
  rw [(idx_at hT hr).1, (idx_at hS hd).1]
end Ev
namespace Ev
open PySem PySem.Spec PyProof.Rows L2
local macro_rules | `(tactic| decreasing_trivial) => `(tactic| simp only [wpS, wpE, wpEs, wpAnd, wpOr, wpT, wpTA, wpTO, wpQs, wpG, wpGs, truth, Option.map_some, Option.map_none, startA, List.map_cons, List.map_nil, List.length_cons, List.length_nil, List.cons_append, List.nil_append, List.replicate, List.getElem?_cons_zero, List.getElem?_cons_succ, Option.some.injEq, exists_eq_left', exists_eq_left, exists_eq_right, exists_eq', List.set_cons_zero, List.set_cons_succ, wipeS,
  and_assoc, exists_and_left, Val.bl.injEq, Val.int.injEq, Val.str.injEq, Val.tup.injEq, Val.ref.injEq, decide_eq_true_eq, and_true, true_and, seqOf_tup, seqOf_ref, seqOf_scr, seqOf_int, seqOf_bl, seqOf_str, seqOf_non, dctOf_ref, dctOf_tup, if_true, if_false, Bool.false_eq_true, ite_true, ite_false, reduceIte, reduceCtorEq, false_and, exists_false, and_false, List.cons.injEq, Nat.reduceAdd, Nat.reduceSub, Nat.zero_add,
  aAdd, aSub, aMul, aMod, aDiv, aPow, aNeg, aCmp, aLt, aLe, aGt, aGe, aTup, aLst, aGet, aSet, aLenA, aTuple, aList, aAbs, aInt, aDivmod, aAll, aAny, aMaxA, aMinA, aSum, aDict0, aLs, aDc, aAppend, aI, aSl00, aSl01, aSl10, aSl11, aCut, aIs, isNon, Bool.false_bne, Bool.true_bne, wSeq, wRng1, wRng2, wEnum, wZip, aEq_i, aEq_s, aEq_b, atI_0, atI_1, atI_2, atI_3, atI_n, ixN3_0, ixN3_1, ixN3_2, get_set, List.length_set, List.set_set, List.getElem?_map, aIsi, aIsi2, tyA, Bool.or_true, Bool.true_or, Bool.or_false, Bool.false_or, Bool.and_true, Bool.true_and, Bool.and_false, Bool.false_and, Bool.not_true, Bool.not_false, beq_self_eq_true, bne_self_eq_false, decide_true, decide_false, kb_NoneType_bool, kb_NoneType_int, kb_NoneType_str, kb_NoneType_list, kb_NoneType_tuple, kb_bool_bool, kb_bool_int, kb_bool_str, kb_bool_list, kb_bool_tuple, kb_int_bool, kb_int_int, kb_int_str, kb_int_list, kb_int_tuple, kb_str_bool, kb_str_int, kb_str_str, kb_str_list, kb_str_tuple, kb_list_bool, kb_list_int, kb_list_str, kb_list_list, kb_list_tuple, kb_tuple_bool, kb_tuple_int, kb_tuple_str, kb_tuple_list, kb_tuple_tuple, get_new, aLstRg1, aTupRg1, aAddI, aSubI, aDict1, List.length_map, List.length_range, rgL_len, Nat.reduceLeDiff, Nat.zero_le, AO.lst.injEq, AO.dct.injEq, *])
local macro_rules | `(tactic| array_get_dec) => `(tactic| try simp only [wpS, wpE, wpEs, wpAnd, wpOr, wpT, wpTA, wpTO, wpQs, wpG, wpGs, Option.map_some, Option.map_none, startA, List.map_cons, List.map_nil, List.length_cons, List.length_nil, List.cons_append, List.nil_append, List.replicate, List.getElem?_cons_zero, List.getElem?_cons_succ, Option.some.injEq, exists_eq_left', exists_eq_left, List.set_cons_zero, List.set_cons_succ, wipeS, if_true, if_false, Bool.false_eq_true, ite_true, ite_false, reduceIte, Nat.reduceAdd, Nat.reduceSub, Nat.zero_add])
theorem enumL_lenR {D R : Nat} {f : Nat → Nat → Nat × Nat} : (List.map (fun q => Val.tup [Val.int ((q.2 : Nat) : Int), q.1]) (rws D R f).zipIdx).length = R := by simp [rws]
theorem set_of {h : AH} {a j : Nat} {xs : List Val} {v : Val} {N : AH → Prop} (e : h[a]? = some (.lst xs)) (hj : j < xs.length) (n : N (h.set a (.lst (xs.set j v)))) : aSet (.ref a) (.int j) v h N := by
  unfold aSet
  simp only [e, ixN_n j hj]
  exact n
theorem rng_set {D j : Nat} {g : Nat → Val} {v : Val} : ((List.range D).map g).set j v = (List.range D).map fun d => if d = j then v else g d := by
  apply List.ext_getElem?
  intro d
  by_cases hd : d < D
  · rw [rng_at hd, List.getElem?_set]
    by_cases e : j = d
    · subst e; rw [if_pos rfl, if_pos (by simp; exact hd), if_pos rfl]
    · rw [if_neg e, rng_at hd, if_neg (fun z => e z.symm)]
  · rw [List.getElem?_eq_none (by simp; omega), List.getElem?_eq_none (by simp; omega)]
def Φ_renamed : ASp := fun vs h Q => vs.length = 3 ∧ ∃ (D R : Nat) (f : Nat → Nat → Nat × Nat) (a1 a2 : Nat) (S T : List Nat), vs = [.tup (rws D R f), .ref a1, .ref a2] ∧ Backs D R f ∧ D ≤ 1000 ∧ R ≤ 1000 ∧ S.Perm (List.range D) ∧ T.Perm (List.range R) ∧ h[a1]? = some (.lst (intsN S)) ∧ h[a2]? = some (.lst (intsN T)) ∧ ∀ h', Gr h h' → Q (.tup (rws D R (renF S T f))) h'
theorem wp_renamed : ∀ vs h Q, Φ_renamed vs h Q → vs.length = 3 → wpSs ir_law_renamed (startA 8 vs) h { nx := fun _ h' => Q .non h', rt := Q } := by
  rintro vs h Q ⟨-, D, R, f, a1, a2, S, T, rfl, hf, hD, hR, hS, hT, e1, e2, q⟩ -
  have lS : S.length = D := by have := hS.length_eq; simpa using this
  have lT : T.length = R := by have := hT.length_eq; simpa using this
  refine wp_go fun N hN => ?_
  decreasing_trivial
  refine lc_inv (fun i acc h' => Gr h h' ∧ h'.length = h.length + 2 * i ∧ acc = (List.range i).map (fun r => Val.ref (h.length + (2 * r + 1))) ∧ ∀ r, r < i → h'[h.length + (2 * r + 1)]? = some (.lst ((List.range D).map fun _ => Val.non))) ⟨Gr.rfl, by omega, rfl, fun r z => absurd z (Nat.not_lt_zero _)⟩ (fun i v acc h' K hv ⟨g, hl, ha, hr⟩ k => ⟨trivial, ?_⟩) fun acc h' ⟨g, hl, ha, hr⟩ => ⟨trivial, ?_⟩
  · have e1' := get_app (n := [AO.lst [Val.non]]) (g.get e1)
    obtain ⟨hi, _⟩ := rws_inv hv
    have iS : (intsN S).length = D := by rw [intsN_len, lS]
    decreasing_trivial
    refine ⟨by omega, by omega, by omega, ?_⟩
    have ek := k [Val.ref (h' ++ [AO.lst [Val.non]]).length] (h' ++ [AO.lst [Val.non]] ++ [AO.lst (List.replicate (D : Int).toNat [Val.non]).flatten])
    refine ek (by rw [ha]; simp; omega) ⟨g.trans ((Gr.app _).trans (Gr.app _)), by simp; omega, ?_, fun r hr' => ?_⟩
    · rw [rng_snoc, ha]
      congr 3
      simp; omega
    · by_cases z : r = i
      · subst z
        have := get_new (h := h' ++ [AO.lst [Val.non]]) (o := AO.lst (List.replicate (D : Int).toNat [Val.non]).flatten)
        rw [show (h' ++ [AO.lst [Val.non]]).length = h.length + (2 * r + 1) by simp; omega] at this
        rw [this, Int.toNat_natCast, rep_flat]
      · exact get_app (get_app (hr r (by omega)))
  · rename_i xx
    clear xx
    rw [rws_len] at hl ha hr
    have g1 := g.trans (Gr.app [AO.lst acc])
    have eF := get_new (h := h') (o := .lst acc)
    have cells : ∀ r, r < R → (h' ++ [AO.lst acc])[h.length + (2 * r + 1)]? = some (.lst ((List.range D).map ((fun _ _ => Val.non : Nat → Nat → Val) r))) := fun r hr' => get_app (hr r hr')
    rw [hl] at eF ⊢
    subst ha
    have eA := g1.get e1
    have eB := g1.get e2
    clear hr
    generalize h' ++ [AO.lst ((List.range R).map fun r => Val.ref (h.length + (2 * r + 1)))] = h1 at g1 eF cells eA eB ⊢
    have ll := lt_of e1
    have ll2 := lt_of e2
    refine hN _ _ (wp_go fun N hN => ?_)
    decreasing_trivial
    refine for_inv (fun i sl h2 => ∃ (G : Nat → Nat → Val) (c4 c5 c6 c7 : Option Val), sl = [some (.tup (rws D R f)), some (.ref a1), some (.ref a2), some (.ref (h.length + 2 * R)), c4, c5, c6, c7] ∧ Gr h h2 ∧ h2[h.length + 2 * R]? = some (.lst ((List.range R).map fun r => Val.ref (h.length + (2 * r + 1)))) ∧ (∀ r, r < R → h2[h.length + (2 * r + 1)]? = some (.lst ((List.range D).map (G r)))) ∧
        ∀ r d, r < i → d < D → G (T.getD r 0) (S.getD d 0) = pV (renF S T f (T.getD r 0) (S.getD d 0)))
      ⟨_, _, _, _, _, rfl, g1, eF, cells, fun r d z => absurd z (Nat.not_lt_zero _)⟩ (fun i v sl h2 N' hv hI hN' => ?_) fun sl h2 hI => ?_
    · obtain ⟨G, c4, c5, c6, c7, rfl, g2, eF2, cl, hG⟩ := hI
      refine ⟨trivial, ?_⟩
      obtain ⟨x, hx, rfl⟩ := enumL_get hv
      obtain ⟨hi, rfl⟩ := rws_inv hx
      decreasing_trivial
      refine wp_go fun N2 hN2 => ?_
      decreasing_trivial
      refine for_inv (fun j sl h3 => ∃ (G : Nat → Nat → Val) (c6 c7 : Option Val), sl = [some (.tup (rws D R f)), some (.ref a1), some (.ref a2), some (.ref (h.length + 2 * R)), some (.int i), some (.tup (prs D (f i))), c6, c7] ∧ Gr h h3 ∧ h3[h.length + 2 * R]? = some (.lst ((List.range R).map fun r => Val.ref (h.length + (2 * r + 1)))) ∧ (∀ r, r < R → h3[h.length + (2 * r + 1)]? = some (.lst ((List.range D).map (G r)))) ∧
          ∀ r d, (r < i ∨ r = i ∧ d < j) → r < R → d < D → G (T.getD r 0) (S.getD d 0) = pV (renF S T f (T.getD r 0) (S.getD d 0)))
        ⟨G, _, _, rfl, g2, eF2, cl, fun r d z _ hd => hG r d (by omega) hd⟩ (fun j v sl h3 N3 hv hI hN3 => ?_) fun sl h3 hI => ?_
      · obtain ⟨G, c6, c7, rfl, g3, eF3, cl3, hG3⟩ := hI
        refine ⟨trivial, ?_⟩
        obtain ⟨x, hx, rfl⟩ := enumL_get hv
        obtain ⟨hj, rfl⟩ := prs_inv hx
        obtain ⟨b1, b2, _⟩ := hf i j hi hj
        have eA3 := g3.get e1
        have eB3 := g3.get e2
        obtain ⟨_, s1, s2⟩ := idx_at hS hj
        obtain ⟨_, s3, s4⟩ := idx_at hS b1
        obtain ⟨_, t1, t2⟩ := idx_at hT hi
        obtain ⟨_, t3, t4⟩ := idx_at hT b2
        have q1 := intsN_get s2
        have q2 := intsN_get s4
        have q3 := intsN_get t2
        have q4 := intsN_get t4
        refine ⟨_, rfl, rfl, _, _, rfl, _, _, rfl, rfl, ?_⟩
        simp only [List.set_cons_zero, List.set_cons_succ]
        refine wp_go fun N4 hN4 => ?_
        simp only [wpS, wpE, wpEs, wpG, List.getElem?_cons_zero, List.getElem?_cons_succ, Option.some.injEq, exists_eq_left']
        refine get_of (i := 0) seq_pV rfl (get_of (seq_ref eA3) q2 (get_of (i := 1) seq_pV rfl (get_of (seq_ref eB3) q4 ⟨by simp, get_of (seq_ref eB3) q3 (get_of (seq_ref eF3) (rng_at t1) (get_of (seq_ref eA3) q1 ?_))⟩)))
        have eC := cl3 _ t1
        refine set_of eC (by simp; exact s1) ?_
        rw [rng_set]
        refine hN4 _ _ (hN3 _ _ ⟨fun r' d' => if r' = T.getD i 0 then (if d' = S.getD j 0 then pV (S.getD (f i j).1 0, T.getD (f i j).2 0) else G r' d') else G r' d', _, _, rfl, g3.setNew (by omega), ?_, fun r hr' => ?_, fun r d hz hr' hd' => ?_⟩)
        · rw [get_setN (by omega)]; exact eF3
        · by_cases z : r = T.getD i 0
          · subst z
            rw [get_set (lt_of eC)]
            simp only [if_true]
            rfl
          · simp only [if_neg z]
            rw [get_setN (by omega)]
            exact cl3 r hr'
        · have ra := ren_at (f := f) hS hT hi hj
          by_cases z : T.getD r 0 = T.getD i 0 ∧ S.getD d 0 = S.getD j 0
          · simp only [z.1, z.2, if_true]
            rw [ra]
          · have hG4 := hG3 r d (by
              by_cases zr : r = i
              · subst zr
                by_cases zd : d = j
                · subst zd; exact absurd ⟨rfl, rfl⟩ z
                · omega
              · omega) hr' hd'
            show (if T.getD r 0 = T.getD i 0 then (if S.getD d 0 = S.getD j 0 then _ else G _ _) else G _ _) = _
            by_cases zr : T.getD r 0 = T.getD i 0
            · rw [if_pos zr, if_neg (fun zd => z ⟨zr, zd⟩)]; exact hG4
            · rw [if_neg zr]; exact hG4
      · obtain ⟨G, c6, c7, rfl, g3, eF3, cl3, hG3⟩ := hI
        refine ⟨trivial, hN2 _ _ (hN' _ _ ⟨G, _, _, _, _, rfl, g3, eF3, cl3, fun r d hr hd => ?_⟩)⟩
        have hl3 : (prs D (f i)).length = D := prs_len
        exact hG3 r d (by first | omega | (rcases Nat.lt_succ_iff_lt_or_eq.mp hr with z | z; exact .inl z; exact .inr ⟨z, by simpa [prs_len] using hd⟩)) (by omega) hd
    · obtain ⟨G, c4, c5, c6, c7, rfl, g2, eF2, cl, hG⟩ := hI
      refine ⟨trivial, hN _ _ (wp_go fun N hN => ?_)⟩
      decreasing_trivial
      refine lc_map (Gr h2) (fun r => .tup (prs D (renF S T f r))) (by simp; omega) Gr.rfl (fun r v h7 K hv g7 k => ⟨g7.get eF2, ?_⟩) fun h7 g7 => ⟨g7.get eF2, ?_⟩
      · obtain ⟨hr', rfl⟩ := rng_get hv
        refine ⟨_, seq_ref (g7.get (cl r hr')), ?_⟩
        rw [show (List.range D).map (G r) = prs D (renF S T f r) from List.map_congr_left fun d hd => by
          have hd := List.mem_range.mp hd
          obtain ⟨t1, t2⟩ := at_idx hT hr'
          obtain ⟨s1, s2⟩ := at_idx hS hd
          have := hG _ _ (by rw [enumL_lenR]; exact t2) s2
          rw [t1, s1] at this
          exact this]
        exact k _ g7
      · rw [List.length_map, List.length_range]
        exact q _ ((g2.trans g7).trans (Gr.app _))
end Ev
namespace Ev
open PySem PySem.Spec PyProof.Rows L2
local macro_rules | `(tactic| decreasing_trivial) => `(tactic| simp only [wpS, wpE, wpEs, wpAnd, wpOr, wpT, wpTA, wpTO, wpQs, wpG, wpGs, truth, Option.map_some, Option.map_none, startA, List.map_cons, List.map_nil, List.length_cons, List.length_nil, List.cons_append, List.nil_append, List.replicate, List.getElem?_cons_zero, List.getElem?_cons_succ, Option.some.injEq, exists_eq_left', exists_eq_left, exists_eq_right, exists_eq', List.set_cons_zero, List.set_cons_succ, wipeS,
  and_assoc, exists_and_left, Val.bl.injEq, Val.int.injEq, Val.str.injEq, Val.tup.injEq, Val.ref.injEq, decide_eq_true_eq, and_true, true_and, seqOf_tup, seqOf_ref, seqOf_scr, seqOf_int, seqOf_bl, seqOf_str, seqOf_non, dctOf_ref, dctOf_tup, if_true, if_false, Bool.false_eq_true, ite_true, ite_false, reduceIte, reduceCtorEq, false_and, exists_false, and_false, List.cons.injEq, Nat.reduceAdd, Nat.reduceSub, Nat.zero_add,
  aAdd, aSub, aMul, aMod, aDiv, aPow, aNeg, aCmp, aLt, aLe, aGt, aGe, aTup, aLst, aGet, aSet, aLenA, aTuple, aList, aAbs, aInt, aDivmod, aAll, aAny, aMaxA, aMinA, aSum, aDict0, aLs, aDc, aAppend, aI, aSl00, aSl01, aSl10, aSl11, aCut, aIs, isNon, Bool.false_bne, Bool.true_bne, wSeq, wRng1, wRng2, wEnum, wZip, aEq_i, aEq_s, aEq_b, atI_0, atI_1, atI_2, atI_3, atI_n, ixN3_0, ixN3_1, ixN3_2, get_set, List.length_set, List.set_set, List.getElem?_map, aIsi, aIsi2, tyA, Bool.or_true, Bool.true_or, Bool.or_false, Bool.false_or, Bool.and_true, Bool.true_and, Bool.and_false, Bool.false_and, Bool.not_true, Bool.not_false, beq_self_eq_true, bne_self_eq_false, decide_true, decide_false, kb_NoneType_bool, kb_NoneType_int, kb_NoneType_str, kb_NoneType_list, kb_NoneType_tuple, kb_bool_bool, kb_bool_int, kb_bool_str, kb_bool_list, kb_bool_tuple, kb_int_bool, kb_int_int, kb_int_str, kb_int_list, kb_int_tuple, kb_str_bool, kb_str_int, kb_str_str, kb_str_list, kb_str_tuple, kb_list_bool, kb_list_int, kb_list_str, kb_list_list, kb_list_tuple, kb_tuple_bool, kb_tuple_int, kb_tuple_str, kb_tuple_list, kb_tuple_tuple, get_new, aLstRg1, aTupRg1, aAddI, aSubI, aDict1, List.length_map, List.length_range, rgL_len, Nat.reduceLeDiff, Nat.zero_le, AO.lst.injEq, AO.dct.injEq, *])
local macro_rules | `(tactic| array_get_dec) => `(tactic| try simp only [wpS, wpE, wpEs, wpAnd, wpOr, wpT, wpTA, wpTO, wpQs, wpG, wpGs, Option.map_some, Option.map_none, startA, List.map_cons, List.map_nil, List.length_cons, List.length_nil, List.cons_append, List.nil_append, List.replicate, List.getElem?_cons_zero, List.getElem?_cons_succ, Option.some.injEq, exists_eq_left', exists_eq_left, List.set_cons_zero, List.set_cons_succ, wipeS, if_true, if_false, Bool.false_eq_true, ite_true, ite_false, reduceIte, Nat.reduceAdd, Nat.reduceSub, Nat.zero_add])
/-! ### plain_kind -/
def ir_plain_kind : List IS := [.ret (.call aTuple [.lc [1] (.name 1) wSeq [.l 0] [] (.call aTuple [.lc [2, 3] (.tup [.name 2, .name 3]) wSeq [.l 1] [] (.call aTup [.l 2, .l 3])])])]
def Φ_plain : ASp := fun vs h Q => vs.length = 1 ∧ ∃ v x D R f, vs = [v] ∧ Rep h v x ∧ KG D R f x ∧ D ≤ 1000000 ∧ R ≤ 1000000 ∧ ∀ h', Gr h h' → Q (.tup (rws D R f)) h'
theorem seq_gr {h h' : AH} (g : Gr h h') {w : Val} {xs : List Val} (e : seqOf h w = some xs) : seqOf h' w = some xs := by
  cases w with
  | ref a =>
    have e : (match h[a]? with | some (.lst vs) => some vs | _ => none) = some xs := e
    cases q : h[a]? with
    | none => rw [q] at e; cases e
    | some o =>
      rw [q] at e
      cases o with
      | lst ws => cases e; exact seq_ref (g.get q)
      | dct _ => cases e
  | _ => exact e
theorem Kd.gr {h h' : AH} {D R : Nat} {f : Nat → Nat → Nat × Nat} {v : Val} {rows : List Val} (K : Kd h D R f v rows) (g : Gr h h') : Kd h' D R f v rows := by
  have sg : ∀ {w : Val} {xs : List Val}, seqOf h w = some xs → seqOf h' w = some xs := fun {w xs} e => by
    cases w with
    | ref a =>
      have e : (match h[a]? with | some (.lst vs) => some vs | _ => none) = some xs := e
      cases q : h[a]? with
      | none => rw [q] at e; cases e
      | some o =>
        rw [q] at e
        cases o with
        | lst ws => cases e; exact seq_ref (g.get q)
        | dct _ => cases e
    | _ => exact e
  have tg : ∀ {w : Val} {xs : List Val}, (w = .tup xs ∨ ∃ a, w = .ref a ∧ h[a]? = some (.lst xs)) → (w = .tup xs ∨ ∃ a, w = .ref a ∧ h'[a]? = some (.lst xs)) := fun z => by
    rcases z with z | ⟨a, z, e⟩
    · exact .inl z
    · exact .inr ⟨a, z, g.get e⟩
  refine ⟨sg K.sq, tg K.ty, K.len, fun r hr => ?_⟩
  obtain ⟨w, ps, e1, e2, e3, e4, e5⟩ := K.row r hr
  refine ⟨w, ps, e1, sg e2, tg e3, e4, fun d hd => ?_⟩
  obtain ⟨p, f1, f2⟩ := e5 d hd
  exact ⟨p, f1, sg f2⟩
theorem wp_plain : ∀ vs h Q, Φ_plain vs h Q → vs.length = 1 → wpSs ir_plain_kind (startA 4 vs) h { nx := fun _ h' => Q .non h', rt := Q } := by
  rintro vs h Q ⟨-, v, x, D, R, f, rfl, rp, k, hD, hR, q⟩ -
  obtain ⟨rows, K⟩ := kd_of rp k
  refine wp_go fun N hN => ?_
  simp only [wpS, wpE, wpEs, startA, List.map_cons, List.map_nil, List.length_cons, List.length_nil, List.cons_append, List.nil_append, List.replicate, List.getElem?_cons_zero, Option.some.injEq, exists_eq_left']
  refine seq_of K.ty fun chk hc => lc_map (Gr h) (fun r => .tup (prs D (f r))) (by rw [K.len]; omega) Gr.rfl (fun r w h3 K' hw g3 k' => ⟨hc _ g3, ?_⟩) fun h3 g3 => ⟨hc _ g3, ?_⟩
  · have hr : r < R := by rw [← K.len]; exact (List.getElem?_eq_some_iff.mp hw).1
    obtain ⟨w', ps, f1, f2, f3, f4, f5⟩ := (K.gr g3).row r hr
    rw [hw] at f1; cases f1
    simp only [wpG, wipeS, wpQs, List.set_cons_zero, List.set_cons_succ, List.getElem?_cons_zero, List.getElem?_cons_succ, Option.some.injEq, exists_eq_left', if_true]
    refine seq_of f3 fun chk2 hc2 => lc_map (Gr h3) (fun d => pV (f r d)) (by rw [f4]; omega) Gr.rfl (fun d u h4 K2 hu g4 k2 => ⟨hc2 _ g4, ?_⟩) fun h4 g4 => ⟨hc2 _ g4, ?_⟩
    · have hd : d < D := by rw [← f4]; exact (List.getElem?_eq_some_iff.mp hu).1
      obtain ⟨p, b1, b2⟩ := f5 d hd
      rw [hu] at b1; cases b1
      have b3 := seq_gr g4 b2
      decreasing_trivial
      exact k2 _ g4
    · rw [f4]
      decreasing_trivial
      exact k' _ (g3.trans (g4.trans (Gr.app _)))
  · rw [K.len]
    decreasing_trivial
    exact q _ (g3.trans (Gr.app _))
end Ev
namespace Ev
/-! ### the rests that are kept: the mathematics -/
/-- what the first n doors of a row lead to, put behind -/
def kadd (g : Nat → Nat × Nat) (F : List Nat) : Nat → List Nat
  | 0 => F
  | d + 1 => if (g d).2 ∈ kadd g F d then kadd g F d else kadd g F d ++ [(g d).2]
def bfs (D : Nat) (f : Nat → Nat → Nat × Nat) (x : Nat) : Nat → List Nat
  | 0 => [x]
  | n + 1 => match (bfs D f x n)[n]? with
    | some y => kadd (f y) (bfs D f x n) D
    | none => bfs D f x n
section
variable {D R : Nat} {f : Nat → Nat → Nat × Nat} {g : Nat → Nat × Nat} {F : List Nat} {x y n m d : Nat}
theorem kadd_pre : ∀ n, F <+: kadd g F n
  | 0 => List.prefix_rfl
  | n + 1 => by
    show F <+: if _ then _ else _
    split
    · exact kadd_pre n
    · exact (kadd_pre n).trans (List.prefix_append _ _)
theorem kadd_le : ∀ {n m : Nat}, n ≤ m → kadd g F n <+: kadd g F m
  | n, 0, h => by rw [show n = 0 by omega]; exact List.prefix_rfl
  | n, m + 1, h => by
    by_cases z : n = m + 1
    · subst z; exact List.prefix_rfl
    · refine (kadd_le (n := n) (m := m) (by omega)).trans ?_
      show _ <+: if _ then _ else _
      split
      · exact List.prefix_rfl
      · exact List.prefix_append _ _
theorem kadd_mem {g : Nat → Nat × Nat} {F : List Nat} : ∀ {n y : Nat}, y ∈ kadd g F n ↔ y ∈ F ∨ ∃ d, d < n ∧ y = (g d).2
  | 0, y => ⟨.inl, fun h => h.elim id fun ⟨d, h, _⟩ => absurd h (Nat.not_lt_zero _)⟩
  | n + 1, y => by
    have ih := kadd_mem (g := g) (F := F) (y := y) (n := n)
    have ih' := kadd_mem (g := g) (F := F) (y := (g n).2) (n := n)
    show y ∈ (if _ then _ else _) ↔ _
    split
    · rename_i hm
      rw [ih]
      refine ⟨fun h => h.imp id fun ⟨d, a, b⟩ => ⟨d, by omega, b⟩, fun h => ?_⟩
      rcases h with h | ⟨d, a, b⟩
      · exact .inl h
      · by_cases z : d = n
        · subst z; subst b; exact ih.mp hm
        · exact .inr ⟨d, by omega, b⟩
    · rw [List.mem_append, ih, List.mem_singleton]
      refine ⟨fun h => ?_, fun h => ?_⟩
      · rcases h with (h | ⟨d, a, b⟩) | h
        · exact .inl h
        · exact .inr ⟨d, by omega, b⟩
        · exact .inr ⟨n, by omega, h⟩
      · rcases h with h | ⟨d, a, b⟩
        · exact .inl (.inl h)
        · by_cases z : d = n
          · subst z; exact .inr b
          · exact .inl (.inr ⟨d, by omega, b⟩)
theorem kadd_nd (h : F.Nodup) : ∀ n, (kadd g F n).Nodup
  | 0 => h
  | n + 1 => by
    show List.Nodup (if _ then _ else _)
    split
    · exact kadd_nd h n
    · rename_i hm
      refine List.nodup_append.mpr ⟨kadd_nd h n, by simp, fun a ha b hb => ?_⟩
      rw [List.mem_singleton.mp hb]
      exact fun z => hm (z ▸ ha)
theorem bfs_step (h : (bfs D f x n)[n]? = some y) : bfs D f x (n + 1) = kadd (f y) (bfs D f x n) D := by
  show (match (bfs D f x n)[n]? with | some y => kadd (f y) (bfs D f x n) D | none => bfs D f x n) = _
  rw [h]
theorem bfs_stop (h : (bfs D f x n).length ≤ n) : bfs D f x (n + 1) = bfs D f x n := by
  show (match (bfs D f x n)[n]? with | some y => kadd (f y) (bfs D f x n) D | none => bfs D f x n) = _
  rw [List.getElem?_eq_none h]
theorem bfs_stay (h : (bfs D f x n).length ≤ n) : ∀ {m : Nat}, n ≤ m → bfs D f x m = bfs D f x n
  | 0, hm => by rw [show n = 0 by omega]
  | m + 1, hm => by
    by_cases z : n = m + 1
    · subst z; rfl
    · have e := bfs_stay h (m := m) (by omega)
      rw [bfs_stop (by rw [e]; omega), e]
theorem bfs_pre1 (n : Nat) : bfs D f x n <+: bfs D f x (n + 1) := by
  by_cases h : n < (bfs D f x n).length
  · rw [bfs_step (List.getElem?_eq_getElem h)]; exact kadd_pre _
  · rw [bfs_stop (by omega)]; exact List.prefix_rfl
theorem bfs_pre : ∀ {n m : Nat}, n ≤ m → bfs D f x n <+: bfs D f x m
  | n, 0, h => by rw [show n = 0 by omega]; exact List.prefix_rfl
  | n, m + 1, h => by
    by_cases z : n = m + 1
    · subst z; exact List.prefix_rfl
    · exact (bfs_pre (n := n) (m := m) (by omega)).trans (bfs_pre1 m)
theorem bfs_nd : ∀ n, (bfs D f x n).Nodup
  | 0 => by show List.Nodup [x]; simp
  | n + 1 => by
    by_cases h : n < (bfs D f x n).length
    · rw [bfs_step (List.getElem?_eq_getElem h)]; exact kadd_nd (bfs_nd n) _
    · rw [bfs_stop (by omega)]; exact bfs_nd n
/-- what holds of the first and goes on along the doors holds of all -/
theorem bfs_all (C : Nat → Prop) (h0 : C x) (hs : ∀ y d, C y → d < D → C (f y d).2) : ∀ n y, y ∈ bfs D f x n → C y
  | 0, y, h => by rw [List.mem_singleton.mp h]; exact h0
  | n + 1, y, h => by
    have ih := bfs_all C h0 hs n
    by_cases hl : n < (bfs D f x n).length
    · rw [bfs_step (List.getElem?_eq_getElem hl)] at h
      rcases kadd_mem.mp h with h | ⟨d, hd, rfl⟩
      · exact ih _ h
      · exact hs _ _ (ih _ (List.getElem_mem hl)) hd
    · rw [bfs_stop (by omega)] at h
      exact ih _ h
theorem bfs_lt (hB : Bnd D R f) (hx : x < R) (n : Nat) : ∀ y, y ∈ bfs D f x n → y < R := bfs_all (fun y => y < R) hx (fun y d h hd => (hB y d h hd).2) n
theorem nd_len {F : List Nat} (nd : F.Nodup) (h : ∀ y, y ∈ F → y < R) : F.length ≤ R := by
  have := (List.nodup_iff_pairwise_ne.mp nd)
  have hs : F ⊆ List.range R := fun y hy => List.mem_range.mpr (h y hy)
  have := List.Nodup.length_le_of_subset nd hs
  simpa using this
theorem bfs_len (hB : Bnd D R f) (hx : x < R) (n : Nat) : (bfs D f x n).length ≤ R := nd_len (bfs_nd n) (bfs_lt hB hx n)
/-- all that are kept -/
def kfound (D R : Nat) (f : Nat → Nat → Nat × Nat) (x : Nat) : List Nat := bfs D f x R
theorem kfound_end (hB : Bnd D R f) (hx : x < R) (h : (bfs D f x n).length ≤ n) : bfs D f x n = kfound D R f x := by
  unfold kfound
  by_cases z : n ≤ R
  · exact (bfs_stay h z).symm
  · exact bfs_stay (bfs_len hB hx R) (by omega)
theorem bfs_le (hB : Bnd D R f) (hx : x < R) (n : Nat) : bfs D f x n <+: kfound D R f x := by
  by_cases z : n ≤ R
  · exact bfs_pre z
  · rw [bfs_stay (bfs_len hB hx R) (show R ≤ n by omega)]; exact List.prefix_rfl
theorem kfound_nd : (kfound D R f x).Nodup := bfs_nd R
theorem kfound_lt (hB : Bnd D R f) (hx : x < R) : ∀ y, y ∈ kfound D R f x → y < R := bfs_lt hB hx R
theorem kfound_len (hB : Bnd D R f) (hx : x < R) : (kfound D R f x).length ≤ R := bfs_len hB hx R
theorem kfound_first : x ∈ kfound D R f x := (bfs_pre (Nat.zero_le R)).subset (List.mem_singleton.mpr rfl)
theorem kfound_0 : (kfound D R f x)[0]? = some x := by
  obtain ⟨t, h⟩ := bfs_pre (D := D) (f := f) (x := x) (Nat.zero_le R)
  show (bfs D f x R)[0]? = _
  rw [← h]; rfl
theorem kfound_row (hB : Bnd D R f) (hx : x < R) {i : Nat} (h : (kfound D R f x)[i]? = some y) : (bfs D f x i)[i]? = some y := by
  have hp := bfs_le hB hx i
  have hl := (List.getElem?_eq_some_iff.mp h).1
  by_cases z : i < (bfs D f x i).length
  · obtain ⟨t, e⟩ := hp
    rw [← e, List.getElem?_append_left z] at h
    exact h
  · have z : (bfs D f x i).length ≤ i := by omega
    rw [← kfound_end hB hx z] at hl
    omega
theorem kfound_clo (hB : Bnd D R f) (hx : x < R) (h : y ∈ kfound D R f x) (hd : d < D) : (f y d).2 ∈ kfound D R f x := by
  obtain ⟨i, hi, e⟩ := List.getElem_of_mem h
  have e : (kfound D R f x)[i]? = some y := by rw [List.getElem?_eq_getElem hi, e]
  have e2 := kfound_row hB hx e
  refine (bfs_le hB hx (i + 1)).subset ?_
  rw [bfs_step e2]
  exact kadd_mem.mpr (.inr ⟨d, hd, rfl⟩)
/-- all that are kept of one that is kept are the same -/
theorem kfound_back (hf : Backs D R f) (hx : x < R) (h : y ∈ kfound D R f x) : x ∈ kfound D R f y := by
  have hy := kfound_lt hf.bnd hx y h
  apply Classical.byContradiction
  intro hn
  have := bfs_all (D := D) (f := f) (x := x) (fun z => z < R ∧ z ∉ kfound D R f y) ⟨hx, hn⟩ (fun z d ⟨hz, hn⟩ hd => ?_) R y h
  · exact this.2 kfound_first
  · obtain ⟨b1, b2, b3⟩ := hf z d hz hd
    refine ⟨b2, fun hm => hn ?_⟩
    have := kfound_clo hf.bnd hy hm b1
    rw [b3] at this
    exact this
theorem kfound_sub (hB : Bnd D R f) (hx : x < R) (h : y ∈ kfound D R f x) {z : Nat} (hz : z ∈ kfound D R f y) : z ∈ kfound D R f x :=
  bfs_all (fun z => z ∈ kfound D R f x) h (fun u d hu hd => kfound_clo hB hx hu hd) R z hz
theorem kfound_perm (hf : Backs D R f) (hx : x < R) (h : y ∈ kfound D R f x) : (kfound D R f y).Perm (kfound D R f x) := by
  have hy := kfound_lt hf.bnd hx y h
  exact (List.perm_ext_iff_of_nodup kfound_nd kfound_nd).mpr fun z => ⟨kfound_sub hf.bnd hx h, kfound_sub hf.bnd hy (kfound_back hf hx h)⟩
/-- the kept kind -/
def keptF (f : Nat → Nat → Nat × Nat) (F : List Nat) (r d : Nat) : Nat × Nat := ((f (F.getD r 0) d).1, F.idxOf (f (F.getD r 0) d).2)
theorem nd_idx {F : List Nat} (nd : F.Nodup) {i : Nat} (hi : i < F.length) : F.idxOf (F.getD i 0) = i ∧ F.getD i 0 ∈ F ∧ F[i]? = some (F.getD i 0) := by
  have e : F.getD i 0 = F[i] := by rw [List.getD_eq_getElem?_getD, List.getElem?_eq_getElem hi]; rfl
  have h1 : F.idxOf F[i] < F.length := List.idxOf_lt_length_of_mem (List.getElem_mem hi)
  exact ⟨by rw [e]; exact (List.getElem_inj nd).mp (List.getElem_idxOf h1), by rw [e]; exact List.getElem_mem hi, by rw [e, List.getElem?_eq_getElem hi]⟩
theorem idx_get {F : List Nat} (h : y ∈ F) : F.idxOf y < F.length ∧ F.getD (F.idxOf y) 0 = y := by
  have h1 := List.idxOf_lt_length_of_mem h
  refine ⟨h1, ?_⟩
  rw [List.getD_eq_getElem?_getD, List.getElem?_eq_getElem h1]
  exact List.getElem_idxOf h1
theorem kept_backs (hf : Backs D R f) (hx : x < R) : Backs D (kfound D R f x).length (keptF f (kfound D R f x)) := fun r d hr hd => by
  obtain ⟨i1, i2, _⟩ := nd_idx kfound_nd hr
  have hl := kfound_lt hf.bnd hx _ i2
  obtain ⟨b1, b2, b3⟩ := hf _ d hl hd
  have hm := kfound_clo hf.bnd hx i2 hd
  obtain ⟨j1, j2⟩ := idx_get hm
  refine ⟨b1, j1, ?_⟩
  show ((f ((kfound D R f x).getD ((kfound D R f x).idxOf (f ((kfound D R f x).getD r 0) d).2) 0) (f ((kfound D R f x).getD r 0) d).1).1, (kfound D R f x).idxOf (f ((kfound D R f x).getD ((kfound D R f x).idxOf (f ((kfound D R f x).getD r 0) d).2) 0) (f ((kfound D R f x).getD r 0) d).1).2) = _
  rw [j2, b3]
  exact congrArg (d, ·) i1
theorem pre_idx {P F : List Nat} (nd : F.Nodup) (h : P <+: F) : y ∈ P ↔ F.idxOf y < P.length := by
  obtain ⟨T, rfl⟩ := h
  rw [List.idxOf_append]
  split
  · rename_i hm
    exact ⟨fun _ => List.idxOf_lt_length_of_mem hm, fun _ => hm⟩
  · rename_i hm
    exact ⟨fun h => absurd h hm, fun h => by omega⟩
theorem pre_snoc {P F : List Nat} (nd : F.Nodup) (h : P ++ [y] <+: F) : F.idxOf y = P.length := by
  obtain ⟨T, rfl⟩ := h
  rw [List.append_assoc] at nd ⊢
  have hn : y ∉ P := fun hm => by
    have := (List.nodup_append.mp nd).2.2 y hm y (by simp)
    exact this rfl
  rw [List.idxOf_append, if_neg hn]
  simp
theorem kadd_sim {F G : List Nat} {g g' : Nat → Nat × Nat} (nd : F.Nodup) (hg : ∀ d, d < D → (g' d).2 = F.idxOf (g d).2) (hp : kadd g G D <+: F) : ∀ n, n ≤ D → kadd g' (List.range G.length) n = List.range (kadd g G n).length
  | 0, _ => rfl
  | n + 1, h => by
    have ih := kadd_sim nd hg hp n (by omega)
    have h1 : kadd g G n <+: F := (kadd_le (by omega)).trans hp
    have h2 : kadd g G (n + 1) <+: F := (kadd_le h).trans hp
    have e : kadd g' (List.range G.length) (n + 1) = if (g' n).2 ∈ kadd g' (List.range G.length) n then kadd g' (List.range G.length) n else kadd g' (List.range G.length) n ++ [(g' n).2] := rfl
    have e' : kadd g G (n + 1) = if (g n).2 ∈ kadd g G n then kadd g G n else kadd g G n ++ [(g n).2] := rfl
    rw [e'] at h2 ⊢
    rw [hg n (by omega), ih] at e
    by_cases z : (g n).2 ∈ kadd g G n
    · rw [if_pos z, e, if_pos (List.mem_range.mpr ((pre_idx nd h1).mp z))]
    · rw [if_neg z] at h2 ⊢
      rw [e, if_neg (fun w => z ((pre_idx nd h1).mpr (List.mem_range.mp w))), pre_snoc nd h2, List.length_append, List.length_singleton, List.range_succ]
theorem bfs_sim (hB : Bnd D R f) (hx : x < R) : ∀ n, bfs D (keptF f (kfound D R f x)) 0 n = List.range (bfs D f x n).length
  | 0 => rfl
  | n + 1 => by
    have ih := bfs_sim hB hx n
    by_cases h : n < (bfs D f x n).length
    · have e := List.getElem?_eq_getElem h
      have hp : bfs D f x (n + 1) <+: kfound D R f x := bfs_le hB hx _
      have ek : (kfound D R f x).getD n 0 = (bfs D f x n)[n] := by
        obtain ⟨t, et⟩ := bfs_le hB hx n
        rw [List.getD_eq_getElem?_getD, ← et, List.getElem?_append_left h, e]; rfl
      rw [bfs_step e] at hp ⊢
      rw [bfs_step (y := n) (by rw [ih]; simp [h]), ih]
      exact kadd_sim kfound_nd (fun d hd => by show (kfound D R f x).idxOf (f ((kfound D R f x).getD n 0) d).2 = _; rw [ek]) hp D (Nat.le_refl _)
    · rw [bfs_stop (f := keptF f (kfound D R f x)) (n := n) (by rw [ih]; simp; omega), bfs_stop (f := f) (n := n) (by omega), ih]
theorem kept_again (hB : Bnd D R f) (hx : x < R) : kfound D (kfound D R f x).length (keptF f (kfound D R f x)) 0 = List.range (kfound D R f x).length := by
  have h := bfs_sim hB hx (kfound D R f x).length
  show bfs D _ 0 _ = _
  rw [h]
  have hl : (bfs D f x (kfound D R f x).length).length ≤ (kfound D R f x).length := (bfs_le hB hx _).length_le
  rw [kfound_end hB hx hl]
theorem keptF_range {L : Nat} (hB : Bnd D L f) {r d : Nat} (hr : r < L) (hd : d < D) : keptF f (List.range L) r d = f r d := by
  have e : (List.range L).getD r 0 = r := by rw [List.getD_eq_getElem?_getD, List.getElem?_range hr]; rfl
  have h2 := (hB r d hr hd).2
  have e2 : (List.range L).idxOf (f r d).2 = (f r d).2 := by
    have := (nd_idx (F := List.range L) List.nodup_range (i := (f r d).2) (by simpa using h2)).1
    rwa [show (List.range L).getD (f r d).2 0 = (f r d).2 by rw [List.getD_eq_getElem?_getD, List.getElem?_range h2]; rfl] at this
  unfold keptF
  rw [e, e2]
theorem perm_ints {A B : List Nat} {a b : List Int} (h : A.Perm B) (ha : a.Perm (A.map fun n : Nat => (n : Int))) (hb : b.Perm (B.map fun n : Nat => (n : Int))) (sa : a.Pairwise (· ≤ ·)) (sb : b.Pairwise (· ≤ ·)) : a = b :=
  List.Perm.eq_of_pairwise (le := (· ≤ ·)) (fun a b _ _ h1 h2 => Int.le_antisymm h1 h2) sa sb (ha.trans ((h.map _).trans hb.symm))
end
end Ev
namespace Ev
open PySem PySem.Spec PyProof.Rows L2
local macro_rules | `(tactic| decreasing_trivial) => `(tactic| simp only [wpS, wpE, wpEs, wpAnd, wpOr, wpT, wpTA, wpTO, wpQs, wpG, wpGs, truth, Option.map_some, Option.map_none, startA, List.map_cons, List.map_nil, List.length_cons, List.length_nil, List.cons_append, List.nil_append, List.replicate, List.getElem?_cons_zero, List.getElem?_cons_succ, Option.some.injEq, exists_eq_left', exists_eq_left, exists_eq_right, exists_eq', List.set_cons_zero, List.set_cons_succ, wipeS,
  and_assoc, exists_and_left, Val.bl.injEq, Val.int.injEq, Val.str.injEq, Val.tup.injEq, Val.ref.injEq, decide_eq_true_eq, and_true, true_and, seqOf_tup, seqOf_ref, seqOf_scr, seqOf_int, seqOf_bl, seqOf_str, seqOf_non, dctOf_ref, dctOf_tup, if_true, if_false, Bool.false_eq_true, ite_true, ite_false, reduceIte, reduceCtorEq, false_and, exists_false, and_false, List.cons.injEq, Nat.reduceAdd, Nat.reduceSub, Nat.zero_add,
  aAdd, aSub, aMul, aMod, aDiv, aPow, aNeg, aCmp, aLt, aLe, aGt, aGe, aTup, aLst, aGet, aSet, aLenA, aTuple, aList, aAbs, aInt, aDivmod, aAll, aAny, aMaxA, aMinA, aSum, aDict0, aLs, aDc, aAppend, aI, aSl00, aSl01, aSl10, aSl11, aCut, aIs, isNon, Bool.false_bne, Bool.true_bne, wSeq, wRng1, wRng2, wEnum, wZip, aEq_i, aEq_s, aEq_b, atI_0, atI_1, atI_2, atI_3, atI_n, ixN3_0, ixN3_1, ixN3_2, get_set, List.length_set, List.set_set, List.getElem?_map, aIsi, aIsi2, tyA, Bool.or_true, Bool.true_or, Bool.or_false, Bool.false_or, Bool.and_true, Bool.true_and, Bool.and_false, Bool.false_and, Bool.not_true, Bool.not_false, beq_self_eq_true, bne_self_eq_false, decide_true, decide_false, kb_NoneType_bool, kb_NoneType_int, kb_NoneType_str, kb_NoneType_list, kb_NoneType_tuple, kb_bool_bool, kb_bool_int, kb_bool_str, kb_bool_list, kb_bool_tuple, kb_int_bool, kb_int_int, kb_int_str, kb_int_list, kb_int_tuple, kb_str_bool, kb_str_int, kb_str_str, kb_str_list, kb_str_tuple, kb_list_bool, kb_list_int, kb_list_str, kb_list_list, kb_list_tuple, kb_tuple_bool, kb_tuple_int, kb_tuple_str, kb_tuple_list, kb_tuple_tuple, get_new, aLstRg1, aTupRg1, aAddI, aSubI, aDict1, List.length_map, List.length_range, rgL_len, Nat.reduceLeDiff, Nat.zero_le, AO.lst.injEq, AO.dct.injEq, *])
local macro_rules | `(tactic| array_get_dec) => `(tactic| try simp only [wpS, wpE, wpEs, wpAnd, wpOr, wpT, wpTA, wpTO, wpQs, wpG, wpGs, Option.map_some, Option.map_none, startA, List.map_cons, List.map_nil, List.length_cons, List.length_nil, List.cons_append, List.nil_append, List.replicate, List.getElem?_cons_zero, List.getElem?_cons_succ, Option.some.injEq, exists_eq_left', exists_eq_left, List.set_cons_zero, List.set_cons_succ, wipeS, if_true, if_false, Bool.false_eq_true, ite_true, ite_false, reduceIte, Nat.reduceAdd, Nat.reduceSub, Nat.zero_add])
/-! ### steps by hand -/
theorem memD_of {h : AH} {a : Nat} {kvs : List (DK × Val)} {y : Val} {k : DK} {neg : Bool} {Q : Val → AH → Prop} (e : h[a]? = some (.dct kvs)) (hk : keyOf y = some k) (hs : sorts kvs k) (q : Q (.bl (neg != (dget kvs k).isSome)) h) : aMem neg [y, .ref a] h Q := by
  unfold aMem
  simp only [dct_ref e, hk]
  exact ⟨hs, q⟩
theorem getD_of {h : AH} {a : Nat} {kvs : List (DK × Val)} {y v : Val} {k : DK} {Q : Val → AH → Prop} (e : h[a]? = some (.dct kvs)) (hk : keyOf y = some k) (hg : dget kvs k = some v) (q : Q v h) : aGet [.ref a, y] h Q := by
  unfold aGet
  simp only [seq_dct e, dct_ref e, hk, hg]
  exact q
theorem setD_of {h : AH} {a : Nat} {kvs : List (DK × Val)} {y v : Val} {k : DK} {N : AH → Prop} (e : h[a]? = some (.dct kvs)) (hk : keyOf y = some k) (hs : sorts kvs k) (hl : kvs.length < 1000000) (n : N (h.set a (.dct (dput kvs k v)))) : aSet (.ref a) y v h N := by
  unfold aSet
  simp only [e, hk]
  exact ⟨hs, hl, n⟩
theorem app_of {h : AH} {a : Nat} {xs : List Val} {v : Val} {Q : Val → AH → Prop} (e : h[a]? = some (.lst xs)) (hl : xs.length < 1000000) (q : Q .non (h.set a (.lst (xs ++ [v])))) : aAppend [.ref a, v] h Q := ⟨xs, e, hl, q⟩
theorem ls_of {h : AH} {a : Nat} {xs : List Val} {Q : Val → AH → Prop} (e : h[a]? = some (.lst xs)) (q : Q (.ref a) h) : aLs [.ref a] h Q := ⟨⟨xs, e⟩, q⟩
theorem memI_of {h : AH} {v : Val} {F : List Nat} {y : Nat} {neg : Bool} {Q : Val → AH → Prop} (e : seqOf h v = some (intsN F)) (q : Q (.bl (neg != decide (y ∈ F))) h) : aMem neg [.int y, v] h Q := by
  have hd : dctOf h v = none := by
    cases v with
    | ref a =>
      have e : (match h[a]? with | some (.lst vs) => some vs | _ => none) = some (intsN F) := e
      show (match h[a]? with | some (.dct vs) => some vs | _ => none) = none
      cases z : h[a]? with
      | none => rfl
      | some o =>
        rw [z] at e
        cases o with
        | lst _ => rfl
        | dct _ => cases e
    | _ => rfl
  unfold aMem
  simp only [hd]
  refine .inr ⟨F.map fun n => ((n : Nat) : Int), y, rfl, ?_, ?_⟩
  · rw [e]; simp [intsN]
  · have : decide (((y : Nat) : Int) ∈ F.map fun n => ((n : Nat) : Int)) = decide (y ∈ F) := by
      rw [decide_eq_decide, List.mem_map]
      exact ⟨fun ⟨a, h, e⟩ => (show a = y by omega) ▸ h, fun h => ⟨y, h, rfl⟩⟩
    rw [this]; exact q
theorem reps_ints {h : AH} {F : List Nat} : Reps h (intsN F) (F.map fun n : Nat => PyData.int (n : Nat)) := reps_map (fun n => .int _) F
theorem shaped_ints {F : List Nat} : SeqAt.shaped (.list (F.map fun n : Nat => PyData.int (n : Nat))) = true := okD_shaped (n := 1) (by
  show okDs 0 (F.map fun n : Nat => PyData.int (n : Nat)) = true
  rw [okDs_all]
  intro x hx
  obtain ⟨n, _, rfl⟩ := List.mem_map.mp hx
  rfl)
theorem eqv_ii (i j : Int) : PyData.eqv (.int i) (.int j) = decide (i = j) := by
  simp only [PyData.eqv]
  rfl
theorem idxI_of {h : AH} {a : Nat} {F : List Nat} {y : Nat} {Q : Val → AH → Prop} (e : h[a]? = some (.lst (intsN F))) (hy : y ∈ F) (q : Q (.int (F.idxOf y : Nat)) h) : aIndex [.ref a, .int y] h Q := by
  have h1 := List.idxOf_lt_length_of_mem hy
  refine ⟨.int y, _, F.idxOf y, .int (F[F.idxOf y] : Nat), .lst e reps_ints, .int _, shaped_ints, okD_shaped (n := 0) rfl, ?_, ?_, fun m z hm hz => ?_, q⟩
  · rw [List.getElem?_map, List.getElem?_eq_getElem h1]; rfl
  · rw [eqv_ii, List.getElem_idxOf h1]; simp
  · rw [List.getElem?_map] at hz
    have hml : m < F.length := by omega
    rw [List.getElem?_eq_getElem hml] at hz
    cases hz
    rw [eqv_ii, decide_eq_false_iff_not]
    intro hne
    have := List.not_of_lt_findIdx (p := (· == y)) (xs := F) (i := m) hm
    simp at this
    exact this (by omega)
/-! ### numbers by ints -/
def ik (n : Nat) : DK := .k (.inl (n : Int))
theorem ik_inj {a b : Nat} (h : ik a = ik b) : a = b := by
  unfold ik at h
  simp only [DK.k.injEq, Sum.inl.injEq] at h
  omega
def kvsN (F : List Nat) : List (DK × Val) := F.zipIdx.map fun p => (ik p.1, Val.int (p.2 : Nat))
theorem kvsN_len {F : List Nat} : (kvsN F).length = F.length := by simp [kvsN]
theorem kvsN_sorts {F : List Nat} {y : Nat} : sorts (kvsN F) (ik y) := fun p hp => by
  obtain ⟨q, _, rfl⟩ := List.mem_map.mp hp
  rfl
theorem kvsN_getG : ∀ (F : List Nat) (k y : Nat), dget (F.zipIdx k |>.map fun p => (ik p.1, Val.int (p.2 : Nat))) (ik y) = if y ∈ F then some (.int ((k + F.idxOf y : Nat) : Nat)) else none
  | [], k, y => rfl
  | z :: F, k, y => by
    have ih := kvsN_getG F (k + 1) y
    unfold dget at ih ⊢
    rw [List.zipIdx_cons, List.map_cons, List.find?_cons]
    by_cases h : z = y
    · subst h
      simp
    · rw [show decide (ik z = ik y) = false from decide_eq_false fun e => h (ik_inj e)]
      rw [ih]
      have h2 : (z == y) = false := by simpa using h
      by_cases hm : y ∈ F
      · rw [if_pos hm, if_pos (List.mem_cons_of_mem _ hm), List.idxOf_cons, h2]
        simp only [cond_false]
        rw [show k + 1 + List.idxOf y F = k + (List.idxOf y F + 1) by omega]
      · rw [if_neg hm, if_neg]
        intro e
        rcases List.mem_cons.mp e with e | e
        · exact h e.symm
        · exact hm e
theorem kvsN_get {F : List Nat} {y : Nat} : dget (kvsN F) (ik y) = if y ∈ F then some (.int (F.idxOf y : Nat)) else none := by
  have := kvsN_getG F 0 y
  rw [Nat.zero_add] at this
  exact this
theorem kvsN_snoc {F : List Nat} {y : Nat} (h : y ∉ F) : dput (kvsN F) (ik y) (.int (F.length : Nat)) = kvsN (F ++ [y]) := by
  unfold dput
  rw [if_neg]
  · unfold kvsN
    rw [List.zipIdx_append, List.map_append]
    simp
  · intro e
    obtain ⟨p, hp, e⟩ := List.any_eq_true.mp e
    obtain ⟨q, hq, rfl⟩ := List.mem_map.mp hp
    have e := ik_inj (of_decide_eq_true e)
    obtain ⟨i, hi, eq⟩ := List.getElem_of_mem hq
    simp at eq
    apply h
    rw [← e, ← eq]
    exact List.getElem_mem _
/-! ### kept_from -/
def ir_kept_from (Φ_plain_kind : ASp) : List IS := [.asg (.name 2) (.call Φ_plain_kind [.l 0]),
  .asg (.name 3) (.call aLst [.l 1]),
  .asg (.name 4) (.call aDict1 [.l 1, .c (.int 0)]),
  .asg (.name 5) (.c (.int 0)),
  .whl (.bool (.call aLt [.l 5, .call aLenA [.l 3]])) [.for (.tup [.name 7, .name 8]) wSeq [.call aGet [.l 2, .call aGet [.l 3, .l 5]]] [.iff (.bool (.call (aMem true) [.l 8, .l 4])) [.asg (.sub aSet (.l 4) (.l 8)) (.call aLenA [.l 3]),
  .exp (.call aAppend (.call aLs [.l 3] :: [.l 8]))] []],
  .aug aAddI 5 (.c (.int 1))],
  .asg (.name 6) (.lc [9] (.name 9) wSeq [.l 3] [] (.call aTuple [.lc [7, 8] (.tup [.name 7, .name 8]) wSeq [.call aGet [.l 2, .l 9]] [] (.call aTup [.l 7, .call aGet [.l 4, .l 8]])])),
  .ret (.call aTup [.call aTuple [.l 6], .l 3])]
def Φ_keptp : ASp := fun vs h Q => vs.length = 2 ∧ ∃ (v : Val) (d : PyData) (D R : Nat) (f : Nat → Nat → Nat × Nat) (x : Nat), vs = [v, .int x] ∧ Rep h v d ∧ KG D R f d ∧ Bnd D R f ∧ x < R ∧ D ≤ 100000 ∧ R ≤ 100000 ∧
  ∀ (a : Nat) (h' : AH), Gr h h' → h.length ≤ a → h'[a]? = some (.lst (intsN (kfound D R f x))) → Q (.tup [.tup (rws D (kfound D R f x).length (keptF f (kfound D R f x))), .ref a]) h'
theorem pV_seq {h : AH} {q : Nat × Nat} : seqOf h (pV q) = some [.int q.1, .int q.2] := rfl
theorem wp_keptp : ∀ vs h Q, Φ_keptp vs h Q → vs.length = 2 → wpSs (ir_kept_from Φ_plain) (startA 10 vs) h { nx := fun _ h' => Q .non h', rt := Q } := by
  rintro vs h Q ⟨-, v, d, D, R, f, x, rfl, rp, hk, hB, hx, hD, hR, q⟩ -
  refine wp_go fun N hN => ?_
  array_get_dec
  refine ⟨rfl, v, d, D, R, f, rfl, rp, hk, by omega, by omega, fun h1 g1 => ?_⟩
  refine hN _ _ (wp_go fun N hN => ?_)
  array_get_dec
  refine ⟨by simp, hN _ _ (wp_go fun N hN => ?_)⟩
  array_get_dec
  refine ⟨_, rfl, hN _ _ (wp_go fun N hN => ?_)⟩
  array_get_dec
  refine hN _ _ (wp_go fun N hN => ?_)
  array_get_dec
  have g2 : Gr h (h1 ++ [AO.lst [Val.int x]] ++ [AO.dct [(DK.k (.inl (x : Int)), Val.int 0)]]) := g1.trans ((Gr.app _).trans (Gr.app _))
  have ea := get_app (n := [AO.dct [(DK.k (.inl (x : Int)), Val.int 0)]]) (get_new (h := h1) (o := AO.lst [Val.int x]))
  have eb := get_new (h := h1 ++ [AO.lst [Val.int x]]) (o := AO.dct [(DK.k (.inl (x : Int)), Val.int 0)])
  rw [show (h1 ++ [AO.lst [Val.int x]]).length = h1.length + 1 by simp] at eb ⊢
  have hl := g1.le
  generalize h1.length = a at ea eb hl ⊢
  generalize h1 ++ [AO.lst [Val.int x]] ++ [AO.dct [(DK.k (.inl (x : Int)), Val.int 0)]] = h2 at g2 ea eb ⊢
  refine whl_inv (fun m sl h' => ∃ (n : Nat) (c7 c8 : Option Val), m = R - n ∧ sl = [some v, some (.int x), some (.tup (rws D R f)), some (.ref a), some (.ref (a + 1)), some (.int n), none, c7, c8, none] ∧ Gr h h' ∧ h'[a]? = some (.lst (intsN (bfs D f x n))) ∧ h'[a + 1]? = some (.dct (kvsN (bfs D f x n))))
    R ⟨0, _, _, rfl, rfl, g2, ea, eb⟩ fun m sl h3 N' hI hN' => ?_
  obtain ⟨n, c7, c8, rfl, rfl, g3, ea3, eb3⟩ := hI
  array_get_dec
  refine len_of (seq_ref ea3) ?_
  rw [intsN_len]
  decreasing_trivial
  have hlen := bfs_len (n := n) hB hx
  by_cases z : n < (bfs D f x n).length
  · rw [if_pos (by omega)]
    have ey := List.getElem?_eq_getElem z
    generalize (bfs D f x n)[n] = y at ey
    have hy := bfs_lt hB hx n y (List.mem_of_getElem? ey)
    refine wp_go fun N4 hN4 => ?_
    array_get_dec
    refine get_of (seq_ref ea3) (intsN_get ey) (get_of rfl (rws_get hy) ?_)
    refine for_inv (fun d sl h' => ∃ (c7 c8 : Option Val), sl = [some v, some (.int x), some (.tup (rws D R f)), some (.ref a), some (.ref (a + 1)), some (.int n), none, c7, c8, none] ∧ Gr h h' ∧ h'[a]? = some (.lst (intsN (kadd (f y) (bfs D f x n) d))) ∧ h'[a + 1]? = some (.dct (kvsN (kadd (f y) (bfs D f x n) d))))
      ⟨_, _, rfl, g3, ea3, eb3⟩ (fun d w sl h4 N5 hv hI hN5 => ⟨trivial, ?_⟩) fun sl h4 hI => ⟨trivial, ?_⟩
    · obtain ⟨c7, c8, rfl, g4, ea4, eb4⟩ := hI
      obtain ⟨hd, rfl⟩ := prs_inv hv
      have hkl : (kadd (f y) (bfs D f x n) d).length ≤ R := by
        have := bfs_len (n := n + 1) hB hx
        rw [bfs_step ey] at this
        exact Nat.le_trans (kadd_le (Nat.le_of_lt hd)).length_le this
      refine ⟨_, rfl, rfl, _, _, rfl, _, _, rfl, rfl, ?_⟩
      simp only [List.set_cons_zero, List.set_cons_succ]
      refine wp_go fun N6 hN6 => ?_
      array_get_dec
      refine memD_of eb4 (k := ik (f y d).2) rfl kvsN_sorts ?_
      rw [kvsN_get]
      decreasing_trivial
      have es : kadd (f y) (bfs D f x n) (d + 1) = if (f y d).2 ∈ kadd (f y) (bfs D f x n) d then kadd (f y) (bfs D f x n) d else kadd (f y) (bfs D f x n) d ++ [(f y d).2] := rfl
      by_cases hm : (f y d).2 ∈ kadd (f y) (bfs D f x n) d
      · rw [if_pos hm] at es ⊢
        exact hN6 _ _ (hN5 _ _ ⟨_, _, rfl, g4, by rw [es]; exact ea4, by rw [es]; exact eb4⟩)
      · rw [if_neg hm] at es ⊢
        refine wp_go fun N7 hN7 => ?_
        array_get_dec
        refine len_of (seq_ref ea4) (setD_of eb4 (k := ik (f y d).2) rfl kvsN_sorts (by rw [kvsN_len]; omega) ?_)
        rw [intsN_len, kvsN_snoc hm]
        have ea5 : (h4.set (a + 1) (.dct (kvsN (kadd (f y) (bfs D f x n) d ++ [(f y d).2]))))[a]? = some (.lst (intsN (kadd (f y) (bfs D f x n) d))) := by rw [get_setN (by omega)]; exact ea4
        refine hN7 _ _ (wp_go fun N8 hN8 => ?_)
        array_get_dec
        refine ls_of ea5 (app_of ea5 (by rw [intsN_len]; omega) ?_)
        refine hN8 _ _ (hN6 _ _ (hN5 _ _ ⟨_, _, rfl, (g4.setNew (by omega)).setNew (by omega), ?_, ?_⟩))
        · rw [get_set (lt_of ea5), es]; simp [intsN]
        · rw [get_setN (by omega), get_set (lt_of eb4), es]
    · obtain ⟨c7, c8, rfl, g4, ea4, eb4⟩ := hI
      rw [prs_len, ← bfs_step ey] at ea4 eb4
      refine hN4 _ _ (wp_go fun N5 hN5 => ?_)
      decreasing_trivial
      refine hN5 _ _ (hN' _ _ _ ?_ ⟨n + 1, _, _, rfl, rfl, g4, ea4, eb4⟩)
      omega
  · rw [if_neg (by omega)]
    have ef := kfound_end hB hx (show (bfs D f x n).length ≤ n by omega)
    rw [ef] at ea3 eb3
    have hFl := kfound_len hB hx
    refine hN _ _ (wp_go fun N5 hN5 => ?_)
    array_get_dec
    refine seq_of (.inr ⟨_, rfl, ea3⟩) fun chk hc => lc_map (Gr h3) (fun r => .tup (prs D (keptF f (kfound D R f x) r))) (by rw [intsN_len]; omega) Gr.rfl (fun r w h4 K hw g4 k => ⟨hc _ g4, ?_⟩) fun h4 g4 => ⟨hc _ g4, ?_⟩
    · have hr : r < (kfound D R f x).length := by rw [← intsN_len]; exact (List.getElem?_eq_some_iff.mp hw).1
      obtain ⟨_, i2, i3⟩ := nd_idx kfound_nd hr
      rw [intsN_get i3] at hw
      cases hw
      have hl := kfound_lt hB hx _ i2
      refine get_of rfl (rws_get hl) ?_
      refine lc_map (Gr h4) (fun d => pV (keptF f (kfound D R f x) r d)) (by rw [prs_len]; omega) Gr.rfl (fun d w h5 K2 hw2 g5 k2 => ⟨trivial, ?_⟩) fun h5 g5 => ⟨trivial, ?_⟩
      · obtain ⟨hd, rfl⟩ := prs_inv hw2
        refine ⟨_, rfl, rfl, _, _, rfl, _, _, rfl, rfl, ?_⟩
        have hm := kfound_clo hB hx i2 hd
        refine getD_of ((g4.trans g5).get eb3) (k := ik (f ((kfound D R f x).getD r 0) d).2) rfl (by rw [kvsN_get, if_pos hm]; rfl) ⟨by simp, k2 _ g5⟩
      · rw [prs_len]
        refine tuple_of (seq_ref get_new) (k _ (g4.trans (g5.trans (Gr.app _))))
    · rw [intsN_len]
      refine hN5 _ _ (wp_go fun N6 hN6 => ?_)
      array_get_dec
      refine tuple_of (seq_ref get_new) ⟨by simp, ?_⟩
      exact q a _ (g3.trans (g4.trans (Gr.app _))) hl (get_app (g4.get ea3))
/-! ### the law's own -/
def ir_law_kept : List IS := [.asg (.name 2) (.call aLst [.l 1]),
  .for (.name 3) wRng1 [.call aLenA [.l 0]] [.iff (.bool (.call aLt [.l 3, .call aLenA [.l 2]])) [.for (.tup [.name 5, .name 6]) wSeq [.call aGet [.l 0, .call aGet [.l 2, .l 3]]] [.iff (.bool (.call (aMem true) [.l 6, .l 2])) [.exp (.call aAppend (.call aLs [.l 2] :: [.l 6]))] []]] []],
  .asg (.name 4) (.lc [7] (.name 7) wSeq [.l 2] [] (.lc [5, 6] (.tup [.name 5, .name 6]) wSeq [.call aGet [.l 0, .l 7]] [] (.call aTup [.l 5, .call aIndex (.call aLs [.l 2] :: [.l 6])]))),
  .ret (.call aTup [.call aTuple [.lc [8] (.name 8) wSeq [.l 4] [] (.call aTuple [.l 8])], .l 2])]
def Φ_keptl : ASp := fun vs h Q => vs.length = 2 ∧ ∃ (D R : Nat) (f : Nat → Nat → Nat × Nat) (x : Nat), vs = [.tup (rws D R f), .int x] ∧ Bnd D R f ∧ x < R ∧ D ≤ 100000 ∧ R ≤ 100000 ∧
  ∀ (a : Nat) (h' : AH), Gr h h' → h.length ≤ a → h'[a]? = some (.lst (intsN (kfound D R f x))) → Q (.tup [.tup (rws D (kfound D R f x).length (keptF f (kfound D R f x))), .ref a]) h'
/-- each item's list, one behind the other -/
theorem lc_lists {body : Val → AH → (List Val → AH → Prop) → Prop} {chk : AH → Prop} {Q : List Val → AH → Prop} {h : AH} {xs : List Val} (g : Nat → List Val) (hn : xs.length ≤ 1000000) (hc : ∀ h', Gr h h' → chk h')
    (hb : ∀ (i : Nat) (v : Val) (h' : AH) (K : List Val → AH → Prop), xs[i]? = some v → Gr h h' → (K [.ref h'.length] (h' ++ [.lst (g i)])) → body v h' K)
    (he : Q ((List.range xs.length).map fun i => .ref (h.length + i)) (h ++ (List.range xs.length).map fun i => AO.lst (g i))) : lcW body chk xs [] h Q := by
  refine lc_inv (fun i acc h' => i ≤ xs.length ∧ h' = h ++ ((List.range i).map fun i => AO.lst (g i)) ∧ acc = (List.range i).map fun i => .ref (h.length + i)) ⟨Nat.zero_le _, by simp, rfl⟩ (fun i v acc h' K hv ⟨hi, eh, ea⟩ k => ?_) fun acc h' ⟨_, eh, ea⟩ => ?_
  · have hlt := (List.getElem?_eq_some_iff.mp hv).1
    subst eh ea
    refine ⟨hc _ (Gr.app _), hb i v _ K hv (Gr.app _) (k _ _ (by simp; omega) ⟨hlt, ?_, ?_⟩)⟩
    · rw [rng_snoc, List.append_assoc]
    · rw [rng_snoc]; simp
  · subst eh ea
    exact ⟨hc _ (Gr.app _), he⟩
theorem wp_keptl : ∀ vs h Q, Φ_keptl vs h Q → vs.length = 2 → wpSs ir_law_kept (startA 9 vs) h { nx := fun _ h' => Q .non h', rt := Q } := by
  rintro vs h Q ⟨-, D, R, f, x, rfl, hB, hx, hD, hR, q⟩ -
  refine wp_go fun N hN => ?_
  array_get_dec
  refine ⟨by simp, hN _ _ (wp_go fun N hN => ?_)⟩
  array_get_dec
  refine len_of rfl ?_
  rw [rws_len]
  have g2 : Gr h (h ++ [AO.lst [Val.int x]]) := Gr.app _
  have ea := get_new (h := h) (o := AO.lst [Val.int x])
  obtain ⟨a, ha⟩ : ∃ a, a = h.length := ⟨_, rfl⟩
  rw [← ha] at ea ⊢
  have hl : h.length ≤ a := by omega
  clear ha
  generalize h ++ [AO.lst [Val.int x]] = h2 at g2 ea ⊢
  refine ⟨⟨by decide, by decide, by omega, by omega⟩, for_inv (fun n sl h' => ∃ (c3 c5 c6 : Option Val), sl = [some (.tup (rws D R f)), some (.int x), some (.ref a), c3, none, c5, c6, none, none] ∧ Gr h h' ∧ h'[a]? = some (.lst (intsN (bfs D f x n))))
    ⟨_, _, _, rfl, g2, ea⟩ (fun n w sl h3 N' hv hI hN' => ⟨trivial, ?_⟩) fun sl h3 hI => ⟨trivial, ?_⟩⟩
  · obtain ⟨c3, c5, c6, rfl, g3, ea3⟩ := hI
    obtain ⟨hn, rfl⟩ := rgL_get hv
    rw [Int.zero_add]
    array_get_dec
    refine wp_go fun N4 hN4 => ?_
    array_get_dec
    refine len_of (seq_ref ea3) ?_
    rw [intsN_len]
    decreasing_trivial
    by_cases z : n < (bfs D f x n).length
    · rw [if_pos (by omega)]
      have ey := List.getElem?_eq_getElem z
      generalize (bfs D f x n)[n] = y at ey
      have hy := bfs_lt hB hx n y (List.mem_of_getElem? ey)
      refine wp_go fun N5 hN5 => ?_
      array_get_dec
      refine get_of (seq_ref ea3) (intsN_get ey) (get_of rfl (rws_get hy) ?_)
      refine for_inv (fun d sl h' => ∃ (c5 c6 : Option Val), sl = [some (.tup (rws D R f)), some (.int x), some (.ref a), some (.int n), none, c5, c6, none, none] ∧ Gr h h' ∧ h'[a]? = some (.lst (intsN (kadd (f y) (bfs D f x n) d))))
        ⟨_, _, rfl, g3, ea3⟩ (fun d w sl h4 N6 hv hI hN6 => ⟨trivial, ?_⟩) fun sl h4 hI => ⟨trivial, ?_⟩
      · obtain ⟨c5, c6, rfl, g4, ea4⟩ := hI
        obtain ⟨hd, rfl⟩ := prs_inv hv
        have hkl : (kadd (f y) (bfs D f x n) d).length ≤ R := by
          have := bfs_len (n := n + 1) hB hx
          rw [bfs_step ey] at this
          exact Nat.le_trans (kadd_le (Nat.le_of_lt hd)).length_le this
        refine ⟨_, rfl, rfl, _, _, rfl, _, _, rfl, rfl, ?_⟩
        simp only [List.set_cons_zero, List.set_cons_succ]
        refine wp_go fun N7 hN7 => ?_
        array_get_dec
        refine memI_of (seq_ref ea4) ?_
        decreasing_trivial
        have es : kadd (f y) (bfs D f x n) (d + 1) = if (f y d).2 ∈ kadd (f y) (bfs D f x n) d then kadd (f y) (bfs D f x n) d else kadd (f y) (bfs D f x n) d ++ [(f y d).2] := rfl
        by_cases hm : (f y d).2 ∈ kadd (f y) (bfs D f x n) d
        · rw [if_pos hm] at es
          have : ¬ (!decide ((f y d).2 ∈ kadd (f y) (bfs D f x n) d)) = true := by simp [hm]
          rw [if_neg this]
          exact hN7 _ _ (hN6 _ _ ⟨_, _, rfl, g4, by rw [es]; exact ea4⟩)
        · rw [if_neg hm] at es
          have : (!decide ((f y d).2 ∈ kadd (f y) (bfs D f x n) d)) = true := by simp [hm]
          rw [if_pos this]
          refine wp_go fun N8 hN8 => ?_
          array_get_dec
          refine ls_of ea4 (app_of ea4 (by rw [intsN_len]; omega) ?_)
          refine hN8 _ _ (hN7 _ _ (hN6 _ _ ⟨_, _, rfl, g4.setNew (by omega), ?_⟩))
          rw [get_set (lt_of ea4), es]; simp [intsN]
      · obtain ⟨c5, c6, rfl, g4, ea4⟩ := hI
        rw [prs_len, ← bfs_step ey] at ea4
        exact hN5 _ _ (hN4 _ _ (hN' _ _ ⟨_, _, _, rfl, g4, ea4⟩))
    · rw [if_neg (by omega)]
      exact hN4 _ _ (hN' _ _ ⟨_, _, _, rfl, g3, by rw [bfs_stop (by omega)]; exact ea3⟩)
  · obtain ⟨c3, c5, c6, rfl, g3, ea3⟩ := hI
    rw [rgL_len] at ea3
    have ea3 : h3[a]? = some (.lst (intsN (kfound D R f x))) := by
      have : ((R : Int) - 0).toNat = R := by omega
      rw [this] at ea3; exact ea3
    have hFl := kfound_len hB hx
    refine hN _ _ (wp_go fun N5 hN5 => ?_)
    array_get_dec
    refine seq_of (.inr ⟨_, rfl, ea3⟩) fun chk hc => lc_lists (fun r => prs D (keptF f (kfound D R f x) r)) (by rw [intsN_len]; omega) hc (fun r w h4 K hw g4 k => ?_) ?_
    · have hr : r < (kfound D R f x).length := by rw [← intsN_len]; exact (List.getElem?_eq_some_iff.mp hw).1
      obtain ⟨_, i2, i3⟩ := nd_idx kfound_nd hr
      rw [intsN_get i3] at hw
      cases hw
      have hl := kfound_lt hB hx _ i2
      refine get_of rfl (rws_get hl) ?_
      refine lc_map (fun h => h = h4) (fun d => pV (keptF f (kfound D R f x) r d)) (by rw [prs_len]; omega) rfl (fun d w h5 K2 hw2 g5 k2 => ⟨trivial, ?_⟩) fun h5 g5 => ⟨trivial, ?_⟩
      · subst g5
        obtain ⟨hd, rfl⟩ := prs_inv hw2
        refine ⟨_, rfl, rfl, _, _, rfl, _, _, rfl, rfl, ?_⟩
        have hm := kfound_clo hB hx i2 hd
        have e5 := g4.get ea3
        refine ls_of e5 (idxI_of e5 hm ⟨by simp, k2 _ rfl⟩)
      · subst g5
        rw [prs_len]
        exact k
    · rw [intsN_len]
      have gx : Gr h3 (h3 ++ (List.range (kfound D R f x).length).map fun i => AO.lst (prs D (keptF f (kfound D R f x) i))) := Gr.app _
      have er : ∀ r, r < (kfound D R f x).length → (h3 ++ (List.range (kfound D R f x).length).map fun i => AO.lst (prs D (keptF f (kfound D R f x) i)))[h3.length + r]? = some (.lst (prs D (keptF f (kfound D R f x) r))) := fun r hr => get_rng hr
      generalize h3 ++ ((List.range (kfound D R f x).length).map fun i => AO.lst (prs D (keptF f (kfound D R f x) i))) = h4 at gx er ⊢
      refine hN5 _ _ (wp_go fun N6 hN6 => ?_)
      array_get_dec
      have gy : Gr h4 (h4 ++ [AO.lst ((List.range (kfound D R f x).length).map fun i => .ref (h3.length + i))]) := Gr.app _
      have ey := get_new (h := h4) (o := AO.lst ((List.range (kfound D R f x).length).map fun i => .ref (h3.length + i)))
      refine seq_of (.inr ⟨_, rfl, ey⟩) fun chk hc => lc_map (Gr (h4 ++ [AO.lst ((List.range (kfound D R f x).length).map fun i => .ref (h3.length + i))])) (fun r => .tup (prs D (keptF f (kfound D R f x) r))) (by simp; omega) Gr.rfl (fun r w h5 K hw g5 k => ⟨hc _ g5, ?_⟩) fun h5 g5 => ⟨hc _ g5, ?_⟩
      · obtain ⟨hr, rfl⟩ := rng_get hw
        exact tuple_of (seq_ref ((gy.trans g5).get (er r hr))) (k _ g5)
      · rw [List.length_map, List.length_range]
        refine tuple_of (seq_ref get_new) ⟨by simp, ?_⟩
        have g6 := (gx.trans gy).trans g5
        exact q a _ (g3.trans (g6.trans (Gr.app _))) hl (get_app (g6.get ea3))
end Ev
namespace Ev
open PySem PySem.Spec PyProof.Rows L2
local macro_rules | `(tactic| decreasing_trivial) => `(tactic| simp only [wpS, wpE, wpEs, wpAnd, wpOr, wpT, wpTA, wpTO, wpQs, wpG, wpGs, truth, Option.map_some, Option.map_none, startA, List.map_cons, List.map_nil, List.length_cons, List.length_nil, List.cons_append, List.nil_append, List.replicate, List.getElem?_cons_zero, List.getElem?_cons_succ, Option.some.injEq, exists_eq_left', exists_eq_left, exists_eq_right, exists_eq', List.set_cons_zero, List.set_cons_succ, wipeS,
  and_assoc, exists_and_left, Val.bl.injEq, Val.int.injEq, Val.str.injEq, Val.tup.injEq, Val.ref.injEq, decide_eq_true_eq, and_true, true_and, seqOf_tup, seqOf_ref, seqOf_scr, seqOf_int, seqOf_bl, seqOf_str, seqOf_non, dctOf_ref, dctOf_tup, if_true, if_false, Bool.false_eq_true, ite_true, ite_false, reduceIte, reduceCtorEq, false_and, exists_false, and_false, List.cons.injEq, Nat.reduceAdd, Nat.reduceSub, Nat.zero_add,
  aAdd, aSub, aMul, aMod, aDiv, aPow, aNeg, aCmp, aLt, aLe, aGt, aGe, aTup, aLst, aGet, aSet, aLenA, aTuple, aList, aAbs, aInt, aDivmod, aAll, aAny, aMaxA, aMinA, aSum, aDict0, aLs, aDc, aAppend, aI, aSl00, aSl01, aSl10, aSl11, aCut, aIs, isNon, Bool.false_bne, Bool.true_bne, wSeq, wRng1, wRng2, wEnum, wZip, aEq_i, aEq_s, aEq_b, atI_0, atI_1, atI_2, atI_3, atI_n, ixN3_0, ixN3_1, ixN3_2, get_set, List.length_set, List.set_set, List.getElem?_map, aIsi, aIsi2, tyA, Bool.or_true, Bool.true_or, Bool.or_false, Bool.false_or, Bool.and_true, Bool.true_and, Bool.and_false, Bool.false_and, Bool.not_true, Bool.not_false, beq_self_eq_true, bne_self_eq_false, decide_true, decide_false, kb_NoneType_bool, kb_NoneType_int, kb_NoneType_str, kb_NoneType_list, kb_NoneType_tuple, kb_bool_bool, kb_bool_int, kb_bool_str, kb_bool_list, kb_bool_tuple, kb_int_bool, kb_int_int, kb_int_str, kb_int_list, kb_int_tuple, kb_str_bool, kb_str_int, kb_str_str, kb_str_list, kb_str_tuple, kb_list_bool, kb_list_int, kb_list_str, kb_list_list, kb_list_tuple, kb_tuple_bool, kb_tuple_int, kb_tuple_str, kb_tuple_list, kb_tuple_tuple, get_new, aLstRg1, aTupRg1, aAddI, aSubI, aDict1, List.length_map, List.length_range, rgL_len, Nat.reduceLeDiff, Nat.zero_le, AO.lst.injEq, AO.dct.injEq, *])
local macro_rules | `(tactic| array_get_dec) => `(tactic| try simp only [wpS, wpE, wpEs, wpAnd, wpOr, wpT, wpTA, wpTO, wpQs, wpG, wpGs, Option.map_some, Option.map_none, startA, List.map_cons, List.map_nil, List.length_cons, List.length_nil, List.cons_append, List.nil_append, List.replicate, List.getElem?_cons_zero, List.getElem?_cons_succ, Option.some.injEq, exists_eq_left', exists_eq_left, List.set_cons_zero, List.set_cons_succ, wipeS, if_true, if_false, Bool.false_eq_true, ite_true, ite_false, reduceIte, Nat.reduceAdd, Nat.reduceSub, Nat.zero_add])
/-! ### shared words -/
def intsD (F : List Nat) : List PyData := F.map fun n : Nat => PyData.int (n : Nat)
theorem rep_rwsR {h : AH} {D R : Nat} {f : Nat → Nat → Nat × Nat} : Rep h (.tup (rws D R f)) (mixD false false false D R f) := (RepS.tup (b := 0) rep_rws).r
theorem okDs_ints {F : List Nat} {n : Nat} : okDs n (intsD F) = true := by
  rw [okDs_all]
  intro x hx
  obtain ⟨m, _, rfl⟩ := List.mem_map.mp hx
  cases n <;> rfl
theorem bulk_ints {F : List Nat} : PyData.bulkAll (intsD F) = F.length := by
  induction F with
  | nil => rfl
  | cons x F ih =>
    show PyData.bulkAll (PyData.int x :: intsD F) = _
    rw [PyData.bulkAll, ih, List.length_cons]
    simp [PyData.bulk]
    omega
theorem eqI_of {h : AH} {a b : Nat} {ns : List Int} {neg : Bool} {Q : Val → AH → Prop} (e1 : h[a]? = some (.lst (ns.map .int))) (e2 : h[b]? = some (.lst (ns.map .int))) (q : Q (.bl (!neg)) h) : aEq neg [.ref a, .ref b] h Q := by
  have r : Reps h (ns.map Val.int) (ns.map PyData.int) := reps_map (fun n => .int n) ns
  have hs : okD 1 (.list (ns.map PyData.int)) = true := by
    show okDs 0 _ = true
    rw [okDs_all]
    intro x hx
    obtain ⟨m, _, rfl⟩ := List.mem_map.mp hx
    rfl
  refine ⟨_, _, .lst e1 r, .lst e2 r, okD_shaped hs, okD_shaped hs, ?_⟩
  rw [eqv_self 1 _ hs]
  cases neg <;> exact q
theorem repr_rws {D R : Nat} {f : Nat → Nat → Nat × Nat} {h : AH} {Q : Val → AH → Prop} (hB : Bnd D R f) (hD : D ≤ 1000) (hR : R ≤ 200) (q : Q (.str (mixD false false false D R f).shown) h) : aRepr [.tup (rws D R f)] h Q :=
  repr_ok (b := h.length) (a1 := false) (a2 := false) (a3 := false) (RepS.tup rep_rws) Kp.rfl hB hD hR q
theorem keptl_ok {D R x : Nat} {f : Nat → Nat → Nat × Nat} {h : AH} {Q : Val → AH → Prop} (hB : Bnd D R f) (hx : x < R) (hD : D ≤ 100000) (hR : R ≤ 100000) (q : ∀ (a : Nat) (h' : AH), Gr h h' → h.length ≤ a → h'[a]? = some (.lst (intsN (kfound D R f x))) → Q (.tup [.tup (rws D (kfound D R f x).length (keptF f (kfound D R f x))), .ref a]) h') : Φ_keptl [.tup (rws D R f), .int x] h Q := ⟨rfl, D, R, f, x, rfl, hB, hx, hD, hR, q⟩
theorem keptp_ok {D R x : Nat} {f : Nat → Nat → Nat × Nat} {h : AH} {v : Val} {a1 a2 a3 : Bool} {Q : Val → AH → Prop} (r : Rep h v (mixD a1 a2 a3 D R f)) (hB : Bnd D R f) (hx : x < R) (hD : D ≤ 100000) (hR : R ≤ 100000) (q : ∀ (a : Nat) (h' : AH), Gr h h' → h.length ≤ a → h'[a]? = some (.lst (intsN (kfound D R f x))) → Q (.tup [.tup (rws D (kfound D R f x).length (keptF f (kfound D R f x))), .ref a]) h') : Φ_keptp [v, .int x] h Q := ⟨rfl, v, _, D, R, f, x, rfl, r, KG_mix, hB, hx, hD, hR, q⟩
def catF (R1 : Nat) (f1 f2 : Nat → Nat → Nat × Nat) (r d : Nat) : Nat × Nat := if r < R1 then f1 r d else ((f2 (r - R1) d).1, (f2 (r - R1) d).2 + R1)
theorem cat_backs {D R1 R2 : Nat} {f1 f2 : Nat → Nat → Nat × Nat} (h1 : Backs D R1 f1) (h2 : Backs D R2 f2) : Backs D (R1 + R2) (catF R1 f1 f2) := by
  intro r d hr hd
  unfold catF
  by_cases z : r < R1
  · obtain ⟨b1, b2, b3⟩ := h1 r d z hd
    rw [if_pos z]
    exact ⟨b1, by omega, by rw [if_pos b2]; exact b3⟩
  · obtain ⟨b1, b2, b3⟩ := h2 (r - R1) d (by omega) hd
    rw [if_neg z]
    refine ⟨b1, by show _ + R1 < _; omega, ?_⟩
    show (if (f2 (r - R1) d).2 + R1 < R1 then _ else ((f2 ((f2 (r - R1) d).2 + R1 - R1) (f2 (r - R1) d).1).1, (f2 ((f2 (r - R1) d).2 + R1 - R1) (f2 (r - R1) d).1).2 + R1)) = _
    rw [if_neg (by omega), Nat.add_sub_cancel, b3]
    show (d, r - R1 + R1) = (d, r)
    rw [Nat.sub_add_cancel (by omega)]
theorem cat_rws {D R1 R2 : Nat} {f1 f2 : Nat → Nat → Nat × Nat} : rws D R1 f1 ++ rws D R2 (fun r d => ((f2 r d).1, (f2 r d).2 + R1)) = rws D (R1 + R2) (catF R1 f1 f2) := by
  unfold rws
  rw [rng_app]
  congr 1
  · refine List.map_congr_left fun r hr => ?_
    rw [prs_congr fun d hd => show f1 r d = catF R1 f1 f2 r d by unfold catF; rw [if_pos (List.mem_range.mp hr)]]
  · refine List.map_congr_left fun r hr => ?_
    rw [prs_congr fun d hd => show ((f2 r d).1, (f2 r d).2 + R1) = catF R1 f1 f2 (R1 + r) d by unfold catF; rw [if_neg (by omega), Nat.add_sub_cancel_left]]
theorem renamed_ok {D R a1 a2 : Nat} {f : Nat → Nat → Nat × Nat} {S T : List Nat} {h : AH} {Q : Val → AH → Prop} (hf : Backs D R f) (hD : D ≤ 1000) (hR : R ≤ 1000) (hS : S.Perm (List.range D)) (hT : T.Perm (List.range R)) (e1 : h[a1]? = some (.lst (intsN S))) (e2 : h[a2]? = some (.lst (intsN T))) (q : ∀ h', Gr h h' → Q (.tup (rws D R (renF S T f))) h') : Φ_renamed [.tup (rws D R f), .ref a1, .ref a2] h Q := ⟨rfl, D, R, f, a1, a2, S, T, rfl, hf, hD, hR, hS, hT, e1, e2, q⟩
theorem order_ok {b M n : Nat} {h : AH} {Q : Val → AH → Prop} (B : BoxAt h b M) (hM : M + n ≤ boxMax) (hn : n ≤ 100000) (q : ∀ (a : Nat) (T : List Nat) (h' : AH), T.Perm (List.range n) → h.length ≤ a → h'[a]? = some (.lst (intsN T)) → Kp b h h' → BoxAt h' b (M + n) → Q (.ref a) h') : Φ_order [.ref b, .int n] h Q := ⟨rfl, b, M, n, rfl, B, hM, hn, q⟩
theorem kindR_ok {b M D R : Nat} {h : AH} {Q : Val → AH → Prop} (B : BoxAt h b M) (hM : M + 4000 ≤ boxMax) (h1 : 1 ≤ D) (h2 : D ≤ 12) (h3 : 1 ≤ R) (h4 : R ≤ 64) (q : ∀ f h', Backs D R f → Kp b h h' → BoxAt h' b (M + 4000) → Q (.tup (rws D R f)) h') : Φ_kind [.ref b, .int D, .int R] h Q := ⟨rfl, b, M, D, R, rfl, B, hM, h1, h2, h3, h4, fun f h' hf g B' => by rw [kV_rws]; exact q f h' hf g B'⟩
theorem rgL_ints (n : Nat) : rgL 0 (n : Int) = intsN (List.range n) := by
  unfold rgL intsN
  rw [show ((n : Int) - 0).toNat = n by omega]
  simp
theorem one_nat (z : Nat) : (1 : Int) + z = ((1 + z : Nat) : Int) := by omega
theorem addI_of {i j : Int} {h : AH} {Q : Val → AH → Prop} (q : Q (.int (i + j)) h) : aAdd [.int i, .int j] h Q := q
theorem addT_of {xs ys : List Val} {h : AH} {Q : Val → AH → Prop} (hl : xs.length + ys.length ≤ 1000000) (q : Q (.tup (xs ++ ys)) h) : aAdd [.tup xs, .tup ys] h Q := ⟨hl, q⟩
def ir_law_line : List IS := [.asg (.name 1) (.call aLst []),
  .for (.name 2) wRng1 [.l 0] [.asg (.name 3) (.ite (.bool (.call aLt [.call aAdd [.l 2, .c (.int 1)], .l 0])) (.call aTup [.c (.int 1), .call aAdd [.l 2, .c (.int 1)]]) (.call aTup [.c (.int 0), .l 2])),
  .exp (.call aAppend (.call aLs [.l 1] :: [.call aTup [.l 3, .ite (.bool (.call aGt [.l 2, .c (.int 0)])) (.call aTup [.c (.int 0), .call aSub [.l 2, .c (.int 1)]]) (.call aTup [.c (.int 1), .l 2])]]))],
  .ret (.call aTuple [.l 1])]
def Φ_line : ASp := fun vs h Q => vs.length = 1 ∧ ∃ n : Nat, vs = [.int n] ∧ n ≤ 1000 ∧ ∀ h', Gr h h' → Q (.tup (rws 2 n (chainF n))) h'
theorem wp_line : ∀ vs h Q, Φ_line vs h Q → vs.length = 1 → wpSs ir_law_line (startA 4 vs) h { nx := fun _ h' => Q .non h', rt := Q } := by
  rintro vs h Q ⟨-, n, rfl, hn, q⟩ -
  refine wp_go fun N hN => ?_
  array_get_dec
  refine ⟨by simp, hN _ _ (wp_go fun N hN => ?_)⟩
  array_get_dec
  obtain ⟨a, ha⟩ : ∃ a, a = h.length := ⟨_, rfl⟩
  have e0 := get_new (h := h) (o := .lst [])
  rw [← ha] at e0 ⊢
  have la : h.length ≤ a := by omega
  clear ha
  refine ⟨⟨by decide, by decide, by omega, by omega⟩, for_inv (fun i sl h' => ∃ (c2 c3 : Option Val), sl = [some (.int n), some (.ref a), c2, c3] ∧ Gr h h' ∧ h'[a]? = some (.lst ((List.range i).map fun r => .tup (prs 2 (chainF n r))))) ⟨_, _, rfl, Gr.app _, e0⟩ (fun i w sl h1 N' hv hI hN' => ⟨trivial, ?_⟩) fun sl h1 hI => ⟨trivial, ?_⟩⟩
  · obtain ⟨c2, c3, rfl, g1, e1⟩ := hI
    obtain ⟨hi, rfl⟩ := rgL_get hv
    rw [Int.zero_add]
    array_get_dec
    refine wp_go fun N2 hN2 => ?_
    have key1 : ∀ q : Nat × Nat, chainF n i 0 = q → N2 [some (.int n), some (.ref a), some (.int i), some (pV q)] h1 := fun p hp => by
      refine hN2 _ _ (wp_go fun N3 hN3 => ?_)
      array_get_dec
      refine ls_of e1 ?_
      have key2 : ∀ p2 : Nat × Nat, chainF n i 1 = p2 → N3 [some (.int n), some (.ref a), some (.int i), some (pV p)] (h1.set a (.lst ((List.range i).map (fun r => Val.tup (prs 2 (chainF n r))) ++ [.tup [pV p, pV p2]]))) := fun p2 hp2 => by
        refine hN3 _ _ (hN' _ _ ⟨_, _, rfl, g1.setNew la, ?_⟩)
        rw [get_set (lt_of e1), rng_snoc, ← hp, ← hp2]
        rfl
      decreasing_trivial
      by_cases z : 0 < i
      · rw [if_pos (by omega)]
        refine ⟨by omega, ?_⟩
        have := key2 (0, i - 1) (by unfold chainF; rw [if_neg (by decide), if_pos z])
        rw [show pV (0, i - 1) = .tup [.int 0, .int ((i : Int) - 1)] by unfold pV; rw [show ((i - 1 : Nat) : Int) = (i : Int) - 1 by omega]; rfl] at this
        exact this
      · rw [if_neg (by omega)]
        refine ⟨by omega, ?_⟩
        exact key2 (1, i) (by unfold chainF; rw [if_neg (by decide), if_neg z])
    decreasing_trivial
    by_cases z : i + 1 < n
    · rw [if_pos (by omega)]
      exact key1 (1, i + 1) (by unfold chainF; rw [if_pos rfl, if_pos z])
    · rw [if_neg (by omega)]
      exact key1 (0, i) (by unfold chainF; rw [if_pos rfl, if_neg z])
  · obtain ⟨c2, c3, rfl, g1, e1⟩ := hI
    rw [rgL_len, show ((n : Int) - 0).toNat = n by omega] at e1
    refine hN _ _ (wp_go fun N hN => ?_)
    array_get_dec
    exact tuple_of (seq_ref e1) (q _ g1)
end Ev
namespace Ev
/-! ### rows of balls, the first of the shortest: the mathematics -/
def run (f : Nat → Nat → Nat × Nat) : Nat → List Nat → Nat
  | r, [] => r
  | r, d :: w => run f (f r d).2 w
def Good (D : Nat) (w : List Nat) : Prop := ∀ d, d ∈ w → d < D
def lexLe : List Nat → List Nat → Prop
  | [], _ => True
  | _ :: _, [] => False
  | a :: as, b :: bs => a < b ∨ (a = b ∧ lexLe as bs)
def SLe (a b : List Nat) : Prop := a.length < b.length ∨ (a.length = b.length ∧ lexLe a b)
section
variable {D R : Nat} {f : Nat → Nat → Nat × Nat} {x y s n m d : Nat} {u v w : List Nat}
theorem run_app : ∀ (u : List Nat) (x : Nat), run f x (u ++ v) = run f (run f x u) v
  | [], _ => rfl
  | d :: u, x => by show run f _ (u ++ v) = run f (run f _ u) v; exact run_app u _
theorem Good.app (a : Good D u) (b : Good D v) : Good D (u ++ v) := fun d h => (List.mem_append.mp h).elim (a d) (b d)
theorem Good.nil : Good D [] := fun _ h => absurd h (List.not_mem_nil)
theorem Good.one (h : d < D) : Good D [d] := fun e he => by rw [List.mem_singleton.mp he]; exact h
theorem Good.left (a : Good D (u ++ v)) : Good D u := fun d h => a d (List.mem_append_left _ h)
theorem Good.right (a : Good D (u ++ v)) : Good D v := fun d h => a d (List.mem_append_right _ h)
theorem run_lt (hB : Bnd D R f) : ∀ (w : List Nat) (x : Nat), x < R → Good D w → run f x w < R
  | [], _, h, _ => h
  | d :: w, x, h, g => run_lt hB w _ (hB x d h (g d (List.mem_cons_self ..))).2 fun e he => g e (List.mem_cons_of_mem _ he)
theorem lex_refl : ∀ a : List Nat, lexLe a a
  | [] => trivial
  | a :: as => .inr ⟨rfl, lex_refl as⟩
theorem lex_trans : ∀ {a b c : List Nat}, lexLe a b → lexLe b c → lexLe a c
  | [], _, _, _, _ => trivial
  | _ :: _, [], _, h, _ => h.elim
  | _ :: _, _ :: _, [], _, h => h.elim
  | a :: as, b :: bs, c :: cs, h1, h2 => by
    rcases h1 with h1 | ⟨rfl, h1⟩
    · rcases h2 with h2 | ⟨rfl, h2⟩
      · exact .inl (by omega)
      · exact .inl h1
    · rcases h2 with h2 | ⟨rfl, h2⟩
      · exact .inl h2
      · exact .inr ⟨rfl, lex_trans h1 h2⟩
theorem lex_anti : ∀ {a b : List Nat}, lexLe a b → lexLe b a → a = b
  | [], [], _, _ => rfl
  | [], _ :: _, _, h => h.elim
  | _ :: _, [], h, _ => h.elim
  | a :: as, b :: bs, h1, h2 => by
    rcases h1 with h1 | ⟨rfl, h1⟩
    · rcases h2 with h2 | ⟨rfl, h2⟩ <;> omega
    · rcases h2 with h2 | ⟨_, h2⟩
      · omega
      · rw [lex_anti h1 h2]
theorem lex_app : ∀ {a b c e : List Nat}, a.length = b.length → lexLe a b → lexLe c e → lexLe (a ++ c) (b ++ e)
  | [], [], _, _, _, _, h => h
  | [], _ :: _, _, _, h, _, _ => by simp at h
  | _ :: _, [], _, _, h, _, _ => by simp at h
  | a :: as, b :: bs, c, e, hl, h1, h2 => by
    rcases h1 with h1 | ⟨rfl, h1⟩
    · exact .inl h1
    · exact .inr ⟨rfl, lex_app (by simpa using hl) h1 h2⟩
theorem lex_appN : ∀ {a b c e : List Nat}, a.length = b.length → a ≠ b → lexLe a b → lexLe (a ++ c) (b ++ e)
  | [], [], _, _, _, h, _ => absurd rfl h
  | [], _ :: _, _, _, h, _, _ => by simp at h
  | _ :: _, [], _, _, h, _, _ => by simp at h
  | a :: as, b :: bs, c, e, hl, hn, h1 => by
    rcases h1 with h1 | ⟨rfl, h1⟩
    · exact .inl h1
    · exact .inr ⟨rfl, lex_appN (by simpa using hl) (fun z => hn (by rw [z])) h1⟩
theorem SLe.rfl : SLe u u := .inr ⟨Eq.refl _, lex_refl u⟩
theorem SLe.trans (a : SLe u v) (b : SLe v w) : SLe u w := by
  rcases a with a | ⟨a, a'⟩
  · rcases b with b | ⟨b, _⟩
    · exact .inl (by omega)
    · exact .inl (by omega)
  · rcases b with b | ⟨b, b'⟩
    · exact .inl (by omega)
    · exact .inr ⟨by omega, lex_trans a' b'⟩
theorem SLe.anti (a : SLe u v) (b : SLe v u) : u = v := by
  rcases a with a | ⟨a, a'⟩
  · rcases b with b | ⟨b, _⟩ <;> omega
  · rcases b with b | ⟨b, b'⟩
    · omega
    · exact lex_anti a' b'
theorem SLe.len (a : SLe u v) : u.length ≤ v.length := by
  rcases a with a | ⟨a, _⟩ <;> omega
theorem SLe.nil : SLe [] u := by
  cases u with
  | nil => exact SLe.rfl
  | cons _ _ => exact .inl (by simp)
theorem SLe.snoc (a : SLe u v) : SLe (u ++ [d]) (v ++ [d]) := by
  rcases a with a | ⟨a, a'⟩
  · exact .inl (by simp; exact a)
  · exact .inr ⟨by simp; exact a, lex_app a a' (lex_refl _)⟩
theorem SLe.snocN (a : SLe u v) (h : u ≠ v) : SLe (u ++ [d]) (v ++ [m]) := by
  rcases a with a | ⟨a, a'⟩
  · exact .inl (by simp; exact a)
  · exact .inr ⟨by simp; exact a, lex_appN a h a'⟩
theorem SLe.snocL (h : d ≤ m) : SLe (u ++ [d]) (u ++ [m]) := .inr ⟨by simp, lex_app (Eq.refl _) (lex_refl _) (by
  rcases Nat.lt_or_eq_of_le h with h | h
  · exact .inl h
  · exact .inr ⟨h, trivial⟩)⟩
/-! #### the search -/
def kaddP (g : Nat → Nat × Nat) (u : List Nat) (P : List (Nat × List Nat)) : Nat → List (Nat × List Nat)
  | 0 => P
  | d + 1 => if (g d).2 ∈ (kaddP g u P d).map (·.1) then kaddP g u P d else kaddP g u P d ++ [((g d).2, u ++ [d])]
def bfsP (D : Nat) (f : Nat → Nat → Nat × Nat) (x : Nat) : Nat → List (Nat × List Nat)
  | 0 => [(x, [])]
  | n + 1 => match (bfsP D f x n)[n]? with
    | some p => kaddP (f p.1) p.2 (bfsP D f x n) D
    | none => bfsP D f x n
structure PInv (D : Nat) (f : Nat → Nat → Nat × Nat) (x n d : Nat) (P : List (Nat × List Nat)) : Prop where
  nd : (P.map (·.1)).Nodup
  go : ∀ (i : Nat) (y : Nat) (u : List Nat), P[i]? = some (y, u) → Good D u ∧ run f x u = y ∧ u.length ≤ i
  so : ∀ (i j : Nat) (p q : Nat × List Nat), i < j → P[i]? = some p → P[j]? = some q → SLe p.2 q.2
  fr : ∀ (y : Nat) (u : List Nat), (y, u) ∈ P → u = [] ∨ ∃ i p e, P[i]? = some p ∧ (i < n ∨ i = n ∧ e < d) ∧ u = p.2 ++ [e]
  cl : ∀ (i e : Nat) (p : Nat × List Nat), (i < n ∨ i = n ∧ e < d) → e < D → P[i]? = some p → ∃ u, ((f p.1 e).2, u) ∈ P ∧ SLe u (p.2 ++ [e])
theorem PInv.start : PInv D f x 0 0 [(x, [])] := by
  refine ⟨by simp, fun i y u h => ?_, fun i j p q hij h1 h2 => ?_, fun y u h => ?_, fun i e p h => ?_⟩
  · cases i with
    | zero => simp at h; obtain ⟨rfl, rfl⟩ := h; exact ⟨Good.nil, rfl, Nat.le_refl _⟩
    | succ i => simp at h
  · cases j with
    | zero => omega
    | succ j => simp at h2
  · simp at h; exact .inl h.2
  · omega
theorem PInv.lt {P : List (Nat × List Nat)} {p : Nat × List Nat} (I : PInv D f x n d P) (hp : P[n]? = some p) (hd : d < D) : ∀ (y : Nat) (u : List Nat), (y, u) ∈ P → SLe u (p.2 ++ [d]) := fun y u h => by
  rcases I.fr y u h with h | ⟨i, q, e, hq, hi, rfl⟩
  · subst h; exact SLe.nil
  · rcases hi with hi | ⟨rfl, he⟩
    · refine (I.so i n q p hi hq hp).snocN fun z => ?_
      obtain ⟨_, h1, _⟩ := I.go i q.1 q.2 hq
      obtain ⟨_, h2, _⟩ := I.go n p.1 p.2 hp
      have e1 : (P.map (·.1))[i]? = some q.1 := by rw [List.getElem?_map, hq]; rfl
      have e2 : (P.map (·.1))[n]? = some p.1 := by rw [List.getElem?_map, hp]; rfl
      rw [← h1, z, h2, ← e2] at e1
      have hl : i < (P.map (·.1)).length := by simp; exact (List.getElem?_eq_some_iff.mp hq).1
      have := (List.getElem?_inj hl I.nd).mp e1
      omega
    · rw [hp] at hq; cases hq
      exact SLe.snocL (by omega)
theorem PInv.step {P : List (Nat × List Nat)} {p : Nat × List Nat} (I : PInv D f x n d P) (hp : P[n]? = some p) (hd : d < D) : PInv D f x n (d + 1) (if (f p.1 d).2 ∈ P.map (·.1) then P else P ++ [((f p.1 d).2, p.2 ++ [d])]) := by
  have lt := I.lt hp hd
  by_cases hm : (f p.1 d).2 ∈ P.map (·.1)
  · rw [if_pos hm]
    refine ⟨I.nd, I.go, I.so, fun y u h => ?_, fun i e q hi he hq => ?_⟩
    · rcases I.fr y u h with h | ⟨i, q, e, hq, hi, h⟩
      · exact .inl h
      · exact .inr ⟨i, q, e, hq, by omega, h⟩
    · by_cases z : i = n ∧ e = d
      · obtain ⟨rfl, rfl⟩ := z
        rw [hp] at hq; cases hq
        obtain ⟨q, hq, e⟩ := List.mem_map.mp hm
        exact ⟨q.2, by rw [← e]; exact hq, lt q.1 q.2 hq⟩
      · exact I.cl i e q (by omega) he hq
  · rw [if_neg hm]
    have hn : n < P.length := (List.getElem?_eq_some_iff.mp hp).1
    have get : ∀ {i : Nat} {q : Nat × List Nat}, P[i]? = some q → (P ++ [((f p.1 d).2, p.2 ++ [d])])[i]? = some q := fun {i q} h => by rw [List.getElem?_append_left (List.getElem?_eq_some_iff.mp h).1]; exact h
    have inv : ∀ {i : Nat} {q : Nat × List Nat}, (P ++ [((f p.1 d).2, p.2 ++ [d])])[i]? = some q → P[i]? = some q ∨ i = P.length ∧ q = ((f p.1 d).2, p.2 ++ [d]) := fun {i q} h => by
      by_cases z : i < P.length
      · rw [List.getElem?_append_left z] at h; exact .inl h
      · have hl := (List.getElem?_eq_some_iff.mp h).1
        simp at hl
        have : i = P.length := by omega
        subst this
        simp at h
        exact .inr ⟨rfl, h.symm⟩
    obtain ⟨g1, g2, g3⟩ := I.go n p.1 p.2 hp
    refine ⟨?_, fun i y u h => ?_, fun i j q r hij h1 h2 => ?_, fun y u h => ?_, fun i e q hi he hq => ?_⟩
    · rw [List.map_append]
      refine List.nodup_append.mpr ⟨I.nd, by simp, fun a ha b hb => ?_⟩
      simp at hb
      subst hb
      exact fun z => hm (z ▸ ha)
    · rcases inv h with h | ⟨hi, hq⟩
      · exact I.go i y u h
      · cases hq
        subst hi
        refine ⟨g1.app (Good.one hd), ?_, by simp; omega⟩
        rw [run_app, g2]; rfl
    · rcases inv h1 with h1 | ⟨rfl, h1⟩
      · rcases inv h2 with h2 | ⟨_, h2⟩
        · exact I.so i j q r hij h1 h2
        · subst h2
          exact lt q.1 q.2 (List.mem_of_getElem? h1)
      · have hl := (List.getElem?_eq_some_iff.mp h2).1
        simp at hl
        omega
    · rcases List.mem_append.mp h with h | h
      · rcases I.fr y u h with h | ⟨i, q, e, hq, hi, h⟩
        · exact .inl h
        · exact .inr ⟨i, q, e, get hq, by omega, h⟩
      · simp at h
        exact .inr ⟨n, p, d, get hp, .inr ⟨rfl, Nat.lt_succ_self _⟩, h.2⟩
    · have hq' : P[i]? = some q := by
        rcases inv hq with h | ⟨rfl, _⟩
        · exact h
        · omega
      by_cases z : i = n ∧ e = d
      · obtain ⟨rfl, rfl⟩ := z
        rw [hp] at hq'; cases hq'
        exact ⟨_, List.mem_append_right _ (List.mem_singleton.mpr rfl), SLe.rfl⟩
      · obtain ⟨u, h1, h2⟩ := I.cl i e q (by omega) he hq'
        exact ⟨u, List.mem_append_left _ h1, h2⟩
theorem kaddP_get {g : Nat → Nat × Nat} {u : List Nat} {n : Nat} {P : List (Nat × List Nat)} {p : Nat × List Nat} (hp : P[n]? = some p) : ∀ d, (kaddP g u P d)[n]? = some p
  | 0 => hp
  | d + 1 => by
    have ih := kaddP_get (g := g) (u := u) hp d
    show (if _ then _ else _)[n]? = _
    split
    · exact ih
    · rw [List.getElem?_append_left (List.getElem?_eq_some_iff.mp ih).1]; exact ih
theorem PInv.row {P : List (Nat × List Nat)} {p : Nat × List Nat} (I : PInv D f x n 0 P) (hp : P[n]? = some p) : ∀ d, d ≤ D → PInv D f x n d (kaddP (f p.1) p.2 P d)
  | 0, _ => I
  | d + 1, h => (I.row hp d (by omega)).step (kaddP_get hp d) h
theorem PInv.next {P : List (Nat × List Nat)} (I : PInv D f x n D P) : PInv D f x (n + 1) 0 P :=
  ⟨I.nd, I.go, I.so, fun y u h => by
    rcases I.fr y u h with h | ⟨i, q, e, hq, hi, h⟩
    · exact .inl h
    · exact .inr ⟨i, q, e, hq, by omega, h⟩, fun i e q hi he hq => I.cl i e q (by omega) he hq⟩
theorem PInv.skip {P : List (Nat × List Nat)} (I : PInv D f x n 0 P) (h : P[n]? = none) : PInv D f x (n + 1) 0 P :=
  ⟨I.nd, I.go, I.so, fun y u h => by
    rcases I.fr y u h with h | ⟨i, q, e, hq, hi, h⟩
    · exact .inl h
    · exact .inr ⟨i, q, e, hq, by omega, h⟩, fun i e q hi he hq => by
    by_cases z : i = n
    · subst z; rw [h] at hq; cases hq
    · exact I.cl i e q (by omega) he hq⟩
theorem bfsP_inv : ∀ n, PInv D f x n 0 (bfsP D f x n)
  | 0 => PInv.start
  | n + 1 => by
    have I := bfsP_inv n
    show PInv D f x (n + 1) 0 (match (bfsP D f x n)[n]? with | some p => kaddP (f p.1) p.2 (bfsP D f x n) D | none => bfsP D f x n)
    split
    · rename_i p hp
      exact (I.row hp D (Nat.le_refl _)).next
    · rename_i hp
      exact I.skip hp
theorem kaddP_map {g : Nat → Nat × Nat} {u : List Nat} {P : List (Nat × List Nat)} : ∀ d, (kaddP g u P d).map (·.1) = kadd g (P.map (·.1)) d
  | 0 => rfl
  | d + 1 => by
    have ih := kaddP_map (g := g) (u := u) (P := P) d
    show List.map _ (if _ then _ else _) = if _ then _ else _
    rw [ih]
    split
    · exact ih
    · rw [List.map_append, ih]; rfl
theorem bfsP_map : ∀ n, (bfsP D f x n).map (·.1) = bfs D f x n
  | 0 => rfl
  | n + 1 => by
    have ih := bfsP_map n
    show List.map _ (match (bfsP D f x n)[n]? with | some p => kaddP (f p.1) p.2 (bfsP D f x n) D | none => bfsP D f x n) = match (bfs D f x n)[n]? with | some y => kadd (f y) (bfs D f x n) D | none => bfs D f x n
    rw [← ih, List.getElem?_map]
    cases h : (bfsP D f x n)[n]? with
    | none => rfl
    | some p => exact kaddP_map D
theorem bfsP_len (n : Nat) : (bfsP D f x n).length = (bfs D f x n).length := by rw [← bfsP_map]; simp
theorem bfsP_step {p : Nat × List Nat} (h : (bfsP D f x n)[n]? = some p) : bfsP D f x (n + 1) = kaddP (f p.1) p.2 (bfsP D f x n) D := by
  show (match (bfsP D f x n)[n]? with | some p => kaddP (f p.1) p.2 (bfsP D f x n) D | none => bfsP D f x n) = _
  rw [h]
theorem bfsP_stop (h : (bfsP D f x n).length ≤ n) : bfsP D f x (n + 1) = bfsP D f x n := by
  show (match (bfsP D f x n)[n]? with | some p => kaddP (f p.1) p.2 (bfsP D f x n) D | none => bfsP D f x n) = _
  rw [List.getElem?_eq_none h]
theorem bfsP_stay (h : (bfsP D f x n).length ≤ n) : ∀ {m : Nat}, n ≤ m → bfsP D f x m = bfsP D f x n
  | 0, hm => by rw [show n = 0 by omega]
  | m + 1, hm => by
    by_cases z : n = m + 1
    · subst z; rfl
    · have e := bfsP_stay h (m := m) (by omega)
      rw [bfsP_stop (by rw [e]; omega), e]
def found (D R : Nat) (f : Nat → Nat → Nat × Nat) (x : Nat) : List (Nat × List Nat) := bfsP D f x R
theorem found_end (hB : Bnd D R f) (hx : x < R) (h : (bfsP D f x n).length ≤ n) : bfsP D f x n = found D R f x := by
  unfold found
  by_cases z : n ≤ R
  · exact (bfsP_stay h z).symm
  · exact bfsP_stay (by rw [bfsP_len]; exact bfs_len hB hx R) (by omega)
theorem found_map : (found D R f x).map (·.1) = kfound D R f x := bfsP_map R
/-- the first of the shortest rows -/
def FirstRow (D : Nat) (f : Nat → Nat → Nat × Nat) (x s : Nat) (u : List Nat) : Prop := Good D u ∧ run f x u = s ∧ ∀ v, Good D v → run f x v = s → SLe u v
def NoRow (D : Nat) (f : Nat → Nat → Nat × Nat) (x s : Nat) : Prop := ∀ v, Good D v → run f x v ≠ s
theorem FirstRow.one (a : FirstRow D f x s u) (b : FirstRow D f x s v) : u = v := (a.2.2 v b.1 b.2.1).anti (b.2.2 u a.1 a.2.1)
theorem found_all (hB : Bnd D R f) (hx : x < R) : ∀ (n : Nat) (w : List Nat), w.length = n → Good D w → ∃ u, (run f x w, u) ∈ found D R f x ∧ SLe u w := by
  have I : PInv D f x R 0 (found D R f x) := bfsP_inv R
  have hl : (found D R f x).length ≤ R := by unfold found; rw [bfsP_len]; exact bfs_len hB hx R
  intro n
  induction n with
  | zero =>
    intro w hw _
    have : w = [] := List.length_eq_zero_iff.mp hw
    subst this
    have h0 : x ∈ (found D R f x).map (·.1) := by rw [found_map]; exact kfound_first
    obtain ⟨p, hp, e⟩ := List.mem_map.mp h0
    obtain ⟨i, hi, e'⟩ := List.getElem_of_mem hp
    have h0' : (found D R f x)[0]? = some (x, []) := by
      have : ∀ n, (bfsP D f x n)[0]? = some (x, []) := fun n => by
        induction n with
        | zero => rfl
        | succ n ih =>
          show (match (bfsP D f x n)[n]? with | some p => kaddP (f p.1) p.2 (bfsP D f x n) D | none => bfsP D f x n)[0]? = _
          split
          · exact kaddP_get ih D
          · exact ih
      exact this R
    exact ⟨[], List.mem_of_getElem? h0', SLe.rfl⟩
  | succ n ih =>
    intro w hw hg
    have hne : w ≠ [] := fun z => by subst z; simp at hw
    obtain ⟨w', d, rfl⟩ : ∃ w' d, w = w' ++ [d] := ⟨w.dropLast, w.getLast hne, (List.dropLast_concat_getLast hne).symm⟩
    obtain ⟨u, hu, su⟩ := ih w' (by simpa using hw) hg.left
    have hd : d < D := hg d (by simp)
    obtain ⟨i, hi, ei⟩ := List.getElem_of_mem hu
    obtain ⟨v, hv, sv⟩ := I.cl i d _ (.inl (by omega)) hd (by rw [List.getElem?_eq_getElem hi, ei])
    refine ⟨v, ?_, sv.trans su.snoc⟩
    rw [run_app]
    exact hv
theorem found_row (hB : Bnd D R f) (hx : x < R) (h : (s, u) ∈ found D R f x) : FirstRow D f x s u ∧ u.length ≤ R := by
  have I : PInv D f x R 0 (found D R f x) := bfsP_inv R
  have hl : (found D R f x).length ≤ R := by unfold found; rw [bfsP_len]; exact bfs_len hB hx R
  obtain ⟨i, hi, e⟩ := List.getElem_of_mem h
  obtain ⟨g1, g2, g3⟩ := I.go i s u (by rw [List.getElem?_eq_getElem hi, e])
  refine ⟨⟨g1, g2, fun v gv hv => ?_⟩, by omega⟩
  obtain ⟨t, ht, st⟩ := found_all hB hx _ v rfl gv
  rw [hv] at ht
  have : t = u := by
    obtain ⟨j, hj, e'⟩ := List.getElem_of_mem ht
    have e1 : ((found D R f x).map (·.1))[i]? = some s := by rw [List.getElem?_map, List.getElem?_eq_getElem hi, e]; rfl
    have e2 : ((found D R f x).map (·.1))[j]? = some s := by rw [List.getElem?_map, List.getElem?_eq_getElem hj, e']; rfl
    have := (List.getElem?_inj (by simpa using hi) I.nd).mp (e1.trans e2.symm)
    subst this
    rw [e] at e'; cases e'; rfl
  subst this
  exact st
theorem found_none (hB : Bnd D R f) (hx : x < R) (h : s ∉ (found D R f x).map (·.1)) : NoRow D f x s := fun v gv hv => by
  obtain ⟨t, ht, _⟩ := found_all hB hx _ v rfl gv
  rw [hv] at ht
  exact h (List.mem_map.mpr ⟨_, ht, rfl⟩)
end
end Ev
namespace Ev
/-! ### how far: the mathematics -/
def dle (D : Nat) (f : Nat → Nat → Nat × Nat) (x s n : Nat) : Prop := ∃ u, Good D u ∧ run f x u = s ∧ u.length ≤ n
def Up (o : Option Nat) (n : Nat) : Prop := ∃ k, o = some k ∧ k ≤ n
def IsDist (D : Nat) (f : Nat → Nat → Nat × Nat) (x s : Nat) (o : Option Nat) : Prop := ∀ n, Up o n ↔ dle D f x s n
section
variable {D R : Nat} {f : Nat → Nat → Nat × Nat} {x y s t n m d i j k : Nat} {u v w : List Nat} {o p q : Option Nat}
theorem up_some : Up (some k) n ↔ k ≤ n := ⟨fun ⟨j, e, h⟩ => by cases e; exact h, fun h => ⟨k, rfl, h⟩⟩
theorem up_none : ¬ Up none n := fun ⟨_, e, _⟩ => nomatch e
theorem up_ext (h : ∀ n, Up o n ↔ Up p n) : o = p := by
  cases o with
  | none => cases p with
    | none => rfl
    | some k => exact absurd ((h k).mpr (up_some.mpr (Nat.le_refl _))) up_none
  | some j => cases p with
    | none => exact absurd ((h j).mp (up_some.mpr (Nat.le_refl _))) up_none
    | some k =>
      have h1 := up_some.mp ((h j).mp (up_some.mpr (Nat.le_refl _)))
      have h2 := up_some.mp ((h k).mpr (up_some.mpr (Nat.le_refl _)))
      rw [show j = k by omega]
theorem IsDist.one (a : IsDist D f x s o) (b : IsDist D f x s p) : o = p := up_ext fun n => (a n).trans (b n).symm
theorem dist_of (h : FirstRow D f x s u) : IsDist D f x s (some u.length) := fun n => by
  rw [up_some]
  exact ⟨fun hn => ⟨u, h.1, h.2.1, hn⟩, fun ⟨v, g, e, hn⟩ => Nat.le_trans (h.2.2 v g e).len hn⟩
theorem dist_no (h : NoRow D f x s) : IsDist D f x s none := fun n => ⟨fun z => absurd z up_none, fun ⟨v, g, e, _⟩ => absurd e (h v g)⟩
theorem dle_rfl : dle D f x x n := ⟨[], Good.nil, rfl, Nat.zero_le _⟩
theorem dle_mono (h : dle D f x s n) (hn : n ≤ m) : dle D f x s m := let ⟨u, a, b, c⟩ := h; ⟨u, a, b, Nat.le_trans c hn⟩
theorem dle_trans (a : dle D f x s n) (b : dle D f s t m) : dle D f x t (n + m) := by
  obtain ⟨u, a1, a2, a3⟩ := a
  obtain ⟨v, b1, b2, b3⟩ := b
  exact ⟨u ++ v, a1.app b1, by rw [run_app, a2, b2], by simp; omega⟩
theorem dle_step (hd : d < D) : dle D f x (f x d).2 1 := ⟨[d], Good.one hd, rfl, by simp⟩
theorem dle_zero : dle D f x s 0 ↔ x = s := ⟨fun ⟨u, _, b, c⟩ => by
  have : u = [] := List.length_eq_zero_iff.mp (by omega)
  subst this; exact b, fun h => h ▸ dle_rfl⟩
theorem run_back (hf : Backs D R f) : ∀ (u : List Nat) (x : Nat), x < R → Good D u → ∃ v, Good D v ∧ run f (run f x u) v = x ∧ v.length = u.length
  | [], x, _, _ => ⟨[], Good.nil, rfl, rfl⟩
  | d :: u, x, hx, g => by
    have hd := g d (List.mem_cons_self ..)
    obtain ⟨b1, b2, b3⟩ := hf x d hx hd
    obtain ⟨v, h1, h2, h3⟩ := run_back hf u (f x d).2 b2 fun e he => g e (List.mem_cons_of_mem _ he)
    refine ⟨v ++ [(f x d).1], h1.app (Good.one b1), ?_, by simp [h3]⟩
    rw [run_app]
    show run f (run f (run f (f x d).2 u) v) [(f x d).1] = x
    rw [h2]
    show (f (f x d).2 (f x d).1).2 = x
    rw [b3]
theorem dle_symm (hf : Backs D R f) (hx : x < R) (h : dle D f x s n) : dle D f s x n := by
  obtain ⟨u, a1, a2, a3⟩ := h
  obtain ⟨v, h1, h2, h3⟩ := run_back hf u x hx a1
  exact ⟨v, h1, by rw [← a2]; exact h2, by omega⟩
def osum : Option Nat → Option Nat → Option Nat
  | some a, some b => some (a + b)
  | _, _ => none
def omin2 : Option Nat → Option Nat → Option Nat
  | some a, some b => some (min a b)
  | some a, none => some a
  | none, r => r
def omin : List (Option Nat) → Option Nat
  | [] => none
  | o :: l => omin2 o (omin l)
theorem up_sum : Up (osum o p) n ↔ ∃ i j, Up o i ∧ Up p j ∧ i + j ≤ n := by
  cases o with
  | none => exact ⟨fun z => absurd z up_none, fun ⟨i, j, a, _⟩ => absurd a up_none⟩
  | some a => cases p with
    | none => exact ⟨fun z => absurd z up_none, fun ⟨i, j, _, b, _⟩ => absurd b up_none⟩
    | some b => exact ⟨fun z => ⟨a, b, up_some.mpr (Nat.le_refl _), up_some.mpr (Nat.le_refl _), up_some.mp z⟩, fun ⟨i, j, h1, h2, h3⟩ => up_some.mpr (by
      have := up_some.mp h1; have := up_some.mp h2; omega)⟩
theorem up_min {n : Nat} : ∀ {l : List (Option Nat)}, Up (omin l) n ↔ ∃ o, o ∈ l ∧ Up o n
  | [] => ⟨fun z => absurd z up_none, fun ⟨_, h, _⟩ => absurd h List.not_mem_nil⟩
  | o :: l => by
    have ih := up_min (n := n) (l := l)
    have e : (∃ o', o' ∈ o :: l ∧ Up o' n) ↔ Up o n ∨ Up (omin l) n := by
      rw [ih]
      refine ⟨fun ⟨o', h, z⟩ => ?_, fun h => ?_⟩
      · rcases List.mem_cons.mp h with rfl | h
        · exact .inl z
        · exact .inr ⟨o', h, z⟩
      · rcases h with h | ⟨o', h, z⟩
        · exact ⟨o, List.mem_cons_self .., h⟩
        · exact ⟨o', List.mem_cons_of_mem _ h, z⟩
    rw [e]
    show Up (omin2 o (omin l)) n ↔ _
    cases o with
    | none => exact ⟨.inr, fun h => h.elim (fun z => absurd z up_none) id⟩
    | some a => cases omin l with
      | none => exact ⟨.inl, fun h => h.elim id fun z => absurd z up_none⟩
      | some b =>
        show Up (some (min a b)) n ↔ _
        rw [up_some, up_some, up_some]
        omega
/-! #### a door more -/
def doorF (D : Nat) (f : Nat → Nat → Nat × Nat) (a b r d : Nat) : Nat × Nat := if d = D then (D, if r = a then b else if r = b then a else r) else f r d
theorem door_backs {a b : Nat} (hf : Backs D R f) (ha : a < R) (hb : b < R) : Backs (D + 1) R (doorF D f a b) := fun r d hr hd => by
  unfold doorF
  by_cases z : d = D
  · rw [if_pos z]
    refine ⟨Nat.lt_succ_self _, ?_, ?_⟩
    · show (if r = a then b else if r = b then a else r) < R
      split
      · exact hb
      · split
        · exact ha
        · exact hr
    · show (if D = D then (D, if (if r = a then b else if r = b then a else r) = a then b else if (if r = a then b else if r = b then a else r) = b then a else (if r = a then b else if r = b then a else r)) else _) = (d, r)
      rw [if_pos rfl, z]
      congr 1
      by_cases h1 : r = a
      · rw [if_pos h1]
        by_cases h2 : b = a
        · rw [if_pos h2]; omega
        · rw [if_neg h2, if_pos rfl]; omega
      · rw [if_neg h1]
        by_cases h2 : r = b
        · rw [if_pos h2, if_pos rfl]; omega
        · rw [if_neg h2, if_neg h1, if_neg h2]
  · rw [if_neg z]
    obtain ⟨b1, b2, b3⟩ := hf r d hr (by omega)
    exact ⟨by omega, b2, by rw [if_neg (by omega)]; exact b3⟩
def wayM (D : Nat) (f : Nat → Nat → Nat × Nat) (a b x s n : Nat) : Prop := dle D f x s n ∨ (∃ i j, dle D f x a i ∧ dle D f b s j ∧ i + 1 + j ≤ n) ∨ ∃ i j, dle D f x b i ∧ dle D f a s j ∧ i + 1 + j ≤ n
theorem wayM_step {a b : Nat} (h : dle D f x y 1) (w : wayM D f a b y s n) : wayM D f a b x s (n + 1) := by
  rcases w with w | ⟨i, j, h1, h2, h3⟩ | ⟨i, j, h1, h2, h3⟩
  · exact .inl (dle_mono (dle_trans h w) (by omega))
  · exact .inr (.inl ⟨1 + i, j, dle_trans h h1, h2, by omega⟩)
  · exact .inr (.inr ⟨1 + i, j, dle_trans h h1, h2, by omega⟩)
theorem wayM_mono {a b : Nat} (w : wayM D f a b x s n) (h : n ≤ m) : wayM D f a b x s m := by
  rcases w with w | ⟨i, j, h1, h2, h3⟩ | ⟨i, j, h1, h2, h3⟩
  · exact .inl (dle_mono w h)
  · exact .inr (.inl ⟨i, j, h1, h2, by omega⟩)
  · exact .inr (.inr ⟨i, j, h1, h2, by omega⟩)
theorem wayM_swap {a b : Nat} (w : wayM D f b a x s n) : wayM D f a b x s n := by
  rcases w with w | w | w
  · exact .inl w
  · exact .inr (.inr w)
  · exact .inr (.inl w)
theorem wayM_over {a b : Nat} (w : wayM D f a b b s n) : wayM D f a b a s (n + 1) := by
  rcases w with w | ⟨i, j, h1, h2, h3⟩ | ⟨i, j, h1, h2, h3⟩
  · exact .inr (.inl ⟨0, n, dle_rfl, w, by omega⟩)
  · exact .inr (.inl ⟨0, j, dle_rfl, h2, by omega⟩)
  · exact .inl (dle_mono h2 (by omega))
theorem door_way {a b : Nat} : ∀ (u : List Nat) (x : Nat), Good (D + 1) u → run (doorF D f a b) x u = s → wayM D f a b x s u.length
  | [], x, _, e => .inl (e ▸ dle_rfl)
  | d :: u, x, g, e => by
    have ih := door_way u _ (fun e he => g e (List.mem_cons_of_mem _ he)) (show run (doorF D f a b) (doorF D f a b x d).2 u = s from e)
    have hd := g d (List.mem_cons_self ..)
    show wayM D f a b x s (u.length + 1)
    by_cases z : d = D
    · have e2 : (doorF D f a b x d).2 = if x = a then b else if x = b then a else x := by unfold doorF; rw [if_pos z]
      rw [e2] at ih
      by_cases h1 : x = a
      · subst h1
        rw [if_pos rfl] at ih
        exact wayM_over ih
      · rw [if_neg h1] at ih
        by_cases h2 : x = b
        · subst h2
          rw [if_pos rfl] at ih
          exact wayM_swap (wayM_over (wayM_swap ih))
        · rw [if_neg h2] at ih
          exact wayM_mono ih (by omega)
    · have e2 : (doorF D f a b x d).2 = (f x d).2 := by unfold doorF; rw [if_neg z]
      rw [e2] at ih
      exact wayM_step (dle_step (by omega)) ih
theorem door_run {a b : Nat} : ∀ (u : List Nat) (x : Nat), Good D u → run (doorF D f a b) x u = run f x u
  | [], _, _ => rfl
  | d :: u, x, g => by
    have hd := g d (List.mem_cons_self ..)
    show run _ (doorF D f a b x d).2 u = run f (f x d).2 u
    have e2 : (doorF D f a b x d).2 = (f x d).2 := by unfold doorF; rw [if_neg (by omega)]
    rw [e2]
    exact door_run u _ fun e he => g e (List.mem_cons_of_mem _ he)
theorem door_dle {a b : Nat} : dle (D + 1) (doorF D f a b) x s n ↔ wayM D f a b x s n := by
  have up : ∀ {x s n}, dle D f x s n → dle (D + 1) (doorF D f a b) x s n := fun ⟨u, g, e, l⟩ => ⟨u, fun d hd => Nat.lt_succ_of_lt (g d hd), by rw [door_run u _ g]; exact e, l⟩
  have ab : dle (D + 1) (doorF D f a b) a b 1 := ⟨[D], Good.one (Nat.lt_succ_self _), by show (doorF D f a b a D).2 = b; unfold doorF; rw [if_pos rfl, if_pos rfl], by simp⟩
  have ba : dle (D + 1) (doorF D f a b) b a 1 := ⟨[D], Good.one (Nat.lt_succ_self _), by
    show (doorF D f a b b D).2 = a
    unfold doorF; rw [if_pos rfl]
    show (if b = a then b else if b = b then a else b) = a
    split
    · assumption
    · rw [if_pos rfl], by simp⟩
  refine ⟨fun ⟨u, g, e, l⟩ => wayM_mono (door_way u x g e) l, fun w => ?_⟩
  rcases w with w | ⟨i, j, h1, h2, h3⟩ | ⟨i, j, h1, h2, h3⟩
  · exact up w
  · exact dle_mono (dle_trans (dle_trans (up h1) ab) (up h2)) h3
  · exact dle_mono (dle_trans (dle_trans (up h1) ba) (up h2)) h3
theorem door_dist {a b : Nat} {o1 o2 o3 o4 o5 o' : Option Nat} (h1 : IsDist D f x s o1) (h2 : IsDist D f x a o2) (h3 : IsDist D f b s o3) (h4 : IsDist D f x b o4) (h5 : IsDist D f a s o5) (h' : IsDist (D + 1) (doorF D f a b) x s o') :
    o' = omin [o1, osum (osum o2 (some 1)) o3, osum (osum o4 (some 1)) o5] := up_ext fun n => by
  rw [h' n, door_dle, up_min]
  have key : ∀ {p q : Option Nat} {x a b s : Nat}, IsDist D f x a p → IsDist D f b s q → (Up (osum (osum p (some 1)) q) n ↔ ∃ i j, dle D f x a i ∧ dle D f b s j ∧ i + 1 + j ≤ n) := fun {p q x a b s} hp hq => by
    rw [up_sum]
    refine ⟨fun ⟨i, j, a1, a2, a3⟩ => ?_, fun ⟨i, j, a1, a2, a3⟩ => ⟨i + 1, j, up_sum.mpr ⟨i, 1, (hp i).mpr a1, up_some.mpr (Nat.le_refl _), Nat.le_refl _⟩, (hq j).mpr a2, a3⟩⟩
    obtain ⟨i', k, b1, b2, b3⟩ := up_sum.mp a1
    have := up_some.mp b2
    exact ⟨i', j, (hp i').mp b1, (hq j).mp a2, by omega⟩
  constructor
  · intro w
    rcases w with w | w | w
    · exact ⟨o1, by simp, (h1 n).mpr w⟩
    · exact ⟨_, by simp, (key h2 h3).mpr w⟩
    · exact ⟨_, by simp, (key h4 h5).mpr w⟩
  · rintro ⟨o, hm, ho⟩
    simp only [List.mem_cons, List.not_mem_nil, or_false] at hm
    rcases hm with rfl | rfl | rfl
    · exact .inl ((h1 n).mp ho)
    · exact .inr (.inl ((key h2 h3).mp ho))
    · exact .inr (.inr ((key h4 h5).mp ho))
/-! #### side by side -/
def lefts (D1 : Nat) (w : List Nat) : List Nat := w.filter fun d => decide (d < D1)
def rights (D1 : Nat) (w : List Nat) : List Nat := (w.filter fun d => !decide (d < D1)).map fun d => d - D1
def shift (D1 : Nat) (w : List Nat) : List Nat := w.map fun d => d + D1
theorem left_len {D1 : Nat} : ∀ w : List Nat, w.length = (lefts D1 w).length + (rights D1 w).length
  | [] => rfl
  | d :: w => by
    have ih := left_len (D1 := D1) w
    unfold lefts rights at ih ⊢
    by_cases h : d < D1
    · simp [List.filter_cons, h] at ih ⊢; omega
    · simp [List.filter_cons, h] at ih ⊢; omega
theorem left_lex {D1 : Nat} : ∀ w : List Nat, lexLe (lefts D1 w ++ shift D1 (rights D1 w)) w
  | [] => trivial
  | d :: w => by
    have ih := left_lex (D1 := D1) w
    by_cases h : d < D1
    · have e1 : lefts D1 (d :: w) = d :: lefts D1 w := by unfold lefts; simp [List.filter_cons, h]
      have e2 : rights D1 (d :: w) = rights D1 w := by unfold rights; simp [List.filter_cons, h]
      rw [e1, e2]
      exact .inr ⟨rfl, ih⟩
    · have e1 : lefts D1 (d :: w) = lefts D1 w := by unfold lefts; simp [List.filter_cons, h]
      have e2 : rights D1 (d :: w) = (d - D1) :: rights D1 w := by unfold rights; simp [List.filter_cons, h]
      rw [e1, e2]
      cases hl : lefts D1 w with
      | cons a l =>
        have : a ∈ lefts D1 w := by rw [hl]; exact List.mem_cons_self ..
        have : a < D1 := by
          unfold lefts at this
          simpa using (List.mem_filter.mp this).2
        exact .inl (by omega)
      | nil =>
        rw [hl] at ih
        refine .inr ⟨by show d - D1 + D1 = d; omega, ?_⟩
        exact ih
theorem shift_lex {D1 : Nat} : ∀ {a b : List Nat}, lexLe a b → lexLe (shift D1 a) (shift D1 b)
  | [], _, _ => trivial
  | _ :: _, [], h => h.elim
  | a :: as, b :: bs, h => by
    rcases h with h | ⟨rfl, h⟩
    · exact .inl (by show a + D1 < b + D1; omega)
    · exact .inr ⟨rfl, shift_lex h⟩
theorem left_good {D1 D2 : Nat} {w : List Nat} (g : Good (D1 + D2) w) : Good D1 (lefts D1 w) ∧ Good D2 (rights D1 w) := by
  refine ⟨fun d hd => ?_, fun d hd => ?_⟩
  · simpa using (List.mem_filter.mp hd).2
  · obtain ⟨e, he, rfl⟩ := List.mem_map.mp hd
    obtain ⟨h1, h2⟩ := List.mem_filter.mp he
    have := g e h1
    simp at h2
    omega
theorem bs_run {D1 D2 R1 R2 : Nat} {f1 f2 : Nat → Nat → Nat × Nat} (hB : Bnd D2 R2 f2) : ∀ (w : List Nat) (r i : Nat), i < R2 → Good (D1 + D2) w → run (bsF D1 R2 f1 f2) (r * R2 + i) w = run f1 r (lefts D1 w) * R2 + run f2 i (rights D1 w)
  | [], _, _, _, _ => rfl
  | d :: w, r, i, hi, g => by
    have hd := g d (List.mem_cons_self ..)
    have g' : Good (D1 + D2) w := fun e he => g e (List.mem_cons_of_mem _ he)
    obtain ⟨m1, m2⟩ := dm (q := r) hi
    show run _ (bsF D1 R2 f1 f2 (r * R2 + i) d).2 w = _
    by_cases h : d < D1
    · have e1 : lefts D1 (d :: w) = d :: lefts D1 w := by unfold lefts; simp [List.filter_cons, h]
      have e2 : rights D1 (d :: w) = rights D1 w := by unfold rights; simp [List.filter_cons, h]
      have e3 : (bsF D1 R2 f1 f2 (r * R2 + i) d).2 = (f1 r d).2 * R2 + i := by unfold bsF; rw [if_pos h, m1, m2]
      rw [e1, e2, e3, bs_run (R1 := R1) hB w _ i hi g']
      rfl
    · have e1 : lefts D1 (d :: w) = lefts D1 w := by unfold lefts; simp [List.filter_cons, h]
      have e2 : rights D1 (d :: w) = (d - D1) :: rights D1 w := by unfold rights; simp [List.filter_cons, h]
      have e3 : (bsF D1 R2 f1 f2 (r * R2 + i) d).2 = r * R2 + (f2 i (d - D1)).2 := by unfold bsF; rw [if_neg h, m1, m2]
      rw [e1, e2, e3, bs_run (R1 := R1) hB w r _ (hB i (d - D1) hi (by omega)).2 g']
      rfl
theorem shift_app {D1 : Nat} {u v : List Nat} {D2 : Nat} (hu : Good D1 u) : lefts D1 (u ++ shift D1 v) = u ∧ rights D1 (u ++ shift D1 v) = v := by
  have l1 : ∀ u : List Nat, Good D1 u → u.filter (fun d => decide (d < D1)) = u := fun u hu => List.filter_eq_self.mpr fun d hd => decide_eq_true (hu d hd)
  have l2 : ∀ u : List Nat, Good D1 u → u.filter (fun d => !decide (d < D1)) = [] := fun u hu => List.filter_eq_nil_iff.mpr fun d hd => by simp [hu d hd]
  have r1 : (shift D1 v).filter (fun d => decide (d < D1)) = [] := List.filter_eq_nil_iff.mpr fun d hd => by
    obtain ⟨e, _, rfl⟩ := List.mem_map.mp hd
    simp
  have r2 : (shift D1 v).filter (fun d => !decide (d < D1)) = shift D1 v := List.filter_eq_self.mpr fun d hd => by
    obtain ⟨e, _, rfl⟩ := List.mem_map.mp hd
    simp
  refine ⟨by unfold lefts; rw [List.filter_append, l1 u hu, r1, List.append_nil], ?_⟩
  unfold rights
  rw [List.filter_append, l2 u hu, r2, List.nil_append]
  unfold shift
  rw [List.map_map]
  have : ((fun d => d - D1) ∘ fun d => d + D1) = id := funext fun d => by show d + D1 - D1 = d; omega
  rw [this, List.map_id]
theorem pair_inj {R2 r t i j : Nat} (hi : i < R2) (hj : j < R2) (h : r * R2 + i = t * R2 + j) : r = t ∧ i = j := by
  obtain ⟨a1, a2⟩ := dm (q := r) hi
  obtain ⟨b1, b2⟩ := dm (q := t) hj
  rw [h] at a1 a2
  exact ⟨a1.symm.trans b1, a2.symm.trans b2⟩
theorem run_ltG {D2 R2 : Nat} {f2 : Nat → Nat → Nat × Nat} (hB : Bnd D2 R2 f2) (hi : i < R2) (g : Good D2 w) : run f2 i w < R2 := run_lt hB w i hi g
theorem bs_first {D1 D2 R1 R2 r t i j : Nat} {f1 f2 : Nat → Nat → Nat × Nat} (hB : Bnd D2 R2 f2) (hi : i < R2) (hj : j < R2) (h1 : FirstRow D1 f1 r t u) (h2 : FirstRow D2 f2 i j v) : FirstRow (D1 + D2) (bsF D1 R2 f1 f2) (r * R2 + i) (t * R2 + j) (u ++ shift D1 v) := by
  have gg : Good (D1 + D2) (u ++ shift D1 v) := by
    refine Good.app (fun d hd => ?_) fun d hd => ?_
    · have := h1.1 d hd; omega
    · obtain ⟨e, he, rfl⟩ := List.mem_map.mp hd
      have := h2.1 e he; omega
  obtain ⟨s1, s2⟩ := shift_app (D2 := D2) (v := v) h1.1
  refine ⟨gg, by rw [bs_run (R1 := R1) hB _ r i hi gg, s1, s2, h1.2.1, h2.2.1], fun w gw ew => ?_⟩
  rw [bs_run (R1 := R1) hB w r i hi gw] at ew
  obtain ⟨gl, gr⟩ := left_good gw
  obtain ⟨e1, e2⟩ := pair_inj (run_ltG hB hi gr) hj ew
  have a1 := h1.2.2 _ gl e1
  have a2 := h2.2.2 _ gr e2
  have hl := left_len (D1 := D1) w
  have n1 := a1.len
  have n2 := a2.len
  have hs : (u ++ shift D1 v).length = u.length + v.length := by simp [shift]
  by_cases z : u.length = (lefts D1 w).length ∧ v.length = (rights D1 w).length
  · obtain ⟨z1, z2⟩ := z
    refine .inr ⟨by omega, lex_trans ?_ (left_lex (D1 := D1) w)⟩
    rcases a1 with a1 | ⟨_, a1⟩
    · omega
    rcases a2 with a2 | ⟨_, a2⟩
    · omega
    exact lex_app z1 a1 (shift_lex a2)
  · exact .inl (by omega)
theorem bs_no {D1 D2 R1 R2 r t i j : Nat} {f1 f2 : Nat → Nat → Nat × Nat} (hB : Bnd D2 R2 f2) (hi : i < R2) (hj : j < R2) (h : NoRow D1 f1 r t ∨ NoRow D2 f2 i j) : NoRow (D1 + D2) (bsF D1 R2 f1 f2) (r * R2 + i) (t * R2 + j) := fun w gw ew => by
  rw [bs_run (R1 := R1) hB w r i hi gw] at ew
  obtain ⟨gl, gr⟩ := left_good gw
  obtain ⟨e1, e2⟩ := pair_inj (run_ltG hB hi gr) hj ew
  rcases h with h | h
  · exact h _ gl e1
  · exact h _ gr e2
end
end Ev
namespace Ev
open PySem PySem.Spec PyProof.Rows L2
local macro_rules | `(tactic| decreasing_trivial) => `(tactic| simp only [wpS, wpE, wpEs, wpAnd, wpOr, wpT, wpTA, wpTO, wpQs, wpG, wpGs, truth, Option.map_some, Option.map_none, startA, List.map_cons, List.map_nil, List.length_cons, List.length_nil, List.cons_append, List.nil_append, List.replicate, List.getElem?_cons_zero, List.getElem?_cons_succ, Option.some.injEq, exists_eq_left', exists_eq_left, exists_eq_right, exists_eq', List.set_cons_zero, List.set_cons_succ, wipeS,
  and_assoc, exists_and_left, Val.bl.injEq, Val.int.injEq, Val.str.injEq, Val.tup.injEq, Val.ref.injEq, decide_eq_true_eq, and_true, true_and, seqOf_tup, seqOf_ref, seqOf_scr, seqOf_int, seqOf_bl, seqOf_str, seqOf_non, dctOf_ref, dctOf_tup, if_true, if_false, Bool.false_eq_true, ite_true, ite_false, reduceIte, reduceCtorEq, false_and, exists_false, and_false, List.cons.injEq, Nat.reduceAdd, Nat.reduceSub, Nat.zero_add,
  aAdd, aSub, aMul, aMod, aDiv, aPow, aNeg, aCmp, aLt, aLe, aGt, aGe, aTup, aLst, aGet, aSet, aLenA, aTuple, aList, aAbs, aInt, aDivmod, aAll, aAny, aMaxA, aMinA, aSum, aDict0, aLs, aDc, aAppend, aI, aSl00, aSl01, aSl10, aSl11, aCut, aIs, isNon, Bool.false_bne, Bool.true_bne, wSeq, wRng1, wRng2, wEnum, wZip, aEq_i, aEq_s, aEq_b, atI_0, atI_1, atI_2, atI_3, atI_n, ixN3_0, ixN3_1, ixN3_2, get_set, List.length_set, List.set_set, List.getElem?_map, aIsi, aIsi2, tyA, Bool.or_true, Bool.true_or, Bool.or_false, Bool.false_or, Bool.and_true, Bool.true_and, Bool.and_false, Bool.false_and, Bool.not_true, Bool.not_false, beq_self_eq_true, bne_self_eq_false, decide_true, decide_false, kb_NoneType_bool, kb_NoneType_int, kb_NoneType_str, kb_NoneType_list, kb_NoneType_tuple, kb_bool_bool, kb_bool_int, kb_bool_str, kb_bool_list, kb_bool_tuple, kb_int_bool, kb_int_int, kb_int_str, kb_int_list, kb_int_tuple, kb_str_bool, kb_str_int, kb_str_str, kb_str_list, kb_str_tuple, kb_list_bool, kb_list_int, kb_list_str, kb_list_list, kb_list_tuple, kb_tuple_bool, kb_tuple_int, kb_tuple_str, kb_tuple_list, kb_tuple_tuple, get_new, aLstRg1, aTupRg1, aAddI, aSubI, aDict1, List.length_map, List.length_range, rgL_len, Nat.reduceLeDiff, Nat.zero_le, AO.lst.injEq, AO.dct.injEq, *])
local macro_rules | `(tactic| array_get_dec) => `(tactic| try simp only [wpS, wpE, wpEs, wpAnd, wpOr, wpT, wpTA, wpTO, wpQs, wpG, wpGs, Option.map_some, Option.map_none, startA, List.map_cons, List.map_nil, List.length_cons, List.length_nil, List.cons_append, List.nil_append, List.replicate, List.getElem?_cons_zero, List.getElem?_cons_succ, Option.some.injEq, exists_eq_left', exists_eq_left, List.set_cons_zero, List.set_cons_succ, wipeS, if_true, if_false, Bool.false_eq_true, ite_true, ite_false, reduceIte, Nat.reduceAdd, Nat.reduceSub, Nat.zero_add])
/-! ### == of data -/
theorem eq_data {n : Nat} {h : AH} {x y : Val} {d e : PyData} {neg : Bool} {Q : Val → AH → Prop} (rx : Rep h x d) (ry : Rep h y e) (hd : okD n d = true) (he : okD n e = true) (q : Q (.bl (neg != PyData.eqv d e)) h) (hn : n ≤ 64 := by decide) : aEq neg [x, y] h Q := by
  unfold aEq
  split
  · rename_i i j z
    cases z; cases rx; cases ry
    rw [eqv_ii] at q; exact q
  · rename_i i j z
    cases z; cases rx; cases ry
    have : PyData.eqv (.str i) (.str j) = decide (i = j) := by simp only [PyData.eqv]; rfl
    rw [this] at q; exact q
  · rename_i i j z
    cases z; cases rx; cases ry
    have : PyData.eqv (.bool i) (.bool j) = decide (i = j) := by cases i <;> cases j <;> simp [PyData.eqv]
    rw [this] at q; exact q
  · rename_i z; cases z
    exact ⟨d, e, rx, ry, okD_shaped hd hn, okD_shaped he hn, q⟩
  · rename_i z
    exact absurd rfl (z x y)
/-! ### a number or None -/
def oV : Option Nat → Val
  | none => .non
  | some n => .int n
def oD : Option Nat → PyData
  | none => .none
  | some n => .int n
theorem rep_oV {h : AH} (o : Option Nat) : Rep h (oV o) (oD o) := by
  cases o with
  | none => exact .non
  | some n => exact .int n
theorem ok_oD {n : Nat} (o : Option Nat) : okD n (oD o) = true := by cases o <;> cases n <;> rfl
theorem eqv_oD (a b : Option Nat) : PyData.eqv (oD a) (oD b) = decide (a = b) := by
  cases a with
  | none => cases b with
    | none => simp [oD, PyData.eqv]
    | some b => simp [oD, PyData.eqv]
  | some a => cases b with
    | none => simp [oD, PyData.eqv]
    | some b =>
      show PyData.eqv (.int _) (.int _) = _
      rw [eqv_ii, decide_eq_decide]
      exact ⟨fun z => by rw [show a = b by omega], fun z => by cases z; rfl⟩
theorem eq_opt {h : AH} {a b : Option Nat} {neg : Bool} {Q : Val → AH → Prop} (q : Q (.bl (neg != decide (a = b))) h) : aEq neg [oV a, oV b] h Q :=
  eq_data (n := 0) (rep_oV a) (rep_oV b) (ok_oD a) (ok_oD b) (by rw [eqv_oD]; exact q)
theorem isNon_oV (a : Option Nat) : isNon (oV a) = a.isNone := by cases a <;> rfl
/-! ### dicts of rows -/
def kvsP (P : List (Nat × List Nat)) : List (DK × Val) := P.map fun p => (ik p.1, .tup (intsN p.2))
theorem kvsP_len {P : List (Nat × List Nat)} : (kvsP P).length = P.length := by simp [kvsP]
theorem kvsP_sorts {P : List (Nat × List Nat)} {y : Nat} : sorts (kvsP P) (ik y) := fun p hp => by
  obtain ⟨q, _, rfl⟩ := List.mem_map.mp hp
  rfl
theorem kvsP_some : ∀ {P : List (Nat × List Nat)} {y : Nat} {u : List Nat}, (P.map (·.1)).Nodup → (y, u) ∈ P → dget (kvsP P) (ik y) = some (.tup (intsN u))
  | [], _, _, _, h => absurd h List.not_mem_nil
  | p :: P, y, u, nd, h => by
    unfold dget kvsP
    rw [List.map_cons, List.find?_cons]
    rw [List.map_cons, List.nodup_cons] at nd
    rcases List.mem_cons.mp h with h | h
    · subst h
      rw [show decide ((ik (y, u).1, Val.tup (intsN (y, u).2)).1 = ik y) = true from decide_eq_true rfl]
      rfl
    · have hne : p.1 ≠ y := fun z => nd.1 (by rw [z]; exact List.mem_map.mpr ⟨_, h, rfl⟩)
      rw [show decide ((ik p.1, Val.tup (intsN p.2)).1 = ik y) = false from decide_eq_false fun z => hne (ik_inj z)]
      exact kvsP_some nd.2 h
theorem kvsP_none : ∀ {P : List (Nat × List Nat)} {y : Nat}, y ∉ P.map (·.1) → dget (kvsP P) (ik y) = none
  | [], _, _ => rfl
  | p :: P, y, h => by
    unfold dget kvsP
    rw [List.map_cons, List.find?_cons]
    rw [List.map_cons, List.mem_cons] at h
    rw [show decide ((ik p.1, Val.tup (intsN p.2)).1 = ik y) = false from decide_eq_false fun z => h (.inl (ik_inj z).symm)]
    exact kvsP_none fun z => h (.inr z)
theorem kvsP_has {P : List (Nat × List Nat)} {y : Nat} (nd : (P.map (·.1)).Nodup) : (dget (kvsP P) (ik y)).isSome = decide (y ∈ P.map (·.1)) := by
  by_cases h : y ∈ P.map (·.1)
  · obtain ⟨p, hp, rfl⟩ := List.mem_map.mp h
    rw [kvsP_some (u := p.2) nd hp, decide_eq_true h]; rfl
  · rw [kvsP_none h, decide_eq_false h]; rfl
theorem kvsP_put {P : List (Nat × List Nat)} {y : Nat} {u : List Nat} (h : y ∉ P.map (·.1)) : dput (kvsP P) (ik y) (.tup (intsN u)) = kvsP (P ++ [(y, u)]) := by
  unfold dput
  rw [if_neg]
  · unfold kvsP; rw [List.map_append]; rfl
  · intro e
    obtain ⟨p, hp, e⟩ := List.any_eq_true.mp e
    obtain ⟨q, hq, rfl⟩ := List.mem_map.mp hp
    have e := ik_inj (of_decide_eq_true e)
    exact h (List.mem_map.mpr ⟨q, hq, e⟩)
theorem truth_lst {h : AH} {a : Nat} {xs : List Val} (e : h[a]? = some (.lst xs)) : truth h (.ref a) = some (!xs.isEmpty) := by
  show (seqOf h (.ref a)).map _ = _
  rw [seq_ref e]; rfl
/-! ### first_rows -/
def ir_first_rows (Φ_plain_kind : ASp) : List IS := [.asg (.name 2) (.call Φ_plain_kind [.l 0]),
  .asg (.tup [.name 3, .name 4]) (.call aTup [.call aDict1 [.l 1, .call aTup []], .call aLst [.l 1]]),
  .whl (.val (.l 4)) [.asg (.star 5 4) (.l 4),
  .for (.tup [.name 6, .tup [.name 7, .name 8]]) wEnum [.call aGet [.l 2, .l 5]] [.iff (.bool (.call (aMem true) [.l 8, .l 3])) [.asg (.sub aSet (.l 3) (.l 8)) (.call aAdd [.call aGet [.l 3, .l 5], .call aTup [.l 6]]),
  .exp (.call aAppend (.call aLs [.l 4] :: [.l 8]))] []]],
  .ret (.l 3)]
def Φ_frows : ASp := fun vs h Q => vs.length = 2 ∧ ∃ (v : Val) (d : PyData) (D R : Nat) (f : Nat → Nat → Nat × Nat) (x : Nat), vs = [v, .int x] ∧ Rep h v d ∧ KG D R f d ∧ Bnd D R f ∧ x < R ∧ D ≤ 100000 ∧ R ≤ 100000 ∧
  ∀ (a : Nat) (h' : AH), Gr h h' → h.length ≤ a → h'[a]? = some (.dct (kvsP (found D R f x))) → Q (.ref a) h'
theorem wp_frows : ∀ vs h Q, Φ_frows vs h Q → vs.length = 2 → wpSs (ir_first_rows Φ_plain) (startA 9 vs) h { nx := fun _ h' => Q .non h', rt := Q } := by
  rintro vs h Q ⟨-, v, d, D, R, f, x, rfl, rp, hk, hB, hx, hD, hR, q⟩ -
  refine wp_go fun N hN => ?_
  array_get_dec
  refine ⟨rfl, v, d, D, R, f, rfl, rp, hk, by omega, by omega, fun h1 g1 => ?_⟩
  refine hN _ _ (wp_go fun N hN => ?_)
  array_get_dec
  refine ⟨by simp, ⟨_, rfl, ⟨by simp, ⟨by simp, _, rfl, rfl, _, _, rfl, _, _, rfl, rfl, ?_⟩⟩⟩⟩
  refine hN _ _ (wp_go fun N hN => ?_)
  array_get_dec
  have g2 : Gr h (h1 ++ [AO.dct [(DK.k (.inl (x : Int)), Val.tup [])]] ++ [AO.lst [Val.int x]]) := g1.trans ((Gr.app _).trans (Gr.app _))
  have ea := get_app (n := [AO.lst [Val.int x]]) (get_new (h := h1) (o := AO.dct [(DK.k (.inl (x : Int)), Val.tup [])]))
  have eb := get_new (h := h1 ++ [AO.dct [(DK.k (.inl (x : Int)), Val.tup [])]]) (o := AO.lst [Val.int x])
  rw [show (h1 ++ [AO.dct [(DK.k (.inl (x : Int)), Val.tup [])]]).length = h1.length + 1 by simp] at eb ⊢
  have hl := g1.le
  generalize h1.length = a at ea eb hl ⊢
  generalize h1 ++ [AO.dct [(DK.k (.inl (x : Int)), Val.tup [])]] ++ [AO.lst [Val.int x]] = h2 at g2 ea eb ⊢
  refine whl_inv (fun m sl h' => ∃ (n b : Nat) (c5 c6 c7 c8 : Option Val), m = R - n ∧ n ≤ (bfs D f x n).length ∧ sl = [some v, some (.int x), some (.tup (rws D R f)), some (.ref a), some (.ref b), c5, c6, c7, c8] ∧ Gr h h' ∧ h.length ≤ b ∧ b ≠ a ∧ h'[a]? = some (.dct (kvsP (bfsP D f x n))) ∧ h'[b]? = some (.lst (intsN ((bfs D f x n).drop n))))
    R ⟨0, a + 1, _, _, _, _, rfl, Nat.zero_le _, rfl, g2, by omega, by omega, ea, eb⟩ fun m sl h3 N' hI hN' => ?_
  obtain ⟨n, b, c5, c6, c7, c8, rfl, hnl, rfl, g3, lb, nab, ea3, eb3⟩ := hI
  have hlen := bfs_len (n := n) hB hx
  array_get_dec
  by_cases z : n < (bfs D f x n).length
  · have ey := List.getElem?_eq_getElem z
    have hdr : (bfs D f x n).drop n = (bfs D f x n)[n] :: (bfs D f x n).drop (n + 1) := List.drop_eq_getElem_cons z
    have hnP : n < (bfsP D f x n).length := by rw [bfsP_len]; exact z
    have eP : (bfsP D f x n)[n]? = some ((bfs D f x n)[n], (bfsP D f x n)[n].2) := by
      rw [List.getElem?_eq_getElem hnP]
      have e1 : ((bfsP D f x n).map (·.1))[n]? = some (bfs D f x n)[n] := by rw [bfsP_map]; exact ey
      rw [List.getElem?_map, List.getElem?_eq_getElem hnP] at e1
      have e1 : (bfsP D f x n)[n].1 = (bfs D f x n)[n] := Option.some.inj e1
      rw [← e1]
    generalize (bfsP D f x n)[n].2 = u at eP
    generalize (bfs D f x n)[n] = y at ey hdr eP
    rw [hdr] at eb3
    have hy := bfs_lt hB hx n y (List.mem_of_getElem? ey)
    have I0 := bfsP_inv (D := D) (f := f) (x := x) n
    have hu := (I0.go n y u eP).2.2
    refine ⟨true, by rw [truth_lst eb3]; rfl, ?_⟩
    rw [if_pos rfl]
    refine wp_go fun N4 hN4 => ?_
    array_get_dec
    refine ⟨_, _, seq_ref eb3, ?_⟩
    have g4 := g3.trans (Gr.app [AO.lst (List.map (fun n => Val.int ((n : Nat) : Int)) ((bfs D f x n).drop (n + 1)))])
    have ea4 := get_app (n := [AO.lst (List.map (fun n => Val.int ((n : Nat) : Int)) ((bfs D f x n).drop (n + 1)))]) ea3
    have eb4 := get_new (h := h3) (o := AO.lst (List.map (fun n => Val.int ((n : Nat) : Int)) ((bfs D f x n).drop (n + 1))))
    have lb4 := g3.le
    have na4 : h3.length ≠ a := by have := lt_of ea3; omega
    generalize h3 ++ [AO.lst (List.map (fun n => Val.int ((n : Nat) : Int)) ((bfs D f x n).drop (n + 1)))] = h4 at g4 ea4 eb4 ⊢
    generalize h3.length = b2 at eb4 lb4 na4 ⊢
    refine hN4 _ _ (wp_go fun N5 hN5 => ?_)
    array_get_dec
    refine get_of rfl (rws_get hy) ?_
    refine for_inv (fun d sl h' => ∃ (c6 c7 c8 : Option Val), sl = [some v, some (.int x), some (.tup (rws D R f)), some (.ref a), some (.ref b2), some (.int y), c6, c7, c8] ∧ Gr h h' ∧ h'[a]? = some (.dct (kvsP (kaddP (f y) u (bfsP D f x n) d))) ∧ h'[b2]? = some (.lst (intsN ((kadd (f y) (bfs D f x n) d).drop (n + 1)))))
      ⟨_, _, _, rfl, g4, ea4, eb4⟩ (fun d w sl h5 N6 hv hI hN6 => ⟨trivial, ?_⟩) fun sl h5 hI => ⟨trivial, ?_⟩
    · obtain ⟨c6, c7, c8, rfl, g5, ea5, eb5⟩ := hI
      obtain ⟨w, hw, rfl⟩ := enumL_get hv
      obtain ⟨hd, rfl⟩ := prs_inv hw
      have I := I0.row eP d (Nat.le_of_lt hd)
      have em := kaddP_map (g := f y) (u := u) (P := bfsP D f x n) d
      rw [bfsP_map] at em
      have hkl : (kadd (f y) (bfs D f x n) d).length ≤ R := by
        have := bfs_len (n := n + 1) hB hx
        rw [bfs_step ey] at this
        exact Nat.le_trans (kadd_le (Nat.le_of_lt hd)).length_le this
      have hkn : n + 1 ≤ (kadd (f y) (bfs D f x n) d).length := Nat.le_trans z (kadd_pre (g := f y) (F := bfs D f x n) d).length_le
      have hPl : (kaddP (f y) u (bfsP D f x n) d).length ≤ R := by rw [← List.length_map (f := (·.1)), em]; exact hkl
      refine ⟨_, rfl, rfl, _, _, rfl, _, _, rfl, ⟨_, rfl, rfl, _, _, rfl, _, _, rfl, rfl, rfl, ?_⟩⟩
      simp only [List.set_cons_zero, List.set_cons_succ]
      refine wp_go fun N7 hN7 => ?_
      array_get_dec
      refine memD_of ea5 (k := ik (f y d).2) rfl kvsP_sorts ?_
      rw [kvsP_has I.nd]
      decreasing_trivial
      have es : kadd (f y) (bfs D f x n) (d + 1) = if (f y d).2 ∈ kadd (f y) (bfs D f x n) d then kadd (f y) (bfs D f x n) d else kadd (f y) (bfs D f x n) d ++ [(f y d).2] := rfl
      have eq : kaddP (f y) u (bfsP D f x n) (d + 1) = if (f y d).2 ∈ (kaddP (f y) u (bfsP D f x n) d).map (·.1) then kaddP (f y) u (bfsP D f x n) d else kaddP (f y) u (bfsP D f x n) d ++ [((f y d).2, u ++ [d])] := rfl
      by_cases hm2 : (f y d).2 ∈ kadd (f y) (bfs D f x n) d
      · have hm := hm2
        rw [← em] at hm
        rw [if_neg (fun w => absurd hm2 (by simpa using w))]
        rw [if_pos hm] at eq
        rw [if_pos hm2] at es
        exact hN7 _ _ (hN6 _ _ ⟨_, _, _, rfl, g5, by rw [eq]; exact ea5, by rw [es]; exact eb5⟩)
      · have hm := hm2
        rw [← em] at hm
        rw [if_pos (by simpa using hm2)]
        rw [if_neg hm] at eq
        rw [if_neg hm2] at es
        refine wp_go fun N8 hN8 => ?_
        array_get_dec
        have hin : (y, u) ∈ kaddP (f y) u (bfsP D f x n) d := List.mem_of_getElem? (kaddP_get eP d)
        refine getD_of ea5 (k := ik y) rfl (kvsP_some I.nd hin) ⟨by simp, addT_of (by rw [intsN_len]; simp; omega) ?_⟩
        refine setD_of ea5 (k := ik (f y d).2) rfl kvsP_sorts (by rw [kvsP_len]; omega) ?_
        rw [show intsN u ++ [Val.int (d : Int)] = intsN (u ++ [d]) by simp [intsN], kvsP_put hm, ← eq]
        have eb6 : (h5.set a (.dct (kvsP (kaddP (f y) u (bfsP D f x n) (d + 1)))))[b2]? = some (.lst (intsN ((kadd (f y) (bfs D f x n) d).drop (n + 1)))) := by rw [get_setN na4]; exact eb5
        refine hN8 _ _ (wp_go fun N9 hN9 => ?_)
        array_get_dec
        refine ls_of eb6 (app_of eb6 (by rw [intsN_len, List.length_drop]; omega) ?_)
        refine hN9 _ _ (hN7 _ _ (hN6 _ _ ⟨_, _, _, rfl, (g5.setNew hl).setNew lb4, ?_, ?_⟩))
        · rw [get_setN (fun z => na4 z.symm), get_set (lt_of ea5)]
        · rw [get_set (lt_of eb6), es, List.drop_append_of_le_length hkn]
          simp [intsN]
    · obtain ⟨c6, c7, c8, rfl, g5, ea5, eb5⟩ := hI
      have el : (enumL (prs D (f y))).length = D := by rw [enumL_len, prs_len]
      have ea5 : h5[a]? = some (.dct (kvsP (kaddP (f y) u (bfsP D f x n) (enumL (prs D (f y))).length))) := ea5
      have eb5 : h5[b2]? = some (.lst (intsN ((kadd (f y) (bfs D f x n) (enumL (prs D (f y))).length).drop (n + 1)))) := eb5
      rw [el, ← bfsP_step eP] at ea5
      rw [el, ← bfs_step ey] at eb5
      exact hN5 _ _ (hN' _ _ _ (by omega) ⟨n + 1, b2, _, _, _, _, rfl, Nat.le_trans z (bfs_pre1 n).length_le, rfl, g5, by omega, na4, ea5, eb5⟩)
  · have hdr : (bfs D f x n).drop n = [] := List.drop_eq_nil_of_le (by omega)
    rw [hdr] at eb3
    refine ⟨false, by rw [truth_lst eb3]; rfl, ?_⟩
    rw [if_neg (by decide)]
    refine hN _ _ (wp_go fun N5 hN5 => ?_)
    array_get_dec
    rw [found_end hB hx (by rw [bfsP_len]; omega)] at ea3
    exact q a _ g3 hl ea3
end Ev
namespace Ev
open PySem PySem.Spec PyProof.Rows L2
local macro_rules | `(tactic| decreasing_trivial) => `(tactic| simp only [wpS, wpE, wpEs, wpAnd, wpOr, wpT, wpTA, wpTO, wpQs, wpG, wpGs, truth, Option.map_some, Option.map_none, startA, List.map_cons, List.map_nil, List.length_cons, List.length_nil, List.cons_append, List.nil_append, List.replicate, List.getElem?_cons_zero, List.getElem?_cons_succ, Option.some.injEq, exists_eq_left', exists_eq_left, exists_eq_right, exists_eq', List.set_cons_zero, List.set_cons_succ, wipeS,
  and_assoc, exists_and_left, Val.bl.injEq, Val.int.injEq, Val.str.injEq, Val.tup.injEq, Val.ref.injEq, decide_eq_true_eq, and_true, true_and, seqOf_tup, seqOf_ref, seqOf_scr, seqOf_int, seqOf_bl, seqOf_str, seqOf_non, dctOf_ref, dctOf_tup, if_true, if_false, Bool.false_eq_true, ite_true, ite_false, reduceIte, reduceCtorEq, false_and, exists_false, and_false, List.cons.injEq, Nat.reduceAdd, Nat.reduceSub, Nat.zero_add,
  aAdd, aSub, aMul, aMod, aDiv, aPow, aNeg, aCmp, aLt, aLe, aGt, aGe, aTup, aLst, aGet, aSet, aLenA, aTuple, aList, aAbs, aInt, aDivmod, aAll, aAny, aMaxA, aMinA, aSum, aDict0, aLs, aDc, aAppend, aI, aSl00, aSl01, aSl10, aSl11, aCut, aIs, isNon, Bool.false_bne, Bool.true_bne, wSeq, wRng1, wRng2, wEnum, wZip, aEq_i, aEq_s, aEq_b, atI_0, atI_1, atI_2, atI_3, atI_n, ixN3_0, ixN3_1, ixN3_2, get_set, List.length_set, List.set_set, List.getElem?_map, aIsi, aIsi2, tyA, Bool.or_true, Bool.true_or, Bool.or_false, Bool.false_or, Bool.and_true, Bool.true_and, Bool.and_false, Bool.false_and, Bool.not_true, Bool.not_false, beq_self_eq_true, bne_self_eq_false, decide_true, decide_false, kb_NoneType_bool, kb_NoneType_int, kb_NoneType_str, kb_NoneType_list, kb_NoneType_tuple, kb_bool_bool, kb_bool_int, kb_bool_str, kb_bool_list, kb_bool_tuple, kb_int_bool, kb_int_int, kb_int_str, kb_int_list, kb_int_tuple, kb_str_bool, kb_str_int, kb_str_str, kb_str_list, kb_str_tuple, kb_list_bool, kb_list_int, kb_list_str, kb_list_list, kb_list_tuple, kb_tuple_bool, kb_tuple_int, kb_tuple_str, kb_tuple_list, kb_tuple_tuple, get_new, aLstRg1, aTupRg1, aAddI, aSubI, aDict1, List.length_map, List.length_range, rgL_len, Nat.reduceLeDiff, Nat.zero_le, AO.lst.injEq, AO.dct.injEq, *])
local macro_rules | `(tactic| array_get_dec) => `(tactic| try simp only [wpS, wpE, wpEs, wpAnd, wpOr, wpT, wpTA, wpTO, wpQs, wpG, wpGs, Option.map_some, Option.map_none, startA, List.map_cons, List.map_nil, List.length_cons, List.length_nil, List.cons_append, List.nil_append, List.replicate, List.getElem?_cons_zero, List.getElem?_cons_succ, Option.some.injEq, exists_eq_left', exists_eq_left, List.set_cons_zero, List.set_cons_succ, wipeS, if_true, if_false, Bool.false_eq_true, ite_true, ite_false, reduceIte, Nat.reduceAdd, Nat.reduceSub, Nat.zero_add])
/-! ### least_row -/
def ir_least_row (Φ_first_rows : ASp) : List IS := [.asg (.name 3) (.call aDGet (.call aDc [.call Φ_first_rows [.l 0, .l 1]] :: [.l 2])),
  .ret (.ite (.bool (.call (aIs false) [.l 3, .c .non])) (.c .non) (.call aList [.l 3]))]
def Φ_lrow : ASp := fun vs h Q => vs.length = 3 ∧ ∃ (v : Val) (d : PyData) (D R : Nat) (f : Nat → Nat → Nat × Nat) (x s : Nat), vs = [v, .int x, .int s] ∧ Rep h v d ∧ KG D R f d ∧ Bnd D R f ∧ x < R ∧ D ≤ 100000 ∧ R ≤ 100000 ∧
  (∀ h', Gr h h' → NoRow D f x s → Q .non h') ∧ ∀ (u : List Nat) (a : Nat) (h' : AH), Gr h h' → FirstRow D f x s u → u.length ≤ R → h.length ≤ a → h'[a]? = some (.lst (intsN u)) → Q (.ref a) h'
theorem found_nd {D R : Nat} {f : Nat → Nat → Nat × Nat} {x : Nat} : ((found D R f x).map (·.1)).Nodup := (bfsP_inv R).nd
theorem dget_of {h : AH} {a : Nat} {kvs : List (DK × Val)} {y : Val} {k : DK} {Q : Val → AH → Prop} (e : h[a]? = some (.dct kvs)) (hk : keyOf y = some k) (hs : sorts kvs k) (q : Q ((dget kvs k).getD .non) h) : aDGet [.ref a, y] h Q := ⟨kvs, k, e, hk, hs, q⟩
theorem dc_of {h : AH} {a : Nat} {kvs : List (DK × Val)} {Q : Val → AH → Prop} (e : h[a]? = some (.dct kvs)) (q : Q (.ref a) h) : aDc [.ref a] h Q := ⟨⟨kvs, e⟩, q⟩
theorem is_of {h : AH} {x : Val} {neg : Bool} {Q : Val → AH → Prop} (q : Q (.bl (neg != isNon x)) h) : aIs neg [x, .non] h Q := q
theorem wp_lrow : ∀ vs h Q, Φ_lrow vs h Q → vs.length = 3 → wpSs (ir_least_row Φ_frows) (startA 4 vs) h { nx := fun _ h' => Q .non h', rt := Q } := by
  rintro vs h Q ⟨-, v, d, D, R, f, x, s, rfl, rp, hk, hB, hx, hD, hR, q1, q2⟩ -
  refine wp_go fun N hN => ?_
  array_get_dec
  refine ⟨rfl, v, d, D, R, f, x, rfl, rp, hk, hB, hx, hD, hR, fun a h1 g1 l1 e1 => dc_of e1 (dget_of e1 (k := ik s) rfl kvsP_sorts ?_)⟩
  by_cases hm : s ∈ (found D R f x).map (·.1)
  · obtain ⟨p, hp, rfl⟩ := List.mem_map.mp hm
    obtain ⟨hf, hl⟩ := found_row (s := p.1) (u := p.2) hB hx hp
    rw [kvsP_some (u := p.2) found_nd hp]
    refine hN _ _ (wp_go fun N hN => ?_)
    array_get_dec
    refine is_of ?_
    refine ⟨false, rfl, ?_⟩
    rw [if_neg (by decide)]
    refine ⟨intsN p.2, rfl, ?_⟩
    exact q2 p.2 _ _ (g1.trans (Gr.app _)) hf hl (by have := g1.le; omega) get_new
  · rw [kvsP_none hm]
    refine hN _ _ (wp_go fun N hN => ?_)
    array_get_dec
    refine is_of ?_
    refine ⟨true, rfl, ?_⟩
    rw [if_pos rfl]
    exact q1 _ g1 (found_none hB hx hm)
/-! ### sent -/
def outs (f : Nat → Nat → Nat × Nat) : Nat → List Nat → List Nat
  | _, [] => []
  | x, d :: u => (f x d).1 :: outs f (f x d).2 u
theorem outs_snoc {f : Nat → Nat → Nat × Nat} {d : Nat} : ∀ (u : List Nat) (x : Nat), outs f x (u ++ [d]) = outs f x u ++ [(f (run f x u) d).1]
  | [], _ => rfl
  | e :: u, x => by
    show (f x e).1 :: outs f (f x e).2 (u ++ [d]) = (f x e).1 :: (outs f (f x e).2 u ++ [(f (run f (f x e).2 u) d).1])
    rw [outs_snoc u]
theorem outs_len {f : Nat → Nat → Nat × Nat} : ∀ (u : List Nat) (x : Nat), (outs f x u).length = u.length
  | [], _ => rfl
  | e :: u, x => congrArg (· + 1) (outs_len u _)
def isRow (h : AH) (rv : Val) (u : List Nat) : Prop := rv = .tup (intsN u) ∨ ∃ a, rv = .ref a ∧ h[a]? = some (.lst (intsN u))
theorem isRow.seq {h : AH} {rv : Val} {u : List Nat} (r : isRow h rv u) : seqOf h rv = some (intsN u) := by
  rcases r with rfl | ⟨a, rfl, e⟩
  · rfl
  · exact seq_ref e
theorem isRow.gr {h h' : AH} {rv : Val} {u : List Nat} (r : isRow h rv u) (g : Gr h h') : isRow h' rv u := by
  rcases r with rfl | ⟨a, rfl, e⟩
  · exact .inl rfl
  · exact .inr ⟨a, rfl, g.get e⟩
theorem seq_ofG {h0 h : AH} {v : Val} {vs : List Val} {R : List Val → (AH → Prop) → AH → Prop} (hv : v = .tup vs ∨ ∃ a, v = .ref a ∧ h0[a]? = some (.lst vs)) (g : Gr h0 h) (k : ∀ chk, (∀ h', Gr h0 h' → chk h') → R vs chk h) : wSeq [v] h R := by
  rcases hv with rfl | ⟨a, rfl, e⟩
  · exact k nochk fun _ _ => trivial
  · exact ⟨vs, g.get e, k _ fun h' g' => g'.get e⟩
theorem enum_ofG {h0 h : AH} {v : Val} {vs : List Val} {R : List Val → (AH → Prop) → AH → Prop} (hv : v = .tup vs ∨ ∃ a, v = .ref a ∧ h0[a]? = some (.lst vs)) (g : Gr h0 h) (k : ∀ chk, (∀ h', Gr h0 h' → chk h') → R (enumL vs) chk h) : wEnum [v] h R := by
  rcases hv with rfl | ⟨a, rfl, e⟩
  · exact k nochk fun _ _ => trivial
  · exact ⟨vs, g.get e, k _ fun h' g' => g'.get e⟩
def ir_sent : List IS := [.asg (.tup [.name 3, .name 4]) (.call aTup [.call aLst [], .l 1]),
  .for (.name 5) wSeq [.l 2] [.asg (.tup [.name 6, .name 4]) (.call aGet [.call aGet [.l 0, .l 4], .l 5]),
  .exp (.call aAppend (.call aLs [.l 3] :: [.l 6]))],
  .ret (.call aTup [.l 3, .l 4])]
def Φ_sent : ASp := fun vs h Q => vs.length = 3 ∧ ∃ (v rv : Val) (d : PyData) (D R : Nat) (f : Nat → Nat → Nat × Nat) (x : Nat) (u : List Nat), vs = [v, .int x, rv] ∧ Rep h v d ∧ KG D R f d ∧ Bnd D R f ∧ x < R ∧ isRow h rv u ∧ Good D u ∧ u.length ≤ 100000 ∧
  ∀ (a : Nat) (h' : AH), Gr h h' → h.length ≤ a → h'[a]? = some (.lst (intsN (outs f x u))) → Q (.tup [.ref a, .int (run f x u)]) h'
theorem wp_sent : ∀ vs h Q, Φ_sent vs h Q → vs.length = 3 → wpSs ir_sent (startA 7 vs) h { nx := fun _ h' => Q .non h', rt := Q } := by
  rintro vs h Q ⟨-, v, rv, d, D, R, f, x, u, rfl, rp, hk, hB, hx, hr, hg, hl, q⟩ -
  obtain ⟨rows, K⟩ := kd_of rp hk
  refine wp_go fun N hN => ?_
  array_get_dec
  refine ⟨by simp, by simp, _, rfl, rfl, _, _, rfl, _, _, rfl, rfl, ?_⟩
  obtain ⟨a, ha⟩ : ∃ a, a = h.length := ⟨_, rfl⟩
  have e0 := get_new (h := h) (o := .lst [])
  rw [← ha] at e0 ⊢
  have la : h.length ≤ a := by omega
  clear ha
  have g0 : Gr h (h ++ [AO.lst []]) := Gr.app _
  generalize h ++ [AO.lst []] = h1 at e0 g0 ⊢
  refine hN _ _ (wp_go fun N hN => ?_)
  array_get_dec
  refine seq_ofG hr g0 fun chk hc => for_inv (fun i sl h' => ∃ (c5 c6 : Option Val), sl = [some v, some (.int x), some rv, some (.ref a), some (.int (run f x (u.take i))), c5, c6] ∧ Gr h h' ∧ h'[a]? = some (.lst (intsN (outs f x (u.take i))))) ⟨_, _, rfl, g0, e0⟩ (fun i w sl h2 N' hv hI hN' => ?_) fun sl h2 hI => ?_
  · obtain ⟨c5, c6, rfl, g2, e2⟩ := hI
    refine ⟨hc _ g2, ?_⟩
    have hi : i < u.length := by rw [← intsN_len]; exact (List.getElem?_eq_some_iff.mp hv).1
    have eu := List.getElem?_eq_getElem hi
    rw [intsN_get eu] at hv
    cases hv
    have hd : u[i] < D := hg _ (List.getElem_mem hi)
    have et : u.take (i + 1) = u.take i ++ [u[i]] := by rw [List.take_add_one, eu]; rfl
    generalize u[i] = d0 at hd et
    have hgt : Good D (u.take i) := fun e he => hg e (List.mem_of_mem_take he)
    have hs := run_lt hB _ x hx hgt
    have K2 := K.gr g2
    obtain ⟨w, ps, f1, f2, f3, f4, f5⟩ := K2.row _ hs
    obtain ⟨p, p1, p2⟩ := f5 d0 hd
    have ho : outs f x (u.take (i + 1)) = outs f x (u.take i) ++ [(f (run f x (u.take i)) d0).1] := by rw [et, outs_snoc]
    have hr2 : run f x (u.take (i + 1)) = (f (run f x (u.take i)) d0).2 := by rw [et, run_app]; rfl
    have hol := outs_len (f := f) (u.take i) x
    array_get_dec
    refine wp_go fun N3 hN3 => ?_
    array_get_dec
    refine get_of K2.sq f1 (get_of f2 p1 ⟨_, p2, rfl, _, _, rfl, _, _, rfl, rfl, ?_⟩)
    refine hN3 _ _ (wp_go fun N4 hN4 => ?_)
    array_get_dec
    refine ls_of e2 (app_of e2 (by rw [intsN_len, hol]; simp; omega) ?_)
    refine hN4 _ _ (hN' _ _ ⟨_, _, by rw [hr2], g2.setNew la, ?_⟩)
    rw [get_set (lt_of e2), ho]
    simp [intsN]
  · obtain ⟨c5, c6, rfl, g2, e2⟩ := hI
    rw [intsN_len, List.take_length] at e2 ⊢
    refine ⟨hc _ g2, hN _ _ (wp_go fun N3 hN3 => ?_)⟩
    array_get_dec
    exact ⟨by simp, q a _ g2 la e2⟩
end Ev
namespace Ev
open PySem PySem.Spec PyProof.Rows L2
local macro_rules | `(tactic| decreasing_trivial) => `(tactic| simp only [wpS, wpE, wpEs, wpAnd, wpOr, wpT, wpTA, wpTO, wpQs, wpG, wpGs, truth, Option.map_some, Option.map_none, startA, List.map_cons, List.map_nil, List.length_cons, List.length_nil, List.cons_append, List.nil_append, List.replicate, List.getElem?_cons_zero, List.getElem?_cons_succ, Option.some.injEq, exists_eq_left', exists_eq_left, exists_eq_right, exists_eq', List.set_cons_zero, List.set_cons_succ, wipeS,
  and_assoc, exists_and_left, Val.bl.injEq, Val.int.injEq, Val.str.injEq, Val.tup.injEq, Val.ref.injEq, decide_eq_true_eq, and_true, true_and, seqOf_tup, seqOf_ref, seqOf_scr, seqOf_int, seqOf_bl, seqOf_str, seqOf_non, dctOf_ref, dctOf_tup, if_true, if_false, Bool.false_eq_true, ite_true, ite_false, reduceIte, reduceCtorEq, false_and, exists_false, and_false, List.cons.injEq, Nat.reduceAdd, Nat.reduceSub, Nat.zero_add,
  aAdd, aSub, aMul, aMod, aDiv, aPow, aNeg, aCmp, aLt, aLe, aGt, aGe, aTup, aLst, aGet, aSet, aLenA, aTuple, aList, aAbs, aInt, aDivmod, aAll, aAny, aMaxA, aMinA, aSum, aDict0, aLs, aDc, aAppend, aI, aSl00, aSl01, aSl10, aSl11, aCut, aIs, isNon, Bool.false_bne, Bool.true_bne, wSeq, wRng1, wRng2, wEnum, wZip, aEq_i, aEq_s, aEq_b, atI_0, atI_1, atI_2, atI_3, atI_n, ixN3_0, ixN3_1, ixN3_2, get_set, List.length_set, List.set_set, List.getElem?_map, aIsi, aIsi2, tyA, Bool.or_true, Bool.true_or, Bool.or_false, Bool.false_or, Bool.and_true, Bool.true_and, Bool.and_false, Bool.false_and, Bool.not_true, Bool.not_false, beq_self_eq_true, bne_self_eq_false, decide_true, decide_false, kb_NoneType_bool, kb_NoneType_int, kb_NoneType_str, kb_NoneType_list, kb_NoneType_tuple, kb_bool_bool, kb_bool_int, kb_bool_str, kb_bool_list, kb_bool_tuple, kb_int_bool, kb_int_int, kb_int_str, kb_int_list, kb_int_tuple, kb_str_bool, kb_str_int, kb_str_str, kb_str_list, kb_str_tuple, kb_list_bool, kb_list_int, kb_list_str, kb_list_list, kb_list_tuple, kb_tuple_bool, kb_tuple_int, kb_tuple_str, kb_tuple_list, kb_tuple_tuple, get_new, aLstRg1, aTupRg1, aAddI, aSubI, aDict1, List.length_map, List.length_range, rgL_len, Nat.reduceLeDiff, Nat.zero_le, AO.lst.injEq, AO.dct.injEq, *])
local macro_rules | `(tactic| array_get_dec) => `(tactic| try simp only [wpS, wpE, wpEs, wpAnd, wpOr, wpT, wpTA, wpTO, wpQs, wpG, wpGs, Option.map_some, Option.map_none, startA, List.map_cons, List.map_nil, List.length_cons, List.length_nil, List.cons_append, List.nil_append, List.replicate, List.getElem?_cons_zero, List.getElem?_cons_succ, Option.some.injEq, exists_eq_left', exists_eq_left, List.set_cons_zero, List.set_cons_succ, wipeS, if_true, if_false, Bool.false_eq_true, ite_true, ite_false, reduceIte, Nat.reduceAdd, Nat.reduceSub, Nat.zero_add])
/-! ### papers -/
def ir_are_numbers : List IS := [.iff (.or [.not (.val (.call (aIsi "list") [.l 0])), .bool (.call (aEq true) [.call aLenA [.l 0], .l 1])]) [.ret (.c (.bl false))] [],
  .ret (.call aAll [.lc [2] (.name 2) wSeq [.l 0] [] (.and [.call (aIsi "int") [.l 2], .not (.call (aIsi "bool") [.l 2])])])]
def Φ_nums : ASp := fun vs h Q => vs.length = 2 ∧ ∃ (v : Val) (x : PyData) (many : Nat), vs = [v, .int many] ∧ Rep h v x ∧ many ≤ 100000 ∧ ∀ (t : Bool) (h' : AH), (t = true ↔ ∃ ns : List Int, x = .list (ns.map .int) ∧ ns.length = many) → Gr h h' → Q (.bl t) h'
def isNumB : PyData → Bool
  | .int _ => true
  | _ => false
theorem nums_of : ∀ {ds : List PyData}, (∀ d ∈ ds, isNumB d = true) → ∃ ns : List Int, ds = ns.map .int
  | [], _ => ⟨[], rfl⟩
  | d :: ds, h => by
    obtain ⟨ns, e⟩ := nums_of fun d hd => h d (List.mem_cons_of_mem _ hd)
    have h0 := h d (List.mem_cons_self ..)
    cases d with
    | int i => exact ⟨i :: ns, by rw [e]; rfl⟩
    | _ => cases h0
theorem wp_nums : ∀ vs h Q, Φ_nums vs h Q → vs.length = 2 → wpSs ir_are_numbers (startA 3 vs) h { nx := fun _ h' => Q .non h', rt := Q } := by
  rintro vs h Q ⟨-, v, x, many, rfl, r, hm, q⟩ -
  refine wp_go fun N hN => ?_
  have no : (∀ ns : List Int, x ≠ .list (ns.map .int)) → Q (.bl false) h := fun z => q false h ⟨(fun w => nomatch w), fun ⟨ns, e, _⟩ => absurd e (z ns)⟩ Gr.rfl
  cases r with
  | @lst a us ds e rs =>
    have hl := rs.len
    have kl := kb_list_list
    array_get_dec
    refine ⟨_, true, by simp only [tyA, e], kl, true, rfl, ?_⟩
    rw [if_neg (by decide)]
    refine len_of (seq_ref e) ?_
    show ∃ b, Val.bl (true != decide ((us.length : Int) = many)) = .bl b ∧ _
    refine ⟨_, rfl, ?_⟩
    by_cases z : us.length = many
    · rw [if_neg (by rw [decide_eq_true (by omega)]; decide)]
      refine hN _ _ (wp_go fun N hN => ?_)
      array_get_dec
      refine ⟨us, e, lc_map (Gr h) (fun i => .bl (isNumB (ds.getD i .none))) (by omega) Gr.rfl (fun i w h3 K hw g3 k => ⟨g3.get e, ?_⟩) fun h3 g3 => ⟨g3.get e, ?_⟩⟩
      · obtain ⟨d, hd, rd⟩ := rs.get hw
        have rd := rd.gr g3
        have ed : ds.getD i .none = d := by rw [List.getD_eq_getElem?_getD, hd]; rfl
        have k := k h3 g3
        rw [ed] at k
        array_get_dec
        cases rd with
        | non => exact ⟨_, _, rfl, kb_NoneType_int, _, rfl, by rw [if_neg (by decide)]; exact k⟩
        | bl => exact ⟨_, _, rfl, kb_bool_int, _, rfl, by rw [if_pos rfl]; exact ⟨_, _, rfl, kb_bool_bool, _, rfl, k⟩⟩
        | int => exact ⟨_, _, rfl, kb_int_int, _, rfl, by rw [if_pos rfl]; exact ⟨_, _, rfl, kb_int_bool, _, rfl, k⟩⟩
        | str => exact ⟨_, _, rfl, kb_str_int, _, rfl, by rw [if_neg (by decide)]; exact k⟩
        | tup => exact ⟨_, _, rfl, kb_tuple_int, _, rfl, by rw [if_neg (by decide)]; exact k⟩
        | lst e => exact ⟨_, _, by simp only [tyA, e], kb_list_int, _, rfl, by rw [if_neg (by decide)]; exact k⟩
      · refine ⟨(List.range us.length).map fun i => isNumB (ds.getD i .none), by simp, q _ _ ?_ (g3.trans (Gr.app _))⟩
        have hall : ((List.range us.length).map fun i => isNumB (ds.getD i .none)).all id = true ↔ ∀ d ∈ ds, isNumB d = true := by
          rw [← getD_all (d := PyData.none) hl]
          simp
        rw [hall]
        refine ⟨fun w => ?_, fun ⟨ns, e, _⟩ d hd => ?_⟩
        · obtain ⟨ns, en⟩ := nums_of w
          exact ⟨ns, by rw [en], by rw [← z, hl, en]; simp⟩
        · cases e
          obtain ⟨n, _, rfl⟩ := List.mem_map.mp hd
          rfl
    · rw [if_pos (by rw [decide_eq_false (by omega)]; decide)]
      refine wp_go fun N hN => ?_
      array_get_dec
      exact q false h ⟨(fun w => nomatch w), fun ⟨ns, e, e2⟩ => by cases e; simp at hl; omega⟩ Gr.rfl
  | non =>
    have no := no (fun _ z => nomatch z)
    decreasing_trivial; exact wp_go fun N hN => (by decreasing_trivial)
  | bl =>
    have no := no (fun _ z => nomatch z)
    decreasing_trivial; exact wp_go fun N hN => (by decreasing_trivial)
  | int =>
    have no := no (fun _ z => nomatch z)
    decreasing_trivial; exact wp_go fun N hN => (by decreasing_trivial)
  | str =>
    have no := no (fun _ z => nomatch z)
    decreasing_trivial; exact wp_go fun N hN => (by decreasing_trivial)
  | tup =>
    have no := no (fun _ z => nomatch z)
    decreasing_trivial; exact wp_go fun N hN => (by decreasing_trivial)
def ir_shows_least (Φ_plain_kind : ASp) (Φ_sent : ASp) (Φ_are_numbers : ASp) : List IS := [.asg (.name 5) (.call Φ_plain_kind [.l 0]),
  .iff (.or [.bool (.call (aEq true) [.call aGet [.call Φ_sent [.l 5, .l 1, .l 3], .c (.int 1)], .l 2]), .not (.val (.call Φ_are_numbers [.l 4, .call aLenA [.l 5]]))]) [.ret (.c (.bl false))] [],
  .iff (.or [.bool (.call (aEq true) [.call aGet [.l 4, .l 1], .c (.int 0)]), .bool (.call (aEq true) [.call aGet [.l 4, .l 2], .call aLenA [.l 3]])]) [.ret (.c (.bl false))] [],
  .ret (.call aAll [.lc2 [6, 7, 8, 9] [8, 9] (.tup [.name 6, .name 7]) wEnum [.l 5] (.tup [.name 8, .name 9]) wSeq [.l 7] [] (.call aLe [.call aGet [.l 4, .l 9], .call aAdd [.call aGet [.l 4, .l 6], .c (.int 1)]])])]
/-- a row and numbers that show that no shorter one leads there -/
def LeastP (D R : Nat) (f : Nat → Nat → Nat × Nat) (x s : Nat) (u : List Nat) (d : PyData) : Prop := run f x u = s ∧ ∃ ns : List Int, d = .list (ns.map .int) ∧ ns.length = R ∧ ns.getD x 0 = 0 ∧ ns.getD s 0 = u.length ∧ ∀ r e, r < R → e < D → ns.getD (f r e).2 0 ≤ ns.getD r 0 + 1
def Φ_shl : ASp := fun vs h Q => vs.length = 5 ∧ ∃ (v rv tv : Val) (d z : PyData) (D R : Nat) (f : Nat → Nat → Nat × Nat) (x s : Nat) (u : List Nat), vs = [v, .int x, .int s, rv, tv] ∧ Rep h v d ∧ KG D R f d ∧ Bnd D R f ∧ x < R ∧ s < R ∧ isRow h rv u ∧ Good D u ∧ u.length ≤ 100000 ∧ Rep h tv z ∧ D ≤ 1000 ∧ R ≤ 1000 ∧
  ∀ (t : Bool) (h' : AH), (t = true ↔ LeastP D R f x s u z) → Gr h h' → Q (.bl t) h'
theorem ints_get {ns : List Int} {i : Nat} (h : i < ns.length) : (ns.map Val.int)[i]? = some (.int (ns.getD i 0)) := by
  rw [List.getElem?_map, List.getElem?_eq_getElem h, List.getD_eq_getElem?_getD, List.getElem?_eq_getElem h]; rfl
theorem leA_of {i j : Int} {h : AH} {Q : Val → AH → Prop} (q : Q (.bl (decide (i ≤ j))) h) : aLe [.int i, .int j] h Q := q
theorem eqA_of {i j : Int} {neg : Bool} {h : AH} {Q : Val → AH → Prop} (q : Q (.bl (neg != decide (i = j))) h) : aEq neg [.int i, .int j] h Q := q
theorem wp_shl : ∀ vs h Q, Φ_shl vs h Q → vs.length = 5 → wpSs (ir_shows_least Φ_plain Φ_sent Φ_nums) (startA 10 vs) h { nx := fun _ h' => Q .non h', rt := Q } := by
  rintro vs h Q ⟨-, v, rv, tv, d, z, D, R, f, x, s, u, rfl, rp, hk, hB, hx, hs, hr, hg, hl, rz, hD, hR, q⟩ -
  refine wp_go fun N hN => ?_
  array_get_dec
  refine ⟨rfl, v, d, D, R, f, rfl, rp, hk, by omega, by omega, fun h1 g1 => ?_⟩
  refine hN _ _ (wp_go fun N hN => ?_)
  array_get_dec
  refine ⟨rfl, _, rv, _, D, R, f, x, u, rfl, rep_rwsR, KG_mix, hB, hx, hr.gr g1, hg, hl, fun a h2 g2 l2 e2 => ?_⟩
  refine get_of (i := 1) rfl rfl (eqA_of ⟨_, rfl, ?_⟩)
  by_cases hrun : run f x u = s
  · rw [if_neg (by rw [decide_eq_true (by omega)]; decide)]
    refine len_of rfl ⟨rfl, tv, z, R, by rw [rws_len], rz.gr (g1.trans g2), by omega, fun t h3 ht g3 => ⟨t, rfl, ?_⟩⟩
    cases t with
    | false =>
      rw [if_pos (by decide)]
      refine wp_go fun N hN => ?_
      array_get_dec
      refine q false h3 ⟨(fun w => nomatch w), fun ⟨_, ns, e, el, _⟩ => ?_⟩ ((g1.trans g2).trans g3)
      exact ht.mpr ⟨ns, e, el⟩
    | true =>
      rw [if_neg (by decide)]
      obtain ⟨ns, rfl, en⟩ := ht.mp rfl
      have g3' := (g1.trans g2).trans g3
      have rz3 := rz.gr g3'
      cases rz3 with
      | @lst b vs _ eb rs =>
      have ev : vs = ns.map Val.int := by
        apply List.ext_getElem?
        intro i
        by_cases hi : i < ns.length
        · have hl := rs.len
          simp at hl
          have e1 := List.getElem?_eq_getElem (show i < vs.length by omega)
          obtain ⟨d', hd', rd⟩ := rs.get e1
          rw [List.getElem?_map, List.getElem?_eq_getElem hi] at hd'
          cases hd'
          rw [e1, ints_get hi]
          generalize vs[i] = w at rd
          have : ns.getD i 0 = ns[i] := by rw [List.getD_eq_getElem?_getD, List.getElem?_eq_getElem hi]; rfl
          rw [this]
          cases rd; rfl
        · have hl := rs.len
          simp at hl
          rw [List.getElem?_eq_none (by omega), List.getElem?_eq_none (by simp; omega)]
      subst ev
      refine hN _ _ (wp_go fun N hN => ?_)
      array_get_dec
      have bad : (¬ (ns.getD x 0 = 0 ∧ ns.getD s 0 = u.length)) → Q (.bl false) h3 := fun w => q false h3 ⟨(fun w => nomatch w), fun ⟨_, ns', e, _, a1, a2, _⟩ => by
        have : ns = ns' := map_inj (fun a b z => by cases z; rfl) (PyData.list.inj e)
        subst this
        exact absurd ⟨a1, a2⟩ w⟩ g3'
      refine get_of (seq_ref eb) (ints_get (by omega)) (eqA_of ⟨_, rfl, ?_⟩)
      by_cases h0 : ns.getD x 0 = 0
      · rw [if_neg (by rw [decide_eq_true h0]; decide)]
        refine get_of (seq_ref eb) (ints_get (by omega)) (len_of (hr.gr g3').seq (eqA_of ⟨_, rfl, ?_⟩))
        rw [intsN_len]
        by_cases h1 : ns.getD s 0 = u.length
        · rw [if_neg (by rw [decide_eq_true h1]; decide)]
          refine hN _ _ (wp_go fun N hN => ?_)
          array_get_dec
          refine lc_inv (fun n acc h' => Gr h3 h' ∧ ∃ bs : List Bool, acc = bs.map .bl ∧ bs.length = n * D ∧ (bs.all id = true ↔ ∀ r e, r < n → e < D → ns.getD (f r e).2 0 ≤ ns.getD r 0 + 1)) ⟨Gr.rfl, [], rfl, by simp, by simp⟩ (fun r w acc h4 K hw ⟨g4, bs, ea, eb1, eb2⟩ k => ⟨trivial, ?_⟩) fun acc h4 ⟨g4, bs, ea, eb1, eb2⟩ => ⟨trivial, ?_⟩
          · obtain ⟨w, hw', rfl⟩ := enumL_get hw
            obtain ⟨hr', rfl⟩ := rws_inv hw'
            have eb4 := g4.get eb
            refine ⟨_, rfl, rfl, _, _, rfl, _, _, rfl, rfl, ?_⟩
            refine lc_inv (fun m acc' h' => Gr h3 h' ∧ ∃ bs' : List Bool, acc' = bs'.map .bl ∧ bs'.length = m ∧ (bs'.all id = true ↔ ∀ e, e < m → ns.getD (f r e).2 0 ≤ ns.getD r 0 + 1)) ⟨g4, [], rfl, rfl, by simp⟩ (fun e w acc' h5 K' hw2 ⟨g5, bs', ea', eb1', eb2'⟩ k' => ⟨trivial, ?_⟩) fun acc' h5 ⟨g5, bs', ea', eb1', eb2'⟩ => ⟨trivial, ?_⟩
            · obtain ⟨he, rfl⟩ := prs_inv hw2
              have eb5 := g5.get eb
              refine ⟨_, rfl, rfl, _, _, rfl, _, _, rfl, rfl, ?_⟩
              refine get_of (seq_ref eb5) (ints_get (by have := (hB r e hr' he).2; omega)) (get_of (seq_ref eb5) (ints_get (by omega)) (addI_of (leA_of ?_)))
              refine k' _ _ (by rw [ea']; simp; omega) ⟨g5, bs' ++ [decide (ns.getD (f r e).2 0 ≤ ns.getD r 0 + 1)], by rw [ea']; simp, by simp [eb1'], ?_⟩
              rw [List.all_append, Bool.and_eq_true, eb2']
              simp only [List.all_cons, List.all_nil, Bool.and_true, id, decide_eq_true_eq]
              refine ⟨fun ⟨w1, w2⟩ e' he' => ?_, fun w => ⟨fun e' he' => w e' (by omega), w e (Nat.lt_succ_self _)⟩⟩
              rcases Nat.lt_succ_iff_lt_or_eq.mp he' with h | h
              · exact w1 e' h
              · subst h; exact w2
            · rw [prs_len] at eb1' eb2'
              have hb1 : bs.length + D ≤ 1000000 := by
                have : (r + 1) * D ≤ 1000 * 1000 := Nat.mul_le_mul (by omega) hD
                rw [Nat.succ_mul] at this
                omega
              refine k _ _ (by rw [ea, ea']; simp; omega) ⟨g5, bs ++ bs', by rw [ea, ea']; simp, by rw [List.length_append, eb1, eb1', Nat.succ_mul], ?_⟩
              rw [List.all_append, Bool.and_eq_true, eb2, eb2']
              refine ⟨fun ⟨w1, w2⟩ r' e' hr'' he' => ?_, fun w => ⟨fun r' e' hr'' he' => w r' e' (by omega) he', fun e' he' => w r e' (Nat.lt_succ_self _) he'⟩⟩
              rcases Nat.lt_succ_iff_lt_or_eq.mp hr'' with h | h
              · exact w1 r' e' h he'
              · subst h; exact w2 e' he'
          · have el : (enumL (rws D R f)).length = R := by rw [enumL_len, rws_len]
            have eb2 : bs.all id = true ↔ ∀ r e, r < (enumL (rws D R f)).length → e < D → ns.getD (f r e).2 0 ≤ ns.getD r 0 + 1 := eb2
            rw [el] at eb2
            refine ⟨bs, by rw [← ea]; exact get_new, q _ _ ?_ (g3'.trans (g4.trans (Gr.app _)))⟩
            rw [eb2]
            refine ⟨fun w => ⟨hrun, ns, rfl, en, h0, h1, w⟩, fun ⟨_, ns', e, _, _, _, w⟩ => ?_⟩
            have : ns = ns' := map_inj (fun a b z => by cases z; rfl) (PyData.list.inj e)
            subst this
            exact w
        · rw [if_pos (by rw [decide_eq_false h1]; decide)]
          refine wp_go fun N hN => ?_
          array_get_dec
          exact bad fun w => h1 w.2
      · rw [if_pos (by rw [decide_eq_false h0]; decide)]
        refine wp_go fun N hN => ?_
        array_get_dec
        exact bad fun w => h0 w.1
  · rw [if_pos (by rw [decide_eq_false (by omega)]; decide)]
    refine wp_go fun N hN => ?_
    array_get_dec
    exact q false h2 ⟨(fun w => nomatch w), fun w => absurd w.1 hrun⟩ (g1.trans g2)
end Ev
namespace Ev
open PySem PySem.Spec PyProof.Rows L2
local macro_rules | `(tactic| decreasing_trivial) => `(tactic| simp only [wpS, wpE, wpEs, wpAnd, wpOr, wpT, wpTA, wpTO, wpQs, wpG, wpGs, truth, Option.map_some, Option.map_none, startA, List.map_cons, List.map_nil, List.length_cons, List.length_nil, List.cons_append, List.nil_append, List.replicate, List.getElem?_cons_zero, List.getElem?_cons_succ, Option.some.injEq, exists_eq_left', exists_eq_left, exists_eq_right, exists_eq', List.set_cons_zero, List.set_cons_succ, wipeS,
  and_assoc, exists_and_left, Val.bl.injEq, Val.int.injEq, Val.str.injEq, Val.tup.injEq, Val.ref.injEq, decide_eq_true_eq, and_true, true_and, seqOf_tup, seqOf_ref, seqOf_scr, seqOf_int, seqOf_bl, seqOf_str, seqOf_non, dctOf_ref, dctOf_tup, if_true, if_false, Bool.false_eq_true, ite_true, ite_false, reduceIte, reduceCtorEq, false_and, exists_false, and_false, List.cons.injEq, Nat.reduceAdd, Nat.reduceSub, Nat.zero_add,
  aAdd, aSub, aMul, aMod, aDiv, aPow, aNeg, aCmp, aLt, aLe, aGt, aGe, aTup, aLst, aGet, aSet, aLenA, aTuple, aList, aAbs, aInt, aDivmod, aAll, aAny, aMaxA, aMinA, aSum, aDict0, aLs, aDc, aAppend, aI, aSl00, aSl01, aSl10, aSl11, aCut, aIs, isNon, Bool.false_bne, Bool.true_bne, wSeq, wRng1, wRng2, wEnum, wZip, aEq_i, aEq_s, aEq_b, atI_0, atI_1, atI_2, atI_3, atI_n, ixN3_0, ixN3_1, ixN3_2, get_set, List.length_set, List.set_set, List.getElem?_map, aIsi, aIsi2, tyA, Bool.or_true, Bool.true_or, Bool.or_false, Bool.false_or, Bool.and_true, Bool.true_and, Bool.and_false, Bool.false_and, Bool.not_true, Bool.not_false, beq_self_eq_true, bne_self_eq_false, decide_true, decide_false, kb_NoneType_bool, kb_NoneType_int, kb_NoneType_str, kb_NoneType_list, kb_NoneType_tuple, kb_bool_bool, kb_bool_int, kb_bool_str, kb_bool_list, kb_bool_tuple, kb_int_bool, kb_int_int, kb_int_str, kb_int_list, kb_int_tuple, kb_str_bool, kb_str_int, kb_str_str, kb_str_list, kb_str_tuple, kb_list_bool, kb_list_int, kb_list_str, kb_list_list, kb_list_tuple, kb_tuple_bool, kb_tuple_int, kb_tuple_str, kb_tuple_list, kb_tuple_tuple, get_new, aLstRg1, aTupRg1, aAddI, aSubI, aDict1, List.length_map, List.length_range, rgL_len, Nat.reduceLeDiff, Nat.zero_le, AO.lst.injEq, AO.dct.injEq, *])
local macro_rules | `(tactic| array_get_dec) => `(tactic| try simp only [wpS, wpE, wpEs, wpAnd, wpOr, wpT, wpTA, wpTO, wpQs, wpG, wpGs, Option.map_some, Option.map_none, startA, List.map_cons, List.map_nil, List.length_cons, List.length_nil, List.cons_append, List.nil_append, List.replicate, List.getElem?_cons_zero, List.getElem?_cons_succ, Option.some.injEq, exists_eq_left', exists_eq_left, List.set_cons_zero, List.set_cons_succ, wipeS, if_true, if_false, Bool.false_eq_true, ite_true, ite_false, reduceIte, Nat.reduceAdd, Nat.reduceSub, Nat.zero_add])
/-! ### beside -/
def ir_beside (Φ_plain_kind : ASp) : List IS := [.asg (.tup [.name 2, .name 3]) (.call aTup [.call Φ_plain_kind [.l 0], .call Φ_plain_kind [.l 1]]),
  .asg (.tup [.name 4, .name 5]) (.call aTup [.call aLenA [.call aGet [.l 2, .c (.int 0)]], .call aLenA [.l 3]]),
  .asg (.name 6) (.call aLst []),
  .for (.tup [.name 7, .name 8]) wEnum [.l 2] [.for (.tup [.name 9, .name 10]) wEnum [.l 3] [.asg (.name 11) (.lc [13, 14] (.tup [.name 13, .name 14]) wSeq [.l 8] [] (.call aTup [.l 13, .call aAdd [.call aMul [.l 14, .l 5], .l 9]])),
  .asg (.name 12) (.lc [13, 14] (.tup [.name 13, .name 14]) wSeq [.l 10] [] (.call aTup [.call aAdd [.l 13, .l 4], .call aAdd [.call aMul [.l 7, .l 5], .l 14]])),
  .exp (.call aAppend (.call aLs [.l 6] :: [.call aTuple [.call aAdd [.l 11, .l 12]]]))]],
  .ret (.call aTuple [.l 6])]
def Φ_beside : ASp := fun vs h Q => vs.length = 2 ∧ ∃ (v1 v2 : Val) (d1 d2 : PyData) (D1 R1 D2 R2 : Nat) (f1 f2 : Nat → Nat → Nat × Nat), vs = [v1, v2] ∧ Rep h v1 d1 ∧ Rep h v2 d2 ∧ KG D1 R1 f1 d1 ∧ KG D2 R2 f2 d2 ∧ 1 ≤ R1 ∧ D1 ≤ 1000 ∧ D2 ≤ 1000 ∧ R1 ≤ 1000 ∧ R2 ≤ 1000 ∧
  ∀ h', Gr h h' → Q (.tup (rws (D1 + D2) (R1 * R2) (bsF D1 R2 f1 f2))) h'
theorem bs_prs {D1 D2 R2 r i : Nat} {f1 f2 : Nat → Nat → Nat × Nat} (hi : i < R2) : prs D1 (fun d => ((f1 r d).1, (f1 r d).2 * R2 + i)) ++ prs D2 (fun d => ((f2 i d).1 + D1, r * R2 + (f2 i d).2)) = prs (D1 + D2) (bsF D1 R2 f1 f2 (r * R2 + i)) := by
  obtain ⟨m1, m2⟩ := dm (q := r) hi
  unfold prs
  rw [rng_app]
  congr 1
  · refine List.map_congr_left fun d hd => ?_
    unfold bsF
    rw [if_pos (List.mem_range.mp hd), m1, m2]
  · refine List.map_congr_left fun d hd => ?_
    unfold bsF
    rw [if_neg (by omega), m1, m2, Nat.add_sub_cancel_left]
theorem mulI_of {i j : Int} {h : AH} {Q : Val → AH → Prop} (c : CMul i j) (q : Q (.int (i * j)) h) : aMul [.int i, .int j] h Q := ⟨c, q⟩
theorem cmulN {a b : Nat} (h : b ≤ 1000000) : CMul (a : Int) (b : Int) := .inr ⟨by omega, by omega⟩
theorem wp_beside : ∀ vs h Q, Φ_beside vs h Q → vs.length = 2 → wpSs (ir_beside Φ_plain) (startA 15 vs) h { nx := fun _ h' => Q .non h', rt := Q } := by
  rintro vs h Q ⟨-, v1, v2, d1, d2, D1, R1, D2, R2, f1, f2, rfl, r1, r2, k1, k2, hR0, hD1, hD2, hR1, hR2, q⟩ -
  refine wp_go fun N hN => ?_
  array_get_dec
  refine ⟨rfl, v1, d1, D1, R1, f1, rfl, r1, k1, by omega, by omega, fun h1 g1 => ?_⟩
  refine ⟨rfl, v2, d2, D2, R2, f2, rfl, r2.gr g1, k2, by omega, by omega, fun h2 g2 => ?_⟩
  refine ⟨by simp, _, rfl, rfl, _, _, rfl, _, _, rfl, rfl, ?_⟩
  refine hN _ _ (wp_go fun N hN => ?_)
  array_get_dec
  refine get_of (i := 0) rfl (rws_get hR0) (len_of rfl (len_of rfl ⟨by simp, _, rfl, rfl, _, _, rfl, _, _, rfl, rfl, ?_⟩))
  rw [prs_len, rws_len]
  refine hN _ _ (wp_go fun N hN => ?_)
  array_get_dec
  refine ⟨by simp, hN _ _ (wp_go fun N hN => ?_)⟩
  array_get_dec
  have g0 := g1.trans g2
  obtain ⟨a, ha⟩ : ∃ a, a = h2.length := ⟨_, rfl⟩
  have e0 := get_new (h := h2) (o := .lst [])
  rw [← ha] at e0 ⊢
  have la : h.length ≤ a := by have := g0.le; omega
  clear ha
  have g3 : Gr h (h2 ++ [AO.lst []]) := g0.trans (Gr.app _)
  generalize h2 ++ [AO.lst []] = h3 at e0 g3 ⊢
  refine for_inv (fun r sl h' => ∃ (c7 c8 c9 c10 c11 c12 : Option Val), sl = [some v1, some v2, some (.tup (rws D1 R1 f1)), some (.tup (rws D2 R2 f2)), some (.int D1), some (.int R2), some (.ref a), c7, c8, c9, c10, c11, c12, none, none] ∧ Gr h h' ∧ h'[a]? = some (.lst (rws (D1 + D2) (r * R2) (bsF D1 R2 f1 f2))))
    ⟨_, _, _, _, _, _, rfl, g3, by rw [Nat.zero_mul]; exact e0⟩ (fun r w sl h4 N' hv hI hN' => ⟨trivial, ?_⟩) fun sl h4 hI => ⟨trivial, ?_⟩
  · obtain ⟨c7, c8, c9, c10, c11, c12, rfl, g4, e4⟩ := hI
    obtain ⟨w, hw, rfl⟩ := enumL_get hv
    obtain ⟨hr, rfl⟩ := rws_inv hw
    refine ⟨_, rfl, rfl, _, _, rfl, _, _, rfl, rfl, ?_⟩
    simp only [List.set_cons_zero, List.set_cons_succ]
    refine wp_go fun N2 hN2 => ?_
    array_get_dec
    refine for_inv (fun i sl h' => ∃ (c9 c10 c11 c12 : Option Val), sl = [some v1, some v2, some (.tup (rws D1 R1 f1)), some (.tup (rws D2 R2 f2)), some (.int D1), some (.int R2), some (.ref a), some (.int r), some (.tup (prs D1 (f1 r))), c9, c10, c11, c12, none, none] ∧ Gr h h' ∧ h'[a]? = some (.lst (rws (D1 + D2) (r * R2 + i) (bsF D1 R2 f1 f2))))
      ⟨_, _, _, _, rfl, g4, e4⟩ (fun i w sl h5 N3 hv hI hN3 => ⟨trivial, ?_⟩) fun sl h5 hI => ⟨trivial, ?_⟩
    · obtain ⟨c9, c10, c11, c12, rfl, g5, e5⟩ := hI
      obtain ⟨w, hw, rfl⟩ := enumL_get hv
      obtain ⟨hi, rfl⟩ := rws_inv hw
      refine ⟨_, rfl, rfl, _, _, rfl, _, _, rfl, rfl, ?_⟩
      simp only [List.set_cons_zero, List.set_cons_succ]
      have hb : r * R2 + i < 1000 * 1000 := by
        have : (r + 1) * R2 ≤ 1000 * 1000 := Nat.mul_le_mul (by omega) hR2
        rw [Nat.succ_mul] at this; omega
      refine wp_go fun N4 hN4 => ?_
      array_get_dec
      refine lc_map (fun h => h = h5) (fun d => pV ((f1 r d).1, (f1 r d).2 * R2 + i)) (by rw [prs_len]; omega) rfl (fun d w h6 K hw2 g6 k => ⟨trivial, ?_⟩) fun h6 g6 => ⟨trivial, ?_⟩
      · subst g6
        obtain ⟨hd, rfl⟩ := prs_inv hw2
        refine ⟨_, rfl, rfl, _, _, rfl, _, _, rfl, rfl, ?_⟩
        exact mulI_of (cmulN (by omega)) (addI_of ⟨by simp, k _ rfl⟩)
      subst g6
      rw [prs_len]
      have e6 := get_app (n := [AO.lst (prs D1 fun d => ((f1 r d).1, (f1 r d).2 * R2 + i))]) e5
      have el := get_new (h := h6) (o := AO.lst (prs D1 fun d => ((f1 r d).1, (f1 r d).2 * R2 + i)))
      have g6 := g5.trans (Gr.app [AO.lst (prs D1 fun d => ((f1 r d).1, (f1 r d).2 * R2 + i))])
      rw [show (List.range D1).map (fun d => pV ((f1 r d).1, (f1 r d).2 * R2 + i)) = prs D1 fun d => ((f1 r d).1, (f1 r d).2 * R2 + i) from rfl]
      generalize h6.length = b at el ⊢
      generalize h6 ++ [AO.lst (prs D1 fun d => ((f1 r d).1, (f1 r d).2 * R2 + i))] = h7 at e6 el g6 ⊢
      refine hN4 _ _ (wp_go fun N5 hN5 => ?_)
      array_get_dec
      refine lc_map (fun h => h = h7) (fun d => pV ((f2 i d).1 + D1, r * R2 + (f2 i d).2)) (by rw [prs_len]; omega) rfl (fun d w h8 K hw2 g8 k => ⟨trivial, ?_⟩) fun h8 g8 => ⟨trivial, ?_⟩
      · subst g8
        obtain ⟨hd, rfl⟩ := prs_inv hw2
        refine ⟨_, rfl, rfl, _, _, rfl, _, _, rfl, rfl, ?_⟩
        exact addI_of (mulI_of (cmulN (by omega)) (addI_of ⟨by simp, k _ rfl⟩))
      subst g8
      rw [prs_len]
      rw [show (List.range D2).map (fun d => pV ((f2 i d).1 + D1, r * R2 + (f2 i d).2)) = prs D2 fun d => ((f2 i d).1 + D1, r * R2 + (f2 i d).2) from rfl]
      have e8 := get_app (n := [AO.lst (prs D2 fun d => ((f2 i d).1 + D1, r * R2 + (f2 i d).2))]) e6
      have el8 := get_app (n := [AO.lst (prs D2 fun d => ((f2 i d).1 + D1, r * R2 + (f2 i d).2))]) el
      have er := get_new (h := h8) (o := AO.lst (prs D2 fun d => ((f2 i d).1 + D1, r * R2 + (f2 i d).2)))
      have g8 := g6.trans (Gr.app [AO.lst (prs D2 fun d => ((f2 i d).1 + D1, r * R2 + (f2 i d).2))])
      generalize h8.length = c at er ⊢
      generalize h8 ++ [AO.lst (prs D2 fun d => ((f2 i d).1 + D1, r * R2 + (f2 i d).2))] = h9 at e8 el8 er g8 ⊢
      refine hN5 _ _ (wp_go fun N6 hN6 => ?_)
      array_get_dec
      refine ls_of e8 ⟨_, _, el8, er, by rw [prs_len, prs_len]; omega, ?_⟩
      rw [bs_prs hi]
      refine tuple_of (seq_ref get_new) (app_of (get_app e8) (by rw [rws_len]; omega) ?_)
      refine hN6 _ _ (hN3 _ _ ⟨_, _, _, _, rfl, (g8.trans (Gr.app _)).setNew la, ?_⟩)
      rw [get_set (lt_of (get_app e8))]
      unfold rws
      rw [show r * R2 + (i + 1) = r * R2 + i + 1 by omega, rng_snoc]
    · obtain ⟨c9, c10, c11, c12, rfl, g5, e5⟩ := hI
      have el : (enumL (rws D2 R2 f2)).length = R2 := by rw [enumL_len, rws_len]
      have e5 : h5[a]? = some (.lst (rws (D1 + D2) (r * R2 + (enumL (rws D2 R2 f2)).length) (bsF D1 R2 f1 f2))) := e5
      rw [el, ← Nat.succ_mul] at e5
      exact hN2 _ _ (hN' _ _ ⟨_, _, _, _, _, _, rfl, g5, e5⟩)
  · obtain ⟨c7, c8, c9, c10, c11, c12, rfl, g4, e4⟩ := hI
    have el : (enumL (rws D1 R1 f1)).length = R1 := by rw [enumL_len, rws_len]
    have e4 : h4[a]? = some (.lst (rws (D1 + D2) ((enumL (rws D1 R1 f1)).length * R2) (bsF D1 R2 f1 f2))) := e4
    rw [el] at e4
    refine hN _ _ (wp_go fun N hN => ?_)
    array_get_dec
    exact tuple_of (seq_ref e4) (q _ g4)
end Ev
namespace Ev
/-! ### doors joined: the mathematics -/
/-- a door's partner: what was written last -/
def putsF (l : List (Nat × Nat)) (d : Nat) : Option Nat := l.foldl (fun acc kv => if d = kv.1 then some kv.2 else acc) none
structure IsP (D : Nat) (ws : List (Nat × Nat)) (p : Nat → Option Nat) : Prop where
  iff : ∀ d e, p d = some e ↔ (d, e) ∈ ws ∨ (e, d) ∈ ws
  lt : ∀ d e, p d = some e → d < D
section
variable {D R : Nat} {f : Nat → Nat → Nat × Nat} {p : Nat → Option Nat} {ws : List (Nat × Nat)}
theorem putsF_gen : ∀ (l : List (Nat × Nat)) (a : Option Nat) (d : Nat), (∀ q ∈ l, p q.1 = some q.2) → (a = p d ∨ ((∃ v, (d, v) ∈ l) ∨ p d = none) ∧ a = none) → l.foldl (fun acc kv => if d = kv.1 then some kv.2 else acc) a = p d
  | [], a, d, _, h => by
    rcases h with h | ⟨⟨v, h⟩ | h, e⟩
    · exact h
    · exact absurd h List.not_mem_nil
    · rw [h, e]; rfl
  | q :: l, a, d, hl, h => by
    rw [List.foldl_cons]
    by_cases z : d = q.1
    · rw [if_pos z]
      refine putsF_gen l _ d (fun q' hq' => hl q' (List.mem_cons_of_mem _ hq')) (.inl ?_)
      rw [z]; exact (hl q (List.mem_cons_self ..)).symm
    · rw [if_neg z]
      refine putsF_gen l _ d (fun q' hq' => hl q' (List.mem_cons_of_mem _ hq')) ?_
      rcases h with h | ⟨⟨v, h⟩ | h, e⟩
      · exact .inl h
      · rcases List.mem_cons.mp h with h | h
        · exact absurd (by rw [← h]) z
        · exact .inr ⟨.inl ⟨v, h⟩, e⟩
      · exact .inr ⟨.inr h, e⟩
theorem putsF_eq {l : List (Nat × Nat)} (h1 : ∀ q ∈ l, p q.1 = some q.2) (h2 : ∀ d e, p d = some e → ∃ v, (d, v) ∈ l) (d : Nat) : putsF l d = p d := by
  refine putsF_gen l none d h1 ?_
  cases h : p d with
  | none => exact .inl rfl
  | some e => exact .inr ⟨.inl (h2 d e h), rfl⟩
def both (ws : List (Nat × Nat)) : List (Nat × Nat) := ws.flatMap fun q => [q, (q.2, q.1)]
def thenBack (ws : List (Nat × Nat)) : List (Nat × Nat) := ws ++ ws.map fun q => (q.2, q.1)
theorem IsP.both (h : IsP D ws p) (d : Nat) : putsF (both ws) d = p d := putsF_eq (fun q hq => by
  obtain ⟨w, hw, hm⟩ := List.mem_flatMap.mp hq
  simp only [List.mem_cons, List.not_mem_nil, or_false] at hm
  rcases hm with rfl | rfl
  · exact (h.iff _ _).mpr (.inl hw)
  · exact (h.iff _ _).mpr (.inr hw)) (fun d e hd => by
  rcases (h.iff d e).mp hd with hw | hw
  · exact ⟨e, List.mem_flatMap.mpr ⟨_, hw, by simp⟩⟩
  · exact ⟨e, List.mem_flatMap.mpr ⟨_, hw, by simp⟩⟩) d
theorem IsP.thenBack (h : IsP D ws p) (d : Nat) : putsF (thenBack ws) d = p d := putsF_eq (fun q hq => by
  rcases List.mem_append.mp hq with hw | hw
  · exact (h.iff _ _).mpr (.inl hw)
  · obtain ⟨w, hw', rfl⟩ := List.mem_map.mp hw
    exact (h.iff _ _).mpr (.inr hw')) (fun d e hd => by
  rcases (h.iff d e).mp hd with hw | hw
  · exact ⟨e, List.mem_append_left _ hw⟩
  · exact ⟨e, List.mem_append_right _ (List.mem_map.mpr ⟨_, hw, rfl⟩)⟩) d
theorem IsP.sym {d e : Nat} (h : IsP D ws p) (hd : p d = some e) : p e = some d := (h.iff e d).mpr ((h.iff d e).mp hd).symm
theorem IsP.change {ws' : List (Nat × Nat)} (h : IsP D ws p) (hw : ∀ d e, ((d, e) ∈ ws ∨ (e, d) ∈ ws) ↔ ((d, e) ∈ ws' ∨ (e, d) ∈ ws')) : IsP D ws' p := ⟨fun d e => (h.iff d e).trans (hw d e), h.lt⟩
/-! #### a ball goes on -/
def jinp (f : Nat → Nat → Nat × Nat) (p : Nat → Option Nat) (x : Nat × Nat) : Nat → Nat × Nat
  | 0 => x
  | n + 1 => ((p (f (jinp f p x n).2 (jinp f p x n).1).1).getD 0, (f (jinp f p x n).2 (jinp f p x n).1).2)
def jout (f : Nat → Nat → Nat × Nat) (p : Nat → Option Nat) (x : Nat × Nat) (n : Nat) : Nat × Nat := f (jinp f p x n).2 (jinp f p x n).1
def Stops (f : Nat → Nat → Nat × Nat) (p : Nat → Option Nat) (x : Nat × Nat) (k : Nat) : Prop := p (jout f p x k).1 = none ∧ ∀ m, m < k → ∃ e, p (jout f p x m).1 = some e
theorem jinp_succ {x : Nat × Nat} {n e : Nat} (h : p (jout f p x n).1 = some e) : jinp f p x (n + 1) = (e, (jout f p x n).2) := by
  show ((p (jout f p x n).1).getD 0, (jout f p x n).2) = _
  rw [h]; rfl
theorem j_lt (hf : Backs D R f) (hp : IsP D ws p) {x : Nat × Nat} (hx : x.1 < D ∧ x.2 < R) : ∀ n, (∀ m, m < n → ∃ e, p (jout f p x m).1 = some e) → (jinp f p x n).1 < D ∧ (jinp f p x n).2 < R
  | 0, _ => hx
  | n + 1, h => by
    obtain ⟨h1, h2⟩ := j_lt hf hp hx n fun m hm => h m (by omega)
    obtain ⟨e, he⟩ := h n (Nat.lt_succ_self _)
    obtain ⟨b1, b2, _⟩ := hf _ _ h2 h1
    rw [jinp_succ he]
    exact ⟨hp.lt _ _ (hp.sym he), b2⟩
theorem j_back (hf : Backs D R f) {x : Nat × Nat} {n : Nat} (h : (jinp f p x n).1 < D ∧ (jinp f p x n).2 < R) : f (jout f p x n).2 (jout f p x n).1 = jinp f p x n := by
  obtain ⟨_, _, b3⟩ := hf _ _ h.2 h.1
  exact b3
theorem j_inj (hf : Backs D R f) (hp : IsP D ws p) {x : Nat × Nat} (hx : x.1 < D ∧ x.2 < R) (h0 : p x.1 = none) {n : Nat} (hw : ∀ m, m < n → ∃ e, p (jout f p x m).1 = some e) : ∀ i j, i < j → j ≤ n → jinp f p x i ≠ jinp f p x j
  | 0, j + 1, _, hj, e => by
    obtain ⟨d, hd⟩ := hw j (by omega)
    rw [jinp_succ hd] at e
    have e : x = (d, (jout f p x j).2) := e
    have := hp.sym hd
    rw [e] at h0
    rw [h0] at this
    cases this
  | i + 1, j + 1, hij, hj, e => by
    obtain ⟨d, hd⟩ := hw i (by omega)
    obtain ⟨d', hd'⟩ := hw j (by omega)
    rw [jinp_succ hd, jinp_succ hd'] at e
    obtain ⟨e1, e2⟩ := Prod.mk.inj e
    subst e1
    have e3 := hp.sym hd
    rw [hp.sym hd'] at e3
    have e4 : jout f p x i = jout f p x j := Prod.ext (Option.some.inj e3).symm e2
    have b1 := j_back hf (j_lt hf hp hx i fun m hm => hw m (by omega))
    have b2 := j_back hf (j_lt hf hp hx j fun m hm => hw m (by omega))
    rw [e4, b2] at b1
    exact j_inj hf hp hx h0 hw i j (by omega) (by omega) b1.symm
theorem least_of {P : Nat → Prop} : ∀ n, P n → ∃ k, k ≤ n ∧ P k ∧ ∀ m, m < k → ¬ P m := fun n => by
  induction n using Nat.strongRecOn with
  | ind n ih =>
    intro hn
    by_cases h : ∃ m, m < n ∧ P m
    · obtain ⟨m, hm, pm⟩ := h
      obtain ⟨k, h1, h2, h3⟩ := ih m hm pm
      exact ⟨k, by omega, h2, h3⟩
    · exact ⟨n, Nat.le_refl _, hn, fun m hm pm => h ⟨m, hm, pm⟩⟩
theorem stops_ex (hf : Backs D R f) (hp : IsP D ws p) {x : Nat × Nat} (hx : x.1 < D ∧ x.2 < R) (h0 : p x.1 = none) : ∃ k, k < R * D ∧ Stops f p x k := by
  have ex : ∃ k, k < R * D ∧ p (jout f p x k).1 = none := by
    apply Classical.byContradiction
    intro hn
    have hw : ∀ m, m < R * D → ∃ e, p (jout f p x m).1 = some e := fun m hm => by
      cases h : p (jout f p x m).1 with
      | some e => exact ⟨e, rfl⟩
      | none => exact absurd ⟨m, hm, h⟩ hn
    have hnd : ((List.range (R * D + 1)).map fun i => (jinp f p x i).2 * D + (jinp f p x i).1).Nodup := by
      rw [List.nodup_iff_pairwise_ne, List.pairwise_map]
      refine List.Pairwise.imp_of_mem ?_ (List.pairwise_lt_range)
      intro a b ha hb hab e
      have ha := List.mem_range.mp ha
      have hb := List.mem_range.mp hb
      have l1 := j_lt hf hp hx a fun m hm => hw m (by omega)
      have l2 := j_lt hf hp hx b fun m hm => hw m (by omega)
      obtain ⟨m1, m2⟩ := dm (q := (jinp f p x a).2) l1.1
      obtain ⟨m3, m4⟩ := dm (q := (jinp f p x b).2) l2.1
      rw [e] at m1 m2
      exact j_inj hf hp hx h0 hw a b hab (by omega) (Prod.ext (m2.symm.trans m4) (m1.symm.trans m3))
    have hle := nd_len (R := R * D) hnd fun y hy => by
      obtain ⟨i, hi, rfl⟩ := List.mem_map.mp hy
      have hi := List.mem_range.mp hi
      obtain ⟨l1, l2⟩ := j_lt hf hp hx i fun m hm => hw m (by omega)
      have : ((jinp f p x i).2 + 1) * D ≤ R * D := Nat.mul_le_mul l2 (Nat.le_refl _)
      rw [Nat.succ_mul] at this
      omega
    simp at hle
    omega
  obtain ⟨k, hk, pk⟩ := ex
  obtain ⟨k', h1, h2, h3⟩ := least_of (P := fun k => p (jout f p x k).1 = none) k pk
  refine ⟨k', by omega, h2, fun m hm => ?_⟩
  cases h : p (jout f p x m).1 with
  | some e => exact ⟨e, rfl⟩
  | none => exact absurd h (h3 m hm)
theorem Stops.one {x : Nat × Nat} {k k' : Nat} (a : Stops f p x k) (b : Stops f p x k') : k = k' := by
  rcases Nat.lt_trichotomy k k' with h | h | h
  · obtain ⟨e, he⟩ := b.2 k h
    rw [a.1] at he; cases he
  · exact h
  · obtain ⟨e, he⟩ := a.2 k' h
    rw [b.1] at he; cases he
noncomputable def jval (f : Nat → Nat → Nat × Nat) (p : Nat → Option Nat) (x : Nat × Nat) : Nat × Nat := open Classical in if h : ∃ k, Stops f p x k then jout f p x (Classical.choose h) else x
theorem jval_of {x : Nat × Nat} {k : Nat} (h : Stops f p x k) : jval f p x = jout f p x k := by
  unfold jval
  have hx : ∃ k, Stops f p x k := ⟨k, h⟩
  rw [dif_pos hx, (Classical.choose_spec hx).one h]
/-- the way back -/
theorem stops_back (hf : Backs D R f) (hp : IsP D ws p) {x : Nat × Nat} (hx : x.1 < D ∧ x.2 < R) (h0 : p x.1 = none) {k : Nat} (h : Stops f p x k) : Stops f p (jout f p x k) k ∧ jout f p (jout f p x k) k = x := by
  have hin : ∀ m, m ≤ k → jinp f p (jout f p x k) m = jout f p x (k - m) ∧ jout f p (jout f p x k) m = jinp f p x (k - m) := fun m => by
    have bk : ∀ m, m ≤ k → f (jout f p x (k - m)).2 (jout f p x (k - m)).1 = jinp f p x (k - m) := fun m hm => j_back hf (j_lt hf hp hx _ fun i hi => h.2 i (by omega))
    induction m with
    | zero => intro _; exact ⟨rfl, bk 0 (Nat.zero_le _)⟩
    | succ m ih =>
      intro hm
      obtain ⟨i1, i2⟩ := ih (by omega)
      obtain ⟨e, he⟩ := h.2 (k - (m + 1)) (by omega)
      have e1 : jinp f p x (k - m) = (e, (jout f p x (k - (m + 1))).2) := by
        rw [show k - m = k - (m + 1) + 1 by omega]
        exact jinp_succ he
      have hw : p (jout f p (jout f p x k) m).1 = some (jout f p x (k - (m + 1))).1 := by
        rw [i2, e1]; exact hp.sym he
      have e2 : jinp f p (jout f p x k) (m + 1) = jout f p x (k - (m + 1)) := by
        rw [jinp_succ hw, i2, e1]
      refine ⟨e2, ?_⟩
      unfold jout at e2 ⊢
      rw [e2]
      exact bk (m + 1) hm
  have hk := (hin k (Nat.le_refl _)).2
  rw [Nat.sub_self] at hk
  refine ⟨⟨by rw [hk]; exact h0, fun m hm => ?_⟩, hk⟩
  rw [(hin m (by omega)).2]
  obtain ⟨e, he⟩ := h.2 (k - m - 1) (by omega)
  have e1 : jinp f p x (k - m) = (e, (jout f p x (k - m - 1)).2) := by
    rw [show k - m = k - m - 1 + 1 by omega]
    exact jinp_succ he
  rw [e1]
  exact ⟨_, hp.sym he⟩
/-! #### the joined kind -/
def leftL (D : Nat) (p : Nat → Option Nat) : List Nat := (List.range D).filter fun d => (p d).isNone
noncomputable def joinF (f : Nat → Nat → Nat × Nat) (p : Nat → Option Nat) (L : List Nat) (r i : Nat) : Nat × Nat := (L.idxOf (jval f p (L.getD i 0, r)).1, (jval f p (L.getD i 0, r)).2)
theorem left_nd : (leftL D p).Nodup := List.Pairwise.filter _ List.nodup_range
theorem left_mem {d : Nat} : d ∈ leftL D p ↔ d < D ∧ p d = none := by
  unfold leftL
  rw [List.mem_filter, List.mem_range, Option.isNone_iff_eq_none]
theorem jval_lt (hf : Backs D R f) (hp : IsP D ws p) {x : Nat × Nat} (hx : x.1 < D ∧ x.2 < R) (h0 : p x.1 = none) : (jval f p x).1 ∈ leftL D p ∧ (jval f p x).2 < R := by
  obtain ⟨k, _, h⟩ := stops_ex hf hp hx h0
  rw [jval_of h]
  obtain ⟨l1, l2⟩ := j_lt hf hp hx k fun m hm => h.2 m hm
  obtain ⟨b1, b2, _⟩ := hf _ _ l2 l1
  exact ⟨left_mem.mpr ⟨b1, h.1⟩, b2⟩
theorem jval_back (hf : Backs D R f) (hp : IsP D ws p) {x : Nat × Nat} (hx : x.1 < D ∧ x.2 < R) (h0 : p x.1 = none) : jval f p (jval f p x) = x := by
  obtain ⟨k, _, h⟩ := stops_ex hf hp hx h0
  obtain ⟨h1, h2⟩ := stops_back hf hp hx h0 h
  rw [jval_of h, jval_of h1, h2]
theorem join_backs (hf : Backs D R f) (hp : IsP D ws p) : Backs (leftL D p).length R (joinF f p (leftL D p)) := fun r i hr hi => by
  obtain ⟨i1, i2, _⟩ := nd_idx left_nd hi
  obtain ⟨d1, d2⟩ := left_mem.mp i2
  have hv := jval_lt hf hp (x := ((leftL D p).getD i 0, r)) ⟨d1, hr⟩ d2
  have hb := jval_back hf hp (x := ((leftL D p).getD i 0, r)) ⟨d1, hr⟩ d2
  obtain ⟨j1, j2⟩ := idx_get hv.1
  refine ⟨j1, hv.2, ?_⟩
  unfold joinF
  show ((leftL D p).idxOf (jval f p ((leftL D p).getD ((leftL D p).idxOf (jval f p ((leftL D p).getD i 0, r)).1) 0, (jval f p ((leftL D p).getD i 0, r)).2)).1, _) = _
  rw [j2, show ((jval f p ((leftL D p).getD i 0, r)).1, (jval f p ((leftL D p).getD i 0, r)).2) = jval f p ((leftL D p).getD i 0, r) from rfl, hb, i1]
end
end Ev
namespace Ev
open PySem PySem.Spec PyProof.Rows L2
local macro_rules | `(tactic| decreasing_trivial) => `(tactic| simp only [wpS, wpE, wpEs, wpAnd, wpOr, wpT, wpTA, wpTO, wpQs, wpG, wpGs, truth, Option.map_some, Option.map_none, startA, List.map_cons, List.map_nil, List.length_cons, List.length_nil, List.cons_append, List.nil_append, List.replicate, List.getElem?_cons_zero, List.getElem?_cons_succ, Option.some.injEq, exists_eq_left', exists_eq_left, exists_eq_right, exists_eq', List.set_cons_zero, List.set_cons_succ, wipeS,
  and_assoc, exists_and_left, Val.bl.injEq, Val.int.injEq, Val.str.injEq, Val.tup.injEq, Val.ref.injEq, decide_eq_true_eq, and_true, true_and, seqOf_tup, seqOf_ref, seqOf_scr, seqOf_int, seqOf_bl, seqOf_str, seqOf_non, dctOf_ref, dctOf_tup, if_true, if_false, Bool.false_eq_true, ite_true, ite_false, reduceIte, reduceCtorEq, false_and, exists_false, and_false, List.cons.injEq, Nat.reduceAdd, Nat.reduceSub, Nat.zero_add,
  aAdd, aSub, aMul, aMod, aDiv, aPow, aNeg, aCmp, aLt, aLe, aGt, aGe, aTup, aLst, aGet, aSet, aLenA, aTuple, aList, aAbs, aInt, aDivmod, aAll, aAny, aMaxA, aMinA, aSum, aDict0, aLs, aDc, aAppend, aI, aSl00, aSl01, aSl10, aSl11, aCut, aIs, isNon, Bool.false_bne, Bool.true_bne, wSeq, wRng1, wRng2, wEnum, wZip, aEq_i, aEq_s, aEq_b, atI_0, atI_1, atI_2, atI_3, atI_n, ixN3_0, ixN3_1, ixN3_2, get_set, List.length_set, List.set_set, List.getElem?_map, aIsi, aIsi2, tyA, Bool.or_true, Bool.true_or, Bool.or_false, Bool.false_or, Bool.and_true, Bool.true_and, Bool.and_false, Bool.false_and, Bool.not_true, Bool.not_false, beq_self_eq_true, bne_self_eq_false, decide_true, decide_false, kb_NoneType_bool, kb_NoneType_int, kb_NoneType_str, kb_NoneType_list, kb_NoneType_tuple, kb_bool_bool, kb_bool_int, kb_bool_str, kb_bool_list, kb_bool_tuple, kb_int_bool, kb_int_int, kb_int_str, kb_int_list, kb_int_tuple, kb_str_bool, kb_str_int, kb_str_str, kb_str_list, kb_str_tuple, kb_list_bool, kb_list_int, kb_list_str, kb_list_list, kb_list_tuple, kb_tuple_bool, kb_tuple_int, kb_tuple_str, kb_tuple_list, kb_tuple_tuple, get_new, aLstRg1, aTupRg1, aAddI, aSubI, aDict1, List.length_map, List.length_range, rgL_len, Nat.reduceLeDiff, Nat.zero_le, AO.lst.injEq, AO.dct.injEq, *])
local macro_rules | `(tactic| array_get_dec) => `(tactic| try simp only [wpS, wpE, wpEs, wpAnd, wpOr, wpT, wpTA, wpTO, wpQs, wpG, wpGs, Option.map_some, Option.map_none, startA, List.map_cons, List.map_nil, List.length_cons, List.length_nil, List.cons_append, List.nil_append, List.replicate, List.getElem?_cons_zero, List.getElem?_cons_succ, Option.some.injEq, exists_eq_left', exists_eq_left, List.set_cons_zero, List.set_cons_succ, wipeS, if_true, if_false, Bool.false_eq_true, ite_true, ite_false, reduceIte, Nat.reduceAdd, Nat.reduceSub, Nat.zero_add])
/-! ### dicts of partners -/
def kvsQ (l : List (Nat × Nat)) : List (DK × Val) := l.foldl (fun kvs q => dput kvs (ik q.1) (.int (q.2 : Nat))) []
theorem kvsQ_gen : ∀ (l : List (Nat × Nat)) (kvs : List (DK × Val)) (a : Option Nat) (d : Nat), dget kvs (ik d) = a.map (fun e : Nat => Val.int (e : Int)) →
    dget (l.foldl (fun kvs q => dput kvs (ik q.1) (.int (q.2 : Nat))) kvs) (ik d) = (l.foldl (fun acc kv => if d = kv.1 then some kv.2 else acc) a).map (fun e : Nat => Val.int (e : Int))
  | [], _, _, _, h => h
  | q :: l, kvs, a, d, h => by
    rw [List.foldl_cons, List.foldl_cons]
    refine kvsQ_gen l _ _ d ?_
    rw [dget_put]
    by_cases z : d = q.1
    · rw [if_pos z, if_pos (by rw [z])]; rfl
    · rw [if_neg z, if_neg (fun w => z (ik_inj w))]; exact h
theorem kvsQ_get (l : List (Nat × Nat)) (d : Nat) : dget (kvsQ l) (ik d) = (putsF l d).map (fun e : Nat => Val.int (e : Int)) := kvsQ_gen l [] none d rfl
theorem kvsQ_k : ∀ (l : List (Nat × Nat)) (kvs : List (DK × Val)), (∀ p ∈ kvs, p.1.isK = true) → ∀ p ∈ l.foldl (fun kvs q => dput kvs (ik q.1) (.int (q.2 : Nat))) kvs, p.1.isK = true
  | [], _, h => h
  | q :: l, kvs, h => by
    rw [List.foldl_cons]
    exact kvsQ_k l _ (dput_k h rfl)
theorem kvsQ_sorts (l : List (Nat × Nat)) (d : Nat) : sorts (kvsQ l) (ik d) := kvsQ_k l [] (fun _ h => absurd h List.not_mem_nil)
theorem kvsQ_lenG : ∀ (l : List (Nat × Nat)) (kvs : List (DK × Val)), (l.foldl (fun kvs q => dput kvs (ik q.1) (.int (q.2 : Nat))) kvs).length ≤ kvs.length + l.length
  | [], _ => Nat.le_refl _
  | q :: l, kvs => by
    rw [List.foldl_cons, List.length_cons]
    have h1 := kvsQ_lenG l (dput kvs (ik q.1) (.int (q.2 : Nat)))
    have h2 := dput_len (kvs := kvs) (k := ik q.1) (v := .int (q.2 : Nat))
    omega
theorem kvsQ_len (l : List (Nat × Nat)) : (kvsQ l).length ≤ l.length := by have := kvsQ_lenG l []; rw [List.length_nil, Nat.zero_add] at this; exact this
structure DictP (kvs : List (DK × Val)) (p : Nat → Option Nat) : Prop where
  get : ∀ d, dget kvs (ik d) = (p d).map fun e : Nat => Val.int (e : Int)
  so : ∀ d, sorts kvs (ik d)
theorem DictP.of {l : List (Nat × Nat)} {p : Nat → Option Nat} (h : ∀ d, putsF l d = p d) : DictP (kvsQ l) p := ⟨fun d => by rw [kvsQ_get, h], kvsQ_sorts l⟩
theorem DictP.some {kvs : List (DK × Val)} {p : Nat → Option Nat} (D : DictP kvs p) (d : Nat) : (dget kvs (ik d)).isSome = (p d).isSome := by rw [D.get]; cases p d <;> rfl
/-! ### came_out -/
def ir_came_out : List IS := [.asg (.tup [.name 2, .name 3]) (.call aGet [.call aGet [.l 0, .l 3], .l 2]),
  .whl (.bool (.call (aMem false) [.l 2, .l 1])) [.asg (.tup [.name 2, .name 3]) (.call aGet [.call aGet [.l 0, .l 3], .call aGet [.l 1, .l 2]])],
  .ret (.call aTup [.l 2, .l 3])]
def Φ_came : ASp := fun vs h Q => vs.length = 4 ∧ ∃ (D R a d r : Nat) (f : Nat → Nat → Nat × Nat) (p : Nat → Option Nat) (ws : List (Nat × Nat)) (kvs : List (DK × Val)), vs = [.tup (rws D R f), .ref a, .int d, .int r] ∧ h[a]? = some (.dct kvs) ∧ DictP kvs p ∧ Backs D R f ∧ IsP D ws p ∧ d < D ∧ r < R ∧ p d = none ∧ Q (pV (jval f p (d, r))) h
theorem wp_came : ∀ vs h Q, Φ_came vs h Q → vs.length = 4 → wpSs ir_came_out (startA 4 vs) h { nx := fun _ h' => Q .non h', rt := Q } := by
  rintro vs h Q ⟨-, D, R, a, d, r, f, p, ws, kvs, rfl, e, dp, hf, hp, hd, hr, h0, q⟩ -
  obtain ⟨k, _, hk⟩ := stops_ex hf hp (x := (d, r)) ⟨hd, hr⟩ h0
  rw [jval_of hk] at q
  refine wp_go fun N hN => ?_
  array_get_dec
  refine get_of rfl (rws_get hr) (get_of rfl (prs_get hd) ⟨_, rfl, rfl, _, _, rfl, _, _, rfl, rfl, ?_⟩)
  refine hN _ _ (wp_go fun N hN => ?_)
  array_get_dec
  refine whl_inv (fun m sl h' => h' = h ∧ ∃ n, m = k - n ∧ n ≤ k ∧ sl = [some (.tup (rws D R f)), some (.ref a), some (.int (jout f p (d, r) n).1), some (.int (jout f p (d, r) n).2)]) k ⟨rfl, 0, rfl, Nat.zero_le _, rfl⟩ fun m sl h1 N1 hI hN1 => ?_
  obtain ⟨rfl, n, rfl, hn, rfl⟩ := hI
  have hlt := j_lt hf hp (x := (d, r)) ⟨hd, hr⟩ n fun m hm => hk.2 m (by omega)
  obtain ⟨b1, b2, _⟩ := hf _ _ hlt.2 hlt.1
  array_get_dec
  refine memD_of e (k := ik (jout f p (d, r) n).1) rfl (dp.so _) ?_
  rw [dp.some]
  refine ⟨_, rfl, ?_⟩
  by_cases z : n = k
  · subst z
    rw [hk.1, if_neg (by decide)]
    refine hN _ _ (wp_go fun N hN => ?_)
    array_get_dec
    exact ⟨by simp, q⟩
  · obtain ⟨c, hc⟩ := hk.2 n (by omega)
    rw [hc, if_pos (by rfl)]
    refine wp_go fun N2 hN2 => ?_
    array_get_dec
    have hc2 := hp.lt _ _ (hp.sym hc)
    refine get_of rfl (rws_get b2) (getD_of e (k := ik (jout f p (d, r) n).1) rfl (by rw [dp.get, hc]; rfl) (get_of rfl (prs_get hc2) ⟨_, rfl, rfl, _, _, rfl, _, _, rfl, rfl, ?_⟩))
    refine hN2 _ _ (hN1 _ _ _ ?_ ⟨rfl, n + 1, rfl, by omega, ?_⟩)
    · omega
    · have : jout f p (d, r) (n + 1) = f (jout f p (d, r) n).2 c := by
        show f (jinp f p (d, r) (n + 1)).2 (jinp f p (d, r) (n + 1)).1 = _
        rw [jinp_succ hc]
      rw [this]
/-! ### joined_all -/
theorem dc_inv {body : Val → AH → (Option (DK × Val) → AH → Prop) → Prop} {chk : AH → Prop} {Q : List (DK × Val) → AH → Prop} (I : Nat → List (DK × Val) → AH → Prop) {xs : List Val} {h : AH} (h0 : I 0 [] h)
    (hb : ∀ (i : Nat) (v : Val) (kvs : List (DK × Val)) (h : AH) (K : Option (DK × Val) → AH → Prop), xs[i]? = some v → I i kvs h → (∀ k x h', sorts kvs k → kvs.length < 1000000 → I (i + 1) (dput kvs k x) h' → K (some (k, x)) h') → (∀ h', I (i + 1) kvs h' → K none h') → chk h ∧ body v h K)
    (he : ∀ kvs h, I xs.length kvs h → chk h ∧ Q kvs h) : dcW body chk xs [] h Q := by
  have go : ∀ (k n : Nat) (kvs : List (DK × Val)) (h : AH), n + k = xs.length → I n kvs h → dcW body chk (xs.drop n) kvs h Q := by
    intro k
    induction k with
    | zero =>
      intro n kvs h hn hI
      rw [List.drop_eq_nil_of_le (by omega)]
      exact he kvs h (by rw [← hn]; exact hI)
    | succ k ih =>
      intro n kvs h hn hI
      have hlt : n < xs.length := by omega
      rw [List.drop_eq_getElem_cons hlt]
      exact hb n xs[n] kvs h _ (List.getElem?_eq_getElem hlt) hI (fun kk x h' s l hI' => ⟨s, l, ih (n + 1) _ h' (by omega) hI'⟩) fun h' hI' => ih (n + 1) kvs h' (by omega) hI'
  have := go xs.length 0 [] h (by omega) h0
  rw [List.drop_zero] at this
  exact this
/-- wires, told as pairs of any kind in a list or a tuple -/
structure WSeq (h : AH) (wv : Val) (ws : List (Nat × Nat)) (vs : List Val) : Prop where
  ty : wv = .tup vs ∨ ∃ a, wv = .ref a ∧ h[a]? = some (.lst vs)
  len : vs.length = ws.length
  at_ : ∀ (i : Nat) (q : Nat × Nat), ws[i]? = some q → ∃ w, vs[i]? = some w ∧ ∀ h', Gr h h' → seqOf h' w = some [.int (q.1 : Nat), .int (q.2 : Nat)]
theorem both_snoc {ws : List (Nat × Nat)} {q : Nat × Nat} : both (ws ++ [q]) = both ws ++ [q, (q.2, q.1)] := by simp [both]
theorem kvsQ_two {ws : List (Nat × Nat)} {q : Nat × Nat} : dput (dput (kvsQ (both ws)) (ik q.1) (.int (q.2 : Nat))) (ik q.2) (.int (q.1 : Nat)) = kvsQ (both (ws ++ [q])) := by
  rw [both_snoc]
  unfold kvsQ
  rw [List.foldl_append]; rfl
theorem left_take {D i : Nat} {p : Nat → Option Nat} : leftL (i + 1) p = if (p i).isNone = true then leftL i p ++ [i] else leftL i p := by
  unfold leftL
  rw [List.range_succ, List.filter_append]
  by_cases z : (p i).isNone = true
  · rw [if_pos z]; simp [z]
  · rw [if_neg z]; simp [z]
def ir_joined_all (Φ_plain_kind : ASp) (Φ_came_out : ASp) : List IS := [.asg (.name 2) (.call Φ_plain_kind [.l 0]),
  .asg (.name 3) (.call aDict0 []),
  .for (.tup [.name 4, .name 5]) wSeq [.l 1] [.asg (.sub aSet (.l 3) (.l 4)) (.l 5),
  .asg (.sub aSet (.l 3) (.l 5)) (.l 4)],
  .asg (.name 6) (.lc [11] (.name 11) wRng1 [.call aLenA [.call aGet [.l 2, .c (.int 0)]]] [.bool (.call (aMem true) [.l 11, .l 3])] (.l 11)),
  .asg (.name 7) (dcI [12, 11] (.tup [.name 12, .name 11]) wEnum [.l 6] [] (.l 11) (.l 12)),
  .asg (.name 8) (.call aLst []),
  .for (.name 9) wRng1 [.call aLenA [.l 2]] [.asg (.name 10) (.lc [11] (.name 11) wSeq [.l 6] [] (.call Φ_came_out [.l 2, .l 3, .l 11, .l 9])),
  .exp (.call aAppend (.call aLs [.l 8] :: [.call aTuple [.lc [11, 13] (.tup [.name 11, .name 13]) wSeq [.l 10] [] (.call aTup [.call aGet [.l 7, .l 11], .l 13])]]))],
  .ret (.call aTuple [.l 8])]
def Φ_jall : ASp := fun vs h Q => vs.length = 2 ∧ ∃ (v wv : Val) (d0 : PyData) (D R : Nat) (f : Nat → Nat → Nat × Nat) (p : Nat → Option Nat) (ws : List (Nat × Nat)) (us : List Val), vs = [v, wv] ∧ Rep h v d0 ∧ KG D R f d0 ∧ Backs D R f ∧ 1 ≤ R ∧ D ≤ 1000 ∧ R ≤ 1000 ∧ WSeq h wv ws us ∧ ws.length ≤ 1000 ∧ IsP D ws p ∧ ∀ h', Gr h h' → Q (.tup (rws (leftL D p).length R (joinF f p (leftL D p)))) h'
theorem wp_jall : ∀ vs h Q, Φ_jall vs h Q → vs.length = 2 → wpSs (ir_joined_all Φ_plain Φ_came) (startA 14 vs) h { nx := fun _ h' => Q .non h', rt := Q } := by
  rintro vs h Q ⟨-, v, wv, d0, D, R, f, p, ws, us, rfl, rv, kg, hf, hR0, hD, hR, W, hws, hp, q⟩ -
  refine wp_go fun N hN => ?_
  array_get_dec
  refine ⟨rfl, v, d0, D, R, f, rfl, rv, kg, by omega, by omega, fun h1 g1 => ?_⟩
  refine hN _ _ (wp_go fun N hN => ?_)
  array_get_dec
  refine ⟨rfl, hN _ _ (wp_go fun N hN => ?_)⟩
  array_get_dec
  obtain ⟨a, ha⟩ : ∃ a, a = h1.length := ⟨_, rfl⟩
  have e0 := get_new (h := h1) (o := .dct [])
  rw [← ha] at e0 ⊢
  have la : h.length ≤ a := by have := g1.le; omega
  clear ha
  have g2 : Gr h (h1 ++ [AO.dct []]) := g1.trans (Gr.app _)
  generalize h1 ++ [AO.dct []] = h2 at e0 g2 ⊢
  refine seq_ofG W.ty g2 fun chk hc => for_inv (fun i sl h' => ∃ (c4 c5 : Option Val), sl = [some v, some wv, some (.tup (rws D R f)), some (.ref a), c4, c5, none, none, none, none, none, none, none, none] ∧ Gr h h' ∧ h'[a]? = some (.dct (kvsQ (both (ws.take i))))) ⟨_, _, rfl, g2, e0⟩ (fun i w sl h3 N1 hv hI hN1 => ?_) fun sl h3 hI => ?_
  · obtain ⟨c4, c5, rfl, g3, e3⟩ := hI
    refine ⟨hc _ g3, ?_⟩
    have hi : i < ws.length := by rw [← W.len]; exact (List.getElem?_eq_some_iff.mp hv).1
    have eq := List.getElem?_eq_getElem hi
    obtain ⟨w', e1, sq⟩ := W.at_ i _ eq
    rw [hv] at e1; cases e1
    have et : ws.take (i + 1) = ws.take i ++ [ws[i]] := by rw [List.take_add_one, eq]; rfl
    generalize ws[i] = q0 at eq sq et
    have hbl : (both (ws.take i)).length ≤ 2000 := by
      have : ∀ l : List (Nat × Nat), (both l).length = 2 * l.length := fun l => by
        induction l with
        | nil => rfl
        | cons x l ih => show (_ ++ both l).length = _; simp [ih]; omega
      rw [this]; simp; omega
    have hkl := kvsQ_len (both (ws.take i))
    refine ⟨_, sq _ g3, rfl, _, _, rfl, _, _, rfl, rfl, ?_⟩
    simp only [List.set_cons_zero, List.set_cons_succ]
    refine wp_go fun N2 hN2 => ?_
    array_get_dec
    refine setD_of e3 (k := ik q0.1) rfl (kvsQ_sorts _ _) (by omega) ?_
    have e4 := get_set (o := .dct (dput (kvsQ (both (ws.take i))) (ik q0.1) (.int (q0.2 : Nat)))) (lt_of e3)
    refine hN2 _ _ (wp_go fun N3 hN3 => ?_)
    array_get_dec
    refine setD_of e4 (k := ik q0.2) rfl (dput_k (kvsQ_sorts _ 0) rfl) (by have := dput_len (kvs := kvsQ (both (ws.take i))) (k := ik q0.1) (v := .int (q0.2 : Nat)); omega) ?_
    rw [kvsQ_two, ← et]
    refine hN3 _ _ (hN1 _ _ ⟨_, _, rfl, (g3.setNew la).setNew la, ?_⟩)
    rw [get_set (by simp; exact lt_of e3)]
  · obtain ⟨c4, c5, rfl, g3, e3⟩ := hI
    refine ⟨hc _ g3, ?_⟩
    rw [W.len, List.take_length] at e3
    have dp : DictP (kvsQ (both ws)) p := DictP.of hp.both
    generalize kvsQ (both ws) = kvs at e3 dp
    refine hN _ _ (wp_go fun N hN => ?_)
    array_get_dec
    refine get_of (i := 0) rfl (rws_get hR0) (len_of rfl ⟨⟨by decide, by decide, by rw [prs_len]; omega, by rw [prs_len]; omega⟩, ?_⟩)
    rw [prs_len]
    refine lc_inv (fun i acc h' => h' = h3 ∧ acc = intsN (leftL i p)) ⟨rfl, rfl⟩ (fun i w acc h4 K hw ⟨g4, ea⟩ k => ⟨trivial, ?_⟩) fun acc h4 ⟨g4, ea⟩ => ⟨trivial, ?_⟩
    · subst g4
      obtain ⟨hi, rfl⟩ := rgL_get hw
      rw [Int.zero_add]
      have hi : i < D := by omega
      have hll : (leftL i p).length ≤ i := by
        unfold leftL
        exact Nat.le_trans (List.length_filter_le _ _) (by simp)
      array_get_dec
      refine memD_of e3 (k := ik i) rfl (dp.so _) ?_
      rw [dp.some]
      refine ⟨_, rfl, ?_⟩
      have et := left_take (D := D) (i := i) (p := p)
      cases hpi : p i with
      | none =>
        rw [hpi] at et
        rw [if_pos (by rfl)]
        refine k _ _ (by rw [ea, List.length_append, intsN_len]; simp; omega) ⟨rfl, ?_⟩
        rw [et, if_pos (by rfl), ea]; simp [intsN]
      | some c =>
        rw [hpi] at et
        rw [if_neg (by simp)]
        refine k _ _ (by rw [List.append_nil, ea, intsN_len]; omega) ⟨rfl, ?_⟩
        rw [et, if_neg (by simp), List.append_nil, ea]
    · subst g4
      rw [show (rgL 0 (D : Int)).length = D by rw [rgL_len]; omega] at ea
      subst ea
      have hL : (leftL D p).length ≤ D := by
        unfold leftL
        exact Nat.le_trans (List.length_filter_le _ _) (by simp)
      have hLm : ∀ d ∈ leftL D p, d < D ∧ p d = none := fun d hd => left_mem.mp hd
      have hLn : (leftL D p).Nodup := left_nd
      have hv := fun d r (hd : d ∈ leftL D p) (hr : r < R) => jval_lt hf hp (x := (d, r)) ⟨(hLm d hd).1, hr⟩ (hLm d hd).2
      generalize hLe : leftL D p = L at *
      have eL := get_new (h := h4) (o := .lst (intsN L))
      have g4 := Gr.app (h := h4) [AO.lst (intsN L)]
      have lL : h.length ≤ h4.length := g3.le
      generalize h4 ++ [AO.lst (intsN L)] = h5 at eL g4 ⊢
      generalize h4.length = b at eL lL ⊢
      refine hN _ _ (wp_go fun N hN => ?_)
      array_get_dec
      unfold dcI
      array_get_dec
      refine enum_of (.inr ⟨_, rfl, eL⟩) fun chk hc => dc_inv (fun i kvs h' => h' = h5 ∧ kvs = kvsN (L.take i)) ⟨rfl, rfl⟩ (fun i w kvs' h6 K hw ⟨g6, ek⟩ k1 k2 => ⟨hc _ (by rw [g6]; exact Gr.rfl), ?_⟩) fun kvs' h6 ⟨g6, ek⟩ => ⟨hc _ (by rw [g6]; exact Gr.rfl), ?_⟩
      · subst g6
        obtain ⟨w, hw', rfl⟩ := enumL_get hw
        have hi : i < L.length := by rw [← intsN_len]; exact (List.getElem?_eq_some_iff.mp hw').1
        have eq := List.getElem?_eq_getElem hi
        rw [intsN_get eq] at hw'
        cases hw'
        have et : L.take (i + 1) = L.take i ++ [L[i]] := by rw [List.take_add_one, eq]; rfl
        have hno : L[i] ∉ L.take i := fun hm => by
          obtain ⟨j, hj, e⟩ := List.getElem_of_mem hm
          simp at hj
          rw [List.getElem_take] at e
          have := (List.getElem_inj hLn).mp e
          omega
        have hlt : (L.take i).length = i := by simp; omega
        refine ⟨_, rfl, rfl, _, _, rfl, _, _, rfl, rfl, ?_⟩
        refine ⟨.inl (L[i] : Nat), rfl, k1 (ik L[i]) _ _ (by rw [ek]; exact kvsN_sorts) (by rw [ek, kvsN_len, hlt]; omega) ⟨rfl, ?_⟩⟩
        rw [et, ← kvsN_snoc hno, ek, hlt]
      · subst g6
        rw [enumL_len, intsN_len, List.take_length] at ek
        subst ek
        have e5 := (g4.trans (Gr.app [AO.dct (kvsN L)])).get e3
        have eL6 := get_app (n := [AO.dct (kvsN L)]) eL
        have eN := get_new (h := h6) (o := .dct (kvsN L))
        have g6 := (g3.trans g4).trans (Gr.app [AO.dct (kvsN L)])
        generalize h6 ++ [AO.dct (kvsN L)] = h7 at e5 eL6 eN g6 ⊢
        generalize h6.length = c at eN ⊢
        refine hN _ _ (wp_go fun N hN => ?_)
        array_get_dec
        refine ⟨by simp, hN _ _ (wp_go fun N hN => ?_)⟩
        array_get_dec
        obtain ⟨m, hm⟩ : ∃ m, m = h7.length := ⟨_, rfl⟩
        have em := get_new (h := h7) (o := .lst [])
        rw [← hm] at em ⊢
        have lm : h7.length ≤ m := by omega
        clear hm
        refine len_of rfl ?_
        rw [rws_len]
        refine ⟨⟨by decide, by decide, by omega, by omega⟩, for_inv (fun r sl h' => ∃ (c9 c10 : Option Val), sl = [some v, some wv, some (.tup (rws D R f)), some (.ref a), c4, c5, some (.ref b), some (.ref c), some (.ref m), c9, c10, none, none, none] ∧ Gr h7 h' ∧ h'[m]? = some (.lst (rws L.length r (joinF f p L)))) ⟨_, _, rfl, Gr.app _, em⟩ (fun r w sl h8 N1 hv' hI hN1 => ⟨trivial, ?_⟩) fun sl h8 hI => ⟨trivial, ?_⟩⟩
        · obtain ⟨c9, c10, rfl, g8, e8⟩ := hI
          obtain ⟨hr, rfl⟩ := rgL_get hv'
          have hr : r < R := by omega
          rw [Int.zero_add]
          have e5' := g8.get e5
          have eL' := g8.get eL6
          array_get_dec
          refine wp_go fun N2 hN2 => ?_
          array_get_dec
          refine seq_of (.inr ⟨_, rfl, eL'⟩) fun chk2 hc2 => lc_map (fun h => h = h8) (fun i => pV (jval f p (L.getD i 0, r))) (by rw [intsN_len]; omega) rfl (fun i w h9 K hw g9 k => ⟨hc2 _ (by rw [g9]; exact Gr.rfl), ?_⟩) fun h9 g9 => ⟨hc2 _ (by rw [g9]; exact Gr.rfl), ?_⟩
          · subst g9
            have hi : i < L.length := by rw [← intsN_len]; exact (List.getElem?_eq_some_iff.mp hw).1
            obtain ⟨_, i2, i3⟩ := nd_idx hLn hi
            rw [intsN_get i3] at hw
            cases hw
            array_get_dec
            exact ⟨rfl, D, R, a, _, r, f, p, ws, kvs, rfl, e5', dp, hf, hp, (hLm _ i2).1, hr, (hLm _ i2).2, k _ rfl⟩
          · subst g9
            rw [intsN_len]
            have eo := get_new (h := h9) (o := .lst ((List.range L.length).map fun i => pV (jval f p (L.getD i 0, r))))
            have g9 := Gr.app (h := h9) [AO.lst ((List.range L.length).map fun i => pV (jval f p (L.getD i 0, r)))]
            generalize h9.length = o at eo ⊢
            generalize h9 ++ [AO.lst ((List.range L.length).map fun i => pV (jval f p (L.getD i 0, r)))] = h10 at eo g9 ⊢
            refine hN2 _ _ (wp_go fun N3 hN3 => ?_)
            array_get_dec
            have e10 := g9.get e8
            refine ls_of e10 (seq_of (.inr ⟨_, rfl, eo⟩) fun chk3 hc3 => lc_map (fun h => h = h10) (fun i => pV (joinF f p L r i)) (by simp; omega) rfl (fun i w h11 K hw g11 k => ⟨hc3 _ (by rw [g11]; exact Gr.rfl), ?_⟩) fun h11 g11 => ⟨hc3 _ (by rw [g11]; exact Gr.rfl), ?_⟩)
            · subst g11
              obtain ⟨hi, rfl⟩ := rng_get hw
              obtain ⟨_, i2, _⟩ := nd_idx hLn hi
              refine ⟨_, rfl, rfl, _, _, rfl, _, _, rfl, rfl, ?_⟩
              refine getD_of (g9.get (g8.get eN)) (k := ik (jval f p (L.getD i 0, r)).1) rfl (by rw [kvsN_get, if_pos (hv _ r i2 hr).1]) ⟨by simp, ?_⟩
              exact k _ rfl
            · subst g11
              rw [List.length_map, List.length_range]
              refine tuple_of (seq_ref get_new) ?_
              have e11 := get_app (n := [AO.lst ((List.range L.length).map fun i => pV (joinF f p L r i))]) e10
              refine app_of e11 (by rw [rws_len]; omega) (hN3 _ _ (hN1 _ _ ⟨_, _, rfl, ((g8.trans g9).trans (Gr.app _)).setNew lm, ?_⟩))
              rw [get_set (lt_of e11)]
              unfold rws
              rw [rng_snoc]; rfl
        · obtain ⟨c9, c10, rfl, g8, e8⟩ := hI
          rw [show (rgL 0 (R : Int)).length = R by rw [rgL_len]; omega] at e8
          refine hN _ _ (wp_go fun N hN => ?_)
          array_get_dec
          exact tuple_of (seq_ref e8) (q _ (g6.trans g8))
end Ev
namespace Ev
open PySem PySem.Spec PyProof.Rows L2
local macro_rules | `(tactic| decreasing_trivial) => `(tactic| simp only [wpS, wpE, wpEs, wpAnd, wpOr, wpT, wpTA, wpTO, wpQs, wpG, wpGs, truth, Option.map_some, Option.map_none, startA, List.map_cons, List.map_nil, List.length_cons, List.length_nil, List.cons_append, List.nil_append, List.replicate, List.getElem?_cons_zero, List.getElem?_cons_succ, Option.some.injEq, exists_eq_left', exists_eq_left, exists_eq_right, exists_eq', List.set_cons_zero, List.set_cons_succ, wipeS,
  and_assoc, exists_and_left, Val.bl.injEq, Val.int.injEq, Val.str.injEq, Val.tup.injEq, Val.ref.injEq, decide_eq_true_eq, and_true, true_and, seqOf_tup, seqOf_ref, seqOf_scr, seqOf_int, seqOf_bl, seqOf_str, seqOf_non, dctOf_ref, dctOf_tup, if_true, if_false, Bool.false_eq_true, ite_true, ite_false, reduceIte, reduceCtorEq, false_and, exists_false, and_false, List.cons.injEq, Nat.reduceAdd, Nat.reduceSub, Nat.zero_add,
  aAdd, aSub, aMul, aMod, aDiv, aPow, aNeg, aCmp, aLt, aLe, aGt, aGe, aTup, aLst, aGet, aSet, aLenA, aTuple, aList, aAbs, aInt, aDivmod, aAll, aAny, aMaxA, aMinA, aSum, aDict0, aLs, aDc, aAppend, aI, aSl00, aSl01, aSl10, aSl11, aCut, aIs, isNon, Bool.false_bne, Bool.true_bne, wSeq, wRng1, wRng2, wEnum, wZip, aEq_i, aEq_s, aEq_b, atI_0, atI_1, atI_2, atI_3, atI_n, ixN3_0, ixN3_1, ixN3_2, get_set, List.length_set, List.set_set, List.getElem?_map, aIsi, aIsi2, tyA, Bool.or_true, Bool.true_or, Bool.or_false, Bool.false_or, Bool.and_true, Bool.true_and, Bool.and_false, Bool.false_and, Bool.not_true, Bool.not_false, beq_self_eq_true, bne_self_eq_false, decide_true, decide_false, kb_NoneType_bool, kb_NoneType_int, kb_NoneType_str, kb_NoneType_list, kb_NoneType_tuple, kb_bool_bool, kb_bool_int, kb_bool_str, kb_bool_list, kb_bool_tuple, kb_int_bool, kb_int_int, kb_int_str, kb_int_list, kb_int_tuple, kb_str_bool, kb_str_int, kb_str_str, kb_str_list, kb_str_tuple, kb_list_bool, kb_list_int, kb_list_str, kb_list_list, kb_list_tuple, kb_tuple_bool, kb_tuple_int, kb_tuple_str, kb_tuple_list, kb_tuple_tuple, get_new, aLstRg1, aTupRg1, aAddI, aSubI, aDict1, List.length_map, List.length_range, rgL_len, Nat.reduceLeDiff, Nat.zero_le, AO.lst.injEq, AO.dct.injEq, *])
local macro_rules | `(tactic| array_get_dec) => `(tactic| try simp only [wpS, wpE, wpEs, wpAnd, wpOr, wpT, wpTA, wpTO, wpQs, wpG, wpGs, Option.map_some, Option.map_none, startA, List.map_cons, List.map_nil, List.length_cons, List.length_nil, List.cons_append, List.nil_append, List.replicate, List.getElem?_cons_zero, List.getElem?_cons_succ, Option.some.injEq, exists_eq_left', exists_eq_left, List.set_cons_zero, List.set_cons_succ, wipeS, if_true, if_false, Bool.false_eq_true, ite_true, ite_false, reduceIte, Nat.reduceAdd, Nat.reduceSub, Nat.zero_add])
/-! ### dict comprehensions of two sources -/
theorem dcw_inv {body : Val → AH → (Option (DK × Val) → AH → Prop) → Prop} {chk : AH → Prop} {Q : List (DK × Val) → AH → Prop} (I : Nat → List (DK × Val) → AH → Prop) {xs : List Val} {h : AH} {kvs0 : List (DK × Val)} (h0 : I 0 kvs0 h)
    (hb : ∀ (i : Nat) (v : Val) (kvs : List (DK × Val)) (h : AH) (K : Option (DK × Val) → AH → Prop), xs[i]? = some v → I i kvs h → (∀ k x h', sorts kvs k → kvs.length < 1000000 → I (i + 1) (dput kvs k x) h' → K (some (k, x)) h') → chk h ∧ body v h K)
    (he : ∀ kvs h, I xs.length kvs h → chk h ∧ Q kvs h) : dcW body chk xs kvs0 h Q := by
  have go : ∀ (k n : Nat) (kvs : List (DK × Val)) (h : AH), n + k = xs.length → I n kvs h → dcW body chk (xs.drop n) kvs h Q := by
    intro k
    induction k with
    | zero =>
      intro n kvs h hn hI
      rw [List.drop_eq_nil_of_le (by omega)]
      exact he kvs h (by rw [← hn]; exact hI)
    | succ k ih =>
      intro n kvs h hn hI
      have hlt : n < xs.length := by omega
      rw [List.drop_eq_getElem_cons hlt]
      exact hb n xs[n] kvs h _ (List.getElem?_eq_getElem hlt) hI (fun kk x h' s l hI' => ⟨s, l, ih (n + 1) _ h' (by omega) hI'⟩)
  have := go xs.length 0 kvs0 h (by omega) h0
  rw [List.drop_zero] at this
  exact this
theorem dco_inv {body : Val → List (DK × Val) → AH → (List (DK × Val) → AH → Prop) → Prop} {chk : AH → Prop} {Q : List (DK × Val) → AH → Prop} (I : Nat → List (DK × Val) → AH → Prop) {xs : List Val} {h : AH} {kvs0 : List (DK × Val)} (h0 : I 0 kvs0 h)
    (hb : ∀ (i : Nat) (v : Val) (kvs : List (DK × Val)) (h : AH) (K : List (DK × Val) → AH → Prop), xs[i]? = some v → I i kvs h → (∀ kvs' h', I (i + 1) kvs' h' → K kvs' h') → chk h ∧ body v kvs h K)
    (he : ∀ kvs h, I xs.length kvs h → chk h ∧ Q kvs h) : dcO body chk xs kvs0 h Q := by
  have go : ∀ (k n : Nat) (kvs : List (DK × Val)) (h : AH), n + k = xs.length → I n kvs h → dcO body chk (xs.drop n) kvs h Q := by
    intro k
    induction k with
    | zero =>
      intro n kvs h hn hI
      rw [List.drop_eq_nil_of_le (by omega)]
      exact he kvs h (by rw [← hn]; exact hI)
    | succ k ih =>
      intro n kvs h hn hI
      have hlt : n < xs.length := by omega
      rw [List.drop_eq_getElem_cons hlt]
      exact hb n xs[n] kvs h _ (List.getElem?_eq_getElem hlt) hI fun kvs' h' hI' => ih (n + 1) kvs' h' (by omega) hI'
  have := go xs.length 0 kvs0 h (by omega) h0
  rw [List.drop_zero] at this
  exact this
/-! ### doors_of, rests_of -/
def ir_doors_of : List IS := [.ret (.call aLenA [.call aGet [.l 0, .c (.int 0)]])]
def Φ_dof : ASp := fun vs h Q => vs.length = 1 ∧ ∃ v d D R f, vs = [v] ∧ Rep h v d ∧ KG D R f d ∧ 1 ≤ R ∧ Q (.int (D : Nat)) h
theorem wp_dof : ∀ vs h Q, Φ_dof vs h Q → vs.length = 1 → wpSs ir_doors_of (startA 1 vs) h { nx := fun _ h' => Q .non h', rt := Q } := by
  rintro vs h Q ⟨-, v, d, D, R, f, rfl, rp, kg, hR, q⟩ -
  obtain ⟨rows, K⟩ := kd_of rp kg
  obtain ⟨w, ps, e1, e2, _, e3, _⟩ := K.row 0 (by omega)
  refine wp_go fun N hN => ?_
  array_get_dec
  refine get_of (i := 0) K.sq e1 (len_of e2 ?_)
  rw [e3]; exact q
def ir_rests_of : List IS := [.ret (.call aLenA [.l 0])]
def Φ_rof : ASp := fun vs h Q => vs.length = 1 ∧ ∃ v d D R f, vs = [v] ∧ Rep h v d ∧ KG D R f d ∧ Q (.int (R : Nat)) h
theorem wp_rof : ∀ vs h Q, Φ_rof vs h Q → vs.length = 1 → wpSs ir_rests_of (startA 1 vs) h { nx := fun _ h' => Q .non h', rt := Q } := by
  rintro vs h Q ⟨-, v, d, D, R, f, rfl, rp, kg, q⟩ -
  obtain ⟨rows, K⟩ := kd_of rp kg
  refine wp_go fun N hN => ?_
  array_get_dec
  refine len_of K.sq ?_
  rw [K.len]; exact q
/-! ### renamed -/
def ir_renamed (Φ_rests_of : ASp) (Φ_doors_of : ASp) : List IS := [.asg (.name 3) (dcI2 [4, 5, 6, 7, 8] [6, 7, 8] (.tup [.name 4, .name 5]) wEnum [.l 0] (.tup [.name 6, .tup [.name 7, .name 8]]) wEnum [.l 5] [] (.call aTup [.call aGet [.l 2, .l 4], .call aGet [.l 1, .l 6]]) (.call aTup [.call aGet [.l 1, .l 7], .call aGet [.l 2, .l 8]])),
  .ret (.call aTuple [.lc [4] (.name 4) wRng1 [.call Φ_rests_of [.l 0]] [] (.call aTuple [.lc [6] (.name 6) wRng1 [.call Φ_doors_of [.l 0]] [] (.call aGet [.l 3, .call aTup [.l 4, .l 6]])])])]
def Φ_ren : ASp := fun vs h Q => vs.length = 3 ∧ ∃ (v sv tv : Val) (d0 : PyData) (D R : Nat) (f : Nat → Nat → Nat × Nat) (S T : List Nat), vs = [v, sv, tv] ∧ Rep h v d0 ∧ KG D R f d0 ∧ Backs D R f ∧ 1 ≤ R ∧ D ≤ 100 ∧ R ≤ 100 ∧ S.Perm (List.range D) ∧ T.Perm (List.range R) ∧ isRow h sv S ∧ isRow h tv T ∧ ∀ h', Gr h h' → Q (.tup (rws D R (renF S T f))) h'
structure RenI (D R : Nat) (S T : List Nat) (f : Nat → Nat → Nat × Nat) (i j : Nat) (kvs : List (DK × Val)) : Prop where
  so : ∀ p ∈ kvs, p.1.isK = false
  len : kvs.length ≤ i * 100 + j
  get : ∀ r d, r < i ∨ r = i ∧ d < j → r < R → d < D → dget kvs (pk (T.getD r 0, S.getD d 0)) = some (pV (renF S T f (T.getD r 0) (S.getD d 0)))
theorem RenI.put {D R i j : Nat} {S T : List Nat} {f : Nat → Nat → Nat × Nat} {kvs : List (DK × Val)} (I : RenI D R S T f i j kvs) (hS : S.Perm (List.range D)) (hT : T.Perm (List.range R)) (hi : i < R) (hj : j < D) :
    RenI D R S T f i (j + 1) (dput kvs (pk (T.getD i 0, S.getD j 0)) (pV (S.getD (f i j).1 0, T.getD (f i j).2 0))) := by
  refine ⟨dput_k I.so rfl, by have h1 := dput_len (kvs := kvs) (k := pk (T.getD i 0, S.getD j 0)) (v := pV (S.getD (f i j).1 0, T.getD (f i j).2 0)); have h2 := I.len; omega, fun r d hz hr hd => ?_⟩
  rw [dget_put]
  by_cases z : r = i ∧ d = j
  · obtain ⟨rfl, rfl⟩ := z
    rw [if_pos rfl, ren_at hS hT hi hj]
  · rw [if_neg fun e => ?_]
    · exact I.get r d (by omega) hr hd
    · have e := pk_inj e
      have e1 : T.getD r 0 = T.getD i 0 := congrArg Prod.fst e
      have e2 : S.getD d 0 = S.getD j 0 := congrArg Prod.snd e
      have a1 := (idx_at hT hr).1
      have a2 := (idx_at hS hd).1
      rw [e1, (idx_at hT hi).1] at a1
      rw [e2, (idx_at hS hj).1] at a2
      exact z ⟨a1.symm, a2.symm⟩
theorem wp_ren : ∀ vs h Q, Φ_ren vs h Q → vs.length = 3 → wpSs (ir_renamed Φ_rof Φ_dof) (startA 9 vs) h { nx := fun _ h' => Q .non h', rt := Q } := by
  rintro vs h Q ⟨-, v, sv, tv, d0, D, R, f, S, T, rfl, rv, kg, hf, hR0, hD, hR, hS, hT, rS, rT, q⟩ -
  obtain ⟨rows, K⟩ := kd_of rv kg
  have lr := K.len
  refine wp_go fun N hN => ?_
  array_get_dec
  unfold dcI2
  array_get_dec
  refine enum_of K.ty fun chk hc => dco_inv (fun i kvs h' => h' = h ∧ RenI D R S T f i 0 kvs) ⟨rfl, (fun _ z => nomatch z), Nat.zero_le _, fun r d z => by omega⟩ (fun i w kvs h1 K1 hw ⟨eh, hI⟩ k => ⟨hc _ (by rw [eh]; exact Gr.rfl), ?_⟩) fun kvs h1 ⟨eh, hI⟩ => ⟨hc _ (by rw [eh]; exact Gr.rfl), ?_⟩
  · subst eh
    obtain ⟨w, e1, rfl⟩ := enumL_get hw
    have hi : i < R := by rw [← lr]; exact (List.getElem?_eq_some_iff.mp e1).1
    obtain ⟨w', ps, f1, f2, f3, f4, f5⟩ := K.row i hi
    rw [e1] at f1; cases f1
    array_get_dec
    refine ⟨_, rfl, rfl, _, _, rfl, _, _, rfl, rfl, ?_⟩
    array_get_dec
    refine enum_of f3 fun chk2 hc2 => dcw_inv (fun j kvs h' => h' = h1 ∧ RenI D R S T f i j kvs) ⟨rfl, hI⟩ (fun j u kvs h2 K2 hu ⟨eh, hI⟩ k2 => ⟨hc2 _ (by rw [eh]; exact Gr.rfl), ?_⟩) fun kvs h2 ⟨eh, hI⟩ => ⟨hc2 _ (by rw [eh]; exact Gr.rfl), k _ _ ⟨eh, ?_⟩⟩
    · subst eh
      obtain ⟨p, e2, rfl⟩ := enumL_get hu
      have hj : j < D := by rw [← f4]; exact (List.getElem?_eq_some_iff.mp e2).1
      obtain ⟨p', g1, g2⟩ := f5 j hj
      rw [e2] at g1; cases g1
      obtain ⟨b1, b2, _⟩ := hf i j hi hj
      unfold dcB
      array_get_dec
      refine ⟨_, rfl, rfl, _, _, rfl, _, _, rfl, ⟨_, g2, rfl, _, _, rfl, _, _, rfl, ⟨rfl, ?_⟩⟩⟩
      array_get_dec
      obtain ⟨_, s1, s2⟩ := idx_at hS hj
      obtain ⟨_, s3, s4⟩ := idx_at hS b1
      obtain ⟨_, t1, t2⟩ := idx_at hT hi
      obtain ⟨_, t3, t4⟩ := idx_at hT b2
      refine ⟨trivial, get_of rT.seq (intsN_get t2) (get_of rS.seq (intsN_get s2) ?_)⟩
      refine ⟨by simp, get_of rS.seq (intsN_get s4) (get_of rT.seq (intsN_get t4) ⟨by simp, ?_⟩)⟩
      refine ⟨pk (T.getD i 0, S.getD j 0), rfl, k2 _ _ _ hI.so ?_ ⟨rfl, hI.put hS hT hi hj⟩⟩
      have h1 := hI.len
      omega
    · have el : (enumL ps).length = D := by rw [enumL_len, f4]
      rw [el] at hI
      refine ⟨hI.so, by have := hI.len; omega, fun r d hz hr hd => hI.get r d (by omega) hr hd⟩
  · have el : (enumL rows).length = R := by rw [enumL_len, lr]
    rw [el] at hI
    subst eh
    have e3 := get_new (h := h1) (o := .dct kvs)
    have g3 := Gr.app (h := h1) [AO.dct kvs]
    generalize h1 ++ [AO.dct kvs] = h3 at e3 g3 ⊢
    generalize h1.length = a at e3 ⊢
    refine hN _ _ (wp_go fun N hN => ?_)
    array_get_dec
    refine ⟨rfl, v, d0, D, R, f, rfl, rv.gr g3, kg, ?_⟩
    refine ⟨⟨by decide, by decide, by omega, by omega⟩, lc_map (Gr h3) (fun r => Val.tup (prs D (renF S T f r))) (by rw [rgL_len]; omega) Gr.rfl (fun r w h4 K hw g4 k => ⟨trivial, ?_⟩) fun h4 g4 => ⟨trivial, ?_⟩⟩
    · obtain ⟨hr, rfl⟩ := rgL_get hw
      have hr : r < R := by omega
      rw [Int.zero_add]
      array_get_dec
      refine ⟨rfl, v, d0, D, R, f, rfl, rv.gr (g3.trans g4), kg, hR0, ?_⟩
      refine ⟨⟨by decide, by decide, by omega, by omega⟩, lc_map (Gr h3) (fun d => pV (renF S T f r d)) (by rw [rgL_len]; omega) g4 (fun d w h5 K2 hw g5 k2 => ⟨trivial, ?_⟩) fun h5 g5 => ⟨trivial, ?_⟩⟩
      · obtain ⟨hd, rfl⟩ := rgL_get hw
        have hd : d < D := by omega
        rw [Int.zero_add]
        array_get_dec
        have hh := hI.get _ _ (by first | exact .inl (at_idx hT hr).2 | exact .inl (by have := (at_idx hT hr).2; omega)) (at_idx hT hr).2 (at_idx hS hd).2
        rw [(at_idx hT hr).1, (at_idx hS hd).1] at hh
        exact ⟨by simp, getD_of (g5.get e3) (k := pk (r, d)) rfl hh (k2 _ g5)⟩
      · rw [rgL_len, show ((D : Int) - 0).toNat = D by omega]
        exact ⟨_, seq_ref get_new, k _ (g5.trans (Gr.app _))⟩
    · rw [rgL_len, show ((R : Int) - 0).toNat = R by omega]
      exact ⟨_, seq_ref get_new, q _ ((g3.trans g4).trans (Gr.app _))⟩
end Ev
namespace Ev
open PySem PySem.Spec PyProof.Rows L2
local macro_rules | `(tactic| decreasing_trivial) => `(tactic| simp only [wpS, wpE, wpEs, wpAnd, wpOr, wpT, wpTA, wpTO, wpQs, wpG, wpGs, truth, Option.map_some, Option.map_none, startA, List.map_cons, List.map_nil, List.length_cons, List.length_nil, List.cons_append, List.nil_append, List.replicate, List.getElem?_cons_zero, List.getElem?_cons_succ, Option.some.injEq, exists_eq_left', exists_eq_left, exists_eq_right, exists_eq', List.set_cons_zero, List.set_cons_succ, wipeS,
  and_assoc, exists_and_left, Val.bl.injEq, Val.int.injEq, Val.str.injEq, Val.tup.injEq, Val.ref.injEq, decide_eq_true_eq, and_true, true_and, seqOf_tup, seqOf_ref, seqOf_scr, seqOf_int, seqOf_bl, seqOf_str, seqOf_non, dctOf_ref, dctOf_tup, if_true, if_false, Bool.false_eq_true, ite_true, ite_false, reduceIte, reduceCtorEq, false_and, exists_false, and_false, List.cons.injEq, Nat.reduceAdd, Nat.reduceSub, Nat.zero_add,
  aAdd, aSub, aMul, aMod, aDiv, aPow, aNeg, aCmp, aLt, aLe, aGt, aGe, aTup, aLst, aGet, aSet, aLenA, aTuple, aList, aAbs, aInt, aDivmod, aAll, aAny, aMaxA, aMinA, aSum, aDict0, aLs, aDc, aAppend, aI, aSl00, aSl01, aSl10, aSl11, aCut, aIs, isNon, Bool.false_bne, Bool.true_bne, wSeq, wRng1, wRng2, wEnum, wZip, aEq_i, aEq_s, aEq_b, atI_0, atI_1, atI_2, atI_3, atI_n, ixN3_0, ixN3_1, ixN3_2, get_set, List.length_set, List.set_set, List.getElem?_map, aIsi, aIsi2, tyA, Bool.or_true, Bool.true_or, Bool.or_false, Bool.false_or, Bool.and_true, Bool.true_and, Bool.and_false, Bool.false_and, Bool.not_true, Bool.not_false, beq_self_eq_true, bne_self_eq_false, decide_true, decide_false, kb_NoneType_bool, kb_NoneType_int, kb_NoneType_str, kb_NoneType_list, kb_NoneType_tuple, kb_bool_bool, kb_bool_int, kb_bool_str, kb_bool_list, kb_bool_tuple, kb_int_bool, kb_int_int, kb_int_str, kb_int_list, kb_int_tuple, kb_str_bool, kb_str_int, kb_str_str, kb_str_list, kb_str_tuple, kb_list_bool, kb_list_int, kb_list_str, kb_list_list, kb_list_tuple, kb_tuple_bool, kb_tuple_int, kb_tuple_str, kb_tuple_list, kb_tuple_tuple, get_new, aLstRg1, aTupRg1, aAddI, aSubI, aDict1, List.length_map, List.length_range, rgL_len, Nat.reduceLeDiff, Nat.zero_le, AO.lst.injEq, AO.dct.injEq, *])
local macro_rules | `(tactic| array_get_dec) => `(tactic| try simp only [wpS, wpE, wpEs, wpAnd, wpOr, wpT, wpTA, wpTO, wpQs, wpG, wpGs, Option.map_some, Option.map_none, startA, List.map_cons, List.map_nil, List.length_cons, List.length_nil, List.cons_append, List.nil_append, List.replicate, List.getElem?_cons_zero, List.getElem?_cons_succ, Option.some.injEq, exists_eq_left', exists_eq_left, List.set_cons_zero, List.set_cons_succ, wipeS, if_true, if_false, Bool.false_eq_true, ite_true, ite_false, reduceIte, Nat.reduceAdd, Nat.reduceSub, Nat.zero_add])
/-! ### the law's own reading of a kind -/
def ir_gone : List IS := [.asg (.tup [.name 3, .name 4]) (.call aGet [.call aGet [.l 0, .l 1], .l 2]),
  .ret (.call aTup [.l 3, .l 4])]
def Φ_gone : ASp := fun vs h Q => vs.length = 3 ∧ ∃ (D R r d : Nat) (f : Nat → Nat → Nat × Nat), vs = [.tup (rws D R f), .int r, .int d] ∧ r < R ∧ d < D ∧ Q (pV (f r d)) h
theorem wp_gone : ∀ vs h Q, Φ_gone vs h Q → vs.length = 3 → wpSs ir_gone (startA 5 vs) h { nx := fun _ h' => Q .non h', rt := Q } := by
  rintro vs h Q ⟨-, D, R, r, d, f, rfl, hr, hd, q⟩ -
  refine wp_go fun N hN => ?_
  array_get_dec
  refine get_of rfl (rws_get hr) (get_of rfl (prs_get hd) ⟨_, rfl, rfl, _, _, rfl, _, _, rfl, rfl, ?_⟩)
  refine hN _ _ (wp_go fun N hN => ?_)
  array_get_dec
  exact ⟨by simp, q⟩
def ir_law_below : List IS := [.ret (.and [.call (aIsi "int") [.l 0], .not (.call (aIsi "bool") [.l 0]), .chn aLe aLt (.c (.int 0)) (.l 0) (.l 1)])]
def Φ_below : ASp := fun vs h Q => vs.length = 2 ∧ ∃ x b : Nat, vs = [.int x, .int b] ∧ x < b ∧ Q (.bl true) h
theorem wp_below : ∀ vs h Q, Φ_below vs h Q → vs.length = 2 → wpSs ir_law_below (startA 2 vs) h { nx := fun _ h' => Q .non h', rt := Q } := by
  rintro vs h Q ⟨-, x, b, rfl, hx, q⟩ -
  have e : numB (.int (x : Nat)) (b : Nat) = true := by
    show (decide (0 ≤ (x : Int)) && decide ((x : Int) < b)) = true
    rw [decide_eq_true (by omega), decide_eq_true (by omega)]; rfl
  exact wp_num _ h Q ⟨rfl, .int x, .int x, b, rfl, .int _, by rw [e]; exact q⟩ rfl
theorem all_rngOf {n : Nat} {g : Nat → Bool} {h : AH} {Q : Val → AH → Prop} (q : Q (.bl (((List.range n).map g).all id)) (h ++ [.lst ((List.range n).map fun i => .bl (g i))])) : aAll [.ref h.length] (h ++ [.lst ((List.range n).map fun i => .bl (g i))]) Q := ⟨_, by rw [get_new, bls], q⟩
theorem any_rngOf {n : Nat} {g : Nat → Bool} {h : AH} {Q : Val → AH → Prop} (q : Q (.bl (((List.range n).map g).any id)) (h ++ [.lst ((List.range n).map fun i => .bl (g i))])) : aAny [.ref h.length] (h ++ [.lst ((List.range n).map fun i => .bl (g i))]) Q := ⟨_, by rw [get_new, bls], q⟩
theorem rng_all (n : Nat) : ((List.range n).map fun _ => true).all id = true := by simp
theorem rng_any (n : Nat) : ((List.range n).map fun _ => false).any id = false := by simp
def ir_law_has_rows (Φ__law_below : ASp) : List IS := [.iff (.or [.not (.val (.call (aIsi "tuple") [.l 0])), .bool (.call (aEq false) [.l 0, .call aTup []]), .not (.val (.call aAll [.lc [2] (.name 2) wSeq [.l 0] [] (.call (aIsi "tuple") [.l 2])]))]) [.ret (.c (.bl false))] [],
  .asg (.name 1) (.call aLenA [.call aGet [.l 0, .c (.int 0)]]),
  .iff (.or [.bool (.call (aEq false) [.l 1, .c (.int 0)]), .val (.call aAny [.lc [2] (.name 2) wSeq [.l 0] [] (.call (aEq true) [.call aLenA [.l 2], .l 1])])]) [.ret (.c (.bl false))] [],
  .for (.name 2) wSeq [.l 0] [.for (.name 3) wSeq [.l 2] [.iff (.or [.not (.val (.call (aIsi "tuple") [.l 3])), .bool (.call (aEq true) [.call aLenA [.l 3], .c (.int 2)])]) [.ret (.c (.bl false))] [],
  .iff (.or [.not (.val (.call Φ__law_below [.call aGet [.l 3, .c (.int 0)], .l 1])), .not (.val (.call Φ__law_below [.call aGet [.l 3, .c (.int 1)], .call aLenA [.l 0]]))]) [.ret (.c (.bl false))] []]],
  .ret (.c (.bl true))]
def Φ_lrows : ASp := fun vs h Q => vs.length = 1 ∧ ∃ (D R : Nat) (f : Nat → Nat → Nat × Nat), vs = [.tup (rws D R f)] ∧ Bnd D R f ∧ 1 ≤ D ∧ 1 ≤ R ∧ D ≤ 1000 ∧ R ≤ 1000 ∧ ∀ h', Gr h h' → Q (.bl true) h'
theorem wp_lrows : ∀ vs h Q, Φ_lrows vs h Q → vs.length = 1 → wpSs (ir_law_has_rows Φ_below) (startA 4 vs) h { nx := fun _ h' => Q .non h', rt := Q } := by
  rintro vs h Q ⟨-, D, R, f, rfl, hB, hD1, hR1, hD, hR, q⟩ -
  refine wp_go fun N hN => ?_
  array_get_dec
  refine ⟨_, _, rfl, kb_tuple_tuple, true, rfl, ?_⟩
  rw [if_neg (by decide)]
  refine ⟨by simp, ?_⟩
  refine ⟨mixD false false false D R f, .tuple [], rep_rwsR, .tup .nil, okD_shaped (n := 3) ok_mix, okD_shaped (n := 1) rfl, ?_⟩
  have ene : PyData.eqv (mixD false false false D R f) (.tuple []) = false := by
    unfold mixD sqB
    obtain ⟨R', rfl⟩ : ∃ R', R = R' + 1 := ⟨R - 1, by omega⟩
    rw [List.range_succ_eq_map]
    simp [PyData.eqv, PyData.eqvAll]
  rw [ene]
  refine ⟨_, rfl, ?_⟩
  rw [if_neg (by decide)]
  refine lc_map (Gr h) (fun _ => .bl true) (by rw [rws_len]; omega) Gr.rfl (fun i v h1 K hv g1 k => ⟨trivial, ?_⟩) fun h1 g1 => ⟨trivial, all_rngOf (g := fun _ => true) ?_⟩
  · obtain ⟨_, rfl⟩ := rws_inv hv
    exact ⟨_, _, rfl, kb_tuple_tuple, k _ g1⟩
  rw [rng_all]
  refine ⟨true, rfl, ?_⟩
  rw [if_neg (by decide)]
  replace g1 := g1.trans (Gr.app [AO.lst ((List.range (rws D R f).length).map fun _ => Val.bl true)])
  generalize h1 ++ [AO.lst ((List.range (rws D R f).length).map fun _ => Val.bl true)] = h1 at g1 ⊢
  refine hN _ _ (wp_go fun N hN => ?_)
  array_get_dec
  refine get_of (i := 0) rfl (rws_get hR1) (len_of (vs := prs D (f 0)) rfl ?_)
  rw [prs_len]
  refine hN _ _ (wp_go fun N hN => ?_)
  array_get_dec
  have e0 : ((D : Int) = 0) = False := by rw [eq_iff_iff]; exact ⟨fun z => by omega, False.elim⟩
  rw [aEq_i]
  refine ⟨_, rfl, ?_⟩
  rw [show (false != decide ((D : Int) = 0)) = false by rw [decide_eq_false (by omega)]; rfl, if_neg (by decide)]
  refine lc_map (Gr h) (fun _ => .bl false) (by rw [rws_len]; omega) g1 (fun i v h2 K hv g2 k => ⟨trivial, ?_⟩) fun h2 g2 => ⟨trivial, any_rngOf (g := fun _ => false) ?_⟩
  · obtain ⟨_, rfl⟩ := rws_inv hv
    refine len_of (vs := prs D (f i)) rfl ?_
    rw [prs_len, aEq_i, decide_eq_true rfl]
    exact k _ g2
  rw [rng_any]
  refine ⟨false, rfl, ?_⟩
  rw [if_neg (by decide)]
  replace g2 := g2.trans (Gr.app [AO.lst ((List.range (rws D R f).length).map fun _ => Val.bl false)])
  generalize h2 ++ [AO.lst ((List.range (rws D R f).length).map fun _ => Val.bl false)] = h2 at g2 ⊢
  refine hN _ _ (wp_go fun N hN => ?_)
  array_get_dec
  refine for_inv (fun i sl h' => h' = h2 ∧ ∃ c2 c3 : Option Val, sl = [some (.tup (rws D R f)), some (.int D), c2, c3]) ⟨rfl, _, _, rfl⟩ (fun i v sl h3 N1 hv hI hN1 => ⟨trivial, ?_⟩) fun sl h3 hI => ⟨trivial, ?_⟩
  · obtain ⟨rfl, c2, c3, rfl⟩ := hI
    obtain ⟨hi, rfl⟩ := rws_inv hv
    array_get_dec
    refine wp_go fun N2 hN2 => ?_
    array_get_dec
    refine for_inv (fun j sl h' => h' = h3 ∧ ∃ c3 : Option Val, sl = [some (.tup (rws D R f)), some (.int D), some (.tup (prs D (f i))), c3]) ⟨rfl, _, rfl⟩ (fun j v sl h4 N3 hv hI hN3 => ⟨trivial, ?_⟩) fun sl h4 hI => ⟨trivial, ?_⟩
    · obtain ⟨rfl, c3, rfl⟩ := hI
      obtain ⟨hj, rfl⟩ := prs_inv hv
      obtain ⟨b1, b2⟩ := hB i j hi hj
      array_get_dec
      refine wp_go fun N4 hN4 => ?_
      array_get_dec
      refine ⟨_, _, rfl, kb_tuple_tuple, true, rfl, ?_⟩
      rw [if_neg (by decide)]
      refine len_of (v := pV (f i j)) seq_pV ?_
      show aEq true [.int (2 : Nat), .int 2] h4 _
      rw [aEq_i]
      refine ⟨_, rfl, ?_⟩
      rw [if_neg (by decide)]
      refine hN4 _ _ (wp_go fun N5 hN5 => ?_)
      array_get_dec
      refine get_of (i := 0) seq_pV rfl ⟨rfl, (f i j).1, D, rfl, b1, true, rfl, ?_⟩
      rw [if_neg (by decide)]
      refine get_of (i := 1) seq_pV rfl (len_of (vs := rws D R f) rfl ?_)
      rw [rws_len]
      refine ⟨rfl, (f i j).2, R, rfl, b2, true, rfl, ?_⟩
      rw [if_neg (by decide)]
      exact hN5 _ _ (hN3 _ _ ⟨rfl, _, rfl⟩)
    · obtain ⟨rfl, c3, rfl⟩ := hI
      exact hN2 _ _ (hN1 _ _ ⟨rfl, _, _, rfl⟩)
  · obtain ⟨rfl, c2, c3, rfl⟩ := hI
    refine hN _ _ (wp_go fun N hN => ?_)
    array_get_dec
    exact q _ g2
def ir_law_is_kind (Φ__law_has_rows : ASp) (Φ__law_fault : ASp) : List IS := [.ret (.and [.call Φ__law_has_rows [.l 0], .call (aIs false) [.call Φ__law_fault [.l 0], .c .non]])]
def Φ_lisk : ASp := fun vs h Q => vs.length = 1 ∧ ∃ (D R : Nat) (f : Nat → Nat → Nat × Nat), vs = [.tup (rws D R f)] ∧ Backs D R f ∧ 1 ≤ D ∧ 1 ≤ R ∧ D ≤ 1000 ∧ R ≤ 1000 ∧ ∀ h', Gr h h' → Q (.bl true) h'
theorem wp_lisk : ∀ vs h Q, Φ_lisk vs h Q → vs.length = 1 → wpSs (ir_law_is_kind Φ_lrows Φ_first) (startA 1 vs) h { nx := fun _ h' => Q .non h', rt := Q } := by
  rintro vs h Q ⟨-, D, R, f, rfl, hf, hD1, hR1, hD, hR, q⟩ -
  refine wp_go fun N hN => ?_
  array_get_dec
  refine ⟨rfl, D, R, f, rfl, hf.bnd, hD1, hR1, hD, hR, fun h1 g1 => ⟨true, rfl, ?_⟩⟩
  refine ⟨rfl, _, _, D, R, f, rfl, rep_rwsR, KG_mix, hf.bnd, by omega, by omega, fun w d e r => ?_⟩
  have hw : w = .non := by have := r []; rw [none_of e hf] at this; cases this; rfl
  subst hw
  exact q _ g1
def ir_law_gone_row : List IS := [.asg (.tup [.name 3, .name 4]) (.call aTup [.call aLst [], .l 1]),
  .for (.name 5) wSeq [.l 2] [.asg (.tup [.name 6, .name 4]) (.call aGet [.call aGet [.l 0, .l 4], .l 5]),
  .exp (.call aAppend (.call aLs [.l 3] :: [.l 6]))],
  .ret (.call aTup [.l 3, .l 4])]
theorem wp_grow : ∀ vs h Q, Φ_sent vs h Q → vs.length = 3 → wpSs ir_law_gone_row (startA 7 vs) h { nx := fun _ h' => Q .non h', rt := Q } := wp_sent
def ir_law_some_row (Φ__law_take : ASp) : List IS := [.ret (.lc [3] (.name 3) wRng1 [.call Φ__law_take [.l 0, .call aAdd [.l 2, .c (.int 1)]]] [] (.call Φ__law_take [.l 0, .l 1]))]
def Φ_srow : ASp := fun vs h Q => vs.length = 3 ∧ ∃ b M D m : Nat, vs = [.ref b, .int D, .int m] ∧ BoxAt h b M ∧ M + m + 1 ≤ boxMax ∧ 1 ≤ D ∧ D ≤ 100000 ∧ m ≤ 1000 ∧ ∀ (a : Nat) (L : List Nat) (h' : AH), Good D L → L.length ≤ m → h.length ≤ a → h'[a]? = some (.lst (intsN L)) → Kp b h h' → BoxAt h' b (M + m + 1) → Q (.ref a) h'
theorem wp_srow : ∀ vs h Q, Φ_srow vs h Q → vs.length = 3 → wpSs (ir_law_some_row Φ_take) (startA 4 vs) h { nx := fun _ h' => Q .non h', rt := Q } := by
  rintro vs h Q ⟨-, b, M, D, m, rfl, B, hM, hD1, hD, hm, q⟩ -
  unfold boxMax at hM
  refine wp_go fun N hN => ?_
  array_get_dec
  refine addI_of ?_
  rw [show (m : Int) + 1 = ((m + 1 : Nat) : Int) by omega]
  refine take_ok B (by unfold boxMax; omega) (by omega) (by omega) fun z h1 hz g1 _ B1 => ?_
  refine ⟨⟨by decide, by decide, by omega, by omega⟩, lc_inv (fun i acc h' => ∃ L, acc = intsN L ∧ L.length = i ∧ Good D L ∧ Kp b h h' ∧ BoxAt h' b (M + 1 + i)) ⟨[], rfl, rfl, Good.nil, g1, B1⟩ (fun i w acc h2 K hw hI k => ⟨trivial, ?_⟩) fun acc h2 hI => ⟨trivial, ?_⟩⟩
  · obtain ⟨L, rfl, hl, hg, g2, B2⟩ := hI
    obtain ⟨hi, rfl⟩ := rgL_get hw
    array_get_dec
    refine take_ok B2 (by unfold boxMax; omega) (by omega) (by omega) fun y h3 hy g3 _ B3 => ?_
    exact k _ _ (by rw [List.length_append, intsN_len]; simp; omega) ⟨L ++ [y], by simp [intsN], by simp [hl], hg.app (Good.one (by omega)), g2.trans g3, B3⟩
  · obtain ⟨L, rfl, hl, hg, g2, B2⟩ := hI
    rw [rgL_len] at hl B2
    have hb := B.lt
    exact q _ L _ hg (by omega) (by have := g2.le; omega) get_new (g2.trans (Gr.app _).kp) ((B2.gr (Gr.app _)).mono (by omega))
def ir_law_about : List IS := [.asg (.name 1) (.call aMul [.call aLst [.c (.int 0)], .call aLenA [.l 0]]),
  .for (.tup [.name 2, .name 3]) wEnum [.l 0] [.asg (.sub aSet (.l 1) (.l 3)) (.l 2)],
  .ret (.call aTuple [.l 1])]
def aboutL (n : Nat) (T : List Nat) : List Nat := (List.range n).map fun x => T.idxOf x
def Φ_about : ASp := fun vs h Q => vs.length = 1 ∧ ∃ (n : Nat) (T : List Nat), vs = [.tup (intsN T)] ∧ T.Perm (List.range n) ∧ n ≤ 1000 ∧ ∀ h', Gr h h' → Q (.tup (intsN (aboutL n T))) h'
theorem wp_about : ∀ vs h Q, Φ_about vs h Q → vs.length = 1 → wpSs ir_law_about (startA 4 vs) h { nx := fun _ h' => Q .non h', rt := Q } := by
  rintro vs h Q ⟨-, n, T, rfl, hT, hn, q⟩ -
  have lT : T.length = n := by have := hT.length_eq; simpa using this
  refine wp_go fun N hN => ?_
  array_get_dec
  have e0 := get_new (h := h) (o := .lst [.int 0])
  refine ⟨by simp, ?_⟩
  refine len_of (v := .tup (intsN T)) (vs := intsN T) rfl ?_
  rw [intsN_len, lT]
  refine ⟨_, e0, by omega, by omega, by simp; omega, ?_⟩
  rw [Int.toNat_natCast, rep_flat]
  have g0 : Gr h (h ++ [.lst [.int 0]] ++ [AO.lst ((List.range n).map fun _ => Val.int 0)]) := (Gr.app _).trans (Gr.app _)
  have e1 := get_new (h := h ++ [AO.lst [.int 0]]) (o := AO.lst ((List.range n).map fun _ => Val.int 0))
  have la : h.length ≤ (h ++ [AO.lst [Val.int 0]]).length := by simp
  generalize h ++ [AO.lst [Val.int 0]] ++ [AO.lst ((List.range n).map fun _ => Val.int 0)] = h1 at g0 e1 ⊢
  generalize (h ++ [AO.lst [Val.int 0]]).length = a at e1 la ⊢
  refine hN _ _ (wp_go fun N hN => ?_)
  array_get_dec
  refine for_inv (fun i sl h' => ∃ (c2 c3 : Option Val) (F : Nat → Nat), sl = [some (.tup (intsN T)), some (.ref a), c2, c3] ∧ Gr h h' ∧ h'[a]? = some (.lst ((List.range n).map fun x => Val.int (F x : Nat))) ∧ ∀ j, j < i → j < n → F (T.getD j 0) = j) ⟨_, _, fun _ => 0, rfl, g0, e1, fun j z => absurd z (Nat.not_lt_zero _)⟩ (fun i v sl h3 N1 hv hI hN1 => ⟨trivial, ?_⟩) fun sl h3 hI => ⟨trivial, ?_⟩
  · obtain ⟨c2, c3, F, rfl, g3, e3, hF⟩ := hI
    obtain ⟨w, hw, rfl⟩ := enumL_get hv
    have hi : i < n := by rw [← lT, ← intsN_len]; exact (List.getElem?_eq_some_iff.mp hw).1
    obtain ⟨t0, t1, t2⟩ := idx_at hT hi
    rw [intsN_get t2] at hw
    cases hw
    array_get_dec
    refine ⟨_, rfl, rfl, _, _, rfl, _, _, rfl, rfl, ?_⟩
    refine wp_go fun N2 hN2 => ?_
    array_get_dec
    refine set_of e3 (by simp; exact t1) ?_
    rw [rng_set]
    refine hN2 _ _ (hN1 _ _ ⟨_, _, fun x => if x = T.getD i 0 then i else F x, rfl, g3.setNew la, ?_, fun j hj hjn => ?_⟩)
    · rw [get_set (lt_of e3)]
      congr 2
      apply List.map_congr_left
      intro x _
      by_cases z : x = T.getD i 0
      · simp only [if_pos z]
      · simp only [if_neg z]
    · show (if T.getD j 0 = T.getD i 0 then i else F (T.getD j 0)) = j
      by_cases z : T.getD j 0 = T.getD i 0
      · rw [if_pos z]
        have := (idx_at hT hjn).1
        rw [z, t0] at this; exact this
      · rw [if_neg z]
        exact hF j (by by_cases w : j = i; · subst w; exact absurd rfl z
                       · omega) hjn
  · obtain ⟨c2, c3, F, rfl, g3, e3, hF⟩ := hI
    refine hN _ _ (wp_go fun N hN => ?_)
    array_get_dec
    refine ⟨_, seq_ref e3, ?_⟩
    have : (List.range n).map (fun x => Val.int (F x : Nat)) = intsN (aboutL n T) := by
      unfold intsN aboutL
      rw [List.map_map]
      apply List.map_congr_left
      intro x hx
      obtain ⟨a1, a2⟩ := at_idx hT (List.mem_range.mp hx)
      have := hF (T.idxOf x) (by simpa [intsN, lT] using a2) a2
      rw [a1] at this
      show Val.int (F x : Nat) = Val.int (T.idxOf x : Nat)
      rw [this]
    rw [this]
    exact q _ g3
def ir_law_orderT (Φ__law_take : ASp) : List IS := [.asg (.tup [.name 2, .name 3]) (.call aTup [.call aLstRg1 [.l 1], .call aLst []]),
  .for (.name 4) wRng1 [.l 1] [.exp (.call aAppend (.call aLs [.l 3] :: [.call aPop (.call aLs [.l 2] :: [.call Φ__law_take [.l 0, .call aLenA [.l 2]]])]))],
  .ret (.call aTuple [.l 3])]
def Φ_orderT : ASp := fun vs h Q => vs.length = 2 ∧ ∃ b M n : Nat, vs = [.ref b, .int n] ∧ BoxAt h b M ∧ M + n ≤ boxMax ∧ n ≤ 100000 ∧ ∀ (T : List Nat) (h' : AH), T.Perm (List.range n) → Kp b h h' → BoxAt h' b (M + n) → Q (.tup (intsN T)) h'
theorem wp_orderT : ∀ vs h Q, Φ_orderT vs h Q → vs.length = 2 → wpSs (ir_law_orderT Φ_take) (startA 5 vs) h { nx := fun _ h' => Q .non h', rt := Q } := by
  rintro vs h Q ⟨-, b, M, n, rfl, B, hM, hn, q⟩ -
  unfold boxMax at hM
  have hb := B.lt
  refine wp_go fun N hN => ?_
  decreasing_trivial
  refine ⟨⟨by decide, by decide, by omega, by omega⟩, ?_⟩
  have e0 := get_app (n := [AO.lst []]) (get_new (h := h) (o := .lst (rgL 0 n)))
  have e1 := get_new (h := h ++ [.lst (rgL 0 n)]) (o := .lst [])
  have g0 : Kp b h (h ++ [AO.lst (rgL 0 n)] ++ [AO.lst []]) := ((Gr.app _).trans (Gr.app _)).kp
  have B0 := B.gr ((Gr.app [AO.lst (rgL 0 n)]).trans (Gr.app [AO.lst []]))
  have el : (h ++ [AO.lst (rgL 0 n)]).length = h.length + 1 := by simp
  rw [el] at e1 ⊢
  generalize h ++ [AO.lst (rgL 0 n)] ++ [AO.lst []] = h0 at e0 e1 g0 B0 ⊢
  have er : rgL 0 (n : Int) = intsN (List.range n) := by
    unfold rgL intsN
    rw [show ((n : Int) - 0).toNat = n by omega]
    simp
  rw [er] at e0
  clear er
  refine hN _ _ (wp_go fun N hN => ?_)
  decreasing_trivial
  refine ⟨⟨by decide, by decide, by omega, by omega⟩, for_inv (fun t sl h' => ∃ (c4 : Option Val) (L F : List Nat), sl = [some (.ref b), some (.int n), some (.ref h.length), some (.ref (h.length + 1)), c4] ∧ Kp b h h' ∧ BoxAt h' b (M + t) ∧ h'[h.length]? = some (.lst (intsN L)) ∧ h'[h.length + 1]? = some (.lst (intsN F)) ∧ (F ++ L).Perm (List.range n) ∧ L.length + t = n)
    ⟨none, List.range n, [], rfl, g0, B0, e0, e1, List.Perm.refl _, by simp⟩ (fun t v sl h1 N' hv hI hN' => ⟨trivial, ?_⟩) fun sl h1 hI => ⟨trivial, ?_⟩⟩
  · obtain ⟨c4, L, F, rfl, g1, B1, eL, eF, hp, hl⟩ := hI
    obtain ⟨ht, rfl⟩ := rgL_get hv
    have ht : t < n := by omega
    rw [Int.zero_add]
    have lF := lt_of eF
    decreasing_trivial
    refine wp_go fun N2 hN2 => ?_
    decreasing_trivial
    have hM1 : M + n ≤ 1000000000 := hM
    rw [intsN_len]
    refine take_ok B1 (by unfold boxMax; omega) (by omega) (by omega) fun z h2 hz g2 _ B2 => ?_
    have hz : z < L.length := by omega
    have ez : L[z]? = some L[z] := List.getElem?_eq_getElem hz
    have eL2 := g2.get eL (by omega)
    have eF2 := g2.get eF (by omega)
    have hpe : (F ++ [L[z]] ++ L.eraseIdx z).Perm (List.range n) := by
      refine List.Perm.trans ?_ hp
      rw [List.append_assoc]
      refine List.Perm.append_left F ?_
      rw [List.singleton_append]
      exact perm_eraseIdx ez
    have hFl : F.length ≤ n := by have := hp.length_eq; simp at this; omega
    generalize L[z] = y at ez hpe ⊢
    refine pop_at eL2 (intsN_get ez) (by rw [intsN_len]; omega) ?_
    refine ⟨intsN F, by rw [get_setN (by omega)]; exact eF2, by rw [intsN_len]; omega, hN2 _ _ (hN' _ _ ⟨_, L.eraseIdx z, F ++ [y], rfl, ((g1.trans g2).setNew (by omega)).setNew (by omega), ?_, ?_, ?_, hpe, ?_⟩)⟩
    · obtain ⟨n', x, c, e, r⟩ := B2
      exact ⟨n', x, c, by rw [get_setN (by omega), get_setN (by omega)]; exact e, by omega⟩
    · rw [get_setN (by omega), get_set (lt_of eL2)]
      unfold intsN
      rw [eraseIdx_mapD]
    · rw [get_set (by simp; exact lt_of eF2)]
      simp [intsN]
    · rw [List.length_eraseIdx_of_lt hz]; omega
  · obtain ⟨c4, L, F, rfl, g1, B1, eL, eF, hp, hl⟩ := hI
    have hL : L = [] := List.length_eq_zero_iff.mp (by rw [rgL_len] at hl; omega)
    subst hL
    rw [List.append_nil] at hp
    rw [rgL_len] at B1
    refine hN _ _ (wp_go fun N2 hN2 => ?_)
    decreasing_trivial
    exact q F _ hp g1 (B1.mono (by omega))
theorem orderT_ok {b M n : Nat} {h : AH} {Q : Val → AH → Prop} (B : BoxAt h b M) (hM : M + n ≤ boxMax) (hn : n ≤ 100000) (q : ∀ (T : List Nat) (h' : AH), T.Perm (List.range n) → Kp b h h' → BoxAt h' b (M + n) → Q (.tup (intsN T)) h') : Φ_orderT [.ref b, .int n] h Q := ⟨rfl, b, M, n, rfl, B, hM, hn, q⟩
/-! ### other names, put together -/
theorem rws_ext {D R : Nat} {f g : Nat → Nat → Nat × Nat} (h : ∀ r d, r < R → d < D → f r d = g r d) : rws D R f = rws D R g :=
  List.map_congr_left fun r hr => by rw [prs_congr fun d hd => h r d (List.mem_range.mp hr) hd]
theorem ren_ext {D R : Nat} {f g : Nat → Nat → Nat × Nat} {S T : List Nat} (hS : S.Perm (List.range D)) (hT : T.Perm (List.range R)) (h : ∀ r d, r < R → d < D → f (T.getD r 0) (S.getD d 0) = g (T.getD r 0) (S.getD d 0)) : rws D R f = rws D R g :=
  rws_ext fun r d hr hd => by
    have := h _ _ (at_idx hT hr).2 (at_idx hS hd).2
    rw [(at_idx hT hr).1, (at_idx hS hd).1] at this
    exact this
theorem map_getD {L : List Nat} {f : Nat → Nat} {n i : Nat} (hl : L.length = n) (hi : i < n) : (L.map f).getD i 0 = f (L.getD i 0) := by
  have h1 : i < L.length := by omega
  rw [List.getD_eq_getElem?_getD, List.getD_eq_getElem?_getD, List.getElem?_map, List.getElem?_eq_getElem h1]; rfl
theorem about_getD {n x : Nat} {T : List Nat} (hx : x < n) : (aboutL n T).getD x 0 = T.idxOf x := by
  unfold aboutL
  rw [List.getD_eq_getElem?_getD, rng_at hx]; rfl
theorem perm_len {n : Nat} {T : List Nat} (p : T.Perm (List.range n)) : T.length = n := by have := p.length_eq; simpa using this
theorem about_perm {n : Nat} {T : List Nat} (p : T.Perm (List.range n)) : (aboutL n T).Perm (List.range n) := by
  have h1 : (aboutL n T).Perm (T.map fun x => T.idxOf x) := (p.symm.map _)
  have h2 : (T.map fun x => T.idxOf x) = List.range n := by
    apply List.ext_getElem?
    intro i
    by_cases hi : i < n
    · rw [List.getElem?_map, (idx_at p hi).2.2, List.getElem?_range hi]
      show some (T.idxOf (T.getD i 0)) = _
      rw [(idx_at p hi).1]
    · rw [List.getElem?_eq_none (by rw [List.length_map, perm_len p]; omega), List.getElem?_eq_none (by simp; omega)]
  rw [h2] at h1; exact h1
theorem comp_perm {n : Nat} {M S : List Nat} (hM : M.Perm (List.range n)) (hS : S.Perm (List.range n)) : (S.map fun x => M.getD x 0).Perm (List.range n) := by
  refine (hS.map _).trans ?_
  have : (List.range n).map (fun x => M.getD x 0) = M := by
    apply List.ext_getElem?
    intro i
    by_cases hi : i < n
    · rw [rng_at hi, (idx_at hM hi).2.2]
    · rw [List.getElem?_eq_none (by simp; omega), List.getElem?_eq_none (by rw [perm_len hM]; omega)]
  rw [this]; exact hM
theorem ren_about {D R : Nat} {f : Nat → Nat → Nat × Nat} {S T : List Nat} (hf : Backs D R f) (hS : S.Perm (List.range D)) (hT : T.Perm (List.range R)) : rws D R (renF (aboutL D S) (aboutL R T) (renF S T f)) = rws D R f := by
  have pS := about_perm hS
  have pT := about_perm hT
  refine ren_ext pS pT fun r d hr hd => ?_
  rw [ren_at pS pT hr hd, about_getD hr, about_getD hd]
  obtain ⟨a1, a2⟩ := at_idx hT hr
  obtain ⟨c1, c2⟩ := at_idx hS hd
  obtain ⟨b1, b2, _⟩ := hf _ _ a2 c2
  have e := ren_at (f := f) hS hT a2 c2
  rw [a1, c1] at e
  rw [e]
  show ((aboutL D S).getD (S.getD _ 0) 0, (aboutL R T).getD (T.getD _ 0) 0) = _
  rw [about_getD (idx_at hS b1).2.1, about_getD (idx_at hT b2).2.1, (idx_at hS b1).1, (idx_at hT b2).1]
theorem ren_comp {D R : Nat} {f : Nat → Nat → Nat × Nat} {S T M B : List Nat} (hf : Backs D R f) (hS : S.Perm (List.range D)) (hT : T.Perm (List.range R)) (hM : M.Perm (List.range D)) (hB : B.Perm (List.range R)) :
    rws D R (renF M B (renF S T f)) = rws D R (renF (S.map fun x => M.getD x 0) (T.map fun x => B.getD x 0) f) := by
  have pS := comp_perm hM hS
  have pT := comp_perm hB hT
  refine ren_ext pS pT fun r d hr hd => ?_
  obtain ⟨b1, b2, _⟩ := hf r d hr hd
  rw [ren_at pS pT hr hd, map_getD (perm_len hT) hr, map_getD (perm_len hS) hd, map_getD (perm_len hT) b2, map_getD (perm_len hS) b1, ren_at hM hB (idx_at hT hr).2.1 (idx_at hS hd).2.1, ren_at hS hT hr hd]
theorem ren_okG {v sv tv : Val} {d0 : PyData} {D R : Nat} {f : Nat → Nat → Nat × Nat} {S T : List Nat} {h : AH} {Q : Val → AH → Prop} (rv : Rep h v d0) (kg : KG D R f d0) (hf : Backs D R f) (hR0 : 1 ≤ R) (hD : D ≤ 100) (hR : R ≤ 100) (hS : S.Perm (List.range D)) (hT : T.Perm (List.range R)) (rS : isRow h sv S) (rT : isRow h tv T) (q : ∀ h', Gr h h' → Q (.tup (rws D R (renF S T f))) h') : Φ_ren [v, sv, tv] h Q := ⟨rfl, v, sv, tv, d0, D, R, f, S, T, rfl, rv, kg, hf, hR0, hD, hR, hS, hT, rS, rT, q⟩
theorem rep_ints {h : AH} {T : List Nat} : Rep h (.tup (intsN T)) (.tuple (intsD T)) := .tup (reps_map (fun n => .int (n : Nat)) T)
theorem sm_ints {T : List Nat} (hT : ∀ x, x ∈ T → x < 1000) : smD (.tuple (intsD T)) = true := by
  show smD.smDs (intsD T) = true
  rw [smDs_all]
  intro x hx
  obtain ⟨n, hn, rfl⟩ := List.mem_map.mp hx
  show decide ((n : Int).natAbs < 10 ^ 12) = true
  rw [Int.natAbs_natCast]
  exact decide_eq_true (by have := hT n hn; have : (1000 : Nat) < 10 ^ 12 := by decide
                           omega)
theorem perm_lt {n : Nat} {T : List Nat} (p : T.Perm (List.range n)) (hn : n ≤ 1000) : ∀ x, x ∈ T → x < 1000 := fun x hx => by have := List.mem_range.mp (p.subset hx); omega
/-- repr([kind, doors, rests]) -/
theorem repr_three {D R a : Nat} {f : Nat → Nat → Nat × Nat} {S T : List Nat} {h : AH} {Q : Val → AH → Prop} (e : h[a]? = some (.lst [.tup (rws D R f), .tup (intsN S), .tup (intsN T)])) (hB : Bnd D R f) (hS : S.Perm (List.range D)) (hT : T.Perm (List.range R)) (hD : D ≤ 100) (hR : R ≤ 100)
    (q : Q (.str (PyData.list [mixD false false false D R f, .tuple (intsD S), .tuple (intsD T)]).shown) h) : aRepr [.ref a] h Q := by
  refine ⟨_, ⟨_, seq_ref e⟩, .lst e (.cons rep_rwsR (.cons rep_ints (.cons rep_ints .nil))), show_of (n := 4) ?_ ?_ ?_, q⟩
  · show okDs 3 _ = true
    rw [okDs_all]
    intro x hx
    simp only [List.mem_cons, List.not_mem_nil, or_false] at hx
    rcases hx with rfl | rfl | rfl
    · exact ok_mix
    · show okDs 2 _ = true
      exact okDs_ints
    · show okDs 2 _ = true
      exact okDs_ints
  · show smD.smDs _ = true
    rw [smDs_all]
    intro x hx
    simp only [List.mem_cons, List.not_mem_nil, or_false] at hx
    rcases hx with rfl | rfl | rfl
    · exact sm_mix hB (by omega) (by omega)
    · exact sm_ints (perm_lt hS (by omega))
    · exact sm_ints (perm_lt hT (by omega))
  · have b1 := bulk_mix (a := false) (b := false) (c := false) (D := D) (R := R) (f := f)
    have b2 : R * (D * 3 + 1) ≤ 100 * 301 := Nat.mul_le_mul hR (by omega)
    have b3 := bulk_ints (F := S)
    have b4 := bulk_ints (F := T)
    rw [perm_len hS] at b3
    rw [perm_len hT] at b4
    simp only [PyData.bulk, PyData.bulkAll]
    have : (2 : Nat) ^ 20 = 1048576 := by decide
    omega
theorem outs_at {f : Nat → Nat → Nat × Nat} : ∀ (L : List Nat) (x i d : Nat), L[i]? = some d → (outs f x L)[i]? = some (f (run f x (L.take i)) d).1
  | [], _, _, _, h => by simp at h
  | e :: u, x, 0, d, h => by simp at h; subst h; rfl
  | e :: u, x, i + 1, d, h => outs_at u (f x e).2 i d (by simpa using h)
theorem comp_rng {S M : List Nat} : (List.range (intsN S).length).map (fun i => Val.int (M.getD (S.getD i 0) 0 : Nat)) = intsN (S.map fun x => M.getD x 0) := by
  rw [intsN_len]
  apply List.ext_getElem?
  intro i
  by_cases hi : i < S.length
  · rw [rng_at hi]
    unfold intsN
    rw [List.map_map, List.getElem?_map, List.getElem?_eq_getElem hi, List.getD_eq_getElem?_getD (l := S), List.getElem?_eq_getElem hi]; rfl
  · rw [List.getElem?_eq_none (by simp; omega), List.getElem?_eq_none (by simp [intsN]; omega)]
def ir_law_right (Φ__law_any_kind : ASp) (Φ__law_order : ASp) (Φ_renamed : ASp) (Φ__law_is_kind : ASp) (Φ_is_kind : ASp) (Φ__law_lists : ASp) (Φ__law_about : ASp) (Φ__law_same : ASp) (Φ__law_some_row : ASp) (Φ__law_take : ASp) (Φ__law_gone_row : ASp) (Φ_gone : ASp) : List IS := [.asg (.name 1) (.call Φ__law_any_kind [.l 0]),
  .asg (.tup [.name 2, .name 3]) (.call aTup [.call Φ__law_order [.l 0, .call aLenA [.call aGet [.l 1, .c (.int 0)]]], .call Φ__law_order [.l 0, .call aLenA [.l 1]]]),
  .asg (.tup [.name 4, .name 5]) (.call aTup [.call aRepr [.call aLst [.l 1, .l 2, .l 3]], .call Φ_renamed [.l 1, .l 2, .l 3]]),
  .iff (.or [.not (.val (.call Φ__law_is_kind [.l 5])), .bool (.call (aIsB true) [.call Φ_is_kind [.l 5], .c (.bl true)])]) [.ret (.c (.bl false))] [],
  .for (.tup [.name 6, .name 7]) wEnum [.l 1] [.for (.tup [.name 16, .tup [.name 17, .name 10]]) wEnum [.l 7] [.iff (.bool (.call (aEq true) [.call aGet [.call aGet [.l 5, .call aGet [.l 3, .l 6]], .call aGet [.l 2, .l 16]], .call aTup [.call aGet [.l 2, .l 17], .call aGet [.l 3, .l 10]]])) [.ret (.c (.bl false))] []]],
  .asg (.name 8) (.call aLst [.call Φ_renamed [.call Φ__law_lists [.l 1], .call aList [.l 2], .call aList [.l 3]], .call Φ_renamed [.l 5, .call Φ__law_about [.l 2], .call Φ__law_about [.l 3]]]),
  .iff (.not (.val (.call Φ__law_same [.l 8, .call aLst [.l 5, .l 1]]))) [.ret (.c (.bl false))] [],
  .asg (.tup [.name 9, .name 10]) (.call aTup [.call Φ__law_order [.l 0, .call aLenA [.l 2]], .call Φ__law_order [.l 0, .call aLenA [.l 3]]]),
  .asg (.name 11) (.call Φ_renamed [.l 1, .call aTuple [.lc [16] (.name 16) wSeq [.l 2] [] (.call aGet [.l 9, .l 16])], .call aTuple [.lc [6] (.name 6) wSeq [.l 3] [] (.call aGet [.l 10, .l 6])]]),
  .iff (.not (.val (.call Φ__law_same [.call Φ_renamed [.l 5, .l 9, .l 10], .l 11]))) [.ret (.c (.bl false))] [],
  .asg (.tup [.name 7, .name 12]) (.call aTup [.call Φ__law_some_row [.l 0, .call aLenA [.l 2], .c (.int 6)], .call Φ__law_take [.l 0, .call aLenA [.l 3]]]),
  .asg (.tup [.name 13, .name 14]) (.call Φ__law_gone_row [.l 1, .l 12, .l 7]),
  .asg (.name 15) (.call aGet [.l 3, .l 12]),
  .for (.tup [.name 16, .name 17]) wZip [.l 7, .l 13] [.asg (.tup [.name 18, .name 15]) (.call Φ_gone [.l 5, .l 15, .call aGet [.l 2, .l 16]]),
  .iff (.bool (.call (aEq true) [.l 18, .call aGet [.l 2, .l 17]])) [.ret (.c (.bl false))] []],
  .ret (.and [.call (aEq false) [.l 15, .call aGet [.l 3, .l 14]], .call (aEq false) [.call aRepr [.call aLst [.l 1, .l 2, .l 3]], .l 4]])]
def Φ_right : ASp := fun vs h Q => vs.length = 1 ∧ ∃ b M : Nat, vs = [.ref b] ∧ BoxAt h b M ∧ M + 5000 ≤ boxMax ∧ ∀ h', Kp b h h' → BoxAt h' b (M + 5000) → Q (.bl true) h'
theorem wp_right : ∀ vs h Q, Φ_right vs h Q → vs.length = 1 → wpSs (ir_law_right Φ_any Φ_orderT Φ_ren Φ_lisk Φ_isk (Φ_lists 4) Φ_about (Φ_same 5) Φ_srow Φ_take Φ_sent Φ_gone) (startA 19 vs) h { nx := fun _ h' => Q .non h', rt := Q } := by
  rintro vs h Q ⟨-, b, M, rfl, B, hM, q⟩ -
  unfold boxMax at hM
  refine wp_go fun N hN => ?_
  array_get_dec
  refine ⟨rfl, b, M, rfl, B, by unfold boxMax; omega, fun D R f h1 hD1 hD2 hR1 hR2 hf g1 B1 => ?_⟩
  rw [kV_rws]
  have hDR : R * (D * 3 + 1) ≤ 64 * 37 := Nat.mul_le_mul hR2 (by omega)
  refine hN _ _ (wp_go fun N hN => ?_)
  array_get_dec
  refine get_of (i := 0) rfl (rws_get hR1) (len_of (v := .tup (prs D (f 0))) rfl ?_)
  rw [prs_len]
  refine orderT_ok B1 (by unfold boxMax; omega) (by omega) fun S h2 hS g2 B2 => ?_
  refine len_of (v := .tup (rws D R f)) rfl ?_
  rw [rws_len]
  refine orderT_ok B2 (by unfold boxMax; omega) (by omega) fun T h3 hT g3 B3 => ?_
  refine ⟨by simp, _, rfl, rfl, _, _, rfl, _, _, rfl, rfl, ?_⟩
  refine hN _ _ (wp_go fun N hN => ?_)
  array_get_dec
  have lists_ok : ∀ (h : AH) (Q : Val → AH → Prop), b < h.length → (∀ w h', Gr h h' → Rep h' w (mixD true true true D R f) → Q w h') → Φ_lists 4 [.tup (rws D R f)] h Q := fun h Q hb k => by
    refine ⟨rfl, b, _, mixD false false false D R f, rfl, hb, okD_mono 3 4 _ (by decide) ok_mix, Nat.le_trans bulk_mix (by omega), RepS.tup rep_rws, fun w h' g r => ?_⟩
    rw [toL_mix] at r
    exact k w h' g r.r
  have hg := ren_backs hS hT hf
  have eg : ∀ r d, r < R → d < D → renF S T f (T.getD r 0) (S.getD d 0) = (S.getD (f r d).1 0, T.getD (f r d).2 0) := fun r d hr hd => ren_at hS hT hr hd
  refine ⟨by simp, ?_⟩
  refine repr_three get_new hf.bnd hS hT (by omega) (by omega) ?_
  generalize hz : (PyData.list [mixD false false false D R f, .tuple (intsD S), .tuple (intsD T)]).shown = z
  refine ren_okG rep_rwsR KG_mix hf hR1 (by omega) (by omega) hS hT (.inl rfl) (.inl rfl) fun h4 g4 => ?_
  refine ⟨by simp, _, rfl, rfl, _, _, rfl, _, _, rfl, rfl, ?_⟩
  have G4 : Kp b h h4 := ((g1.trans g2).trans g3).trans ((Gr.app _).trans g4).kp
  have B4 := B3.gr ((Gr.app _).trans g4)
  clear g4 g3 g2 g1 B1 B2 B3
  have about1 := ren_about hf hS hT
  have comp1 := fun (M B : List Nat) hM hB => ren_comp (M := M) (B := B) hf hS hT hM hB
  generalize hgg : renF S T f = gg at hg eg about1 comp1 ⊢
  have fb := hf.bnd
  refine hN _ _ (wp_go fun N hN => ?_)
  array_get_dec
  refine ⟨rfl, D, R, gg, rfl, hg, hD1, hR1, by omega, by omega, fun h5 g5 => ⟨true, rfl, ?_⟩⟩
  rw [if_neg (by decide)]
  refine ⟨rfl, _, _, rfl, rep_rwsR, len_mix (by omega) (by omega), fun t h6 ht g6 => ?_⟩
  have ht : t = true := ht.mpr ⟨_, R, _, hD1, hR1, kD_mix.symm, hg⟩
  subst ht
  refine ⟨_, rfl, ?_⟩
  rw [if_neg (by decide)]
  have G6 := G4.trans (g5.trans g6).kp
  have B6 := B4.gr (g5.trans g6)
  clear g5 g6 G4 B4
  refine hN _ _ (wp_go fun N hN => ?_)
  array_get_dec
  refine for_inv (fun i sl h' => h' = h6 ∧ ∃ c6 c7 c10 c16 c17 : Option Val, sl = [some (.ref b), some (.tup (rws D R f)), some (.tup (intsN S)), some (.tup (intsN T)), some (.str z), some (.tup (rws D R gg)), c6, c7, none, none, c10, none, none, none, none, none, c16, c17, none]) ⟨rfl, _, _, _, _, _, rfl⟩ (fun i v sl h7 N1 hv hI hN1 => ⟨trivial, ?_⟩) fun sl h7 hI => ⟨trivial, ?_⟩
  · obtain ⟨rfl, c6, c7, c10, c16, c17, rfl⟩ := hI
    obtain ⟨w, hw, rfl⟩ := enumL_get hv
    obtain ⟨hi, rfl⟩ := rws_inv hw
    array_get_dec
    refine ⟨_, rfl, rfl, _, _, rfl, _, _, rfl, rfl, ?_⟩
    refine wp_go fun N2 hN2 => ?_
    array_get_dec
    refine for_inv (fun j sl h' => h' = h7 ∧ ∃ c10 c16 c17 : Option Val, sl = [some (.ref b), some (.tup (rws D R f)), some (.tup (intsN S)), some (.tup (intsN T)), some (.str z), some (.tup (rws D R gg)), some (.int i), some (.tup (prs D (f i))), none, none, c10, none, none, none, none, none, c16, c17, none]) ⟨rfl, _, _, _, rfl⟩ (fun j v sl h8 N3 hv hI hN3 => ⟨trivial, ?_⟩) fun sl h8 hI => ⟨trivial, ?_⟩
    · obtain ⟨rfl, c10, c16, c17, rfl⟩ := hI
      obtain ⟨w, hw, rfl⟩ := enumL_get hv
      obtain ⟨hj, rfl⟩ := prs_inv hw
      obtain ⟨b1, b2, _⟩ := hf i j hi hj
      array_get_dec
      refine ⟨_, rfl, rfl, _, _, rfl, _, _, rfl, ⟨_, seq_pV, rfl, _, _, rfl, _, _, rfl, ⟨rfl, ?_⟩⟩⟩
      refine ⟨rfl, wp_go fun N4 hN4 => ?_⟩
      array_get_dec
      obtain ⟨_, s1, s2⟩ := idx_at hS hj
      obtain ⟨_, s3, s4⟩ := idx_at hS b1
      obtain ⟨_, t1, t2⟩ := idx_at hT hi
      obtain ⟨_, t3, t4⟩ := idx_at hT b2
      refine get_of (v := .tup (intsN T)) rfl (intsN_get t2) (get_of rfl (rws_get t1) (get_of (v := .tup (intsN S)) rfl (intsN_get s2) (get_of rfl (prs_get s1) ?_)))
      rw [eg i j hi hj]
      refine get_of (v := .tup (intsN S)) rfl (intsN_get s4) (get_of (v := .tup (intsN T)) rfl (intsN_get t4) ⟨by simp, eq_pair ⟨_, rfl, ?_⟩⟩)
      rw [decide_eq_true rfl, decide_eq_true rfl, if_neg (by decide)]
      exact hN4 _ _ (hN3 _ _ ⟨rfl, _, _, _, rfl⟩)
    · obtain ⟨rfl, c10, c16, c17, rfl⟩ := hI
      exact hN2 _ _ (hN1 _ _ ⟨rfl, _, _, _, _, _, rfl⟩)
  obtain ⟨rfl, c6, c7, c10, c16, c17, rfl⟩ := hI
  refine hN _ _ (wp_go fun N hN => ?_)
  array_get_dec
  have okM : ∀ F, okD 4 (mixD false false false D R F) = true := fun F => okD_mono 3 4 _ (by decide) ok_mix
  have bkM : ∀ F, (mixD false false false D R F).bulk ≤ 64 * 37 := fun F => Nat.le_trans bulk_mix hDR
  refine lists_ok h7 _ B6.lt fun w h8 g8 rw8 => ?_
  refine ⟨intsN S, rfl, intsN T, rfl, ?_⟩
  have eS := get_app (n := [AO.lst (intsN T)]) (get_new (h := h8) (o := .lst (intsN S)))
  have eT := get_new (h := h8 ++ [AO.lst (intsN S)]) (o := .lst (intsN T))
  have g9 : Gr h8 (h8 ++ [AO.lst (intsN S)] ++ [AO.lst (intsN T)]) := (Gr.app _).trans (Gr.app _)
  generalize h8 ++ [AO.lst (intsN S)] ++ [AO.lst (intsN T)] = h9 at eS eT g9 ⊢
  generalize (h8 ++ [AO.lst (intsN S)]).length = aT at eT ⊢
  refine ren_okG (rw8.gr g9) KG_mix hf hR1 (by omega) (by omega) hS hT (.inr ⟨_, rfl, eS⟩) (.inr ⟨_, rfl, eT⟩) fun h10 g10 => ?_
  rw [hgg]
  refine ⟨rfl, D, S, rfl, hS, by omega, fun h11 g11 => ⟨rfl, R, T, rfl, hT, by omega, fun h12 g12 => ren_okG rep_rwsR KG_mix hg hR1 (by omega) (by omega) (about_perm hS) (about_perm hT) (.inl rfl) (.inl rfl) fun h13 g13 => ?_⟩⟩
  rw [about1]
  refine ⟨by simp, ?_⟩
  have e14 := get_new (h := h13) (o := .lst [.tup (rws D R gg), .tup (rws D R f)])
  have g14 := (((((g8.trans g9).trans g10).trans g11).trans g12).trans g13).trans (Gr.app [AO.lst [.tup (rws D R gg), .tup (rws D R f)]])
  generalize h13 ++ [AO.lst [.tup (rws D R gg), .tup (rws D R f)]] = h14 at e14 g14 ⊢
  generalize h13.length = a14 at e14 ⊢
  clear g8 g9 g10 g11 g12 g13 eS eT rw8
  refine hN _ _ (wp_go fun N hN => ?_)
  array_get_dec
  refine ⟨by simp, rep_same (n := 5) (d := .list [mixD false false false D R gg, mixD false false false D R f]) (by show okDs 4 [_, _] = true; simp [okDs, okM]) (by have := bkM gg; have := bkM f; simp only [PyData.bulk, PyData.bulkAll]; omega) (.lst (get_app e14) (.cons rep_rwsR (.cons rep_rwsR .nil))) (.lst get_new (.cons rep_rwsR (.cons rep_rwsR .nil))) fun h15 g15 => ⟨true, rfl, ?_⟩⟩
  rw [if_neg (by decide)]
  have G15 := G6.trans (g14.trans ((Gr.app _).trans g15)).kp
  have B15 := B6.gr (g14.trans ((Gr.app _).trans g15))
  clear g14 g15 e14 G6 B6
  refine hN _ _ (wp_go fun N hN => ?_)
  array_get_dec
  refine len_of (v := .tup (intsN S)) rfl ?_
  rw [intsN_len, perm_len hS]
  refine orderT_ok B15 (by unfold boxMax; omega) (by omega) fun M' h16 hM' g16 B16 => ?_
  refine len_of (v := .tup (intsN T)) rfl ?_
  rw [intsN_len, perm_len hT]
  refine orderT_ok B16 (by unfold boxMax; omega) (by omega) fun BB h17 hBB g17 B17 => ?_
  refine ⟨by simp, _, rfl, rfl, _, _, rfl, _, _, rfl, rfl, ?_⟩
  have G17 := (G15.trans g16).trans g17
  clear g16 g17 B15 B16 G15
  refine hN _ _ (wp_go fun N hN => ?_)
  array_get_dec
  refine lc_map (Gr h17) (fun i => Val.int (M'.getD (S.getD i 0) 0 : Nat)) (by rw [intsN_len, perm_len hS]; omega) Gr.rfl (fun i v h18 K hv g18 k => ⟨trivial, ?_⟩) fun h18 g18 => ⟨trivial, ?_⟩
  · have hi : i < D := by rw [← perm_len hS, ← intsN_len]; exact (List.getElem?_eq_some_iff.mp hv).1
    obtain ⟨_, s1, s2⟩ := idx_at hS hi
    rw [intsN_get s2] at hv
    cases hv
    array_get_dec
    exact get_of (v := .tup (intsN M')) rfl (intsN_get (idx_at hM' s1).2.2) (k _ g18)
  rw [comp_rng]
  refine ⟨_, seq_ref get_new, ?_⟩
  replace g18 := g18.trans (Gr.app [AO.lst (intsN (S.map fun x => M'.getD x 0))])
  generalize h18 ++ [AO.lst (intsN (S.map fun x => M'.getD x 0))] = h18 at g18 ⊢
  refine lc_map (Gr h17) (fun i => Val.int (BB.getD (T.getD i 0) 0 : Nat)) (by rw [intsN_len, perm_len hT]; omega) g18 (fun i v h19 K hv g19 k => ⟨trivial, ?_⟩) fun h19 g19 => ⟨trivial, ?_⟩
  · have hi : i < R := by rw [← perm_len hT, ← intsN_len]; exact (List.getElem?_eq_some_iff.mp hv).1
    obtain ⟨_, s1, s2⟩ := idx_at hT hi
    rw [intsN_get s2] at hv
    cases hv
    array_get_dec
    exact get_of (v := .tup (intsN BB)) rfl (intsN_get (idx_at hBB s1).2.2) (k _ g19)
  rw [comp_rng]
  refine ⟨_, seq_ref get_new, ?_⟩
  replace g19 := g19.trans (Gr.app [AO.lst (intsN (T.map fun x => BB.getD x 0))])
  generalize h19 ++ [AO.lst (intsN (T.map fun x => BB.getD x 0))] = h19 at g19 ⊢
  clear g18
  refine ren_okG rep_rwsR KG_mix hf hR1 (by omega) (by omega) (comp_perm hM' hS) (comp_perm hBB hT) (.inl rfl) (.inl rfl) fun h20 g20 => ?_
  rw [← comp1 M' BB hM' hBB]
  refine hN _ _ (wp_go fun N hN => ?_)
  array_get_dec
  refine ren_okG rep_rwsR KG_mix hg hR1 (by omega) (by omega) hM' hBB (.inl rfl) (.inl rfl) fun h21 g21 => ?_
  refine rep_same (n := 5) (okD_mono 4 5 _ (by decide) (okM _)) (Nat.le_trans (bkM _) (by decide)) rep_rwsR rep_rwsR fun h22 g22 => ⟨true, rfl, ?_⟩
  rw [if_neg (by decide)]
  have gz := ((g19.trans g20).trans g21).trans g22
  have G22 := G17.trans gz.kp
  have B22 := B17.gr gz
  clear gz g19 g20 g21 g22 G17 B17
  refine hN _ _ (wp_go fun N hN => ?_)
  array_get_dec
  refine len_of (v := .tup (intsN S)) rfl ?_
  rw [intsN_len, perm_len hS]
  refine ⟨rfl, b, _, D, 6, rfl, B22, by unfold boxMax; omega, hD1, by omega, by decide, fun a L h23 hL hl la ea g23 B23 => ?_⟩
  refine len_of (v := .tup (intsN T)) rfl ?_
  rw [intsN_len, perm_len hT]
  refine take_ok B23 (by unfold boxMax; omega) (by omega) (by omega) fun x h24 hx g24 _ B24 => ?_
  have hx : x < R := by omega
  refine ⟨by simp, _, rfl, rfl, _, _, rfl, _, _, rfl, rfl, ?_⟩
  have hba : b ≠ a := by have := B22.lt; omega
  have ea := g24.get ea (by omega)
  have G24 := (G22.trans g23).trans g24
  refine hN _ _ (wp_go fun N hN => ?_)
  array_get_dec
  refine ⟨rfl, _, _, _, D, R, f, x, L, rfl, rep_rwsR, KG_mix, fb, hx, .inr ⟨a, rfl, ea⟩, hL, by omega, fun a2 h25 g25 la2 e25 => ?_⟩
  refine ⟨_, rfl, rfl, _, _, rfl, _, _, rfl, rfl, ?_⟩
  have ea := g25.get ea
  have G25 := G24.trans g25.kp
  have B25 := B24.gr g25
  obtain ⟨_, t1, t2⟩ := idx_at hT hx
  refine hN _ _ (wp_go fun N hN => ?_)
  array_get_dec
  refine get_of (v := .tup (intsN T)) rfl (intsN_get t2) ?_
  refine hN _ _ (wp_go fun N hN => ?_)
  array_get_dec
  refine ⟨_, _, ea, e25, ?_⟩
  refine for_inv (fun i sl h' => h' = h25 ∧ ∃ c16 c17 c18 : Option Val, sl = [some (.ref b), some (.tup (rws D R f)), some (.tup (intsN S)), some (.tup (intsN T)), some (.str z), some (.tup (rws D R gg)), c6, some (.ref a), some (.ref a14), some (.tup (intsN M')), some (.tup (intsN BB)), some (.tup (rws D R (renF M' BB gg))), some (.int x), some (.ref a2), some (.int (run f x L : Nat)), some (.int (T.getD (run f x (L.take i)) 0 : Nat)), c16, c17, c18]) ⟨rfl, _, _, _, rfl⟩ (fun i v sl h26 N1 hv hI hN1 => ?_) fun sl h26 hI => ?_
  · obtain ⟨rfl, c16, c17, c18, rfl⟩ := hI
    refine ⟨⟨ea, e25⟩, ?_⟩
    obtain ⟨u1, u2, e1, e2, rfl⟩ := zipL_get hv
    have hi : i < L.length := by rw [← intsN_len]; exact (List.getElem?_eq_some_iff.mp e1).1
    have eL := List.getElem?_eq_getElem hi
    have hd : L[i] < D := hL _ (List.getElem_mem hi)
    have et : L.take (i + 1) = L.take i ++ [L[i]] := by rw [List.take_add_one, eL]; rfl
    have eo := outs_at (f := f) L x i _ eL
    rw [intsN_get eL] at e1
    rw [intsN_get eo] at e2
    cases e1
    cases e2
    have hr : run f x (L.take i) < R := run_lt fb _ x hx fun e he => hL e (List.mem_of_mem_take he)
    have er : run f x (L.take (i + 1)) = (f (run f x (L.take i)) L[i]).2 := by rw [et, run_app]; rfl
    generalize run f x (L.take i) = s at hr er ⊢
    generalize L[i] = d at hd er ⊢
    obtain ⟨b1, b2, _⟩ := hf s d hr hd
    have e := eg s d hr hd
    obtain ⟨_, s1, s2⟩ := idx_at hS hd
    obtain ⟨_, s3, s4⟩ := idx_at hS b1
    obtain ⟨_, q1, q2⟩ := idx_at hT hr
    refine ⟨_, rfl, rfl, _, _, rfl, _, _, rfl, rfl, ?_⟩
    simp only [List.set_cons_zero, List.set_cons_succ]
    refine wp_go fun N2 hN2 => ?_
    array_get_dec
    refine get_of (v := .tup (intsN S)) rfl (intsN_get s2) ⟨rfl, D, R, _, _, gg, rfl, q1, s1, ?_⟩
    rw [e]
    refine ⟨_, seq_pV, rfl, _, _, rfl, _, _, rfl, rfl, ?_⟩
    refine hN2 _ _ (wp_go fun N3 hN3 => ?_)
    array_get_dec
    refine get_of (v := .tup (intsN S)) rfl (intsN_get s4) ?_
    rw [aEq_i]
    refine ⟨_, rfl, ?_⟩
    rw [decide_eq_true rfl, if_neg (by decide)]
    exact hN3 _ _ (hN1 _ _ ⟨rfl, _, _, _, by rw [er]⟩)
  · obtain ⟨rfl, c16, c17, c18, rfl⟩ := hI
    refine ⟨⟨ea, e25⟩, ?_⟩
    have hr : run f x L < R := run_lt fb _ x hx hL
    rw [show (zipL (intsN L) (intsN (outs f x L))).length = L.length by rw [zipL_len, intsN_len, intsN_len, outs_len]; omega, List.take_length]
    refine hN _ _ (wp_go fun N hN => ?_)
    array_get_dec
    refine get_of (v := .tup (intsN T)) rfl (intsN_get (idx_at hT hr).2.2) ?_
    rw [aEq_i]
    refine ⟨_, rfl, ?_⟩
    rw [decide_eq_true rfl, if_pos (by decide)]
    refine ⟨by simp, ?_⟩
    refine repr_three get_new hf.bnd hS hT (by omega) (by omega) ?_
    rw [hz, aEq_s, decide_eq_true rfl]
    exact q _ (G25.trans (Gr.app _).kp) ((B25.gr (Gr.app _)).mono (by omega))
def ir_law (Φ__law_folded : ASp) (Φ__law_box : ASp) (Φ__law_right : ASp) : List IS := [.asg (.name 1) (.call Φ__law_folded [.l 0, .c (.int 3)]),
  .for (.name 2) wRng1 [.call aMaxA [.c (.int 1), .call aLenA [.l 1]]] [.asg (.name 3) (.call Φ__law_box [.l 1, .l 2]),
  .iff (.not (.val (.call aAll [.lc [4] (.name 4) wRng1 [.c (.int 4)] [] (.call Φ__law_right [.l 3])]))) [.ret (.c (.bl false))] []],
  .ret (.c (.bl true))]
theorem wp_law : ∀ vs h Q, aLaw vs h Q → vs.length = 1 → wpSs (ir_law Φ_folded Φ_box Φ_right) (startA 5 vs) h { nx := fun _ h' => Q .non h', rt := Q } := by
  rintro vs h Q ⟨-, ns, rfl, hn, q⟩ -
  refine wp_go fun N hN => ?_
  decreasing_trivial
  refine ⟨rfl, ns, 3, rfl, hn, by decide, by decide, fun a ms h1 ea hms hl g1 => ?_⟩
  have hms3 : ms.length ≤ 3 := by omega
  clear hms
  refine hN _ _ (wp_go fun N hN => ?_)
  decreasing_trivial
  have hmx : ∃ n : Nat, (if (ms.length : Int) > 1 then (ms.length : Int) else 1) = (n : Int) ∧ n ≤ 3 := by
    by_cases z : (ms.length : Int) > 1
    · exact ⟨ms.length, by rw [if_pos z], hms3⟩
    · exact ⟨1, by rw [if_neg z]; rfl, by decide⟩
  obtain ⟨n, en, hn3⟩ := hmx
  rw [en]
  refine ⟨⟨by decide, by decide, by omega, by omega⟩, for_inv (fun i sl h' => ∃ c2 c3 c4 : Option Val, sl = [some (.scr ns), some (.ref a), c2, c3, c4] ∧ Gr h1 h') ⟨_, _, _, rfl, Gr.rfl⟩ (fun i v sl h2 N' hv hI hN' => ⟨trivial, ?_⟩) fun sl h2 hI => ⟨trivial, ?_⟩⟩
  · obtain ⟨c2, c3, c4, rfl, g2⟩ := hI
    obtain ⟨hi, rfl⟩ := rgL_get hv
    rw [Int.zero_add]
    decreasing_trivial
    refine wp_go fun N2 hN2 => ?_
    decreasing_trivial
    refine ⟨rfl, a, ms, i, rfl, g2.get ea, by omega, fun n x h3 h4 h5 => ?_⟩
    refine hN2 _ _ (wp_go fun N3 hN3 => ?_)
    decreasing_trivial
    refine ⟨⟨by decide, by decide, by decide, by decide⟩, lc_turns (n := 4) (C := 5000) (by decide) g2.le (g2.trans (Gr.app _)) (box_new h3 h4 h5) (fun j v h' K hj B _ k => ⟨rfl, _, _, rfl, B, by unfold boxMax; omega, k⟩) fun h' g' => ⟨_, rfl, ?_⟩⟩
    rw [show ((List.range 4).map fun _ => true).all id = true by rfl, if_neg (by decide)]
    exact hN3 _ _ (hN' _ _ ⟨_, _, _, rfl, g'.trans (Gr.app _)⟩)
  · obtain ⟨c2, c3, c4, rfl, g2⟩ := hI
    refine hN _ _ (wp_go fun N2 hN2 => ?_)
    decreasing_trivial
end Ev
namespace Ev
open PySem PySem.Spec PyProof.Rows L2
def topS (i : Nat) : Stmt := PySem.Challenge.pw_ballways_k04_whole_renamed_kinds.main.body.getD i (.Pass ⟨0, 0, 0, 0⟩)
abbrev S_is_number_below : Stmt := topS 2
abbrev S_is_pair_within : Stmt := topS 3
abbrev S_has_rows : Stmt := topS 4
abbrev S_first_fault : Stmt := topS 5
abbrev S_is_kind : Stmt := topS 6
abbrev S_doors_of : Stmt := topS 7
abbrev S_rests_of : Stmt := topS 8
abbrev S_gone : Stmt := topS 9
abbrev S_renamed : Stmt := topS 10
abbrev S_law_box : Stmt := topS 12
abbrev S_law_take : Stmt := topS 13
abbrev S_law_folded : Stmt := topS 14
abbrev S_law_same : Stmt := topS 15
abbrev S_law_lists : Stmt := topS 16
abbrev S_law_kind : Stmt := topS 17
abbrev S_law_below : Stmt := topS 18
abbrev S_law_has_rows : Stmt := topS 19
abbrev S_law_fault : Stmt := topS 20
abbrev S_law_is_kind : Stmt := topS 21
abbrev S_law_gone_row : Stmt := topS 22
abbrev S_law_some_row : Stmt := topS 23
abbrev S_law_order : Stmt := topS 24
abbrev S_law_any_kind : Stmt := topS 25
abbrev S_law_chain : Stmt := topS 26
abbrev S_law_turned_chain : Stmt := topS 27
abbrev S_law_doubled : Stmt := topS 28
abbrev S_law_about : Stmt := topS 29
abbrev S_law_right : Stmt := topS 30
abbrev S_law : Stmt := topS 31
abbrev N_is_number_below : List Str := ["thing", "bound"]
theorem sc_is_number_below : FnScope N_is_number_below ["thing", "bound"] (defScope S_is_number_below) := ⟨rfl, rfl, rfl, by decide +kernel, rfl, by decide +kernel, by decide +kernel⟩
theorem cs_is_number_below {g : Gc} {k : Nat} {gd : Bool} (m_isinstance : g.mg "isinstance" = none) (m_int : g.mg "int" = none) (m_bool : g.mg "bool" = none) : CSs (cx0 g N_is_number_below S_is_number_below k gd) (defBody S_is_number_below) (ir_is_number_below) :=
  have nd := sc_is_number_below.nd
  (css_cons (cs_ret (ce_andc (ce_isi (by decide +kernel) m_isinstance m_int (ce_l 0 rfl)) (ce_andc (ce_not (ce_isi (by decide +kernel) m_isinstance m_bool (ce_l 0 rfl))) (ce_and1 (cex2 cop_le cop_lt ce_int (ce_l 0 rfl) (ce_l 1 rfl))))))
  css_nil)
abbrev N_is_pair_within : List Str := ["thing", "doors", "rests", "door", "rest"]
theorem sc_is_pair_within : FnScope N_is_pair_within ["thing", "doors", "rests"] (defScope S_is_pair_within) := ⟨rfl, rfl, rfl, by decide +kernel, rfl, by decide +kernel, by decide +kernel⟩
theorem cs_is_pair_within {g : Gc} {k : Nat} {gd : Bool} {Φ_is_number_below : ASp} {b_is_number_below : Bool} {l_is_number_below : Nat} (D_is_number_below : Dg g b_is_number_below "is_number_below" l_is_number_below (SpO g.K 2 Φ_is_number_below)) (a_is_number_below : ∀ vs h Q, Φ_is_number_below vs h Q → vs.length = 2) (j_is_number_below : l_is_number_below ≤ k) (r_is_number_below : b_is_number_below = true → gd = true) (m_isinstance : g.mg "isinstance" = none) (m_tuple : g.mg "tuple" = none) (m_len : g.mg "len" = none) : CSs (cx0 g N_is_pair_within S_is_pair_within k gd) (defBody S_is_pair_within) (ir_is_pair_within Φ_is_number_below) :=
  have nd := sc_is_pair_within.nd
  (css_cons (cs_if (ct_or (cwo_c (ct_not (ct_val (ce_isi (by decide +kernel) m_isinstance m_tuple (ce_l 0 rfl)))) (cwo_1 (ctx cop_ne (ceb blt_len m_len (ca_cons (ce_l 0 rfl) ca_nil)) ce_int)))) (css_cons (cs_ret ce_bl)
  css_nil) css_nil)
  (css_cons (cs_asg (ce_l 0 rfl) (cg_tup (cgs_cons (CG.of (cgc_name 3 nd rfl)) (cgs_cons (CG.of (cgc_name 4 nd rfl)) cgs_nil))))
  (css_cons (cs_ret (ce_andc (ce_own D_is_number_below (ca_cons (ce_l 3 rfl) (ca_cons (ce_l 1 rfl) ca_nil)) a_is_number_below j_is_number_below r_is_number_below) (ce_and1 (ce_own D_is_number_below (ca_cons (ce_l 4 rfl) (ca_cons (ce_l 2 rfl) ca_nil)) a_is_number_below j_is_number_below r_is_number_below))))
  css_nil)))
abbrev N_has_rows : List Str := ["thing", "first", "others", "doors", "rests", "row", "pair"]
theorem sc_has_rows : FnScope N_has_rows ["thing"] (defScope S_has_rows) := ⟨rfl, rfl, rfl, by decide +kernel, rfl, by decide +kernel, by decide +kernel⟩
theorem cs_has_rows {g : Gc} {k : Nat} {gd : Bool} {Φ_is_pair_within : ASp} {b_is_pair_within : Bool} {l_is_pair_within : Nat} (D_is_pair_within : Dg g b_is_pair_within "is_pair_within" l_is_pair_within (SpO g.K 3 Φ_is_pair_within)) (a_is_pair_within : ∀ vs h Q, Φ_is_pair_within vs h Q → vs.length = 3) (j_is_pair_within : l_is_pair_within ≤ k) (r_is_pair_within : b_is_pair_within = true → gd = true) (m_isinstance : g.mg "isinstance" = none) (m_tuple : g.mg "tuple" = none) (m_all : g.mg "all" = none) (m_len : g.mg "len" = none) (m_any : g.mg "any" = none) : CSs (cx0 g N_has_rows S_has_rows k gd) (defBody S_has_rows) (ir_has_rows Φ_is_pair_within) :=
  have nd := sc_has_rows.nd
  (css_cons (cs_if (ct_or (cwo_c (ct_not (ct_val (ce_isi (by decide +kernel) m_isinstance m_tuple (ce_l 0 rfl)))) (cwo_c (ct_not (ct_val (ce_l 0 rfl))) (cwo_1 (ct_not (ct_val (ceb blt_all m_all (ca_cons (ce_lc [("row", 5)] nd (ci_seq (ce_l 0 rfl)) (cgc_name 5 nd rfl) cq_nil (ce_isi (by decide +kernel) m_isinstance m_tuple (ce_l 5 rfl)) rfl) ca_nil)))))))) (css_cons (cs_ret ce_bl)
  css_nil) css_nil)
  (css_cons (cs_asg (ce_l 0 rfl) (cg_star 1 2 nd rfl rfl))
  (css_cons (cs_asgT (ce_tup (ca_cons (ceb blt_len m_len (ca_cons (ce_l 1 rfl) ca_nil)) (ca_cons (ceb blt_len m_len (ca_cons (ce_l 0 rfl) ca_nil)) ca_nil))) (cg_tup (cgs_cons (CG.of (cgc_name 3 nd rfl)) (cgs_cons (CG.of (cgc_name 4 nd rfl)) cgs_nil))) rfl)
  (css_cons (cs_if (ct_or (cwo_c (ctx cop_eq (ce_l 3 rfl) ce_int) (cwo_1 (ct_val (ceb blt_any m_any (ca_cons (ce_lc [("row", 5)] nd (ci_seq (ce_l 2 rfl)) (cgc_name 5 nd rfl) cq_nil (cex cop_ne (ceb blt_len m_len (ca_cons (ce_l 5 rfl) ca_nil)) (ce_l 3 rfl)) rfl) ca_nil)))))) (css_cons (cs_ret ce_bl)
  css_nil) css_nil)
  (css_cons (cs_ret (ceb blt_all m_all (ca_cons (ce_lc2 [("row", 5), ("pair", 6)] [6] nd (ci_seq (ce_l 0 rfl)) (cgc_name 5 nd rfl) (ci_seq (ce_l 5 rfl)) (cgc_name 6 nd rfl) cq_nil (ce_own D_is_pair_within (ca_cons (ce_l 6 rfl) (ca_cons (ce_l 3 rfl) (ca_cons (ce_l 4 rfl) ca_nil))) a_is_pair_within j_is_pair_within r_is_pair_within) rfl) ca_nil)))
  css_nil)))))
abbrev N_first_fault : List Str := ["rows", "rest", "row", "door", "out", "behind"]
theorem sc_first_fault : FnScope N_first_fault ["rows"] (defScope S_first_fault) := ⟨rfl, rfl, rfl, by decide +kernel, rfl, by decide +kernel, by decide +kernel⟩
theorem cs_first_fault {g : Gc} {k : Nat} {gd : Bool} (m_enumerate : g.mg "enumerate" = none) (m_tuple : g.mg "tuple" = none) : CSs (cx0 g N_first_fault S_first_fault k gd) (defBody S_first_fault) (ir_first_fault) :=
  have nd := sc_first_fault.nd
  (css_cons (cs_for (ci_enum m_enumerate (ce_l 0 rfl)) (cg_tup (cgs_cons (CG.of (cgc_name 1 nd rfl)) (cgs_cons (CG.of (cgc_name 2 nd rfl)) cgs_nil))) (css_cons (cs_for (ci_enum m_enumerate (ce_l 2 rfl)) (cg_tup (cgs_cons (CG.of (cgc_name 3 nd rfl)) (cgs_cons (cg_tup (cgs_cons (CG.of (cgc_name 4 nd rfl)) (cgs_cons (CG.of (cgc_name 5 nd rfl)) cgs_nil))) cgs_nil))) (css_cons (cs_if (ctx cop_ne (ceb blt_tuple m_tuple (ca_cons (ce_ix (ce_ix (ce_l 0 rfl) (ce_l 5 rfl)) (ce_l 4 rfl)) ca_nil)) (ce_tup (ca_cons (ce_l 3 rfl) (ca_cons (ce_l 1 rfl) ca_nil)))) (css_cons (cs_ret (ce_tup (ca_cons (ce_l 1 rfl) (ca_cons (ce_l 3 rfl) ca_nil))))
  css_nil) css_nil)
  css_nil))
  css_nil))
  (css_cons (cs_ret ce_non)
  css_nil))
abbrev N_is_kind : List Str := ["thing"]
theorem sc_is_kind : FnScope N_is_kind ["thing"] (defScope S_is_kind) := ⟨rfl, rfl, rfl, by decide +kernel, rfl, by decide +kernel, by decide +kernel⟩
theorem cs_is_kind {g : Gc} {k : Nat} {gd : Bool} {Φ_has_rows : ASp} {b_has_rows : Bool} {l_has_rows : Nat} (D_has_rows : Dg g b_has_rows "has_rows" l_has_rows (SpO g.K 1 Φ_has_rows)) (a_has_rows : ∀ vs h Q, Φ_has_rows vs h Q → vs.length = 1) (j_has_rows : l_has_rows ≤ k) (r_has_rows : b_has_rows = true → gd = true) {Φ_first_fault : ASp} {b_first_fault : Bool} {l_first_fault : Nat} (D_first_fault : Dg g b_first_fault "first_fault" l_first_fault (SpO g.K 1 Φ_first_fault)) (a_first_fault : ∀ vs h Q, Φ_first_fault vs h Q → vs.length = 1) (j_first_fault : l_first_fault ≤ k) (r_first_fault : b_first_fault = true → gd = true) : CSs (cx0 g N_is_kind S_is_kind k gd) (defBody S_is_kind) (ir_is_kind Φ_has_rows Φ_first_fault) :=
  have nd := sc_is_kind.nd
  (css_cons (cs_ret (ce_andc (ce_own D_has_rows (ca_cons (ce_l 0 rfl) ca_nil) a_has_rows j_has_rows r_has_rows) (ce_and1 (cex cop_is (ce_own D_first_fault (ca_cons (ce_l 0 rfl) ca_nil) a_first_fault j_first_fault r_first_fault) ce_non))))
  css_nil)
abbrev N_doors_of : List Str := ["kind"]
theorem sc_doors_of : FnScope N_doors_of ["kind"] (defScope S_doors_of) := ⟨rfl, rfl, rfl, by decide +kernel, rfl, by decide +kernel, by decide +kernel⟩
theorem cs_doors_of {g : Gc} {k : Nat} {gd : Bool} (m_len : g.mg "len" = none) {t_FIRST_REST : Tok} (u_FIRST_REST : g.mg "FIRST_REST" = some (Value.int 0 t_FIRST_REST)) : CSs (cx0 g N_doors_of S_doors_of k gd) (defBody S_doors_of) (ir_doors_of) :=
  have nd := sc_doors_of.nd
  (css_cons (cs_ret (ceb blt_len m_len (ca_cons (ce_ix (ce_l 0 rfl) (ce_glob u_FIRST_REST rfl)) ca_nil)))
  css_nil)
abbrev N_rests_of : List Str := ["kind"]
theorem sc_rests_of : FnScope N_rests_of ["kind"] (defScope S_rests_of) := ⟨rfl, rfl, rfl, by decide +kernel, rfl, by decide +kernel, by decide +kernel⟩
theorem cs_rests_of {g : Gc} {k : Nat} {gd : Bool} (m_len : g.mg "len" = none) : CSs (cx0 g N_rests_of S_rests_of k gd) (defBody S_rests_of) (ir_rests_of) :=
  have nd := sc_rests_of.nd
  (css_cons (cs_ret (ceb blt_len m_len (ca_cons (ce_l 0 rfl) ca_nil)))
  css_nil)
abbrev N_gone : List Str := ["kind", "rest", "door", "out", "behind"]
theorem sc_gone : FnScope N_gone ["kind", "rest", "door"] (defScope S_gone) := ⟨rfl, rfl, rfl, by decide +kernel, rfl, by decide +kernel, by decide +kernel⟩
theorem cs_gone {g : Gc} {k : Nat} {gd : Bool} : CSs (cx0 g N_gone S_gone k gd) (defBody S_gone) (ir_gone) :=
  have nd := sc_gone.nd
  (css_cons (cs_asg (ce_ix (ce_ix (ce_l 0 rfl) (ce_l 1 rfl)) (ce_l 2 rfl)) (cg_tup (cgs_cons (CG.of (cgc_name 3 nd rfl)) (cgs_cons (CG.of (cgc_name 4 nd rfl)) cgs_nil))))
  (css_cons (cs_ret (ce_tup (ca_cons (ce_l 3 rfl) (ca_cons (ce_l 4 rfl) ca_nil))))
  css_nil))
abbrev N_renamed : List Str := ["kind", "doors", "rests", "to", "rest", "row", "door", "out", "behind"]
theorem sc_renamed : FnScope N_renamed ["kind", "doors", "rests"] (defScope S_renamed) := ⟨rfl, rfl, rfl, by decide +kernel, rfl, by decide +kernel, by decide +kernel⟩
theorem cs_renamed {g : Gc} {k : Nat} {gd : Bool} {Φ_rests_of : ASp} {b_rests_of : Bool} {l_rests_of : Nat} (D_rests_of : Dg g b_rests_of "rests_of" l_rests_of (SpO g.K 1 Φ_rests_of)) (a_rests_of : ∀ vs h Q, Φ_rests_of vs h Q → vs.length = 1) (j_rests_of : l_rests_of ≤ k) (r_rests_of : b_rests_of = true → gd = true) {Φ_doors_of : ASp} {b_doors_of : Bool} {l_doors_of : Nat} (D_doors_of : Dg g b_doors_of "doors_of" l_doors_of (SpO g.K 1 Φ_doors_of)) (a_doors_of : ∀ vs h Q, Φ_doors_of vs h Q → vs.length = 1) (j_doors_of : l_doors_of ≤ k) (r_doors_of : b_doors_of = true → gd = true) (m_enumerate : g.mg "enumerate" = none) (m_range : g.mg "range" = none) (m_tuple : g.mg "tuple" = none) : CSs (cx0 g N_renamed S_renamed k gd) (defBody S_renamed) (ir_renamed Φ_rests_of Φ_doors_of) :=
  have nd := sc_renamed.nd
  (css_cons (cs_cellD (ce_dc2 [("rest", 4), ("row", 5), ("door", 6), ("out", 7), ("behind", 8)] [6, 7, 8] nd (ci_enum m_enumerate (ce_l 0 rfl)) (cgc_tup (cgcs_cons (cgc_name 4 nd rfl) (cgcs_cons (cgc_name 5 nd rfl) cgcs_nil))) (ci_enum m_enumerate (ce_l 5 rfl)) (cgc_tup (cgcs_cons (cgc_name 6 nd rfl) (cgcs_cons (cgc_tup (cgcs_cons (cgc_name 7 nd rfl) (cgcs_cons (cgc_name 8 nd rfl) cgcs_nil))) cgcs_nil))) cq_nil (ce_tup (ca_cons (ce_ix (ce_l 2 rfl) (ce_l 4 rfl)) (ca_cons (ce_ix (ce_l 1 rfl) (ce_l 6 rfl)) ca_nil))) (ce_tup (ca_cons (ce_ix (ce_l 1 rfl) (ce_l 7 rfl)) (ca_cons (ce_ix (ce_l 2 rfl) (ce_l 8 rfl)) ca_nil))) rfl) (CG.of (cgc_name 3 nd rfl)) rfl)
  (css_cons (cs_ret (ceb blt_tuple m_tuple (ca_cons (ce_lc [("rest", 4)] nd (ci_rng1 m_range (ce_own D_rests_of (ca_cons (ce_l 0 rfl) ca_nil) a_rests_of j_rests_of r_rests_of)) (cgc_name 4 nd rfl) cq_nil (ceb blt_tuple m_tuple (ca_cons (ce_lc [("door", 6)] nd (ci_rng1 m_range (ce_own D_doors_of (ca_cons (ce_l 0 rfl) ca_nil) a_doors_of j_doors_of r_doors_of)) (cgc_name 6 nd rfl) cq_nil (ce_ix (ce_l 3 rfl) (ce_tup (ca_cons (ce_l 4 rfl) (ca_cons (ce_l 6 rfl) ca_nil)))) rfl) ca_nil)) rfl) ca_nil)))
  css_nil))
abbrev N_law_box : List Str := ["_law_script", "_law_k", "_law_cell"]
theorem sc_law_box : FnScope N_law_box ["_law_script", "_law_k"] (defScope S_law_box) := ⟨rfl, rfl, rfl, by decide +kernel, rfl, by decide +kernel, by decide +kernel⟩
theorem cs_law_box {g : Gc} {k : Nat} {gd : Bool} (m_len : g.mg "len" = none) (m_abs : g.mg "abs" = none) (m_int : g.mg "int" = none) : CSs (cx0 g N_law_box S_law_box k gd) (defBody S_law_box) (ir_law_box) :=
  have nd := sc_law_box.nd
  (css_cons (cs_asg (ce_ite (ctx cop_lt (ce_l 1 rfl) (ceb blt_len m_len (ca_cons (ce_l 0 rfl) ca_nil))) (ce_ix (ce_l 0 rfl) (ce_l 1 rfl)) ce_int) (CG.of (cgc_name 2 nd rfl)))
  (css_cons (cs_ret (ce_lst (ca_cons (ce_mul (ceb blt_abs m_abs (ca_cons (ce_l 2 rfl) ca_nil)) (ceb blt_int m_int (ca_cons (cex cop_ge (ceb blt_abs m_abs (ca_cons (ce_l 2 rfl) ca_nil)) (ce_pow ce_int ce_int)) ca_nil))) (ca_cons (ce_mod (ce_mul (ce_add (ce_add (ce_mod (ce_l 2 rfl) ce_int) (ce_mul ce_int (ce_l 1 rfl))) ce_int) ce_int) ce_int) (ca_cons ce_int ca_nil)))))
  css_nil))
abbrev N_law_take : List Str := ["_law_box_here", "_law_size", "_law_step", "_law_once", "_law_twice", "_law_found"]
theorem sc_law_take : FnScope N_law_take ["_law_box_here", "_law_size"] (defScope S_law_take) := ⟨rfl, rfl, rfl, by decide +kernel, rfl, by decide +kernel, by decide +kernel⟩
theorem cs_law_take {g : Gc} {k : Nat} {gd : Bool} {Φ__law_take : ASp} {b__law_take : Bool} {l__law_take : Nat} (D__law_take : Dg g b__law_take "_law_take" l__law_take (SpO g.K 2 Φ__law_take)) (a__law_take : ∀ vs h Q, Φ__law_take vs h Q → vs.length = 2) (j__law_take : l__law_take ≤ k) (r__law_take : b__law_take = true → gd = true) (m_divmod : g.mg "divmod" = none) : CSs (cx0 g N_law_take S_law_take k gd) (defBody S_law_take) (ir_law_take Φ__law_take) :=
  have nd := sc_law_take.nd
  (css_cons (cs_if (ctx cop_gt (ce_ix (ce_l 0 rfl) ce_int) ce_int) (css_cons (cs_asg (ceb blt_divmod m_divmod (ca_cons (ce_ix (ce_l 0 rfl) ce_int) (ca_cons (ce_l 1 rfl) ca_nil))) (cg_tup (cgs_cons (cg_sub (ce_l 0 rfl) ce_int) (cgs_cons (CG.of (cgc_name 5 nd rfl)) cgs_nil))))
  (css_cons (cs_ret (ce_l 5 rfl))
  css_nil)) css_nil)
  (css_cons (cs_if (ctx cop_gt (ce_l 1 rfl) (ce_pow ce_int ce_int)) (css_cons (cs_ret (ce_mod (ce_add (ce_own D__law_take (ca_cons (ce_l 0 rfl) (ca_cons (ce_pow ce_int ce_int) ca_nil)) a__law_take j__law_take r__law_take) (ce_mul (ce_pow ce_int ce_int) (ce_own D__law_take (ca_cons (ce_l 0 rfl) (ca_cons (ce_add (ce_div (ce_sub (ce_l 1 rfl) ce_int) (ce_pow ce_int ce_int)) ce_int) ca_nil)) a__law_take j__law_take r__law_take))) (ce_l 1 rfl)))
  css_nil) css_nil)
  (css_cons (cs_asg (ce_add (ce_ix (ce_l 0 rfl) ce_int) ce_int) (cg_sub (ce_l 0 rfl) ce_int))
  (css_cons (cs_asg (ce_add ce_int (ce_mul (ce_ix (ce_l 0 rfl) ce_int) (ce_ix (ce_l 0 rfl) ce_int))) (CG.of (cgc_name 2 nd rfl)))
  (css_cons (cs_asg (ce_mod (ce_mul (ce_add (ce_ix (ce_l 0 rfl) ce_int) (ce_mul ce_int (ce_ix (ce_l 0 rfl) ce_int))) (ce_l 2 rfl)) ce_int) (CG.of (cgc_name 3 nd rfl)))
  (css_cons (cs_asg (ce_mod (ce_add (ce_mul (ce_l 3 rfl) (ce_add (ce_mod (ce_l 3 rfl) ce_int) ce_int)) (ce_ix (ce_l 0 rfl) ce_int)) ce_int) (CG.of (cgc_name 4 nd rfl)))
  (css_cons (cs_ret (ce_mod (ce_div (ce_mod (ce_mul (ce_l 4 rfl) (ce_add (ce_mod (ce_l 4 rfl) ce_int) ce_int)) ce_int) ce_int) (ce_l 1 rfl)))
  css_nil)))))))
abbrev N_law_folded : List Str := ["_law_script", "_law_size", "_law_cells", "_law_k", "_law_cell"]
theorem sc_law_folded : FnScope N_law_folded ["_law_script", "_law_size"] (defScope S_law_folded) := ⟨rfl, rfl, rfl, by decide +kernel, rfl, by decide +kernel, by decide +kernel⟩
theorem cs_law_folded {g : Gc} {k : Nat} {gd : Bool} (m_list : g.mg "list" = none) (m_enumerate : g.mg "enumerate" = none) : CSs (cx0 g N_law_folded S_law_folded k gd) (defBody S_law_folded) (ir_law_folded) :=
  have nd := sc_law_folded.nd
  (css_cons (cs_asg (ceb blt_list m_list (ca_cons (ce_sl01 (ce_l 0 rfl) (ce_l 1 rfl)) ca_nil)) (CG.of (cgc_name 2 nd rfl)))
  (css_cons (cs_for (ci_enum m_enumerate (ce_sl11 (ce_l 0 rfl) (ce_l 1 rfl) ce_int)) (cg_tup (cgs_cons (CG.of (cgc_name 3 nd rfl)) (cgs_cons (CG.of (cgc_name 4 nd rfl)) cgs_nil))) (css_cons (cs_asg (ce_add (ce_ix (ce_l 2 rfl) (ce_mod (ce_l 3 rfl) (ce_l 1 rfl))) (ce_mul (ce_l 4 rfl) (ce_add (ce_l 3 rfl) ce_int))) (cg_sub (ce_l 2 rfl) (ce_mod (ce_l 3 rfl) (ce_l 1 rfl))))
  css_nil))
  (css_cons (cs_ret (ce_l 2 rfl))
  css_nil)))
abbrev N_law_same : List Str := ["_law_found", "_law_due", "_law_one", "_law_other"]
theorem sc_law_same : FnScope N_law_same ["_law_found", "_law_due"] (defScope S_law_same) := ⟨rfl, rfl, rfl, by decide +kernel, rfl, by decide +kernel, by decide +kernel⟩
theorem cs_law_same {g : Gc} {k : Nat} {gd : Bool} {Φ__law_same : ASp} {b__law_same : Bool} {l__law_same : Nat} (D__law_same : Dg g b__law_same "_law_same" l__law_same (SpO g.K 2 Φ__law_same)) (a__law_same : ∀ vs h Q, Φ__law_same vs h Q → vs.length = 2) (j__law_same : l__law_same ≤ k) (r__law_same : b__law_same = true → gd = true) (m_isinstance : g.mg "isinstance" = none) (m_list : g.mg "list" = none) (m_tuple : g.mg "tuple" = none) (m_len : g.mg "len" = none) (m_zip : g.mg "zip" = none) (m_all : g.mg "all" = none) (m_str : g.mg "str" = none) (m_int : g.mg "int" = none) (m_bool : g.mg "bool" = none) : CSs (cx0 g N_law_same S_law_same k gd) (defBody S_law_same) (ir_law_same Φ__law_same) :=
  have nd := sc_law_same.nd
  (css_cons (cs_if (ct_val (ce_isi2 (by decide +kernel) (by decide +kernel) m_isinstance m_list m_tuple (ce_l 1 rfl))) (css_cons (cs_if (ct_or (cwo_c (ctx cop_ne (ce_isi (by decide +kernel) m_isinstance m_list (ce_l 0 rfl)) (ce_isi (by decide +kernel) m_isinstance m_list (ce_l 1 rfl))) (cwo_1 (ctx cop_ne (ce_isi (by decide +kernel) m_isinstance m_tuple (ce_l 0 rfl)) (ce_isi (by decide +kernel) m_isinstance m_tuple (ce_l 1 rfl)))))) (css_cons (cs_ret ce_bl)
  css_nil) css_nil)
  (css_cons (cs_ret (ce_andc (cex cop_eq (ceb blt_len m_len (ca_cons (ce_l 0 rfl) ca_nil)) (ceb blt_len m_len (ca_cons (ce_l 1 rfl) ca_nil))) (ce_and1 (ceb blt_all m_all (ca_cons (ce_lc [("_law_one", 2), ("_law_other", 3)] nd (ci_zip m_zip (ce_l 0 rfl) (ce_l 1 rfl)) (cgc_tup (cgcs_cons (cgc_name 2 nd rfl) (cgcs_cons (cgc_name 3 nd rfl) cgcs_nil))) cq_nil (ce_own D__law_same (ca_cons (ce_l 2 rfl) (ca_cons (ce_l 3 rfl) ca_nil)) a__law_same j__law_same r__law_same) rfl) ca_nil)))))
  css_nil)) css_nil)
  (css_cons (cs_if (ct_or (cwo_c (ctx cop_is (ce_l 1 rfl) ce_non) (cwo_1 (ct_val (ce_isi (by decide +kernel) m_isinstance m_str (ce_l 1 rfl)))))) (css_cons (cs_ret (ce_andc (cex cop_eq (ce_l 0 rfl) (ce_l 1 rfl)) (ce_and1 (cex cop_eq (ce_isi (by decide +kernel) m_isinstance m_str (ce_l 0 rfl)) (ce_isi (by decide +kernel) m_isinstance m_str (ce_l 1 rfl))))))
  css_nil) css_nil)
  (css_cons (cs_ret (ce_andc (ce_isi (by decide +kernel) m_isinstance m_int (ce_l 0 rfl)) (ce_andc (cex cop_eq (ce_isi (by decide +kernel) m_isinstance m_bool (ce_l 0 rfl)) (ce_isi (by decide +kernel) m_isinstance m_bool (ce_l 1 rfl))) (ce_and1 (cex cop_eq (ce_l 0 rfl) (ce_l 1 rfl))))))
  css_nil)))
abbrev N_law_lists : List Str := ["_law_thing", "_law_one"]
theorem sc_law_lists : FnScope N_law_lists ["_law_thing"] (defScope S_law_lists) := ⟨rfl, rfl, rfl, by decide +kernel, rfl, by decide +kernel, by decide +kernel⟩
theorem cs_law_lists {g : Gc} {k : Nat} {gd : Bool} {Φ__law_lists : ASp} {b__law_lists : Bool} {l__law_lists : Nat} (D__law_lists : Dg g b__law_lists "_law_lists" l__law_lists (SpO g.K 1 Φ__law_lists)) (a__law_lists : ∀ vs h Q, Φ__law_lists vs h Q → vs.length = 1) (j__law_lists : l__law_lists ≤ k) (r__law_lists : b__law_lists = true → gd = true) (m_isinstance : g.mg "isinstance" = none) (m_list : g.mg "list" = none) (m_tuple : g.mg "tuple" = none) : CSs (cx0 g N_law_lists S_law_lists k gd) (defBody S_law_lists) (ir_law_lists Φ__law_lists) :=
  have nd := sc_law_lists.nd
  (css_cons (cs_ret (ce_ite (ct_val (ce_isi2 (by decide +kernel) (by decide +kernel) m_isinstance m_list m_tuple (ce_l 0 rfl))) (ce_lc [("_law_one", 1)] nd (ci_seq (ce_l 0 rfl)) (cgc_name 1 nd rfl) cq_nil (ce_own D__law_lists (ca_cons (ce_l 1 rfl) ca_nil) a__law_lists j__law_lists r__law_lists) rfl) (ce_l 0 rfl)))
  css_nil)
abbrev N_law_kind : List Str := ["_law_box_here", "_law_doors", "_law_rests", "_law_left", "_law_to", "_law_often", "_law_rest", "_law_turn", "_law_one", "_law_other", "_law_door"]
theorem sc_law_kind : FnScope N_law_kind ["_law_box_here", "_law_doors", "_law_rests"] (defScope S_law_kind) := ⟨rfl, rfl, rfl, by decide +kernel, rfl, by decide +kernel, by decide +kernel⟩
theorem cs_law_kind {g : Gc} {k : Nat} {gd : Bool} {Φ__law_take : ASp} {b__law_take : Bool} {l__law_take : Nat} (D__law_take : Dg g b__law_take "_law_take" l__law_take (SpO g.K 2 Φ__law_take)) (a__law_take : ∀ vs h Q, Φ__law_take vs h Q → vs.length = 2) (j__law_take : l__law_take ≤ k) (r__law_take : b__law_take = true → gd = true) (m_range : g.mg "range" = none) (m_len : g.mg "len" = none) (m_tuple : g.mg "tuple" = none) : CSs (cx0 g N_law_kind S_law_kind k gd) (defBody S_law_kind) (ir_law_kind Φ__law_take) :=
  have nd := sc_law_kind.nd
  (css_cons (cs_asgT (ce_tup (ca_cons (ce_lst ca_nil) (ca_cons ce_dict0 (ca_cons (ce_ix (ce_lst (ca_cons ce_int (ca_cons ce_int (ca_cons ce_int ca_nil)))) (ce_own D__law_take (ca_cons (ce_l 0 rfl) (ca_cons ce_int ca_nil)) a__law_take j__law_take r__law_take)) ca_nil)))) (cg_tup (cgs_cons (CG.of (cgc_name 3 nd rfl)) (cgs_cons (CG.of (cgc_name 4 nd rfl)) (cgs_cons (CG.of (cgc_name 5 nd rfl)) cgs_nil)))) rfl)
  (css_cons (cs_for (ci_rng1 m_range (ce_l 2 rfl)) (CG.of (cgc_name 6 nd rfl)) (css_cons (cs_asg (ce_add (ce_l 3 rfl) (ce_lc [("_law_door", 10)] nd (ci_rng1 m_range (ce_l 1 rfl)) (cgc_name 10 nd rfl) cq_nil (ce_tup (ca_cons (ce_l 10 rfl) (ca_cons (ce_l 6 rfl) ca_nil))) rfl)) (CG.of (cgc_name 3 nd rfl)))
  css_nil))
  (css_cons (cs_for (ci_rng1 m_range (ce_mul (ce_l 1 rfl) (ce_l 2 rfl))) (CG.of (cgc_name 7 nd rfl)) (css_cons (cs_if (ctx cop_ne (ce_l 3 rfl) (ce_lst ca_nil)) (css_cons (cs_asg (cm lmt_pop (ce_l 3 rfl) (ca_cons (ce_own D__law_take (ca_cons (ce_l 0 rfl) (ca_cons (ceb blt_len m_len (ca_cons (ce_l 3 rfl) ca_nil)) ca_nil)) a__law_take j__law_take r__law_take) ca_nil)) (CG.of (cgc_name 8 nd rfl)))
  (css_cons (cs_asg (ce_ite (ct_and (cwa_c (ctx cop_ne (ce_l 3 rfl) (ce_lst ca_nil)) (cwa_1 (ctx cop_gt (ce_own D__law_take (ca_cons (ce_l 0 rfl) (ca_cons (ce_l 5 rfl) ca_nil)) a__law_take j__law_take r__law_take) ce_int)))) (cm lmt_pop (ce_l 3 rfl) (ca_cons (ce_own D__law_take (ca_cons (ce_l 0 rfl) (ca_cons (ceb blt_len m_len (ca_cons (ce_l 3 rfl) ca_nil)) ca_nil)) a__law_take j__law_take r__law_take) ca_nil)) (ce_l 8 rfl)) (CG.of (cgc_name 9 nd rfl)))
  (css_cons (cs_asgT (ce_tup (ca_cons (ce_l 9 rfl) (ca_cons (ce_l 8 rfl) ca_nil))) (cg_tup (cgs_cons (cg_sub (ce_l 4 rfl) (ce_l 8 rfl)) (cgs_cons (cg_sub (ce_l 4 rfl) (ce_l 9 rfl)) cgs_nil))) rfl)
  css_nil))) css_nil)
  css_nil))
  (css_cons (cs_ret (ceb blt_tuple m_tuple (ca_cons (ce_lc [("_law_rest", 6)] nd (ci_rng1 m_range (ce_l 2 rfl)) (cgc_name 6 nd rfl) cq_nil (ceb blt_tuple m_tuple (ca_cons (ce_lc [("_law_door", 10)] nd (ci_rng1 m_range (ce_l 1 rfl)) (cgc_name 10 nd rfl) cq_nil (ce_ix (ce_l 4 rfl) (ce_tup (ca_cons (ce_l 10 rfl) (ca_cons (ce_l 6 rfl) ca_nil)))) rfl) ca_nil)) rfl) ca_nil)))
  css_nil))))
abbrev N_law_below : List Str := ["_law_thing", "_law_bound"]
theorem sc_law_below : FnScope N_law_below ["_law_thing", "_law_bound"] (defScope S_law_below) := ⟨rfl, rfl, rfl, by decide +kernel, rfl, by decide +kernel, by decide +kernel⟩
theorem cs_law_below {g : Gc} {k : Nat} {gd : Bool} (m_isinstance : g.mg "isinstance" = none) (m_int : g.mg "int" = none) (m_bool : g.mg "bool" = none) : CSs (cx0 g N_law_below S_law_below k gd) (defBody S_law_below) (ir_law_below) :=
  have nd := sc_law_below.nd
  (css_cons (cs_ret (ce_andc (ce_isi (by decide +kernel) m_isinstance m_int (ce_l 0 rfl)) (ce_andc (ce_not (ce_isi (by decide +kernel) m_isinstance m_bool (ce_l 0 rfl))) (ce_and1 (cex2 cop_le cop_lt ce_int (ce_l 0 rfl) (ce_l 1 rfl))))))
  css_nil)
abbrev N_law_has_rows : List Str := ["_law_thing", "_law_doors", "_law_row", "_law_pair"]
theorem sc_law_has_rows : FnScope N_law_has_rows ["_law_thing"] (defScope S_law_has_rows) := ⟨rfl, rfl, rfl, by decide +kernel, rfl, by decide +kernel, by decide +kernel⟩
theorem cs_law_has_rows {g : Gc} {k : Nat} {gd : Bool} {Φ__law_below : ASp} {b__law_below : Bool} {l__law_below : Nat} (D__law_below : Dg g b__law_below "_law_below" l__law_below (SpO g.K 2 Φ__law_below)) (a__law_below : ∀ vs h Q, Φ__law_below vs h Q → vs.length = 2) (j__law_below : l__law_below ≤ k) (r__law_below : b__law_below = true → gd = true) (m_isinstance : g.mg "isinstance" = none) (m_tuple : g.mg "tuple" = none) (m_all : g.mg "all" = none) (m_len : g.mg "len" = none) (m_any : g.mg "any" = none) : CSs (cx0 g N_law_has_rows S_law_has_rows k gd) (defBody S_law_has_rows) (ir_law_has_rows Φ__law_below) :=
  have nd := sc_law_has_rows.nd
  (css_cons (cs_if (ct_or (cwo_c (ct_not (ct_val (ce_isi (by decide +kernel) m_isinstance m_tuple (ce_l 0 rfl)))) (cwo_c (ctx cop_eq (ce_l 0 rfl) (ce_tup ca_nil)) (cwo_1 (ct_not (ct_val (ceb blt_all m_all (ca_cons (ce_lc [("_law_row", 2)] nd (ci_seq (ce_l 0 rfl)) (cgc_name 2 nd rfl) cq_nil (ce_isi (by decide +kernel) m_isinstance m_tuple (ce_l 2 rfl)) rfl) ca_nil)))))))) (css_cons (cs_ret ce_bl)
  css_nil) css_nil)
  (css_cons (cs_asg (ceb blt_len m_len (ca_cons (ce_ix (ce_l 0 rfl) ce_int) ca_nil)) (CG.of (cgc_name 1 nd rfl)))
  (css_cons (cs_if (ct_or (cwo_c (ctx cop_eq (ce_l 1 rfl) ce_int) (cwo_1 (ct_val (ceb blt_any m_any (ca_cons (ce_lc [("_law_row", 2)] nd (ci_seq (ce_l 0 rfl)) (cgc_name 2 nd rfl) cq_nil (cex cop_ne (ceb blt_len m_len (ca_cons (ce_l 2 rfl) ca_nil)) (ce_l 1 rfl)) rfl) ca_nil)))))) (css_cons (cs_ret ce_bl)
  css_nil) css_nil)
  (css_cons (cs_for (ci_seq (ce_l 0 rfl)) (CG.of (cgc_name 2 nd rfl)) (css_cons (cs_for (ci_seq (ce_l 2 rfl)) (CG.of (cgc_name 3 nd rfl)) (css_cons (cs_if (ct_or (cwo_c (ct_not (ct_val (ce_isi (by decide +kernel) m_isinstance m_tuple (ce_l 3 rfl)))) (cwo_1 (ctx cop_ne (ceb blt_len m_len (ca_cons (ce_l 3 rfl) ca_nil)) ce_int)))) (css_cons (cs_ret ce_bl)
  css_nil) css_nil)
  (css_cons (cs_if (ct_or (cwo_c (ct_not (ct_val (ce_own D__law_below (ca_cons (ce_ix (ce_l 3 rfl) ce_int) (ca_cons (ce_l 1 rfl) ca_nil)) a__law_below j__law_below r__law_below))) (cwo_1 (ct_not (ct_val (ce_own D__law_below (ca_cons (ce_ix (ce_l 3 rfl) ce_int) (ca_cons (ceb blt_len m_len (ca_cons (ce_l 0 rfl) ca_nil)) ca_nil)) a__law_below j__law_below r__law_below)))))) (css_cons (cs_ret ce_bl)
  css_nil) css_nil)
  css_nil)))
  css_nil))
  (css_cons (cs_ret ce_bl)
  css_nil)))))
abbrev N_law_fault : List Str := ["_law_rows", "_law_rest", "_law_row", "_law_door", "_law_pair"]
theorem sc_law_fault : FnScope N_law_fault ["_law_rows"] (defScope S_law_fault) := ⟨rfl, rfl, rfl, by decide +kernel, rfl, by decide +kernel, by decide +kernel⟩
theorem cs_law_fault {g : Gc} {k : Nat} {gd : Bool} (m_enumerate : g.mg "enumerate" = none) (m_tuple : g.mg "tuple" = none) : CSs (cx0 g N_law_fault S_law_fault k gd) (defBody S_law_fault) (ir_law_fault) :=
  have nd := sc_law_fault.nd
  (css_cons (cs_for (ci_enum m_enumerate (ce_l 0 rfl)) (cg_tup (cgs_cons (CG.of (cgc_name 1 nd rfl)) (cgs_cons (CG.of (cgc_name 2 nd rfl)) cgs_nil))) (css_cons (cs_for (ci_enum m_enumerate (ce_l 2 rfl)) (cg_tup (cgs_cons (CG.of (cgc_name 3 nd rfl)) (cgs_cons (CG.of (cgc_name 4 nd rfl)) cgs_nil))) (css_cons (cs_if (ctx cop_ne (ceb blt_tuple m_tuple (ca_cons (ce_ix (ce_ix (ce_l 0 rfl) (ce_ix (ce_l 4 rfl) ce_int)) (ce_ix (ce_l 4 rfl) ce_int)) ca_nil)) (ce_tup (ca_cons (ce_l 3 rfl) (ca_cons (ce_l 1 rfl) ca_nil)))) (css_cons (cs_ret (ce_tup (ca_cons (ce_l 1 rfl) (ca_cons (ce_l 3 rfl) ca_nil))))
  css_nil) css_nil)
  css_nil))
  css_nil))
  (css_cons (cs_ret ce_non)
  css_nil))
abbrev N_law_is_kind : List Str := ["_law_thing"]
theorem sc_law_is_kind : FnScope N_law_is_kind ["_law_thing"] (defScope S_law_is_kind) := ⟨rfl, rfl, rfl, by decide +kernel, rfl, by decide +kernel, by decide +kernel⟩
theorem cs_law_is_kind {g : Gc} {k : Nat} {gd : Bool} {Φ__law_has_rows : ASp} {b__law_has_rows : Bool} {l__law_has_rows : Nat} (D__law_has_rows : Dg g b__law_has_rows "_law_has_rows" l__law_has_rows (SpO g.K 1 Φ__law_has_rows)) (a__law_has_rows : ∀ vs h Q, Φ__law_has_rows vs h Q → vs.length = 1) (j__law_has_rows : l__law_has_rows ≤ k) (r__law_has_rows : b__law_has_rows = true → gd = true) {Φ__law_fault : ASp} {b__law_fault : Bool} {l__law_fault : Nat} (D__law_fault : Dg g b__law_fault "_law_fault" l__law_fault (SpO g.K 1 Φ__law_fault)) (a__law_fault : ∀ vs h Q, Φ__law_fault vs h Q → vs.length = 1) (j__law_fault : l__law_fault ≤ k) (r__law_fault : b__law_fault = true → gd = true) : CSs (cx0 g N_law_is_kind S_law_is_kind k gd) (defBody S_law_is_kind) (ir_law_is_kind Φ__law_has_rows Φ__law_fault) :=
  have nd := sc_law_is_kind.nd
  (css_cons (cs_ret (ce_andc (ce_own D__law_has_rows (ca_cons (ce_l 0 rfl) ca_nil) a__law_has_rows j__law_has_rows r__law_has_rows) (ce_and1 (cex cop_is (ce_own D__law_fault (ca_cons (ce_l 0 rfl) ca_nil) a__law_fault j__law_fault r__law_fault) ce_non))))
  css_nil)
abbrev N_law_gone_row : List Str := ["_law_kind_here", "_law_rest", "_law_row", "_law_outs", "_law_here", "_law_door", "_law_out"]
theorem sc_law_gone_row : FnScope N_law_gone_row ["_law_kind_here", "_law_rest", "_law_row"] (defScope S_law_gone_row) := ⟨rfl, rfl, rfl, by decide +kernel, rfl, by decide +kernel, by decide +kernel⟩
theorem cs_law_gone_row {g : Gc} {k : Nat} {gd : Bool} : CSs (cx0 g N_law_gone_row S_law_gone_row k gd) (defBody S_law_gone_row) (ir_law_gone_row) :=
  have nd := sc_law_gone_row.nd
  (css_cons (cs_par2 3 4 nd (ce_lst ca_nil) (ce_l 1 rfl) rfl)
  (css_cons (cs_for (ci_seq (ce_l 2 rfl)) (CG.of (cgc_name 5 nd rfl)) (css_cons (cs_asg (ce_ix (ce_ix (ce_l 0 rfl) (ce_l 4 rfl)) (ce_l 5 rfl)) (cg_tup (cgs_cons (CG.of (cgc_name 6 nd rfl)) (cgs_cons (CG.of (cgc_name 4 nd rfl)) cgs_nil))))
  (css_cons (cs_exp (cm lmt_append (ce_l 3 rfl) (ca_cons (ce_l 6 rfl) ca_nil)))
  css_nil)))
  (css_cons (cs_ret (ce_tup (ca_cons (ce_l 3 rfl) (ca_cons (ce_l 4 rfl) ca_nil))))
  css_nil)))
abbrev N_law_some_row : List Str := ["_law_box_here", "_law_doors", "_law_most", "_law_turn"]
theorem sc_law_some_row : FnScope N_law_some_row ["_law_box_here", "_law_doors", "_law_most"] (defScope S_law_some_row) := ⟨rfl, rfl, rfl, by decide +kernel, rfl, by decide +kernel, by decide +kernel⟩
theorem cs_law_some_row {g : Gc} {k : Nat} {gd : Bool} {Φ__law_take : ASp} {b__law_take : Bool} {l__law_take : Nat} (D__law_take : Dg g b__law_take "_law_take" l__law_take (SpO g.K 2 Φ__law_take)) (a__law_take : ∀ vs h Q, Φ__law_take vs h Q → vs.length = 2) (j__law_take : l__law_take ≤ k) (r__law_take : b__law_take = true → gd = true) (m_range : g.mg "range" = none) : CSs (cx0 g N_law_some_row S_law_some_row k gd) (defBody S_law_some_row) (ir_law_some_row Φ__law_take) :=
  have nd := sc_law_some_row.nd
  (css_cons (cs_ret (ce_lc [("_law_turn", 3)] nd (ci_rng1 m_range (ce_own D__law_take (ca_cons (ce_l 0 rfl) (ca_cons (ce_add (ce_l 2 rfl) ce_int) ca_nil)) a__law_take j__law_take r__law_take)) (cgc_name 3 nd rfl) cq_nil (ce_own D__law_take (ca_cons (ce_l 0 rfl) (ca_cons (ce_l 1 rfl) ca_nil)) a__law_take j__law_take r__law_take) rfl))
  css_nil)
abbrev N_law_order : List Str := ["_law_box_here", "_law_many", "_law_left", "_law_found", "_law_turn"]
theorem sc_law_order : FnScope N_law_order ["_law_box_here", "_law_many"] (defScope S_law_order) := ⟨rfl, rfl, rfl, by decide +kernel, rfl, by decide +kernel, by decide +kernel⟩
theorem cs_law_order {g : Gc} {k : Nat} {gd : Bool} {Φ__law_take : ASp} {b__law_take : Bool} {l__law_take : Nat} (D__law_take : Dg g b__law_take "_law_take" l__law_take (SpO g.K 2 Φ__law_take)) (a__law_take : ∀ vs h Q, Φ__law_take vs h Q → vs.length = 2) (j__law_take : l__law_take ≤ k) (r__law_take : b__law_take = true → gd = true) (m_list : g.mg "list" = none) (m_range : g.mg "range" = none) (m_len : g.mg "len" = none) (m_tuple : g.mg "tuple" = none) : CSs (cx0 g N_law_order S_law_order k gd) (defBody S_law_order) (ir_law_orderT Φ__law_take) :=
  have nd := sc_law_order.nd
  (css_cons (cs_par2 2 3 nd (ce_listRg m_list m_range (ce_l 1 rfl)) (ce_lst ca_nil) rfl)
  (css_cons (cs_for (ci_rng1 m_range (ce_l 1 rfl)) (CG.of (cgc_name 4 nd rfl)) (css_cons (cs_exp (cm lmt_append (ce_l 3 rfl) (ca_cons (cm lmt_pop (ce_l 2 rfl) (ca_cons (ce_own D__law_take (ca_cons (ce_l 0 rfl) (ca_cons (ceb blt_len m_len (ca_cons (ce_l 2 rfl) ca_nil)) ca_nil)) a__law_take j__law_take r__law_take) ca_nil)) ca_nil)))
  css_nil))
  (css_cons (cs_ret (ceb blt_tuple m_tuple (ca_cons (ce_l 3 rfl) ca_nil)))
  css_nil)))
abbrev N_law_turned_chain : List Str := ["_law_rows", "_law_many", "_law_row", "_law_door", "_law_rest"]
theorem sc_law_turned_chain : FnScope N_law_turned_chain ["_law_rows"] (defScope S_law_turned_chain) := ⟨rfl, rfl, rfl, by decide +kernel, rfl, by decide +kernel, by decide +kernel⟩
theorem cs_law_turned_chain {g : Gc} {k : Nat} {gd : Bool} (m_len : g.mg "len" = none) (m_tuple : g.mg "tuple" = none) : CSs (cx0 g N_law_turned_chain S_law_turned_chain k gd) (defBody S_law_turned_chain) (ir_law_turned_chain) :=
  have nd := sc_law_turned_chain.nd
  (css_cons (cs_asg (ceb blt_len m_len (ca_cons (ce_l 0 rfl) ca_nil)) (CG.of (cgc_name 1 nd rfl)))
  (css_cons (cs_ret (ceb blt_tuple m_tuple (ca_cons (ce_lc [("_law_row", 2)] nd (ci_seq (ce_rev (ce_l 0 rfl))) (cgc_name 2 nd rfl) cq_nil (ceb blt_tuple m_tuple (ca_cons (ce_lc [("_law_door", 3), ("_law_rest", 4)] nd (ci_seq (ce_l 2 rfl)) (cgc_tup (cgcs_cons (cgc_name 3 nd rfl) (cgcs_cons (cgc_name 4 nd rfl) cgcs_nil))) cq_nil (ce_tup (ca_cons (ce_l 3 rfl) (ca_cons (ce_sub (ce_sub (ce_l 1 rfl) ce_int) (ce_l 4 rfl)) ca_nil))) rfl) ca_nil)) rfl) ca_nil)))
  css_nil))
abbrev N_law_chain : List Str := ["_law_many", "_law_back", "_law_rows", "_law_rest", "_law_on"]
theorem sc_law_chain : FnScope N_law_chain ["_law_many", "_law_back"] (defScope S_law_chain) := ⟨rfl, rfl, rfl, by decide +kernel, rfl, by decide +kernel, by decide +kernel⟩
theorem cs_law_chain {g : Gc} {k : Nat} {gd : Bool} {Φ__law_turned_chain : ASp} {b__law_turned_chain : Bool} {l__law_turned_chain : Nat} (D__law_turned_chain : Dg g b__law_turned_chain "_law_turned_chain" l__law_turned_chain (SpO g.K 1 Φ__law_turned_chain)) (a__law_turned_chain : ∀ vs h Q, Φ__law_turned_chain vs h Q → vs.length = 1) (j__law_turned_chain : l__law_turned_chain ≤ k) (r__law_turned_chain : b__law_turned_chain = true → gd = true) (m_range : g.mg "range" = none) (m_tuple : g.mg "tuple" = none) : CSs (cx0 g N_law_chain S_law_chain k gd) (defBody S_law_chain) (ir_law_chain Φ__law_turned_chain) :=
  have nd := sc_law_chain.nd
  (css_cons (cs_asg (ce_lst ca_nil) (CG.of (cgc_name 2 nd rfl)))
  (css_cons (cs_for (ci_rng1 m_range (ce_l 0 rfl)) (CG.of (cgc_name 3 nd rfl)) (css_cons (cs_asg (ce_ite (ctx cop_lt (ce_add (ce_l 3 rfl) ce_int) (ce_l 0 rfl)) (ce_tup (ca_cons ce_int (ca_cons (ce_add (ce_l 3 rfl) ce_int) ca_nil))) (ce_tup (ca_cons ce_int (ca_cons (ce_l 3 rfl) ca_nil)))) (CG.of (cgc_name 4 nd rfl)))
  (css_cons (cs_exp (cm lmt_append (ce_l 2 rfl) (ca_cons (ce_tup (ca_cons (ce_l 4 rfl) (ca_cons (ce_ite (ctx cop_gt (ce_l 3 rfl) ce_int) (ce_tup (ca_cons ce_int (ca_cons (ce_sub (ce_l 3 rfl) ce_int) ca_nil))) (ce_tup (ca_cons ce_int (ca_cons (ce_l 3 rfl) ca_nil)))) ca_nil))) ca_nil)))
  css_nil)))
  (css_cons (cs_ret (ce_ite (ctx cop_eq (ce_l 1 rfl) ce_int) (ceb blt_tuple m_tuple (ca_cons (ce_l 2 rfl) ca_nil)) (ce_own D__law_turned_chain (ca_cons (ce_l 2 rfl) ca_nil) a__law_turned_chain j__law_turned_chain r__law_turned_chain)))
  css_nil)))
abbrev N_law_doubled : List Str := ["_law_kind_here", "_law_many", "_law_rows", "_law_half", "_law_row", "_law_door", "_law_rest"]
theorem sc_law_doubled : FnScope N_law_doubled ["_law_kind_here"] (defScope S_law_doubled) := ⟨rfl, rfl, rfl, by decide +kernel, rfl, by decide +kernel, by decide +kernel⟩
theorem cs_law_doubled {g : Gc} {k : Nat} {gd : Bool} (m_len : g.mg "len" = none) (m_range : g.mg "range" = none) (m_tuple : g.mg "tuple" = none) : CSs (cx0 g N_law_doubled S_law_doubled k gd) (defBody S_law_doubled) (ir_law_doubled) :=
  have nd := sc_law_doubled.nd
  (css_cons (cs_asgT (ce_tup (ca_cons (ceb blt_len m_len (ca_cons (ce_l 0 rfl) ca_nil)) (ca_cons (ce_lst ca_nil) ca_nil))) (cg_tup (cgs_cons (CG.of (cgc_name 1 nd rfl)) (cgs_cons (CG.of (cgc_name 2 nd rfl)) cgs_nil))) rfl)
  (css_cons (cs_for (ci_rng1 m_range ce_int) (CG.of (cgc_name 3 nd rfl)) (css_cons (cs_asg (ce_add (ce_l 2 rfl) (ce_lc [("_law_row", 4)] nd (ci_seq (ce_l 0 rfl)) (cgc_name 4 nd rfl) cq_nil (ceb blt_tuple m_tuple (ca_cons (ce_lc [("_law_door", 5), ("_law_rest", 6)] nd (ci_seq (ce_l 4 rfl)) (cgc_tup (cgcs_cons (cgc_name 5 nd rfl) (cgcs_cons (cgc_name 6 nd rfl) cgcs_nil))) cq_nil (ce_tup (ca_cons (ce_l 5 rfl) (ca_cons (ce_add (ce_l 6 rfl) (ce_mul (ce_l 3 rfl) (ce_l 1 rfl))) ca_nil))) rfl) ca_nil)) rfl)) (CG.of (cgc_name 2 nd rfl)))
  css_nil))
  (css_cons (cs_ret (ceb blt_tuple m_tuple (ca_cons (ce_l 2 rfl) ca_nil)))
  css_nil)))
abbrev N_law_any_kind : List Str := ["_law_box_here", "_law_way"]
theorem sc_law_any_kind : FnScope N_law_any_kind ["_law_box_here"] (defScope S_law_any_kind) := ⟨rfl, rfl, rfl, by decide +kernel, rfl, by decide +kernel, by decide +kernel⟩
theorem cs_law_any_kind {g : Gc} {k : Nat} {gd : Bool} {Φ__law_take : ASp} {b__law_take : Bool} {l__law_take : Nat} (D__law_take : Dg g b__law_take "_law_take" l__law_take (SpO g.K 2 Φ__law_take)) (a__law_take : ∀ vs h Q, Φ__law_take vs h Q → vs.length = 2) (j__law_take : l__law_take ≤ k) (r__law_take : b__law_take = true → gd = true) {Φ__law_kind : ASp} {b__law_kind : Bool} {l__law_kind : Nat} (D__law_kind : Dg g b__law_kind "_law_kind" l__law_kind (SpO g.K 3 Φ__law_kind)) (a__law_kind : ∀ vs h Q, Φ__law_kind vs h Q → vs.length = 3) (j__law_kind : l__law_kind ≤ k) (r__law_kind : b__law_kind = true → gd = true) {Φ__law_chain : ASp} {b__law_chain : Bool} {l__law_chain : Nat} (D__law_chain : Dg g b__law_chain "_law_chain" l__law_chain (SpO g.K 2 Φ__law_chain)) (a__law_chain : ∀ vs h Q, Φ__law_chain vs h Q → vs.length = 2) (j__law_chain : l__law_chain ≤ k) (r__law_chain : b__law_chain = true → gd = true) {Φ__law_doubled : ASp} {b__law_doubled : Bool} {l__law_doubled : Nat} (D__law_doubled : Dg g b__law_doubled "_law_doubled" l__law_doubled (SpO g.K 1 Φ__law_doubled)) (a__law_doubled : ∀ vs h Q, Φ__law_doubled vs h Q → vs.length = 1) (j__law_doubled : l__law_doubled ≤ k) (r__law_doubled : b__law_doubled = true → gd = true) : CSs (cx0 g N_law_any_kind S_law_any_kind k gd) (defBody S_law_any_kind) (ir_law_any_kind Φ__law_take Φ__law_kind Φ__law_chain Φ__law_doubled) :=
  have nd := sc_law_any_kind.nd
  (css_cons (cs_asg (ce_own D__law_take (ca_cons (ce_l 0 rfl) (ca_cons ce_int ca_nil)) a__law_take j__law_take r__law_take) (CG.of (cgc_name 1 nd rfl)))
  (css_cons (cs_if (ctx cop_eq (ce_l 1 rfl) ce_int) (css_cons (cs_ret (ce_own D__law_kind (ca_cons (ce_l 0 rfl) (ca_cons (ce_add ce_int (ce_own D__law_take (ca_cons (ce_l 0 rfl) (ca_cons ce_int ca_nil)) a__law_take j__law_take r__law_take)) (ca_cons ce_int ca_nil))) a__law_kind j__law_kind r__law_kind))
  css_nil) css_nil)
  (css_cons (cs_if (ctx cop_eq (ce_l 1 rfl) ce_int) (css_cons (cs_ret (ce_own D__law_chain (ca_cons (ce_add ce_int (ce_own D__law_take (ca_cons (ce_l 0 rfl) (ca_cons ce_int ca_nil)) a__law_take j__law_take r__law_take)) (ca_cons (ce_own D__law_take (ca_cons (ce_l 0 rfl) (ca_cons ce_int ca_nil)) a__law_take j__law_take r__law_take) ca_nil)) a__law_chain j__law_chain r__law_chain))
  css_nil) css_nil)
  (css_cons (cs_if (ctx cop_eq (ce_l 1 rfl) ce_int) (css_cons (cs_ret (ce_own D__law_doubled (ca_cons (ce_own D__law_kind (ca_cons (ce_l 0 rfl) (ca_cons (ce_add ce_int (ce_own D__law_take (ca_cons (ce_l 0 rfl) (ca_cons ce_int ca_nil)) a__law_take j__law_take r__law_take)) (ca_cons (ce_add ce_int (ce_own D__law_take (ca_cons (ce_l 0 rfl) (ca_cons ce_int ca_nil)) a__law_take j__law_take r__law_take)) ca_nil))) a__law_kind j__law_kind r__law_kind) ca_nil) a__law_doubled j__law_doubled r__law_doubled))
  css_nil) css_nil)
  (css_cons (cs_ret (ce_own D__law_kind (ca_cons (ce_l 0 rfl) (ca_cons (ce_add ce_int (ce_own D__law_take (ca_cons (ce_l 0 rfl) (ca_cons ce_int ca_nil)) a__law_take j__law_take r__law_take)) (ca_cons (ce_add ce_int (ce_own D__law_take (ca_cons (ce_l 0 rfl) (ca_cons ce_int ca_nil)) a__law_take j__law_take r__law_take)) ca_nil))) a__law_kind j__law_kind r__law_kind))
  css_nil)))))
abbrev N_law_about : List Str := ["_law_order_here", "_law_found", "_law_at", "_law_one"]
theorem sc_law_about : FnScope N_law_about ["_law_order_here"] (defScope S_law_about) := ⟨rfl, rfl, rfl, by decide +kernel, rfl, by decide +kernel, by decide +kernel⟩
theorem cs_law_about {g : Gc} {k : Nat} {gd : Bool} (m_len : g.mg "len" = none) (m_enumerate : g.mg "enumerate" = none) (m_tuple : g.mg "tuple" = none) : CSs (cx0 g N_law_about S_law_about k gd) (defBody S_law_about) (ir_law_about) :=
  have nd := sc_law_about.nd
  (css_cons (cs_asg (ce_mul (ce_lst (ca_cons ce_int ca_nil)) (ceb blt_len m_len (ca_cons (ce_l 0 rfl) ca_nil))) (CG.of (cgc_name 1 nd rfl)))
  (css_cons (cs_for (ci_enum m_enumerate (ce_l 0 rfl)) (cg_tup (cgs_cons (CG.of (cgc_name 2 nd rfl)) (cgs_cons (CG.of (cgc_name 3 nd rfl)) cgs_nil))) (css_cons (cs_asg (ce_l 2 rfl) (cg_sub (ce_l 1 rfl) (ce_l 3 rfl)))
  css_nil))
  (css_cons (cs_ret (ceb blt_tuple m_tuple (ca_cons (ce_l 1 rfl) ca_nil)))
  css_nil)))
abbrev N_law_right : List Str := ["_law_box_here", "_law_kind_here", "_law_doors", "_law_rests", "_law_before", "_law_found", "_law_rest", "_law_row", "_law_told", "_law_more", "_law_behind", "_law_both", "_law_here", "_law_outs", "_law_last", "_law_now", "_law_door", "_law_out", "_law_came"]
theorem sc_law_right : FnScope N_law_right ["_law_box_here"] (defScope S_law_right) := ⟨rfl, rfl, rfl, by decide +kernel, rfl, by decide +kernel, by decide +kernel⟩
theorem cs_law_right {g : Gc} {k : Nat} {gd : Bool} (hgd : gd = true) {Φ__law_any_kind : ASp} {b__law_any_kind : Bool} {l__law_any_kind : Nat} (D__law_any_kind : Dg g b__law_any_kind "_law_any_kind" l__law_any_kind (SpO g.K 1 Φ__law_any_kind)) (a__law_any_kind : ∀ vs h Q, Φ__law_any_kind vs h Q → vs.length = 1) (j__law_any_kind : l__law_any_kind ≤ k) (r__law_any_kind : b__law_any_kind = true → gd = true) {Φ__law_order : ASp} {b__law_order : Bool} {l__law_order : Nat} (D__law_order : Dg g b__law_order "_law_order" l__law_order (SpO g.K 2 Φ__law_order)) (a__law_order : ∀ vs h Q, Φ__law_order vs h Q → vs.length = 2) (j__law_order : l__law_order ≤ k) (r__law_order : b__law_order = true → gd = true) {Φ_renamed : ASp} {b_renamed : Bool} {l_renamed : Nat} (D_renamed : Dg g b_renamed "renamed" l_renamed (SpO g.K 3 Φ_renamed)) (a_renamed : ∀ vs h Q, Φ_renamed vs h Q → vs.length = 3) (j_renamed : l_renamed ≤ k) (r_renamed : b_renamed = true → gd = true) {Φ__law_is_kind : ASp} {b__law_is_kind : Bool} {l__law_is_kind : Nat} (D__law_is_kind : Dg g b__law_is_kind "_law_is_kind" l__law_is_kind (SpO g.K 1 Φ__law_is_kind)) (a__law_is_kind : ∀ vs h Q, Φ__law_is_kind vs h Q → vs.length = 1) (j__law_is_kind : l__law_is_kind ≤ k) (r__law_is_kind : b__law_is_kind = true → gd = true) {Φ_is_kind : ASp} {b_is_kind : Bool} {l_is_kind : Nat} (D_is_kind : Dg g b_is_kind "is_kind" l_is_kind (SpO g.K 1 Φ_is_kind)) (a_is_kind : ∀ vs h Q, Φ_is_kind vs h Q → vs.length = 1) (j_is_kind : l_is_kind ≤ k) (r_is_kind : b_is_kind = true → gd = true) {Φ__law_lists : ASp} {b__law_lists : Bool} {l__law_lists : Nat} (D__law_lists : Dg g b__law_lists "_law_lists" l__law_lists (SpO g.K 1 Φ__law_lists)) (a__law_lists : ∀ vs h Q, Φ__law_lists vs h Q → vs.length = 1) (j__law_lists : l__law_lists ≤ k) (r__law_lists : b__law_lists = true → gd = true) {Φ__law_about : ASp} {b__law_about : Bool} {l__law_about : Nat} (D__law_about : Dg g b__law_about "_law_about" l__law_about (SpO g.K 1 Φ__law_about)) (a__law_about : ∀ vs h Q, Φ__law_about vs h Q → vs.length = 1) (j__law_about : l__law_about ≤ k) (r__law_about : b__law_about = true → gd = true) {Φ__law_same : ASp} {b__law_same : Bool} {l__law_same : Nat} (D__law_same : Dg g b__law_same "_law_same" l__law_same (SpO g.K 2 Φ__law_same)) (a__law_same : ∀ vs h Q, Φ__law_same vs h Q → vs.length = 2) (j__law_same : l__law_same ≤ k) (r__law_same : b__law_same = true → gd = true) {Φ__law_some_row : ASp} {b__law_some_row : Bool} {l__law_some_row : Nat} (D__law_some_row : Dg g b__law_some_row "_law_some_row" l__law_some_row (SpO g.K 3 Φ__law_some_row)) (a__law_some_row : ∀ vs h Q, Φ__law_some_row vs h Q → vs.length = 3) (j__law_some_row : l__law_some_row ≤ k) (r__law_some_row : b__law_some_row = true → gd = true) {Φ__law_take : ASp} {b__law_take : Bool} {l__law_take : Nat} (D__law_take : Dg g b__law_take "_law_take" l__law_take (SpO g.K 2 Φ__law_take)) (a__law_take : ∀ vs h Q, Φ__law_take vs h Q → vs.length = 2) (j__law_take : l__law_take ≤ k) (r__law_take : b__law_take = true → gd = true) {Φ__law_gone_row : ASp} {b__law_gone_row : Bool} {l__law_gone_row : Nat} (D__law_gone_row : Dg g b__law_gone_row "_law_gone_row" l__law_gone_row (SpO g.K 3 Φ__law_gone_row)) (a__law_gone_row : ∀ vs h Q, Φ__law_gone_row vs h Q → vs.length = 3) (j__law_gone_row : l__law_gone_row ≤ k) (r__law_gone_row : b__law_gone_row = true → gd = true) {Φ_gone : ASp} {b_gone : Bool} {l_gone : Nat} (D_gone : Dg g b_gone "gone" l_gone (SpO g.K 3 Φ_gone)) (a_gone : ∀ vs h Q, Φ_gone vs h Q → vs.length = 3) (j_gone : l_gone ≤ k) (r_gone : b_gone = true → gd = true) (m_len : g.mg "len" = none) (m_repr : g.mg "repr" = none) (m_enumerate : g.mg "enumerate" = none) (m_list : g.mg "list" = none) (m_tuple : g.mg "tuple" = none) (m_zip : g.mg "zip" = none) : CSs (cx0 g N_law_right S_law_right k gd) (defBody S_law_right) (ir_law_right Φ__law_any_kind Φ__law_order Φ_renamed Φ__law_is_kind Φ_is_kind Φ__law_lists Φ__law_about Φ__law_same Φ__law_some_row Φ__law_take Φ__law_gone_row Φ_gone) :=
  have nd := sc_law_right.nd
  (css_cons (cs_asg (ce_own D__law_any_kind (ca_cons (ce_l 0 rfl) ca_nil) a__law_any_kind j__law_any_kind r__law_any_kind) (CG.of (cgc_name 1 nd rfl)))
  (css_cons (cs_par2 2 3 nd (ce_own D__law_order (ca_cons (ce_l 0 rfl) (ca_cons (ceb blt_len m_len (ca_cons (ce_ix (ce_l 1 rfl) ce_int) ca_nil)) ca_nil)) a__law_order j__law_order r__law_order) (ce_own D__law_order (ca_cons (ce_l 0 rfl) (ca_cons (ceb blt_len m_len (ca_cons (ce_l 1 rfl) ca_nil)) ca_nil)) a__law_order j__law_order r__law_order) rfl)
  (css_cons (cs_par2 4 5 nd (ce_repr hgd m_repr (ce_lst (ca_cons (ce_l 1 rfl) (ca_cons (ce_l 2 rfl) (ca_cons (ce_l 3 rfl) ca_nil))))) (ce_own D_renamed (ca_cons (ce_l 1 rfl) (ca_cons (ce_l 2 rfl) (ca_cons (ce_l 3 rfl) ca_nil))) a_renamed j_renamed r_renamed) rfl)
  (css_cons (cs_if (ct_or (cwo_c (ct_not (ct_val (ce_own D__law_is_kind (ca_cons (ce_l 5 rfl) ca_nil) a__law_is_kind j__law_is_kind r__law_is_kind))) (cwo_1 (ctx cop_isnotB (ce_own D_is_kind (ca_cons (ce_l 5 rfl) ca_nil) a_is_kind j_is_kind r_is_kind) ce_bl)))) (css_cons (cs_ret ce_bl)
  css_nil) css_nil)
  (css_cons (cs_for (ci_enum m_enumerate (ce_l 1 rfl)) (cg_tup (cgs_cons (CG.of (cgc_name 6 nd rfl)) (cgs_cons (CG.of (cgc_name 7 nd rfl)) cgs_nil))) (css_cons (cs_for (ci_enum m_enumerate (ce_l 7 rfl)) (cg_tup (cgs_cons (CG.of (cgc_name 16 nd rfl)) (cgs_cons (cg_tup (cgs_cons (CG.of (cgc_name 17 nd rfl)) (cgs_cons (CG.of (cgc_name 10 nd rfl)) cgs_nil))) cgs_nil))) (css_cons (cs_if (ctx cop_ne (ce_ix (ce_ix (ce_l 5 rfl) (ce_ix (ce_l 3 rfl) (ce_l 6 rfl))) (ce_ix (ce_l 2 rfl) (ce_l 16 rfl))) (ce_tup (ca_cons (ce_ix (ce_l 2 rfl) (ce_l 17 rfl)) (ca_cons (ce_ix (ce_l 3 rfl) (ce_l 10 rfl)) ca_nil)))) (css_cons (cs_ret ce_bl)
  css_nil) css_nil)
  css_nil))
  css_nil))
  (css_cons (cs_asg (ce_lst (ca_cons (ce_own D_renamed (ca_cons (ce_own D__law_lists (ca_cons (ce_l 1 rfl) ca_nil) a__law_lists j__law_lists r__law_lists) (ca_cons (ceb blt_list m_list (ca_cons (ce_l 2 rfl) ca_nil)) (ca_cons (ceb blt_list m_list (ca_cons (ce_l 3 rfl) ca_nil)) ca_nil))) a_renamed j_renamed r_renamed) (ca_cons (ce_own D_renamed (ca_cons (ce_l 5 rfl) (ca_cons (ce_own D__law_about (ca_cons (ce_l 2 rfl) ca_nil) a__law_about j__law_about r__law_about) (ca_cons (ce_own D__law_about (ca_cons (ce_l 3 rfl) ca_nil) a__law_about j__law_about r__law_about) ca_nil))) a_renamed j_renamed r_renamed) ca_nil))) (CG.of (cgc_name 8 nd rfl)))
  (css_cons (cs_if (ct_not (ct_val (ce_own D__law_same (ca_cons (ce_l 8 rfl) (ca_cons (ce_lst (ca_cons (ce_l 5 rfl) (ca_cons (ce_l 1 rfl) ca_nil))) ca_nil)) a__law_same j__law_same r__law_same))) (css_cons (cs_ret ce_bl)
  css_nil) css_nil)
  (css_cons (cs_asgT (ce_tup (ca_cons (ce_own D__law_order (ca_cons (ce_l 0 rfl) (ca_cons (ceb blt_len m_len (ca_cons (ce_l 2 rfl) ca_nil)) ca_nil)) a__law_order j__law_order r__law_order) (ca_cons (ce_own D__law_order (ca_cons (ce_l 0 rfl) (ca_cons (ceb blt_len m_len (ca_cons (ce_l 3 rfl) ca_nil)) ca_nil)) a__law_order j__law_order r__law_order) ca_nil))) (cg_tup (cgs_cons (CG.of (cgc_name 9 nd rfl)) (cgs_cons (CG.of (cgc_name 10 nd rfl)) cgs_nil))) rfl)
  (css_cons (cs_asg (ce_own D_renamed (ca_cons (ce_l 1 rfl) (ca_cons (ceb blt_tuple m_tuple (ca_cons (ce_lc [("_law_door", 16)] nd (ci_seq (ce_l 2 rfl)) (cgc_name 16 nd rfl) cq_nil (ce_ix (ce_l 9 rfl) (ce_l 16 rfl)) rfl) ca_nil)) (ca_cons (ceb blt_tuple m_tuple (ca_cons (ce_lc [("_law_rest", 6)] nd (ci_seq (ce_l 3 rfl)) (cgc_name 6 nd rfl) cq_nil (ce_ix (ce_l 10 rfl) (ce_l 6 rfl)) rfl) ca_nil)) ca_nil))) a_renamed j_renamed r_renamed) (CG.of (cgc_name 11 nd rfl)))
  (css_cons (cs_if (ct_not (ct_val (ce_own D__law_same (ca_cons (ce_own D_renamed (ca_cons (ce_l 5 rfl) (ca_cons (ce_l 9 rfl) (ca_cons (ce_l 10 rfl) ca_nil))) a_renamed j_renamed r_renamed) (ca_cons (ce_l 11 rfl) ca_nil)) a__law_same j__law_same r__law_same))) (css_cons (cs_ret ce_bl)
  css_nil) css_nil)
  (css_cons (cs_par2 7 12 nd (ce_own D__law_some_row (ca_cons (ce_l 0 rfl) (ca_cons (ceb blt_len m_len (ca_cons (ce_l 2 rfl) ca_nil)) (ca_cons ce_int ca_nil))) a__law_some_row j__law_some_row r__law_some_row) (ce_own D__law_take (ca_cons (ce_l 0 rfl) (ca_cons (ceb blt_len m_len (ca_cons (ce_l 3 rfl) ca_nil)) ca_nil)) a__law_take j__law_take r__law_take) rfl)
  (css_cons (cs_asg (ce_own D__law_gone_row (ca_cons (ce_l 1 rfl) (ca_cons (ce_l 12 rfl) (ca_cons (ce_l 7 rfl) ca_nil))) a__law_gone_row j__law_gone_row r__law_gone_row) (cg_tup (cgs_cons (CG.of (cgc_name 13 nd rfl)) (cgs_cons (CG.of (cgc_name 14 nd rfl)) cgs_nil))))
  (css_cons (cs_asg (ce_ix (ce_l 3 rfl) (ce_l 12 rfl)) (CG.of (cgc_name 15 nd rfl)))
  (css_cons (cs_for (ci_zip m_zip (ce_l 7 rfl) (ce_l 13 rfl)) (cg_tup (cgs_cons (CG.of (cgc_name 16 nd rfl)) (cgs_cons (CG.of (cgc_name 17 nd rfl)) cgs_nil))) (css_cons (cs_asg (ce_own D_gone (ca_cons (ce_l 5 rfl) (ca_cons (ce_l 15 rfl) (ca_cons (ce_ix (ce_l 2 rfl) (ce_l 16 rfl)) ca_nil))) a_gone j_gone r_gone) (cg_tup (cgs_cons (CG.of (cgc_name 18 nd rfl)) (cgs_cons (CG.of (cgc_name 15 nd rfl)) cgs_nil))))
  (css_cons (cs_if (ctx cop_ne (ce_l 18 rfl) (ce_ix (ce_l 2 rfl) (ce_l 17 rfl))) (css_cons (cs_ret ce_bl)
  css_nil) css_nil)
  css_nil)))
  (css_cons (cs_ret (ce_andc (cex cop_eq (ce_l 15 rfl) (ce_ix (ce_l 3 rfl) (ce_l 14 rfl))) (ce_and1 (cex cop_eq (ce_repr hgd m_repr (ce_lst (ca_cons (ce_l 1 rfl) (ca_cons (ce_l 2 rfl) (ca_cons (ce_l 3 rfl) ca_nil))))) (ce_l 4 rfl)))))
  css_nil)))))))))))))))
abbrev N_law : List Str := ["_law_script", "_law_cells", "_law_k", "_law_box_here", "_law_turn"]
theorem sc_law : FnScope N_law ["_law_script"] (defScope S_law) := ⟨rfl, rfl, rfl, by decide +kernel, rfl, by decide +kernel, by decide +kernel⟩
theorem cs_law {g : Gc} {k : Nat} {gd : Bool} {Φ__law_folded : ASp} {b__law_folded : Bool} {l__law_folded : Nat} (D__law_folded : Dg g b__law_folded "_law_folded" l__law_folded (SpO g.K 2 Φ__law_folded)) (a__law_folded : ∀ vs h Q, Φ__law_folded vs h Q → vs.length = 2) (j__law_folded : l__law_folded ≤ k) (r__law_folded : b__law_folded = true → gd = true) {Φ__law_box : ASp} {b__law_box : Bool} {l__law_box : Nat} (D__law_box : Dg g b__law_box "_law_box" l__law_box (SpO g.K 2 Φ__law_box)) (a__law_box : ∀ vs h Q, Φ__law_box vs h Q → vs.length = 2) (j__law_box : l__law_box ≤ k) (r__law_box : b__law_box = true → gd = true) {Φ__law_right : ASp} {b__law_right : Bool} {l__law_right : Nat} (D__law_right : Dg g b__law_right "_law_right" l__law_right (SpO g.K 1 Φ__law_right)) (a__law_right : ∀ vs h Q, Φ__law_right vs h Q → vs.length = 1) (j__law_right : l__law_right ≤ k) (r__law_right : b__law_right = true → gd = true) (m_len : g.mg "len" = none) (m_max : g.mg "max" = none) (m_range : g.mg "range" = none) (m_all : g.mg "all" = none) : CSs (cx0 g N_law S_law k gd) (defBody S_law) (ir_law Φ__law_folded Φ__law_box Φ__law_right) :=
  have nd := sc_law.nd
  (css_cons (cs_asg (ce_own D__law_folded (ca_cons (ce_l 0 rfl) (ca_cons ce_int ca_nil)) a__law_folded j__law_folded r__law_folded) (CG.of (cgc_name 1 nd rfl)))
  (css_cons (cs_for (ci_rng1 m_range (ceb blt_max m_max (ca_cons ce_int (ca_cons (ceb blt_len m_len (ca_cons (ce_l 1 rfl) ca_nil)) ca_nil)))) (CG.of (cgc_name 2 nd rfl)) (css_cons (cs_asg (ce_own D__law_box (ca_cons (ce_l 1 rfl) (ca_cons (ce_l 2 rfl) ca_nil)) a__law_box j__law_box r__law_box) (CG.of (cgc_name 3 nd rfl)))
  (css_cons (cs_if (ct_not (ct_val (ceb blt_all m_all (ca_cons (ce_lc [("_law_turn", 4)] nd (ci_rng1 m_range ce_int) (cgc_name 4 nd rfl) cq_nil (ce_own D__law_right (ca_cons (ce_l 3 rfl) ca_nil) a__law_right j__law_right r__law_right) rfl) ca_nil)))) (css_cons (cs_ret ce_bl)
  css_nil) css_nil)
  css_nil)))
  (css_cons (cs_ret ce_bl)
  css_nil)))
theorem fnok_bot {g : Gc} {j n : Nat} {f : Addr} {fd : FuncData} {ps : List Str} : FnOk g.P g.w g.K g.mg g.base CX0 j f fd ps (SpO g.K n aBot) := ⟨fun _ _ _ _ ⟨_, _, _, _, _, _, _, z, _⟩ => z.elim, fun _ _ _ _ _ _ _ _ _ _ _ _ _ ⟨_, _, _, _, _, _, _, z, _⟩ => z.elim⟩
theorem all_mk {l : PySem.W.OpenLaw} {w : World} {K : PySem.W.Frag} {h : Heap} {mg : Str → Option Value} {fa : Addr} (X : K.In h) (G : h.Ns mainGlobals mg) (hfa : mg "law" = some (.ref fa))
    {f0 : Addr} {od0 an0 : Option Addr} {sl0 : Array (Option Value)} {oc0 kV0 dc0 pm0 cd0 ct0 : Value}
    (a0 : PySem.W.nsIn K mainGlobals "is_number_below" = some (some (.ref f0))) (l0 : K.lookup f0 = some ⟨oc0, od0, .func (PySem.W.fnOf "is_number_below" "is_number_below" (defArgs S_is_number_below) (defBody S_is_number_below) (defScope S_is_number_below) .none kV0 dc0 pm0 an0 cd0 ct0), sl0⟩) (c0 : PySem.W.codeIn K cd0 "is_number_below" = true) (k0 : PySem.W.keepIn K (.ref f0) = true)
    {f1 : Addr} {od1 an1 : Option Addr} {sl1 : Array (Option Value)} {oc1 kV1 dc1 pm1 cd1 ct1 : Value}
    (a1 : PySem.W.nsIn K mainGlobals "is_pair_within" = some (some (.ref f1))) (l1 : K.lookup f1 = some ⟨oc1, od1, .func (PySem.W.fnOf "is_pair_within" "is_pair_within" (defArgs S_is_pair_within) (defBody S_is_pair_within) (defScope S_is_pair_within) .none kV1 dc1 pm1 an1 cd1 ct1), sl1⟩) (c1 : PySem.W.codeIn K cd1 "is_pair_within" = true) (k1 : PySem.W.keepIn K (.ref f1) = true)
    {f2 : Addr} {od2 an2 : Option Addr} {sl2 : Array (Option Value)} {oc2 kV2 dc2 pm2 cd2 ct2 : Value}
    (a2 : PySem.W.nsIn K mainGlobals "has_rows" = some (some (.ref f2))) (l2 : K.lookup f2 = some ⟨oc2, od2, .func (PySem.W.fnOf "has_rows" "has_rows" (defArgs S_has_rows) (defBody S_has_rows) (defScope S_has_rows) .none kV2 dc2 pm2 an2 cd2 ct2), sl2⟩) (c2 : PySem.W.codeIn K cd2 "has_rows" = true) (k2 : PySem.W.keepIn K (.ref f2) = true)
    {f3 : Addr} {od3 an3 : Option Addr} {sl3 : Array (Option Value)} {oc3 kV3 dc3 pm3 cd3 ct3 : Value}
    (a3 : PySem.W.nsIn K mainGlobals "first_fault" = some (some (.ref f3))) (l3 : K.lookup f3 = some ⟨oc3, od3, .func (PySem.W.fnOf "first_fault" "first_fault" (defArgs S_first_fault) (defBody S_first_fault) (defScope S_first_fault) .none kV3 dc3 pm3 an3 cd3 ct3), sl3⟩) (c3 : PySem.W.codeIn K cd3 "first_fault" = true) (k3 : PySem.W.keepIn K (.ref f3) = true)
    {f4 : Addr} {od4 an4 : Option Addr} {sl4 : Array (Option Value)} {oc4 kV4 dc4 pm4 cd4 ct4 : Value}
    (a4 : PySem.W.nsIn K mainGlobals "is_kind" = some (some (.ref f4))) (l4 : K.lookup f4 = some ⟨oc4, od4, .func (PySem.W.fnOf "is_kind" "is_kind" (defArgs S_is_kind) (defBody S_is_kind) (defScope S_is_kind) .none kV4 dc4 pm4 an4 cd4 ct4), sl4⟩) (c4 : PySem.W.codeIn K cd4 "is_kind" = true) (k4 : PySem.W.keepIn K (.ref f4) = true)
    {f5 : Addr} {od5 an5 : Option Addr} {sl5 : Array (Option Value)} {oc5 kV5 dc5 pm5 cd5 ct5 : Value}
    (a5 : PySem.W.nsIn K mainGlobals "doors_of" = some (some (.ref f5))) (l5 : K.lookup f5 = some ⟨oc5, od5, .func (PySem.W.fnOf "doors_of" "doors_of" (defArgs S_doors_of) (defBody S_doors_of) (defScope S_doors_of) .none kV5 dc5 pm5 an5 cd5 ct5), sl5⟩) (c5 : PySem.W.codeIn K cd5 "doors_of" = true) (k5 : PySem.W.keepIn K (.ref f5) = true)
    {f6 : Addr} {od6 an6 : Option Addr} {sl6 : Array (Option Value)} {oc6 kV6 dc6 pm6 cd6 ct6 : Value}
    (a6 : PySem.W.nsIn K mainGlobals "rests_of" = some (some (.ref f6))) (l6 : K.lookup f6 = some ⟨oc6, od6, .func (PySem.W.fnOf "rests_of" "rests_of" (defArgs S_rests_of) (defBody S_rests_of) (defScope S_rests_of) .none kV6 dc6 pm6 an6 cd6 ct6), sl6⟩) (c6 : PySem.W.codeIn K cd6 "rests_of" = true) (k6 : PySem.W.keepIn K (.ref f6) = true)
    {f7 : Addr} {od7 an7 : Option Addr} {sl7 : Array (Option Value)} {oc7 kV7 dc7 pm7 cd7 ct7 : Value}
    (a7 : PySem.W.nsIn K mainGlobals "gone" = some (some (.ref f7))) (l7 : K.lookup f7 = some ⟨oc7, od7, .func (PySem.W.fnOf "gone" "gone" (defArgs S_gone) (defBody S_gone) (defScope S_gone) .none kV7 dc7 pm7 an7 cd7 ct7), sl7⟩) (c7 : PySem.W.codeIn K cd7 "gone" = true) (k7 : PySem.W.keepIn K (.ref f7) = true)
    {f8 : Addr} {od8 an8 : Option Addr} {sl8 : Array (Option Value)} {oc8 kV8 dc8 pm8 cd8 ct8 : Value}
    (a8 : PySem.W.nsIn K mainGlobals "renamed" = some (some (.ref f8))) (l8 : K.lookup f8 = some ⟨oc8, od8, .func (PySem.W.fnOf "renamed" "renamed" (defArgs S_renamed) (defBody S_renamed) (defScope S_renamed) .none kV8 dc8 pm8 an8 cd8 ct8), sl8⟩) (c8 : PySem.W.codeIn K cd8 "renamed" = true) (k8 : PySem.W.keepIn K (.ref f8) = true)
    {f9 : Addr} {od9 an9 : Option Addr} {sl9 : Array (Option Value)} {oc9 kV9 dc9 pm9 cd9 ct9 : Value}
    (a9 : PySem.W.nsIn K mainGlobals "_law_box" = some (some (.ref f9))) (l9 : K.lookup f9 = some ⟨oc9, od9, .func (PySem.W.fnOf "_law_box" "_law_box" (defArgs S_law_box) (defBody S_law_box) (defScope S_law_box) .none kV9 dc9 pm9 an9 cd9 ct9), sl9⟩) (c9 : PySem.W.codeIn K cd9 "_law_box" = true) (k9 : PySem.W.keepIn K (.ref f9) = true)
    {f10 : Addr} {od10 an10 : Option Addr} {sl10 : Array (Option Value)} {oc10 kV10 dc10 pm10 cd10 ct10 : Value}
    (a10 : PySem.W.nsIn K mainGlobals "_law_take" = some (some (.ref f10))) (l10 : K.lookup f10 = some ⟨oc10, od10, .func (PySem.W.fnOf "_law_take" "_law_take" (defArgs S_law_take) (defBody S_law_take) (defScope S_law_take) .none kV10 dc10 pm10 an10 cd10 ct10), sl10⟩) (c10 : PySem.W.codeIn K cd10 "_law_take" = true) (k10 : PySem.W.keepIn K (.ref f10) = true)
    {f11 : Addr} {od11 an11 : Option Addr} {sl11 : Array (Option Value)} {oc11 kV11 dc11 pm11 cd11 ct11 : Value}
    (a11 : PySem.W.nsIn K mainGlobals "_law_folded" = some (some (.ref f11))) (l11 : K.lookup f11 = some ⟨oc11, od11, .func (PySem.W.fnOf "_law_folded" "_law_folded" (defArgs S_law_folded) (defBody S_law_folded) (defScope S_law_folded) .none kV11 dc11 pm11 an11 cd11 ct11), sl11⟩) (c11 : PySem.W.codeIn K cd11 "_law_folded" = true) (k11 : PySem.W.keepIn K (.ref f11) = true)
    {f12 : Addr} {od12 an12 : Option Addr} {sl12 : Array (Option Value)} {oc12 kV12 dc12 pm12 cd12 ct12 : Value}
    (a12 : PySem.W.nsIn K mainGlobals "_law_same" = some (some (.ref f12))) (l12 : K.lookup f12 = some ⟨oc12, od12, .func (PySem.W.fnOf "_law_same" "_law_same" (defArgs S_law_same) (defBody S_law_same) (defScope S_law_same) .none kV12 dc12 pm12 an12 cd12 ct12), sl12⟩) (c12 : PySem.W.codeIn K cd12 "_law_same" = true) (k12 : PySem.W.keepIn K (.ref f12) = true)
    {f13 : Addr} {od13 an13 : Option Addr} {sl13 : Array (Option Value)} {oc13 kV13 dc13 pm13 cd13 ct13 : Value}
    (a13 : PySem.W.nsIn K mainGlobals "_law_lists" = some (some (.ref f13))) (l13 : K.lookup f13 = some ⟨oc13, od13, .func (PySem.W.fnOf "_law_lists" "_law_lists" (defArgs S_law_lists) (defBody S_law_lists) (defScope S_law_lists) .none kV13 dc13 pm13 an13 cd13 ct13), sl13⟩) (c13 : PySem.W.codeIn K cd13 "_law_lists" = true) (k13 : PySem.W.keepIn K (.ref f13) = true)
    {f14 : Addr} {od14 an14 : Option Addr} {sl14 : Array (Option Value)} {oc14 kV14 dc14 pm14 cd14 ct14 : Value}
    (a14 : PySem.W.nsIn K mainGlobals "_law_kind" = some (some (.ref f14))) (l14 : K.lookup f14 = some ⟨oc14, od14, .func (PySem.W.fnOf "_law_kind" "_law_kind" (defArgs S_law_kind) (defBody S_law_kind) (defScope S_law_kind) .none kV14 dc14 pm14 an14 cd14 ct14), sl14⟩) (c14 : PySem.W.codeIn K cd14 "_law_kind" = true) (k14 : PySem.W.keepIn K (.ref f14) = true)
    {f15 : Addr} {od15 an15 : Option Addr} {sl15 : Array (Option Value)} {oc15 kV15 dc15 pm15 cd15 ct15 : Value}
    (a15 : PySem.W.nsIn K mainGlobals "_law_below" = some (some (.ref f15))) (l15 : K.lookup f15 = some ⟨oc15, od15, .func (PySem.W.fnOf "_law_below" "_law_below" (defArgs S_law_below) (defBody S_law_below) (defScope S_law_below) .none kV15 dc15 pm15 an15 cd15 ct15), sl15⟩) (c15 : PySem.W.codeIn K cd15 "_law_below" = true) (k15 : PySem.W.keepIn K (.ref f15) = true)
    {f16 : Addr} {od16 an16 : Option Addr} {sl16 : Array (Option Value)} {oc16 kV16 dc16 pm16 cd16 ct16 : Value}
    (a16 : PySem.W.nsIn K mainGlobals "_law_has_rows" = some (some (.ref f16))) (l16 : K.lookup f16 = some ⟨oc16, od16, .func (PySem.W.fnOf "_law_has_rows" "_law_has_rows" (defArgs S_law_has_rows) (defBody S_law_has_rows) (defScope S_law_has_rows) .none kV16 dc16 pm16 an16 cd16 ct16), sl16⟩) (c16 : PySem.W.codeIn K cd16 "_law_has_rows" = true) (k16 : PySem.W.keepIn K (.ref f16) = true)
    {f17 : Addr} {od17 an17 : Option Addr} {sl17 : Array (Option Value)} {oc17 kV17 dc17 pm17 cd17 ct17 : Value}
    (a17 : PySem.W.nsIn K mainGlobals "_law_fault" = some (some (.ref f17))) (l17 : K.lookup f17 = some ⟨oc17, od17, .func (PySem.W.fnOf "_law_fault" "_law_fault" (defArgs S_law_fault) (defBody S_law_fault) (defScope S_law_fault) .none kV17 dc17 pm17 an17 cd17 ct17), sl17⟩) (c17 : PySem.W.codeIn K cd17 "_law_fault" = true) (k17 : PySem.W.keepIn K (.ref f17) = true)
    {f18 : Addr} {od18 an18 : Option Addr} {sl18 : Array (Option Value)} {oc18 kV18 dc18 pm18 cd18 ct18 : Value}
    (a18 : PySem.W.nsIn K mainGlobals "_law_is_kind" = some (some (.ref f18))) (l18 : K.lookup f18 = some ⟨oc18, od18, .func (PySem.W.fnOf "_law_is_kind" "_law_is_kind" (defArgs S_law_is_kind) (defBody S_law_is_kind) (defScope S_law_is_kind) .none kV18 dc18 pm18 an18 cd18 ct18), sl18⟩) (c18 : PySem.W.codeIn K cd18 "_law_is_kind" = true) (k18 : PySem.W.keepIn K (.ref f18) = true)
    {f19 : Addr} {od19 an19 : Option Addr} {sl19 : Array (Option Value)} {oc19 kV19 dc19 pm19 cd19 ct19 : Value}
    (a19 : PySem.W.nsIn K mainGlobals "_law_gone_row" = some (some (.ref f19))) (l19 : K.lookup f19 = some ⟨oc19, od19, .func (PySem.W.fnOf "_law_gone_row" "_law_gone_row" (defArgs S_law_gone_row) (defBody S_law_gone_row) (defScope S_law_gone_row) .none kV19 dc19 pm19 an19 cd19 ct19), sl19⟩) (c19 : PySem.W.codeIn K cd19 "_law_gone_row" = true) (k19 : PySem.W.keepIn K (.ref f19) = true)
    {f20 : Addr} {od20 an20 : Option Addr} {sl20 : Array (Option Value)} {oc20 kV20 dc20 pm20 cd20 ct20 : Value}
    (a20 : PySem.W.nsIn K mainGlobals "_law_some_row" = some (some (.ref f20))) (l20 : K.lookup f20 = some ⟨oc20, od20, .func (PySem.W.fnOf "_law_some_row" "_law_some_row" (defArgs S_law_some_row) (defBody S_law_some_row) (defScope S_law_some_row) .none kV20 dc20 pm20 an20 cd20 ct20), sl20⟩) (c20 : PySem.W.codeIn K cd20 "_law_some_row" = true) (k20 : PySem.W.keepIn K (.ref f20) = true)
    {f21 : Addr} {od21 an21 : Option Addr} {sl21 : Array (Option Value)} {oc21 kV21 dc21 pm21 cd21 ct21 : Value}
    (a21 : PySem.W.nsIn K mainGlobals "_law_order" = some (some (.ref f21))) (l21 : K.lookup f21 = some ⟨oc21, od21, .func (PySem.W.fnOf "_law_order" "_law_order" (defArgs S_law_order) (defBody S_law_order) (defScope S_law_order) .none kV21 dc21 pm21 an21 cd21 ct21), sl21⟩) (c21 : PySem.W.codeIn K cd21 "_law_order" = true) (k21 : PySem.W.keepIn K (.ref f21) = true)
    {f22 : Addr} {od22 an22 : Option Addr} {sl22 : Array (Option Value)} {oc22 kV22 dc22 pm22 cd22 ct22 : Value}
    (a22 : PySem.W.nsIn K mainGlobals "_law_turned_chain" = some (some (.ref f22))) (l22 : K.lookup f22 = some ⟨oc22, od22, .func (PySem.W.fnOf "_law_turned_chain" "_law_turned_chain" (defArgs S_law_turned_chain) (defBody S_law_turned_chain) (defScope S_law_turned_chain) .none kV22 dc22 pm22 an22 cd22 ct22), sl22⟩) (c22 : PySem.W.codeIn K cd22 "_law_turned_chain" = true) (k22 : PySem.W.keepIn K (.ref f22) = true)
    {f23 : Addr} {od23 an23 : Option Addr} {sl23 : Array (Option Value)} {oc23 kV23 dc23 pm23 cd23 ct23 : Value}
    (a23 : PySem.W.nsIn K mainGlobals "_law_chain" = some (some (.ref f23))) (l23 : K.lookup f23 = some ⟨oc23, od23, .func (PySem.W.fnOf "_law_chain" "_law_chain" (defArgs S_law_chain) (defBody S_law_chain) (defScope S_law_chain) .none kV23 dc23 pm23 an23 cd23 ct23), sl23⟩) (c23 : PySem.W.codeIn K cd23 "_law_chain" = true) (k23 : PySem.W.keepIn K (.ref f23) = true)
    {f24 : Addr} {od24 an24 : Option Addr} {sl24 : Array (Option Value)} {oc24 kV24 dc24 pm24 cd24 ct24 : Value}
    (a24 : PySem.W.nsIn K mainGlobals "_law_doubled" = some (some (.ref f24))) (l24 : K.lookup f24 = some ⟨oc24, od24, .func (PySem.W.fnOf "_law_doubled" "_law_doubled" (defArgs S_law_doubled) (defBody S_law_doubled) (defScope S_law_doubled) .none kV24 dc24 pm24 an24 cd24 ct24), sl24⟩) (c24 : PySem.W.codeIn K cd24 "_law_doubled" = true) (k24 : PySem.W.keepIn K (.ref f24) = true)
    {f25 : Addr} {od25 an25 : Option Addr} {sl25 : Array (Option Value)} {oc25 kV25 dc25 pm25 cd25 ct25 : Value}
    (a25 : PySem.W.nsIn K mainGlobals "_law_any_kind" = some (some (.ref f25))) (l25 : K.lookup f25 = some ⟨oc25, od25, .func (PySem.W.fnOf "_law_any_kind" "_law_any_kind" (defArgs S_law_any_kind) (defBody S_law_any_kind) (defScope S_law_any_kind) .none kV25 dc25 pm25 an25 cd25 ct25), sl25⟩) (c25 : PySem.W.codeIn K cd25 "_law_any_kind" = true) (k25 : PySem.W.keepIn K (.ref f25) = true)
    {f26 : Addr} {od26 an26 : Option Addr} {sl26 : Array (Option Value)} {oc26 kV26 dc26 pm26 cd26 ct26 : Value}
    (a26 : PySem.W.nsIn K mainGlobals "_law_about" = some (some (.ref f26))) (l26 : K.lookup f26 = some ⟨oc26, od26, .func (PySem.W.fnOf "_law_about" "_law_about" (defArgs S_law_about) (defBody S_law_about) (defScope S_law_about) .none kV26 dc26 pm26 an26 cd26 ct26), sl26⟩) (c26 : PySem.W.codeIn K cd26 "_law_about" = true) (k26 : PySem.W.keepIn K (.ref f26) = true)
    {f27 : Addr} {od27 an27 : Option Addr} {sl27 : Array (Option Value)} {oc27 kV27 dc27 pm27 cd27 ct27 : Value}
    (a27 : PySem.W.nsIn K mainGlobals "_law_right" = some (some (.ref f27))) (l27 : K.lookup f27 = some ⟨oc27, od27, .func (PySem.W.fnOf "_law_right" "_law_right" (defArgs S_law_right) (defBody S_law_right) (defScope S_law_right) .none kV27 dc27 pm27 an27 cd27 ct27), sl27⟩) (c27 : PySem.W.codeIn K cd27 "_law_right" = true) (k27 : PySem.W.keepIn K (.ref f27) = true)
    {f28 : Addr} {od28 an28 : Option Addr} {sl28 : Array (Option Value)} {oc28 kV28 dc28 pm28 cd28 ct28 : Value}
    (a28 : PySem.W.nsIn K mainGlobals "law" = some (some (.ref f28))) (l28 : K.lookup f28 = some ⟨oc28, od28, .func (PySem.W.fnOf "law" "law" (defArgs S_law) (defBody S_law) (defScope S_law) .none kV28 dc28 pm28 an28 cd28 ct28), sl28⟩) (c28 : PySem.W.codeIn K cd28 "law" = true) (k28 : PySem.W.keepIn K (.ref f28) = true)
    (z_isinstance : PySem.W.nsIn K mainGlobals "isinstance" = some none)
    (z_int : PySem.W.nsIn K mainGlobals "int" = some none)
    (z_bool : PySem.W.nsIn K mainGlobals "bool" = some none)
    (z_tuple : PySem.W.nsIn K mainGlobals "tuple" = some none)
    (z_len : PySem.W.nsIn K mainGlobals "len" = some none)
    (z_all : PySem.W.nsIn K mainGlobals "all" = some none)
    (z_any : PySem.W.nsIn K mainGlobals "any" = some none)
    (z_enumerate : PySem.W.nsIn K mainGlobals "enumerate" = some none)
    (z_range : PySem.W.nsIn K mainGlobals "range" = some none)
    (z_abs : PySem.W.nsIn K mainGlobals "abs" = some none)
    (z_divmod : PySem.W.nsIn K mainGlobals "divmod" = some none)
    (z_list : PySem.W.nsIn K mainGlobals "list" = some none)
    (z_zip : PySem.W.nsIn K mainGlobals "zip" = some none)
    (z_str : PySem.W.nsIn K mainGlobals "str" = some none)
    (z_repr : PySem.W.nsIn K mainGlobals "repr" = some none)
    (z_max : PySem.W.nsIn K mainGlobals "max" = some none)
    {t_FIRST_REST : Tok} (z_FIRST_REST : PySem.W.nsIn K mainGlobals "FIRST_REST" = some (some (Value.int 0 t_FIRST_REST)))
    : ∃ fd : FuncData, (∀ (s : Shared) (v : Value), BindsTo s fd ⟨[v], []⟩ [("_law_script", v)]) ∧ ∀ base : Heap, K.In base → base.Ns mainGlobals mg → FnG ⟨l.prog, w, K, mg, base⟩ 8 fa fd ["_law_script"] (SpO K 1 aLaw) := by
  have e := hfa.symm.trans (PySem.W.mg_of X G a28)
  cases e
  have m_isinstance := PySem.W.mg_none_of X G z_isinstance
  have m_int := PySem.W.mg_none_of X G z_int
  have m_bool := PySem.W.mg_none_of X G z_bool
  have m_tuple := PySem.W.mg_none_of X G z_tuple
  have m_len := PySem.W.mg_none_of X G z_len
  have m_all := PySem.W.mg_none_of X G z_all
  have m_any := PySem.W.mg_none_of X G z_any
  have m_enumerate := PySem.W.mg_none_of X G z_enumerate
  have m_range := PySem.W.mg_none_of X G z_range
  have m_abs := PySem.W.mg_none_of X G z_abs
  have m_divmod := PySem.W.mg_none_of X G z_divmod
  have m_list := PySem.W.mg_none_of X G z_list
  have m_zip := PySem.W.mg_none_of X G z_zip
  have m_str := PySem.W.mg_none_of X G z_str
  have m_repr := PySem.W.mg_none_of X G z_repr
  have m_max := PySem.W.mg_none_of X G z_max
  have u_FIRST_REST := PySem.W.mg_of X G z_FIRST_REST
  have F_is_number_below := fun_mk (st := S_is_number_below) l0 c0 k0
  have h_is_number_below := PySem.W.mg_of X G a0
  have b_is_number_below := F_is_number_below.binds (ps := ["thing", "bound"]) fun _ _ _ _ _ _ us hl => match us, hl with | [_, _], _ => rfl
  have F_is_pair_within := fun_mk (st := S_is_pair_within) l1 c1 k1
  have h_is_pair_within := PySem.W.mg_of X G a1
  have b_is_pair_within := F_is_pair_within.binds (ps := ["thing", "doors", "rests"]) fun _ _ _ _ _ _ us hl => match us, hl with | [_, _, _], _ => rfl
  have F_has_rows := fun_mk (st := S_has_rows) l2 c2 k2
  have h_has_rows := PySem.W.mg_of X G a2
  have b_has_rows := F_has_rows.binds (ps := ["thing"]) fun _ _ _ _ _ _ us hl => match us, hl with | [_], _ => rfl
  have F_first_fault := fun_mk (st := S_first_fault) l3 c3 k3
  have h_first_fault := PySem.W.mg_of X G a3
  have b_first_fault := F_first_fault.binds (ps := ["rows"]) fun _ _ _ _ _ _ us hl => match us, hl with | [_], _ => rfl
  have F_is_kind := fun_mk (st := S_is_kind) l4 c4 k4
  have h_is_kind := PySem.W.mg_of X G a4
  have b_is_kind := F_is_kind.binds (ps := ["thing"]) fun _ _ _ _ _ _ us hl => match us, hl with | [_], _ => rfl
  have F_doors_of := fun_mk (st := S_doors_of) l5 c5 k5
  have h_doors_of := PySem.W.mg_of X G a5
  have b_doors_of := F_doors_of.binds (ps := ["kind"]) fun _ _ _ _ _ _ us hl => match us, hl with | [_], _ => rfl
  have F_rests_of := fun_mk (st := S_rests_of) l6 c6 k6
  have h_rests_of := PySem.W.mg_of X G a6
  have b_rests_of := F_rests_of.binds (ps := ["kind"]) fun _ _ _ _ _ _ us hl => match us, hl with | [_], _ => rfl
  have F_gone := fun_mk (st := S_gone) l7 c7 k7
  have h_gone := PySem.W.mg_of X G a7
  have b_gone := F_gone.binds (ps := ["kind", "rest", "door"]) fun _ _ _ _ _ _ us hl => match us, hl with | [_, _, _], _ => rfl
  have F_renamed := fun_mk (st := S_renamed) l8 c8 k8
  have h_renamed := PySem.W.mg_of X G a8
  have b_renamed := F_renamed.binds (ps := ["kind", "doors", "rests"]) fun _ _ _ _ _ _ us hl => match us, hl with | [_, _, _], _ => rfl
  have F__law_box := fun_mk (st := S_law_box) l9 c9 k9
  have h__law_box := PySem.W.mg_of X G a9
  have b__law_box := F__law_box.binds (ps := ["_law_script", "_law_k"]) fun _ _ _ _ _ _ us hl => match us, hl with | [_, _], _ => rfl
  have F__law_take := fun_mk (st := S_law_take) l10 c10 k10
  have h__law_take := PySem.W.mg_of X G a10
  have b__law_take := F__law_take.binds (ps := ["_law_box_here", "_law_size"]) fun _ _ _ _ _ _ us hl => match us, hl with | [_, _], _ => rfl
  have F__law_folded := fun_mk (st := S_law_folded) l11 c11 k11
  have h__law_folded := PySem.W.mg_of X G a11
  have b__law_folded := F__law_folded.binds (ps := ["_law_script", "_law_size"]) fun _ _ _ _ _ _ us hl => match us, hl with | [_, _], _ => rfl
  have F__law_same := fun_mk (st := S_law_same) l12 c12 k12
  have h__law_same := PySem.W.mg_of X G a12
  have b__law_same := F__law_same.binds (ps := ["_law_found", "_law_due"]) fun _ _ _ _ _ _ us hl => match us, hl with | [_, _], _ => rfl
  have F__law_lists := fun_mk (st := S_law_lists) l13 c13 k13
  have h__law_lists := PySem.W.mg_of X G a13
  have b__law_lists := F__law_lists.binds (ps := ["_law_thing"]) fun _ _ _ _ _ _ us hl => match us, hl with | [_], _ => rfl
  have F__law_kind := fun_mk (st := S_law_kind) l14 c14 k14
  have h__law_kind := PySem.W.mg_of X G a14
  have b__law_kind := F__law_kind.binds (ps := ["_law_box_here", "_law_doors", "_law_rests"]) fun _ _ _ _ _ _ us hl => match us, hl with | [_, _, _], _ => rfl
  have F__law_below := fun_mk (st := S_law_below) l15 c15 k15
  have h__law_below := PySem.W.mg_of X G a15
  have b__law_below := F__law_below.binds (ps := ["_law_thing", "_law_bound"]) fun _ _ _ _ _ _ us hl => match us, hl with | [_, _], _ => rfl
  have F__law_has_rows := fun_mk (st := S_law_has_rows) l16 c16 k16
  have h__law_has_rows := PySem.W.mg_of X G a16
  have b__law_has_rows := F__law_has_rows.binds (ps := ["_law_thing"]) fun _ _ _ _ _ _ us hl => match us, hl with | [_], _ => rfl
  have F__law_fault := fun_mk (st := S_law_fault) l17 c17 k17
  have h__law_fault := PySem.W.mg_of X G a17
  have b__law_fault := F__law_fault.binds (ps := ["_law_rows"]) fun _ _ _ _ _ _ us hl => match us, hl with | [_], _ => rfl
  have F__law_is_kind := fun_mk (st := S_law_is_kind) l18 c18 k18
  have h__law_is_kind := PySem.W.mg_of X G a18
  have b__law_is_kind := F__law_is_kind.binds (ps := ["_law_thing"]) fun _ _ _ _ _ _ us hl => match us, hl with | [_], _ => rfl
  have F__law_gone_row := fun_mk (st := S_law_gone_row) l19 c19 k19
  have h__law_gone_row := PySem.W.mg_of X G a19
  have b__law_gone_row := F__law_gone_row.binds (ps := ["_law_kind_here", "_law_rest", "_law_row"]) fun _ _ _ _ _ _ us hl => match us, hl with | [_, _, _], _ => rfl
  have F__law_some_row := fun_mk (st := S_law_some_row) l20 c20 k20
  have h__law_some_row := PySem.W.mg_of X G a20
  have b__law_some_row := F__law_some_row.binds (ps := ["_law_box_here", "_law_doors", "_law_most"]) fun _ _ _ _ _ _ us hl => match us, hl with | [_, _, _], _ => rfl
  have F__law_order := fun_mk (st := S_law_order) l21 c21 k21
  have h__law_order := PySem.W.mg_of X G a21
  have b__law_order := F__law_order.binds (ps := ["_law_box_here", "_law_many"]) fun _ _ _ _ _ _ us hl => match us, hl with | [_, _], _ => rfl
  have F__law_turned_chain := fun_mk (st := S_law_turned_chain) l22 c22 k22
  have h__law_turned_chain := PySem.W.mg_of X G a22
  have b__law_turned_chain := F__law_turned_chain.binds (ps := ["_law_rows"]) fun _ _ _ _ _ _ us hl => match us, hl with | [_], _ => rfl
  have F__law_chain := fun_mk (st := S_law_chain) l23 c23 k23
  have h__law_chain := PySem.W.mg_of X G a23
  have b__law_chain := F__law_chain.binds (ps := ["_law_many", "_law_back"]) fun _ _ _ _ _ _ us hl => match us, hl with | [_, _], _ => rfl
  have F__law_doubled := fun_mk (st := S_law_doubled) l24 c24 k24
  have h__law_doubled := PySem.W.mg_of X G a24
  have b__law_doubled := F__law_doubled.binds (ps := ["_law_kind_here"]) fun _ _ _ _ _ _ us hl => match us, hl with | [_], _ => rfl
  have F__law_any_kind := fun_mk (st := S_law_any_kind) l25 c25 k25
  have h__law_any_kind := PySem.W.mg_of X G a25
  have b__law_any_kind := F__law_any_kind.binds (ps := ["_law_box_here"]) fun _ _ _ _ _ _ us hl => match us, hl with | [_], _ => rfl
  have F__law_about := fun_mk (st := S_law_about) l26 c26 k26
  have h__law_about := PySem.W.mg_of X G a26
  have b__law_about := F__law_about.binds (ps := ["_law_order_here"]) fun _ _ _ _ _ _ us hl => match us, hl with | [_], _ => rfl
  have F__law_right := fun_mk (st := S_law_right) l27 c27 k27
  have h__law_right := PySem.W.mg_of X G a27
  have b__law_right := F__law_right.binds (ps := ["_law_box_here"]) fun _ _ _ _ _ _ us hl => match us, hl with | [_], _ => rfl
  have F_law := fun_mk (st := S_law) l28 c28 k28
  have h_law := PySem.W.mg_of X G a28
  refine ⟨PySem.W.fnOf "law" "law" (defArgs S_law) (defBody S_law) (defScope S_law) .none kV28 dc28 pm28 an28 cd28 ct28, fun s v => .of_eq rfl, fun base _ _ => ?_⟩
  have D_is_number_below : Dg ⟨l.prog, w, K, mg, base⟩ false "is_number_below" 1 (SpO K 2 Φ_num) := ⟨_, _, ["thing", "bound"], h_is_number_below, F_is_number_below.kp, b_is_number_below, fn_ok (g := ⟨l.prog, w, K, mg, base⟩) (k := 0) F_is_number_below sc_is_number_below rfl (by decide) (cs_is_number_below m_isinstance m_int m_bool) wp_num⟩
  have D_is_pair_within : Dg ⟨l.prog, w, K, mg, base⟩ false "is_pair_within" 2 (SpO K 3 Φ_pair) := ⟨_, _, ["thing", "doors", "rests"], h_is_pair_within, F_is_pair_within.kp, b_is_pair_within, fn_ok (g := ⟨l.prog, w, K, mg, base⟩) (k := 1) F_is_pair_within sc_is_pair_within rfl (by decide) (cs_is_pair_within D_is_number_below (fun _ _ _ z => z.1) (by decide) (fun z => nomatch z) m_isinstance m_tuple m_len) wp_pair⟩
  have D_has_rows : Dg ⟨l.prog, w, K, mg, base⟩ false "has_rows" 3 (SpO K 1 Φ_rows) := ⟨_, _, ["thing"], h_has_rows, F_has_rows.kp, b_has_rows, fn_ok (g := ⟨l.prog, w, K, mg, base⟩) (k := 2) F_has_rows sc_has_rows rfl (by decide) (cs_has_rows D_is_pair_within (fun _ _ _ z => z.1) (by decide) (fun z => nomatch z) m_isinstance m_tuple m_all m_len m_any) wp_rows⟩
  have D_first_fault : Dg ⟨l.prog, w, K, mg, base⟩ false "first_fault" 1 (SpO K 1 Φ_first) := ⟨_, _, ["rows"], h_first_fault, F_first_fault.kp, b_first_fault, fn_ok (g := ⟨l.prog, w, K, mg, base⟩) (k := 0) F_first_fault sc_first_fault rfl (by decide) (cs_first_fault m_enumerate m_tuple) wp_first⟩
  have D_is_kind : Dg ⟨l.prog, w, K, mg, base⟩ false "is_kind" 4 (SpO K 1 Φ_isk) := ⟨_, _, ["thing"], h_is_kind, F_is_kind.kp, b_is_kind, fn_ok (g := ⟨l.prog, w, K, mg, base⟩) (k := 3) F_is_kind sc_is_kind rfl (by decide) (cs_is_kind D_has_rows (fun _ _ _ z => z.1) (by decide) (fun z => nomatch z) D_first_fault (fun _ _ _ z => z.1) (by decide) (fun z => nomatch z)) wp_isk⟩
  have D_doors_of : Dg ⟨l.prog, w, K, mg, base⟩ false "doors_of" 1 (SpO K 1 Φ_dof) := ⟨_, _, ["kind"], h_doors_of, F_doors_of.kp, b_doors_of, fn_ok (g := ⟨l.prog, w, K, mg, base⟩) (k := 0) F_doors_of sc_doors_of rfl (by decide) (cs_doors_of m_len u_FIRST_REST) wp_dof⟩
  have D_rests_of : Dg ⟨l.prog, w, K, mg, base⟩ false "rests_of" 1 (SpO K 1 Φ_rof) := ⟨_, _, ["kind"], h_rests_of, F_rests_of.kp, b_rests_of, fn_ok (g := ⟨l.prog, w, K, mg, base⟩) (k := 0) F_rests_of sc_rests_of rfl (by decide) (cs_rests_of m_len) wp_rof⟩
  have D_gone : Dg ⟨l.prog, w, K, mg, base⟩ false "gone" 1 (SpO K 3 Φ_gone) := ⟨_, _, ["kind", "rest", "door"], h_gone, F_gone.kp, b_gone, fn_ok (g := ⟨l.prog, w, K, mg, base⟩) (k := 0) F_gone sc_gone rfl (by decide) (cs_gone ) wp_gone⟩
  have D_renamed : Dg ⟨l.prog, w, K, mg, base⟩ false "renamed" 2 (SpO K 3 Φ_ren) := ⟨_, _, ["kind", "doors", "rests"], h_renamed, F_renamed.kp, b_renamed, fn_ok (g := ⟨l.prog, w, K, mg, base⟩) (k := 1) F_renamed sc_renamed rfl (by decide) (cs_renamed D_rests_of (fun _ _ _ z => z.1) (by decide) (fun z => nomatch z) D_doors_of (fun _ _ _ z => z.1) (by decide) (fun z => nomatch z) m_enumerate m_range m_tuple) wp_ren⟩
  have D__law_box : Dg ⟨l.prog, w, K, mg, base⟩ false "_law_box" 1 (SpO K 2 Φ_box) := ⟨_, _, ["_law_script", "_law_k"], h__law_box, F__law_box.kp, b__law_box, fn_ok (g := ⟨l.prog, w, K, mg, base⟩) (k := 0) F__law_box sc_law_box rfl (by decide) (cs_law_box m_len m_abs m_int) wp_box⟩
  have D_bot : Dg ⟨l.prog, w, K, mg, base⟩ false "_law_take" 0 (SpO K 2 aBot) := ⟨_, _, ["_law_box_here", "_law_size"], h__law_take, F__law_take.kp, b__law_take, fnok_bot⟩
  have D__law_take : Dg ⟨l.prog, w, K, mg, base⟩ false "_law_take" 1 (SpO K 2 Φ_take) := ⟨_, _, ["_law_box_here", "_law_size"], h__law_take, F__law_take.kp, b__law_take, fn_ok (g := ⟨l.prog, w, K, mg, base⟩) (k := 0) F__law_take sc_law_take rfl (by decide) (cs_law_take D_bot (fun _ _ _ z => z.elim) (by decide) (fun z => nomatch z) m_divmod) wp_take⟩
  have D__law_folded : Dg ⟨l.prog, w, K, mg, base⟩ false "_law_folded" 1 (SpO K 2 Φ_folded) := ⟨_, _, ["_law_script", "_law_size"], h__law_folded, F__law_folded.kp, b__law_folded, fn_ok (g := ⟨l.prog, w, K, mg, base⟩) (k := 0) F__law_folded sc_law_folded rfl (by decide) (cs_law_folded m_list m_enumerate) wp_folded⟩
  have D_bot : Dg ⟨l.prog, w, K, mg, base⟩ false "_law_same" 0 (SpO K 2 aBot) := ⟨_, _, ["_law_found", "_law_due"], h__law_same, F__law_same.kp, b__law_same, fnok_bot⟩
  have R__law_same : ∀ n : Nat, Dg ⟨l.prog, w, K, mg, base⟩ false "_law_same" (0 + n + 1) (SpO K 2 (Φ_same n)) := fun n => by
    induction n with
    | zero => exact ⟨_, _, ["_law_found", "_law_due"], h__law_same, F__law_same.kp, b__law_same, fn_ok (g := ⟨l.prog, w, K, mg, base⟩) (k := 0) F__law_same sc_law_same rfl (by decide) (cs_law_same D_bot (fun _ _ _ z => z.elim) (by decide) (fun z => nomatch z) m_isinstance m_list m_tuple m_len m_zip m_all m_str m_int m_bool) wp_same0⟩
    | succ n ih => exact ⟨_, _, ["_law_found", "_law_due"], h__law_same, F__law_same.kp, b__law_same, fn_ok (g := ⟨l.prog, w, K, mg, base⟩) (k := (0 + n + 1)) F__law_same sc_law_same rfl (by decide) (cs_law_same ih (fun _ _ _ z => z.1) (Nat.le_refl _) (fun z => nomatch z) m_isinstance m_list m_tuple m_len m_zip m_all m_str m_int m_bool) (wp_same n)⟩
  have D__law_same := R__law_same 5
  have D_bot : Dg ⟨l.prog, w, K, mg, base⟩ false "_law_lists" 0 (SpO K 1 aBot) := ⟨_, _, ["_law_thing"], h__law_lists, F__law_lists.kp, b__law_lists, fnok_bot⟩
  have R__law_lists : ∀ n : Nat, Dg ⟨l.prog, w, K, mg, base⟩ false "_law_lists" (0 + n + 1) (SpO K 1 (Φ_lists n)) := fun n => by
    induction n with
    | zero => exact ⟨_, _, ["_law_thing"], h__law_lists, F__law_lists.kp, b__law_lists, fn_ok (g := ⟨l.prog, w, K, mg, base⟩) (k := 0) F__law_lists sc_law_lists rfl (by decide) (cs_law_lists D_bot (fun _ _ _ z => z.elim) (by decide) (fun z => nomatch z) m_isinstance m_list m_tuple) wp_lists0⟩
    | succ n ih => exact ⟨_, _, ["_law_thing"], h__law_lists, F__law_lists.kp, b__law_lists, fn_ok (g := ⟨l.prog, w, K, mg, base⟩) (k := (0 + n + 1)) F__law_lists sc_law_lists rfl (by decide) (cs_law_lists ih (fun _ _ _ z => z.1) (Nat.le_refl _) (fun z => nomatch z) m_isinstance m_list m_tuple) (wp_lists n)⟩
  have D__law_lists := R__law_lists 4
  have D__law_kind : Dg ⟨l.prog, w, K, mg, base⟩ false "_law_kind" 2 (SpO K 3 Φ_kind) := ⟨_, _, ["_law_box_here", "_law_doors", "_law_rests"], h__law_kind, F__law_kind.kp, b__law_kind, fn_ok (g := ⟨l.prog, w, K, mg, base⟩) (k := 1) F__law_kind sc_law_kind rfl (by decide) (cs_law_kind D__law_take (fun _ _ _ z => z.1) (by decide) (fun z => nomatch z) m_range m_len m_tuple) wp_kind⟩
  have D__law_below : Dg ⟨l.prog, w, K, mg, base⟩ false "_law_below" 1 (SpO K 2 Φ_below) := ⟨_, _, ["_law_thing", "_law_bound"], h__law_below, F__law_below.kp, b__law_below, fn_ok (g := ⟨l.prog, w, K, mg, base⟩) (k := 0) F__law_below sc_law_below rfl (by decide) (cs_law_below m_isinstance m_int m_bool) wp_below⟩
  have D__law_has_rows : Dg ⟨l.prog, w, K, mg, base⟩ false "_law_has_rows" 2 (SpO K 1 Φ_lrows) := ⟨_, _, ["_law_thing"], h__law_has_rows, F__law_has_rows.kp, b__law_has_rows, fn_ok (g := ⟨l.prog, w, K, mg, base⟩) (k := 1) F__law_has_rows sc_law_has_rows rfl (by decide) (cs_law_has_rows D__law_below (fun _ _ _ z => z.1) (by decide) (fun z => nomatch z) m_isinstance m_tuple m_all m_len m_any) wp_lrows⟩
  have D__law_fault : Dg ⟨l.prog, w, K, mg, base⟩ false "_law_fault" 1 (SpO K 1 Φ_first) := ⟨_, _, ["_law_rows"], h__law_fault, F__law_fault.kp, b__law_fault, fn_ok (g := ⟨l.prog, w, K, mg, base⟩) (k := 0) F__law_fault sc_law_fault rfl (by decide) (cs_law_fault m_enumerate m_tuple) wp_fault⟩
  have D__law_is_kind : Dg ⟨l.prog, w, K, mg, base⟩ false "_law_is_kind" 3 (SpO K 1 Φ_lisk) := ⟨_, _, ["_law_thing"], h__law_is_kind, F__law_is_kind.kp, b__law_is_kind, fn_ok (g := ⟨l.prog, w, K, mg, base⟩) (k := 2) F__law_is_kind sc_law_is_kind rfl (by decide) (cs_law_is_kind D__law_has_rows (fun _ _ _ z => z.1) (by decide) (fun z => nomatch z) D__law_fault (fun _ _ _ z => z.1) (by decide) (fun z => nomatch z)) wp_lisk⟩
  have D__law_gone_row : Dg ⟨l.prog, w, K, mg, base⟩ false "_law_gone_row" 1 (SpO K 3 Φ_sent) := ⟨_, _, ["_law_kind_here", "_law_rest", "_law_row"], h__law_gone_row, F__law_gone_row.kp, b__law_gone_row, fn_ok (g := ⟨l.prog, w, K, mg, base⟩) (k := 0) F__law_gone_row sc_law_gone_row rfl (by decide) (cs_law_gone_row ) wp_grow⟩
  have D__law_some_row : Dg ⟨l.prog, w, K, mg, base⟩ false "_law_some_row" 2 (SpO K 3 Φ_srow) := ⟨_, _, ["_law_box_here", "_law_doors", "_law_most"], h__law_some_row, F__law_some_row.kp, b__law_some_row, fn_ok (g := ⟨l.prog, w, K, mg, base⟩) (k := 1) F__law_some_row sc_law_some_row rfl (by decide) (cs_law_some_row D__law_take (fun _ _ _ z => z.1) (by decide) (fun z => nomatch z) m_range) wp_srow⟩
  have D__law_order : Dg ⟨l.prog, w, K, mg, base⟩ false "_law_order" 2 (SpO K 2 Φ_orderT) := ⟨_, _, ["_law_box_here", "_law_many"], h__law_order, F__law_order.kp, b__law_order, fn_ok (g := ⟨l.prog, w, K, mg, base⟩) (k := 1) F__law_order sc_law_order rfl (by decide) (cs_law_order D__law_take (fun _ _ _ z => z.1) (by decide) (fun z => nomatch z) m_list m_range m_len m_tuple) wp_orderT⟩
  have D__law_turned_chain : Dg ⟨l.prog, w, K, mg, base⟩ false "_law_turned_chain" 1 (SpO K 1 Φ_turned) := ⟨_, _, ["_law_rows"], h__law_turned_chain, F__law_turned_chain.kp, b__law_turned_chain, fn_ok (g := ⟨l.prog, w, K, mg, base⟩) (k := 0) F__law_turned_chain sc_law_turned_chain rfl (by decide) (cs_law_turned_chain m_len m_tuple) wp_turned⟩
  have D__law_chain : Dg ⟨l.prog, w, K, mg, base⟩ false "_law_chain" 2 (SpO K 2 Φ_chain) := ⟨_, _, ["_law_many", "_law_back"], h__law_chain, F__law_chain.kp, b__law_chain, fn_ok (g := ⟨l.prog, w, K, mg, base⟩) (k := 1) F__law_chain sc_law_chain rfl (by decide) (cs_law_chain D__law_turned_chain (fun _ _ _ z => z.1) (by decide) (fun z => nomatch z) m_range m_tuple) wp_chain⟩
  have D__law_doubled : Dg ⟨l.prog, w, K, mg, base⟩ false "_law_doubled" 1 (SpO K 1 Φ_doubled) := ⟨_, _, ["_law_kind_here"], h__law_doubled, F__law_doubled.kp, b__law_doubled, fn_ok (g := ⟨l.prog, w, K, mg, base⟩) (k := 0) F__law_doubled sc_law_doubled rfl (by decide) (cs_law_doubled m_len m_range m_tuple) wp_doubled⟩
  have D__law_any_kind : Dg ⟨l.prog, w, K, mg, base⟩ false "_law_any_kind" 3 (SpO K 1 Φ_any) := ⟨_, _, ["_law_box_here"], h__law_any_kind, F__law_any_kind.kp, b__law_any_kind, fn_ok (g := ⟨l.prog, w, K, mg, base⟩) (k := 2) F__law_any_kind sc_law_any_kind rfl (by decide) (cs_law_any_kind D__law_take (fun _ _ _ z => z.1) (by decide) (fun z => nomatch z) D__law_kind (fun _ _ _ z => z.1) (by decide) (fun z => nomatch z) D__law_chain (fun _ _ _ z => z.1) (by decide) (fun z => nomatch z) D__law_doubled (fun _ _ _ z => z.1) (by decide) (fun z => nomatch z)) wp_any⟩
  have D__law_about : Dg ⟨l.prog, w, K, mg, base⟩ false "_law_about" 1 (SpO K 1 Φ_about) := ⟨_, _, ["_law_order_here"], h__law_about, F__law_about.kp, b__law_about, fn_ok (g := ⟨l.prog, w, K, mg, base⟩) (k := 0) F__law_about sc_law_about rfl (by decide) (cs_law_about m_len m_enumerate m_tuple) wp_about⟩
  have D__law_right : Dg ⟨l.prog, w, K, mg, base⟩ true "_law_right" 7 (SpO K 1 Φ_right) := ⟨_, _, ["_law_box_here"], h__law_right, F__law_right.kp, b__law_right, fnG_of (g := ⟨l.prog, w, K, mg, base⟩) (k := 6) F__law_right sc_law_right rfl (by decide) (cs_law_right rfl D__law_any_kind (fun _ _ _ z => z.1) (by decide) (fun _ => rfl) D__law_order (fun _ _ _ z => z.1) (by decide) (fun _ => rfl) D_renamed (fun _ _ _ z => z.1) (by decide) (fun _ => rfl) D__law_is_kind (fun _ _ _ z => z.1) (by decide) (fun _ => rfl) D_is_kind (fun _ _ _ z => z.1) (by decide) (fun _ => rfl) D__law_lists (fun _ _ _ z => z.1) (by decide) (fun _ => rfl) D__law_about (fun _ _ _ z => z.1) (by decide) (fun _ => rfl) D__law_same (fun _ _ _ z => z.1) (by decide) (fun _ => rfl) D__law_some_row (fun _ _ _ z => z.1) (by decide) (fun _ => rfl) D__law_take (fun _ _ _ z => z.1) (by decide) (fun _ => rfl) D__law_gone_row (fun _ _ _ z => z.1) (by decide) (fun _ => rfl) D_gone (fun _ _ _ z => z.1) (by decide) (fun _ => rfl) m_len m_repr m_enumerate m_list m_tuple m_zip) wp_right⟩
  exact fnG_of (g := ⟨l.prog, w, K, mg, base⟩) (k := 7) F_law sc_law rfl (by decide) (cs_law D__law_folded (fun _ _ _ z => z.1) (by decide) (fun _ => rfl) D__law_box (fun _ _ _ z => z.1) (by decide) (fun _ => rfl) D__law_right (fun _ _ _ z => z.1) (by decide) (fun _ => rfl) m_len m_max m_range m_all) wp_law
end Ev
open PySem PySem.W PyProof.Rows
set_option maxHeartbeats 0 in
theorem PySem.Challenge.cw_ballways_k04_whole_renamed_kinds_holds : PySem.Challenge.rw_ballways_k04_whole_renamed_kinds.Holds := by
  w_on; o_law; k_head; (case hw => w_witness2)
  k_fill
  refine Ev.walk_go (l := PySem.Challenge.rw_ballways_k04_whole_renamed_kinds) (n := 63) (k := 8) (x := "_law_script") rfl (by decide) rfl ⟨rfl, by decide, by decide⟩ (fun w h Y => PySem.W.kIn_of Y) ?F
  case F =>
    intro w mg fa h KX G hmg
    refine' Ev.all_mk KX G hmg ?a0 ?l0 ?c0 ?k0 ?a1 ?l1 ?c1 ?k1 ?a2 ?l2 ?c2 ?k2 ?a3 ?l3 ?c3 ?k3 ?a4 ?l4 ?c4 ?k4 ?a5 ?l5 ?c5 ?k5 ?a6 ?l6 ?c6 ?k6 ?a7 ?l7 ?c7 ?k7 ?a8 ?l8 ?c8 ?k8 ?a9 ?l9 ?c9 ?k9 ?a10 ?l10 ?c10 ?k10 ?a11 ?l11 ?c11 ?k11 ?a12 ?l12 ?c12 ?k12 ?a13 ?l13 ?c13 ?k13 ?a14 ?l14 ?c14 ?k14 ?a15 ?l15 ?c15 ?k15 ?a16 ?l16 ?c16 ?k16 ?a17 ?l17 ?c17 ?k17 ?a18 ?l18 ?c18 ?k18 ?a19 ?l19 ?c19 ?k19 ?a20 ?l20 ?c20 ?k20 ?a21 ?l21 ?c21 ?k21 ?a22 ?l22 ?c22 ?k22 ?a23 ?l23 ?c23 ?k23 ?a24 ?l24 ?c24 ?k24 ?a25 ?l25 ?c25 ?k25 ?a26 ?l26 ?c26 ?k26 ?a27 ?l27 ?c27 ?k27 ?a28 ?l28 ?c28 ?k28 ?z_isinstance ?z_int ?z_bool ?z_tuple ?z_len ?z_all ?z_any ?z_enumerate ?z_range ?z_abs ?z_divmod ?z_list ?z_zip ?z_str ?z_repr ?z_max ?z_FIRST_REST
    (case a0 => k_is)
    (case l0 => k_is)
    (case c0 => k_is)
    (case k0 => k_is)
    (case a1 => k_is)
    (case l1 => k_is)
    (case c1 => k_is)
    (case k1 => k_is)
    (case a2 => k_is)
    (case l2 => k_is)
    (case c2 => k_is)
    (case k2 => k_is)
    (case a3 => k_is)
    (case l3 => k_is)
    (case c3 => k_is)
    (case k3 => k_is)
    (case a4 => k_is)
    (case l4 => k_is)
    (case c4 => k_is)
    (case k4 => k_is)
    (case a5 => k_is)
    (case l5 => k_is)
    (case c5 => k_is)
    (case k5 => k_is)
    (case a6 => k_is)
    (case l6 => k_is)
    (case c6 => k_is)
    (case k6 => k_is)
    (case a7 => k_is)
    (case l7 => k_is)
    (case c7 => k_is)
    (case k7 => k_is)
    (case a8 => k_is)
    (case l8 => k_is)
    (case c8 => k_is)
    (case k8 => k_is)
    (case a9 => k_is)
    (case l9 => k_is)
    (case c9 => k_is)
    (case k9 => k_is)
    (case a10 => k_is)
    (case l10 => k_is)
    (case c10 => k_is)
    (case k10 => k_is)
    (case a11 => k_is)
    (case l11 => k_is)
    (case c11 => k_is)
    (case k11 => k_is)
    (case a12 => k_is)
    (case l12 => k_is)
    (case c12 => k_is)
    (case k12 => k_is)
    (case a13 => k_is)
    (case l13 => k_is)
    (case c13 => k_is)
    (case k13 => k_is)
    (case a14 => k_is)
    (case l14 => k_is)
    (case c14 => k_is)
    (case k14 => k_is)
    (case a15 => k_is)
    (case l15 => k_is)
    (case c15 => k_is)
    (case k15 => k_is)
    (case a16 => k_is)
    (case l16 => k_is)
    (case c16 => k_is)
    (case k16 => k_is)
    (case a17 => k_is)
    (case l17 => k_is)
    (case c17 => k_is)
    (case k17 => k_is)
    (case a18 => k_is)
    (case l18 => k_is)
    (case c18 => k_is)
    (case k18 => k_is)
    (case a19 => k_is)
    (case l19 => k_is)
    (case c19 => k_is)
    (case k19 => k_is)
    (case a20 => k_is)
    (case l20 => k_is)
    (case c20 => k_is)
    (case k20 => k_is)
    (case a21 => k_is)
    (case l21 => k_is)
    (case c21 => k_is)
    (case k21 => k_is)
    (case a22 => k_is)
    (case l22 => k_is)
    (case c22 => k_is)
    (case k22 => k_is)
    (case a23 => k_is)
    (case l23 => k_is)
    (case c23 => k_is)
    (case k23 => k_is)
    (case a24 => k_is)
    (case l24 => k_is)
    (case c24 => k_is)
    (case k24 => k_is)
    (case a25 => k_is)
    (case l25 => k_is)
    (case c25 => k_is)
    (case k25 => k_is)
    (case a26 => k_is)
    (case l26 => k_is)
    (case c26 => k_is)
    (case k26 => k_is)
    (case a27 => k_is)
    (case l27 => k_is)
    (case c27 => k_is)
    (case k27 => k_is)
    (case a28 => k_is)
    (case l28 => k_is)
    (case c28 => k_is)
    (case k28 => k_is)
    (case z_isinstance => k_is)
    (case z_int => k_is)
    (case z_bool => k_is)
    (case z_tuple => k_is)
    (case z_len => k_is)
    (case z_all => k_is)
    (case z_any => k_is)
    (case z_enumerate => k_is)
    (case z_range => k_is)
    (case z_abs => k_is)
    (case z_divmod => k_is)
    (case z_list => k_is)
    (case z_zip => k_is)
    (case z_str => k_is)
    (case z_repr => k_is)
    (case z_max => k_is)
    (case z_FIRST_REST => k_is)
