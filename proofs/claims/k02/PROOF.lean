import PyProof.Rows.All
import Wide.All
import OpenK.AllK
import Wide.FinOn
import HandS.ForMost
import HandS.ForExc
import HandS.IsInst
import HandS.Style
import HandS.Flow
import HandS.Wide
import HandS.WideBits
import HandS.TupAny
import HandS.RaiseMore
import HandS.Defaults
import HandS.Conv
import HandS.Text
import HandS.Codes
import HandS.Ends
import PySem.Challenge.RW_onefabric_k02_words_names_numbers
set_option Elab.async false
set_option linter.all false
set_option maxRecDepth 100000
/-! PM1: values, the store, outcomes; what they stand for in the abstract heap. -/
namespace PM
open PySem PySem.Spec PyProof.Rows L2

inductive D where
  | non | bl (b : Bool) | int (i : Int) | str (s : Str) | tup (l : List D) | ref (n : Nat)
instance : Inhabited D := ⟨.non⟩

inductive O where
  | lst (l : List D)
  | rol (l : List D)
  | dic (kvs : List (Key × D))
  | dit (kvs : List (List Key × D))
  | ins (c : Str) (fs : List (Str × D))
instance : Inhabited O := ⟨.lst []⟩

abbrev Mem := List O
abbrev Loc := List (Option D)

structure Exn where
  cls : Str
  fs : List (Str × D)

inductive Out where
  | ok (d : D) (μ : Mem) | ex (x : Exn) (μ : Mem) | bad
inductive Outs where
  | ok (ds : List D) (μ : Mem) | ex (x : Exn) (μ : Mem) | bad
inductive Fl where
  | nx (ρ : Loc) (μ : Mem) | rt (d : D) (μ : Mem) | bk (ρ : Loc) (μ : Mem) | ct (ρ : Loc) (μ : Mem) | ex (x : Exn) (ρ : Loc) (μ : Mem) | bad

abbrev CEnv := Nat → List D → Mem → Out
abbrev Ex := CEnv → Loc → Mem → Out
abbrev Exs := CEnv → Loc → Mem → Outs
abbrev Sm := CEnv → Loc → Mem → Fl

/-! ### what a datum stands for -/
section
variable (K : PySem.W.Frag) (H : Hp) (ι : List Addr)
mutual
def RepD : D → V → Prop
  | .non, v => v = .non
  | .bl b, v => v = .bl b
  | .int i, v => v = .int i
  | .str s, v => v = .str s
  | .tup l, v => ∃ a xs, v = .ref a ∧ SqT K H a xs ∧ RepL l xs
  | .ref n, v => ∃ a, v = .ref a ∧ ι[n]? = some a
def RepL : List D → List V → Prop
  | [], xs => xs = []
  | d :: ds, xs => ∃ y ys, xs = y :: ys ∧ RepD d y ∧ RepL ds ys
end
/-- a list that is only read -/
def RoL (K : PySem.W.Frag) (H : Hp) (a : Addr) (xs : List V) : Prop :=
  (∃ o, H a = some (.frz o (.lst xs))) ∨
    ∃ (o : Obj) (its : Array Value) (n : Nat), K.lookup a = some o ∧ o.cls = .type "list" ∧ o.dict = none ∧ o.data = .seq its n ∧ its.size ≤ sizeLine ∧ Vals xs its.toList
/-- a dict's pairs -/
def RepKV {κ : Type} : List (κ × D) → List (κ × V) → Prop
  | [], xs => xs = []
  | (k, d) :: r, xs => ∃ y ys, xs = (k, y) :: ys ∧ RepD K H ι d y ∧ RepKV r ys
/-- an object of the store -/
def RepO (mg : Str → Option Value) : O → Addr → Prop
  | .lst l, a => ∃ xs, H a = some (.lst xs) ∧ RepL K H ι l xs
  | .rol l, a => ∃ xs, RoL K H a xs ∧ RepL K H ι l xs
  | .dic kvs, a => ∃ xs, H a = some (.dK xs) ∧ RepKV K H ι kvs xs
  | .dit kvs, a => ∃ xs, H a = some (.dT xs) ∧ RepKV K H ι kvs xs
  | .ins c fs, a => ∃ C dx xs, H a = some (.ins C dx xs) ∧ mg c = some (.ref C) ∧ RepKV K H ι fs xs
def mutO : O → Bool
  | .rol _ => false
  | _ => true
structure RepM (mg : Str → Option Value) (μ : Mem) : Prop where
  len : ι.length = μ.length
  nd : ∀ (n m : Nat) (a : Addr) (o o' : O), μ[n]? = some o → μ[m]? = some o' → ι[n]? = some a → ι[m]? = some a → mutO o = true → mutO o' = true → n = m
  at_ : ∀ (n : Nat) (o : O) (a : Addr), μ[n]? = some o → ι[n]? = some a → RepO K H ι mg o a
structure RepS (ρ : Loc) (σ : L2.St) : Prop where
  len : σ.length = ρ.length
  at_ : ∀ (i : Nat) (d : D), ρ[i]? = some (some d) → ∃ v, σ[i]? = some (some v) ∧ RepD K H ι d v
end

/-- the heap has grown: tuples stand, the store's addresses stand -/
structure Ext (K : PySem.W.Frag) (H : Hp) (ι : List Addr) (H' : Hp) (ι' : List Addr) : Prop where
  pre : ι <+: ι'
  tup : ∀ a xs, SqT K H a xs → SqT K H' a xs
variable {K : PySem.W.Frag} {H H' H1 H2 : Hp} {ι ι' ι1 ι2 : List Addr} {mg : Str → Option Value}
theorem Ext.refl : Ext K H ι H ι := ⟨List.prefix_refl _, fun _ _ h => h⟩
theorem Ext.trans (a : Ext K H ι H1 ι1) (b : Ext K H1 ι1 H2 ι2) : Ext K H ι H2 ι2 := ⟨a.pre.trans b.pre, fun x y h => b.tup x y (a.tup x y h)⟩
theorem pre_get {α : Type} {l l' : List α} {n : Nat} {a : α} (p : l <+: l') (h : l[n]? = some a) : l'[n]? = some a := by
  obtain ⟨t, rfl⟩ := p
  rw [List.getElem?_append_left (List.getElem?_eq_some_iff.mp h).1]
  exact h
mutual
theorem RepD.mono (e : Ext K H ι H' ι') : ∀ {d : D} {v : V}, RepD K H ι d v → RepD K H' ι' d v
  | .non, v, h => by simpa [RepD] using h
  | .bl b, v, h => by simpa [RepD] using h
  | .int i, v, h => by simpa [RepD] using h
  | .str s, v, h => by simpa [RepD] using h
  | .tup l, v, h => by
    rw [RepD] at h ⊢
    obtain ⟨a, xs, h1, h2, h3⟩ := h
    exact ⟨a, xs, h1, e.tup _ _ h2, RepL.mono e h3⟩
  | .ref n, v, h => by
    rw [RepD] at h ⊢
    obtain ⟨a, h1, h2⟩ := h
    exact ⟨a, h1, pre_get e.pre h2⟩
theorem RepL.mono (e : Ext K H ι H' ι') : ∀ {l : List D} {xs : List V}, RepL K H ι l xs → RepL K H' ι' l xs
  | [], xs, h => by simpa [RepL] using h
  | d :: ds, xs, h => by
    rw [RepL] at h ⊢
    obtain ⟨y, ys, h1, h2, h3⟩ := h
    exact ⟨y, ys, h1, RepD.mono e h2, RepL.mono e h3⟩
end
theorem RepKV.mono {κ : Type} (e : Ext K H ι H' ι') : ∀ {l : List (κ × D)} {xs : List (κ × V)}, RepKV K H ι l xs → RepKV K H' ι' l xs
  | [], xs, h => by simpa [RepKV] using h
  | (k, d) :: r, xs, h => by
    rw [RepKV] at h ⊢
    obtain ⟨y, ys, h1, h2, h3⟩ := h
    exact ⟨y, ys, h1, h2.mono e, h3.mono e⟩
theorem RepS.mono {ρ : Loc} {σ : L2.St} (e : Ext K H ι H' ι') (h : RepS K H ι ρ σ) : RepS K H' ι' ρ σ :=
  ⟨h.len, fun i d hd => let ⟨v, h1, h2⟩ := h.at_ i d hd; ⟨v, h1, h2.mono e⟩⟩
theorem RepS.set {ρ : Loc} {σ : L2.St} {d : D} {v : V} (h : RepS K H ι ρ σ) (i : Nat) (r : RepD K H ι d v) : RepS K H ι (ρ.set i (some d)) (σ.set i (some v)) := by
  refine ⟨by rw [List.length_set, List.length_set]; exact h.len, fun j e he => ?_⟩
  by_cases hj : i = j
  · subst hj
    by_cases hl : i < ρ.length
    · rw [List.getElem?_set_self hl] at he
      cases he
      exact ⟨v, List.getElem?_set_self (by rw [h.len]; exact hl), r⟩
    · rw [List.getElem?_eq_none (by rw [List.length_set]; omega)] at he
      cases he
  · rw [List.getElem?_set_ne hj] at he ⊢
    exact h.at_ j e he
theorem RepL.length : ∀ {l : List D} {xs : List V}, RepL K H ι l xs → xs.length = l.length
  | [], xs, h => by rw [RepL] at h; rw [h]; rfl
  | d :: ds, xs, h => by
    rw [RepL] at h
    obtain ⟨y, ys, h1, h2, h3⟩ := h
    rw [h1, List.length_cons, List.length_cons, h3.length]
theorem RepL.get : ∀ {l : List D} {xs : List V} {i : Nat} {d : D}, RepL K H ι l xs → l[i]? = some d → ∃ v, xs[i]? = some v ∧ RepD K H ι d v
  | [], xs, i, d, h, e => by simp at e
  | d :: ds, xs, i, e, h, he => by
    rw [RepL] at h
    obtain ⟨y, ys, rfl, h2, h3⟩ := h
    cases i with
    | zero => simp at he; subst he; exact ⟨y, by simp, h2⟩
    | succ i =>
      obtain ⟨v, h4, h5⟩ := RepL.get (i := i) h3 (by simpa using he)
      exact ⟨v, by simpa using h4, h5⟩
theorem RepL.append : ∀ {l m : List D} {xs ys : List V}, RepL K H ι l xs → RepL K H ι m ys → RepL K H ι (l ++ m) (xs ++ ys)
  | [], m, xs, ys, h, h' => by rw [RepL] at h; subst h; exact h'
  | d :: ds, m, xs, ys, h, h' => by
    rw [RepL] at h
    obtain ⟨y, zs, rfl, h2, h3⟩ := h
    show RepL K H ι (d :: (ds ++ m)) (y :: (zs ++ ys))
    rw [RepL]
    exact ⟨y, zs ++ ys, rfl, h2, h3.append h'⟩
theorem RepL.one {d : D} {v : V} (h : RepD K H ι d v) : RepL K H ι [d] [v] := by
  rw [RepL]; exact ⟨v, [], rfl, h, by rw [RepL]⟩
theorem RepL.nil : RepL K H ι [] [] := by rw [RepL]
theorem RepL.cons {d : D} {ds : List D} {v : V} {vs : List V} (h : RepD K H ι d v) (h' : RepL K H ι ds vs) : RepL K H ι (d :: ds) (v :: vs) := by
  rw [RepL]; exact ⟨v, vs, rfl, h, h'⟩
theorem RepL.drop : ∀ {l : List D} {xs : List V} (n : Nat), RepL K H ι l xs → RepL K H ι (l.drop n) (xs.drop n)
  | l, xs, 0, h => by simpa using h
  | [], xs, n + 1, h => by rw [RepL] at h; subst h; simpa using RepL.nil
  | d :: ds, xs, n + 1, h => by
    rw [RepL] at h
    obtain ⟨y, ys, rfl, h2, h3⟩ := h
    simpa using h3.drop n
theorem RepL.take : ∀ {l : List D} {xs : List V} (n : Nat), RepL K H ι l xs → RepL K H ι (l.take n) (xs.take n)
  | l, xs, 0, h => by simpa using RepL.nil
  | [], xs, n + 1, h => by rw [RepL] at h; subst h; simpa using RepL.nil
  | d :: ds, xs, n + 1, h => by
    rw [RepL] at h
    obtain ⟨y, ys, rfl, h2, h3⟩ := h
    simpa using RepL.cons h2 (h3.take n)
theorem RepL.set {d : D} {v : V} (r : RepD K H ι d v) : ∀ {l : List D} {xs : List V} (n : Nat), RepL K H ι l xs → RepL K H ι (l.set n d) (xs.set n v)
  | [], xs, n, h => by rw [RepL] at h; subst h; simpa using RepL.nil
  | e :: ds, xs, 0, h => by
    rw [RepL] at h
    obtain ⟨y, ys, rfl, h2, h3⟩ := h
    simpa using RepL.cons r h3
  | e :: ds, xs, n + 1, h => by
    rw [RepL] at h
    obtain ⟨y, ys, rfl, h2, h3⟩ := h
    simpa using RepL.cons h2 (h3.set r n)
theorem RepL.reverse : ∀ {l : List D} {xs : List V}, RepL K H ι l xs → RepL K H ι l.reverse xs.reverse
  | [], xs, h => by rw [RepL] at h; subst h; simpa using RepL.nil
  | d :: ds, xs, h => by
    rw [RepL] at h
    obtain ⟨y, ys, rfl, h2, h3⟩ := h
    simpa using h3.reverse.append (RepL.one h2)
theorem RepL.ints : ∀ (ns : List Int), RepL K H ι (ns.map D.int) (ns.map V.int)
  | [] => RepL.nil
  | n :: ns => RepL.cons (by rw [RepD]) (RepL.ints ns)

/-! ### the heap's steps -/
/-- tuples stand where a list is written, or something new is laid -/
theorem tups_upd {p : Addr} {o : HO} (h : ∀ xs, H p ≠ some (.tup xs)) (h' : ∀ ob u, H p ≠ some (.frz ob u)) : ∀ a xs, SqT K H a xs → SqT K (upd H p o) a xs := by
  intro a xs hs
  rcases hs with (hs | ⟨ob, hs⟩) | hs
  · refine .inl (.inl ?_)
    rw [upd_ne]
    · exact hs
    · intro e; subst e; exact h xs hs
  · refine .inl (.inr ⟨ob, ?_⟩)
    rw [upd_ne]
    · exact hs
    · intro e; subst e; exact h' _ _ hs
  · exact .inr hs
theorem tups_new {p : Addr} {o : HO} (h : H p = none) : ∀ a xs, SqT K H a xs → SqT K (upd H p o) a xs :=
  tups_upd (fun xs e => by rw [h] at e; cases e) (fun _ _ e => by rw [h] at e; cases e)
theorem RoL.seq {a : Addr} {xs : List V} (h : RoL K H a xs) : SqL K H a xs := h.elim (fun ⟨o, e⟩ => .inl (.inr ⟨o, e⟩)) .inr
theorem RoL.upd {a p : Addr} {u : HO} {xs : List V} (h : RoL K H a xs) (hp : ∀ ob v, H p ≠ some (.frz ob v)) : RoL K (upd H p u) a xs := h.elim (fun ⟨o, e⟩ => .inl ⟨o, by
  rw [upd_ne]
  · exact e
  · intro z; subst z; exact hp _ _ e⟩) .inr
theorem RoL.new {a p : Addr} {u : HO} {xs : List V} (h : RoL K H a xs) (hp : H p = none) : RoL K (L2.upd H p u) a xs := h.upd fun _ _ e => by rw [hp] at e; cases e
theorem ext_new {p : Addr} {o : HO} (h : H p = none) : Ext K H ι (upd H p o) ι := ⟨List.prefix_refl _, tups_new h⟩
/-- the store stands behind something new -/
theorem RepO.new {p : Addr} {u : HO} (hp : H p = none) : ∀ {o : O} {a : Addr}, RepO K H ι mg o a → RepO K (upd H p u) ι mg o a
  | .lst l, a, ⟨xs, h, r⟩ => ⟨xs, by rw [upd_ne (ne_of_none h hp)]; exact h, r.mono (ext_new hp)⟩
  | .rol l, a, ⟨xs, h, r⟩ => ⟨xs, h.new hp, r.mono (ext_new hp)⟩
  | .dic l, a, ⟨xs, h, r⟩ => ⟨xs, by rw [upd_ne (ne_of_none h hp)]; exact h, r.mono (ext_new hp)⟩
  | .dit l, a, ⟨xs, h, r⟩ => ⟨xs, by rw [upd_ne (ne_of_none h hp)]; exact h, r.mono (ext_new hp)⟩
  | .ins c fs, a, ⟨C, dx, xs, h, g, r⟩ => ⟨C, dx, xs, by rw [upd_ne (ne_of_none h hp)]; exact h, g, r.mono (ext_new hp)⟩
theorem RepM.new {μ : Mem} {p : Addr} {u : HO} (hp : H p = none) (h : RepM K H ι mg μ) : RepM K (upd H p u) ι mg μ :=
  ⟨h.len, h.nd, fun n o a h1 h2 => (h.at_ n o a h1 h2).new hp⟩
/-- objects of the store, with more addresses -/
theorem RepO.more {ιb : List Addr} : ∀ {o : O} {a : Addr}, RepO K H ι mg o a → RepO K H (ι ++ ιb) mg o a := by
  have e : Ext K H ι H (ι ++ ιb) := ⟨⟨ιb, rfl⟩, fun _ _ h => h⟩
  intro o a h
  cases o with
  | lst l => obtain ⟨xs, h, r⟩ := h; exact ⟨xs, h, r.mono e⟩
  | rol l => obtain ⟨xs, h, r⟩ := h; exact ⟨xs, h, r.mono e⟩
  | dic l => obtain ⟨xs, h, r⟩ := h; exact ⟨xs, h, r.mono e⟩
  | dit l => obtain ⟨xs, h, r⟩ := h; exact ⟨xs, h, r.mono e⟩
  | ins c fs => obtain ⟨C, dx, xs, h, g, r⟩ := h; exact ⟨C, dx, xs, h, g, r.mono e⟩
/-- an address of a mutable object is tracked -/
theorem RepO.trk {o : O} {a : Addr} (h : RepO K H ι mg o a) (hk : mutO o = true) : ∃ u, H a = some u ∧ (∀ xs, u ≠ .tup xs) ∧ ∀ ob v, u ≠ .frz ob v := by
  cases o with
  | lst l => obtain ⟨xs, h, r⟩ := h; exact ⟨_, h, (fun _ e => by cases e), (fun _ _ e => by cases e)⟩
  | rol l => cases hk
  | dic l => obtain ⟨xs, h, r⟩ := h; exact ⟨_, h, (fun _ e => by cases e), (fun _ _ e => by cases e)⟩
  | dit l => obtain ⟨xs, h, r⟩ := h; exact ⟨_, h, (fun _ e => by cases e), (fun _ _ e => by cases e)⟩
  | ins c fs => obtain ⟨C, dx, xs, h, g, r⟩ := h; exact ⟨_, h, (fun _ e => by cases e), (fun _ _ e => by cases e)⟩
/-- a new object of the store -/
theorem RepM.alloc {μ : Mem} {p : Addr} {u : HO} {o : O} (hp : H p = none) (h : RepM K H ι mg μ) (ho : RepO K (upd H p u) (ι ++ [p]) mg o p) : RepM K (upd H p u) (ι ++ [p]) mg (μ ++ [o]) := by
  have hn := h.new (u := u) hp
  refine ⟨by rw [List.length_append, List.length_append, h.len]; rfl, fun n m a x y h1 h2 h3 h4 mx my => ?_, fun n x a h1 h2 => ?_⟩
  · have key : ∀ {n : Nat} {x : O} {a : Addr}, (μ ++ [o])[n]? = some x → (ι ++ [p])[n]? = some a → mutO x = true → (n < μ.length ∧ μ[n]? = some x ∧ ι[n]? = some a ∧ a ≠ p) ∨ (n = μ.length ∧ a = p) := fun {n x a} e1 e2 mx => by
      by_cases hl : n < μ.length
      · rw [List.getElem?_append_left hl] at e1
        rw [List.getElem?_append_left (by rw [h.len]; exact hl)] at e2
        obtain ⟨v, hv, _⟩ := (h.at_ n x a e1 e2).trk mx
        exact .inl ⟨hl, e1, e2, ne_of_none hv hp⟩
      · by_cases he : n = μ.length
        · subst he
          rw [List.getElem?_append_right (by rw [h.len]; exact Nat.le_refl _), h.len, Nat.sub_self] at e2
          simp at e2
          exact .inr ⟨rfl, e2.symm⟩
        · rw [List.getElem?_append_right (by omega), List.getElem?_eq_none (by simp; omega)] at e1
          cases e1
    rcases key h1 h3 mx with ⟨l1, a1, b1, c1⟩ | ⟨l1, c1⟩
    · rcases key h2 h4 my with ⟨l2, a2, b2, c2⟩ | ⟨l2, c2⟩
      · exact h.nd n m a x y a1 a2 b1 b2 mx my
      · exact absurd c2 c1
    · rcases key h2 h4 my with ⟨l2, a2, b2, c2⟩ | ⟨l2, c2⟩
      · exact absurd c1 c2
      · rw [l1, l2]
  · by_cases hl : n < μ.length
    · rw [List.getElem?_append_left hl] at h1
      rw [List.getElem?_append_left (by rw [h.len]; exact hl)] at h2
      exact (hn.at_ n x a h1 h2).more
    · by_cases he : n = μ.length
      · subst he
        rw [List.getElem?_append_right (by rw [h.len]; exact Nat.le_refl _), h.len, Nat.sub_self] at h2
        rw [List.getElem?_append_right (Nat.le_refl _), Nat.sub_self] at h1
        simp at h1 h2
        subst h1; subst h2
        exact ho
      · rw [List.getElem?_append_right (by omega), List.getElem?_eq_none (by simp; omega)] at h1
        cases h1
theorem ext_alloc {p : Addr} {u : HO} (hp : H p = none) : Ext K H ι (upd H p u) (ι ++ [p]) := ⟨⟨[p], rfl⟩, tups_new hp⟩
/-- an object of the store is written -/
theorem RepM.write {μ : Mem} {n : Nat} {p : Addr} {u : HO} {o o' : O} (h : RepM K H ι mg μ) (hn : μ[n]? = some o) (hp : ι[n]? = some p) (mo : mutO o = true) (mo' : mutO o' = true) (ho : RepO K (upd H p u) ι mg o' p) :
    RepM K (upd H p u) ι mg (μ.set n o') ∧ Ext K H ι (upd H p u) ι := by
  obtain ⟨v, hv, nt, nf⟩ := (h.at_ n o p hn hp).trk mo
  have nT : ∀ xs, H p ≠ some (.tup xs) := fun xs e => by rw [hv] at e; cases e; exact nt _ rfl
  have nF : ∀ ob w, H p ≠ some (.frz ob w) := fun ob w e => by rw [hv] at e; cases e; exact nf _ _ rfl
  have ex : Ext K H ι (upd H p u) ι := ⟨List.prefix_refl _, tups_upd nT nF⟩
  refine ⟨⟨by rw [List.length_set]; exact h.len, fun i j a x y h1 h2 h3 h4 mx my => ?_, fun i x a h1 h2 => ?_⟩, ex⟩
  · have key : ∀ {i : Nat} {x : O}, (μ.set n o')[i]? = some x → mutO x = true → ∃ y, μ[i]? = some y ∧ mutO y = true := fun {i x} e mx => by
      by_cases hi : n = i
      · subst hi; exact ⟨o, hn, mo⟩
      · rw [List.getElem?_set_ne hi] at e; exact ⟨x, e, mx⟩
    obtain ⟨x', e1, m1⟩ := key h1 mx
    obtain ⟨y', e2, m2⟩ := key h2 my
    exact h.nd i j a x' y' e1 e2 h3 h4 m1 m2
  · by_cases hi : n = i
    · subst hi
      rw [hp] at h2; cases h2
      rw [List.getElem?_set_self (List.getElem?_eq_some_iff.mp hn).1] at h1
      cases h1
      exact ho
    · rw [List.getElem?_set_ne hi] at h1
      have r := h.at_ i x a h1 h2
      have na : mutO x = true → a ≠ p := fun mx e => by subst e; exact hi (h.nd n i a o x hn h1 hp h2 mo mx)
      cases x with
      | lst l => obtain ⟨xs, e, r⟩ := r; exact ⟨xs, by rw [upd_ne (na rfl)]; exact e, r.mono ex⟩
      | rol l => obtain ⟨xs, e, r⟩ := r; exact ⟨xs, e.upd nF, r.mono ex⟩
      | dic l => obtain ⟨xs, e, r⟩ := r; exact ⟨xs, by rw [upd_ne (na rfl)]; exact e, r.mono ex⟩
      | dit l => obtain ⟨xs, e, r⟩ := r; exact ⟨xs, by rw [upd_ne (na rfl)]; exact e, r.mono ex⟩
      | ins c fs => obtain ⟨C, dx, xs, e, g, r⟩ := r; exact ⟨C, dx, xs, by rw [upd_ne (na rfl)]; exact e, g, r.mono ex⟩
end PM
set_option Elab.async false
set_option linter.all false
set_option maxRecDepth 100000
set_option maxHeartbeats 1000000
/-! PM2: what an outcome promises; values of expressions. -/
namespace PM
open PySem PySem.Spec PyProof.Rows L2

/-! ### outcomes -/
def Out.bind (o : Out) (f : D → Mem → Out) : Out := match o with
  | .ok d μ => f d μ
  | .ex x μ => .ex x μ
  | .bad => .bad
def Outs.bind (o : Outs) (f : List D → Mem → Out) : Out := match o with
  | .ok d μ => f d μ
  | .ex x μ => .ex x μ
  | .bad => .bad
def Out.cons (o : Out) (f : Mem → Outs) : Outs := match o with
  | .ok d μ => (match f μ with
    | .ok ds μ' => .ok (d :: ds) μ'
    | .ex x μ => .ex x μ
    | .bad => .bad)
  | .ex x μ => .ex x μ
  | .bad => .bad
@[simp] theorem Out.bind_ok {d : D} {μ : Mem} {f : D → Mem → Out} : (Out.ok d μ).bind f = f d μ := rfl
@[simp] theorem Out.bind_ex {x : Exn} {μ : Mem} {f : D → Mem → Out} : (Out.ex x μ).bind f = .ex x μ := rfl
@[simp] theorem Out.bind_bad {f : D → Mem → Out} : Out.bad.bind f = .bad := rfl
@[simp] theorem Outs.bind_ok {d : List D} {μ : Mem} {f : List D → Mem → Out} : (Outs.ok d μ).bind f = f d μ := rfl

/-- an error as it lies -/
def XRep (K : PySem.W.Frag) (mg : Str → Option Value) (H : Hp) (ι : List Addr) (x : Exn) (cls : Value) (d : Option Addr) : Prop :=
  ∃ C dd xs, mg x.cls = some (.ref C) ∧ cls = .ref C ∧ d = some dd ∧ H dd = some (.xd xs) ∧ RepKV K H ι x.fs xs

section
variable (K : PySem.W.Frag) (mg : Str → Option Value) (W : WX) (σ : L2.St) (H : Hp) (ι : List Addr)
def PostX (x : Exn) (μ : Mem) : Prop := ∀ cls d H' ι', Ext K H ι H' ι' → RepM K H' ι' mg μ → XRep K mg H' ι' x cls d → W cls d σ H'
def PostV (d : D) (μ : Mem) (Q : VK) : Prop := ∀ v H' ι', Ext K H ι H' ι' → RepM K H' ι' mg μ → RepD K H' ι' d v → Q v H'
def PostE (o : Out) (Q : VK) : Prop := match o with
  | .ok d μ => PostV K mg H ι d μ Q
  | .ex x μ => PostX K mg W σ H ι x μ
  | .bad => False
def PostA (o : Outs) (Q : List V → Hp → Prop) : Prop := match o with
  | .ok ds μ => ∀ vs H' ι', Ext K H ι H' ι' → RepM K H' ι' mg μ → RepL K H' ι' ds vs → Q vs H'
  | .ex x μ => PostX K mg W σ H ι x μ
  | .bad => False
def PostT (o : Out) (Q : Bool → Hp → Prop) : Prop := match o with
  | .ok (.bl b) μ => ∀ H' ι', Ext K H ι H' ι' → RepM K H' ι' mg μ → Q b H'
  | .ok _ _ => False
  | .ex x μ => PostX K mg W σ H ι x μ
  | .bad => False
end
section
variable {K : PySem.W.Frag} {mg : Str → Option Value} {W : WX} {σ : L2.St} {H H1 : Hp} {ι ι1 : List Addr} {Q Q' : VK} {μ : Mem}
theorem PostX.ext {x : Exn} (e : Ext K H ι H1 ι1) (h : PostX K mg W σ H ι x μ) : PostX K mg W σ H1 ι1 x μ := fun cls d H' ι' e' rm rx => h cls d H' ι' (e.trans e') rm rx
theorem PostV.ext {d : D} (e : Ext K H ι H1 ι1) (h : PostV K mg H ι d μ Q) : PostV K mg H1 ι1 d μ Q := fun v H' ι' e' rm rx => h v H' ι' (e.trans e') rm rx
theorem PostE.ext {o : Out} (e : Ext K H ι H1 ι1) (h : PostE K mg W σ H ι o Q) : PostE K mg W σ H1 ι1 o Q := by
  cases o with
  | ok d μ => exact PostV.ext e h
  | ex x μ => exact PostX.ext e h
  | bad => exact h
theorem PostT.ext {o : Out} {Q : Bool → Hp → Prop} (e : Ext K H ι H1 ι1) (h : PostT K mg W σ H ι o Q) : PostT K mg W σ H1 ι1 o Q := by
  cases o with
  | ok d μ =>
    cases d with
    | bl b => exact fun H' ι' e' rm => h H' ι' (e.trans e') rm
    | _ => exact h
  | ex x μ => exact PostX.ext e h
  | bad => exact h
/-- one value after another -/
theorem PostE.bind {o : Out} {f : D → Mem → Out} (h : PostE K mg W σ H ι (o.bind f) Q) : PostE K mg W σ H ι o (fun v H1 => ∃ ι1 d μ1, o = .ok d μ1 ∧ Ext K H ι H1 ι1 ∧ RepM K H1 ι1 mg μ1 ∧ RepD K H1 ι1 d v ∧ PostE K mg W σ H1 ι1 (f d μ1) Q) := by
  cases o with
  | ok d μ => exact fun v H' ι' e rm rd => ⟨ι', d, μ, rfl, e, rm, rd, PostE.ext e h⟩
  | ex x μ => exact h
  | bad => exact h
theorem PostE.bindT {o : Out} {f : D → Mem → Out} {Q : Bool → Hp → Prop} (h : PostT K mg W σ H ι (o.bind f) Q) : PostE K mg W σ H ι o (fun v H1 => ∃ ι1 d μ1, o = .ok d μ1 ∧ Ext K H ι H1 ι1 ∧ RepM K H1 ι1 mg μ1 ∧ RepD K H1 ι1 d v ∧ PostT K mg W σ H1 ι1 (f d μ1) Q) := by
  cases o with
  | ok d μ => exact fun v H' ι' e rm rd => ⟨ι', d, μ, rfl, e, rm, rd, PostT.ext e h⟩
  | ex x μ => exact h
  | bad => exact h
theorem PostA.bind {o : Outs} {f : List D → Mem → Out} (h : PostE K mg W σ H ι (o.bind f) Q) : PostA K mg W σ H ι o (fun v H1 => ∃ ι1 d μ1, o = .ok d μ1 ∧ Ext K H ι H1 ι1 ∧ RepM K H1 ι1 mg μ1 ∧ RepL K H1 ι1 d v ∧ PostE K mg W σ H1 ι1 (f d μ1) Q) := by
  cases o with
  | ok d μ => exact fun v H' ι' e rm rd => ⟨ι', d, μ, rfl, e, rm, rd, PostE.ext e h⟩
  | ex x μ => exact h
  | bad => exact h
theorem PostE.cons {o : Out} {f : Mem → Outs} {Q : List V → Hp → Prop} (h : PostA K mg W σ H ι (o.cons f) Q) : PostE K mg W σ H ι o (fun v H1 => ∃ ι1 d μ1, o = .ok d μ1 ∧ Ext K H ι H1 ι1 ∧ RepM K H1 ι1 mg μ1 ∧ RepD K H1 ι1 d v ∧ PostA K mg W σ H1 ι1 (f μ1) (fun vs H2 => Q (v :: vs) H2)) := by
  cases o with
  | ok d μ =>
    refine fun v H' ι' e rm rd => ⟨ι', d, μ, rfl, e, rm, rd, ?_⟩
    have h' : PostA K mg W σ H ι (match f μ with
      | .ok ds μ' => .ok (d :: ds) μ'
      | .ex x μ => .ex x μ
      | .bad => .bad) Q := h
    cases q : f μ with
    | ok ds μ' =>
      rw [q] at h'
      exact fun vs H2 ι2 e2 rm2 rl => h' (v :: vs) H2 ι2 (e.trans e2) rm2 (RepL.cons (rd.mono e2) rl)
    | ex x μ' =>
      rw [q] at h'
      exact PostX.ext e h'
    | bad =>
      rw [q] at h'
      exact h'
  | ex x μ => exact h
  | bad => exact h
theorem PostE.done {d : D} {v : V} (h : PostE K mg W σ H ι (.ok d μ) Q) (rm : RepM K H ι mg μ) (rd : RepD K H ι d v) : Q v H := h v H ι .refl rm rd
end

section
variable {K : PySem.W.Frag} {mg : Str → Option Value} {W : WX} {σ : L2.St} {H H1 : Hp} {ι ι1 : List Addr} {μ : Mem}
theorem PostE.mono {o : Out} {Q Q' : VK} (h : PostE K mg W σ H ι o Q) (q : ∀ v H, Q v H → Q' v H) : PostE K mg W σ H ι o Q' := by
  cases o with
  | ok d μ => exact fun v H' ι' e r1 r2 => q _ _ (h v H' ι' e r1 r2)
  | ex x μ => exact h
  | bad => exact h
theorem PostA.mono {o : Outs} {Q Q' : List V → Hp → Prop} (h : PostA K mg W σ H ι o Q) (q : ∀ v H, Q v H → Q' v H) : PostA K mg W σ H ι o Q' := by
  cases o with
  | ok d μ => exact fun v H' ι' e r1 r2 => q _ _ (h v H' ι' e r1 r2)
  | ex x μ => exact h
  | bad => exact h
theorem PostT.mono {o : Out} {Q Q' : Bool → Hp → Prop} (h : PostT K mg W σ H ι o Q) (q : ∀ v H, Q v H → Q' v H) : PostT K mg W σ H ι o Q' := by
  cases o with
  | ok d μ =>
    cases d with
    | bl b => exact fun H' ι' e r1 => q _ _ (h H' ι' e r1)
    | _ => exact h
  | ex x μ => exact h
  | bad => exact h
end

/-! ### readings of mirrors -/
section
variable (K : PySem.W.Frag) (mg : Str → Option Value) (W : WX)
def tE (m : Loc → Mem → Out) : TE := fun σ H Q => ∃ ρ μ ι, RepS K H ι ρ σ ∧ RepM K H ι mg μ ∧ PostE K mg W σ H ι (m ρ μ) Q
def tA (m : Loc → Mem → Outs) : TA := fun σ H Q => ∃ ρ μ ι, RepS K H ι ρ σ ∧ RepM K H ι mg μ ∧ PostA K mg W σ H ι (m ρ μ) Q
def tT (m : Loc → Mem → Out) : TT := fun σ H Q => ∃ ρ μ ι, RepS K H ι ρ σ ∧ RepM K H ι mg μ ∧ PostT K mg W σ H ι (m ρ μ) Q
/-- an operation by values -/
def rD (f : D → D → Mem → Out) : R2 := fun x y H Q => ∃ ι μ d e, RepM K H ι mg μ ∧ RepD K H ι d x ∧ RepD K H ι e y ∧ PostE K mg (fun _ _ _ _ => False) [] H ι (f d e μ) Q
def rU1 (f : D → Mem → Out) : V → Hp → VK → Prop := fun x H Q => ∃ ι μ d, RepM K H ι mg μ ∧ RepD K H ι d x ∧ PostE K mg (fun _ _ _ _ => False) [] H ι (f d μ) Q
def rC (f : List D → Mem → Out) : List V → Hp → VK → Prop := fun xs H Q => ∃ ι μ ds, RepM K H ι mg μ ∧ RepL K H ι ds xs ∧ PostE K mg (fun _ _ _ _ => False) [] H ι (f ds μ) Q
def rM (f : D → List D → Mem → Out) : V → List V → Hp → VK → Prop := fun x xs H Q => ∃ ι μ d ds, RepM K H ι mg μ ∧ RepD K H ι d x ∧ RepL K H ι ds xs ∧ PostE K mg (fun _ _ _ _ => False) [] H ι (f d ds μ) Q
end
section
variable {K : PySem.W.Frag} {mg : Str → Option Value} {W : WX} {σ : L2.St} {H : Hp}
theorem tE.mono {m : Loc → Mem → Out} {Q Q' : VK} (h : tE K mg W m σ H Q) (q : ∀ v H, Q v H → Q' v H) : tE K mg W m σ H Q' := let ⟨ρ, μ, ι, rs, rm, h⟩ := h; ⟨ρ, μ, ι, rs, rm, h.mono q⟩
theorem tA.mono {m : Loc → Mem → Outs} {Q Q' : List V → Hp → Prop} (h : tA K mg W m σ H Q) (q : ∀ v H, Q v H → Q' v H) : tA K mg W m σ H Q' := let ⟨ρ, μ, ι, rs, rm, h⟩ := h; ⟨ρ, μ, ι, rs, rm, h.mono q⟩
theorem tT.mono {m : Loc → Mem → Out} {Q Q' : Bool → Hp → Prop} (h : tT K mg W m σ H Q) (q : ∀ v H, Q v H → Q' v H) : tT K mg W m σ H Q' := let ⟨ρ, μ, ι, rs, rm, h⟩ := h; ⟨ρ, μ, ι, rs, rm, h.mono q⟩
end
theorem PE.weak {X : Cx} {e : Expr} {t t' : TE} (h : PE X e t) (w : ∀ σ H Q, t' σ H Q → t σ H Q) : PE X e t' := ⟨fun pins s σ H Q I q => h.run pins s σ H Q I (w σ H Q q)⟩
theorem PT.weak {X : Cx} {e : Expr} {t t' : TT} (h : PT X e t) (w : ∀ σ H Q, t' σ H Q → t σ H Q) : PT X e t' := ⟨fun pins s σ H Q I q => h.run pins s σ H Q I (w σ H Q q)⟩
theorem PA.weak {X : Cx} {e : List Expr} {t t' : TA} (h : PA X e t) (w : ∀ σ H Q, t' σ H Q → t σ H Q) : PA X e t' := ⟨fun pos pins s σ H Q I q => h.run pos pins s σ H Q I (w σ H Q q)⟩

/-- an operation never raises here -/
def pureO (o : Out) : Prop := ∀ x μ, o ≠ .ex x μ
section
variable {K : PySem.W.Frag} {mg : Str → Option Value} {W : WX} {σ : L2.St} {H H1 : Hp} {ι ι1 : List Addr} {Q Q' : VK} {μ : Mem}
theorem PostE.calm {o : Out} (h : PostE K mg W σ H ι o Q) (p : pureO o) : PostE K mg (fun _ _ _ _ => False) [] H ι o Q := by
  cases o with
  | ok d μ => exact h
  | ex x μ => exact absurd rfl (p x μ)
  | bad => exact h
end

/-! ### mirrors of expressions -/
def mVar (i : Nat) : Ex := fun _ ρ μ => match ρ[i]? with
  | some (some d) => .ok d μ
  | _ => .bad
def mC (d : D) : Ex := fun _ _ μ => .ok d μ
def mBad : Ex := fun _ _ _ => .bad
def mOp (f : D → D → Mem → Out) (a b : Ex) : Ex := fun C ρ μ => (a C ρ μ).bind fun x μ1 => (b C ρ μ1).bind fun y μ2 => f x y μ2
def mUn (f : D → Mem → Out) (a : Ex) : Ex := fun C ρ μ => (a C ρ μ).bind f
def mNil : Exs := fun _ _ μ => .ok [] μ
def mCons (a : Ex) (as : Exs) : Exs := fun C ρ μ => (a C ρ μ).cons fun μ1 => as C ρ μ1
def mCB (f : List D → Mem → Out) (as : Exs) : Ex := fun C ρ μ => (as C ρ μ).bind f
def mkTup (ds : List D) (μ : Mem) : Out := if ds.length ≤ sizeLine then .ok (.tup ds) μ else .bad
def mkLst (ds : List D) (μ : Mem) : Out := if ds.length ≤ sizeLine then .ok (.ref μ.length) (μ ++ [.lst ds]) else .bad
def mTup (as : Exs) : Ex := mCB mkTup as
def mLst (as : Exs) : Ex := mCB mkLst as
def ifD (o : Out) (f g : Mem → Out) : Out := o.bind fun d μ => match d with
  | .bl true => f μ
  | .bl false => g μ
  | _ => .bad
def mIf (c a b : Ex) : Ex := fun C ρ μ => ifD (c C ρ μ) (a C ρ) (b C ρ)
def getL (μ : Mem) (n : Nat) : Option (List D) := match μ[n]? with
  | some (.lst l) => some l
  | some (.rol l) => some l
  | _ => none
/-- a value's truth -/
def truD (d : D) (μ : Mem) : Option Bool := match d with
  | .non => some false
  | .bl b => some b
  | .int i => some (i != 0)
  | .str s => if s.length ≤ sizeLine then some ((s.length : Int) != 0) else none
  | .tup l => some (!l.isEmpty)
  | .ref n => match μ[n]? with
    | some (.lst l) => some (!l.isEmpty)
    | some (.rol l) => some (!l.isEmpty)
    | some (.dic l) => some (!l.isEmpty)
    | _ => none
def truO (d : D) (μ : Mem) : Out := match truD d μ with
  | some b => .ok (.bl b) μ
  | none => .bad
def mTru (a : Ex) : Ex := fun C ρ μ => (a C ρ μ).bind truO
def mNot (a : Ex) : Ex := fun C ρ μ => ifD (a C ρ μ) (fun μ => .ok (.bl false) μ) (fun μ => .ok (.bl true) μ)
def mAndT (a b : Ex) : Ex := fun C ρ μ => ifD (a C ρ μ) (b C ρ) (fun μ => .ok (.bl false) μ)
def mOrT (a b : Ex) : Ex := fun C ρ μ => ifD (a C ρ μ) (fun μ => .ok (.bl true) μ) (b C ρ)
/-- and, or as values -/
def mAndV (a b : Ex) : Ex := fun C ρ μ => (a C ρ μ).bind fun d μ1 => match truD d μ1 with
  | some true => b C ρ μ1
  | some false => .ok d μ1
  | none => .bad
def mOrV (a b : Ex) : Ex := fun C ρ μ => (a C ρ μ).bind fun d μ1 => match truD d μ1 with
  | some true => .ok d μ1
  | some false => b C ρ μ1
  | none => .bad
def mNotV (a : Ex) : Ex := fun C ρ μ => (a C ρ μ).bind fun d μ1 => match truD d μ1 with
  | some b => .ok (.bl (!b)) μ1
  | none => .bad

section
variable {X : Cx} {W : WX} {C : CEnv} {e a b : Expr} {pos : Pos}
theorem pe_bad : PE X e (tE X.K X.mg W (mBad C)) := ⟨fun _ _ _ _ _ _ ⟨_, _, _, _, _, h⟩ => h.elim⟩
theorem pe_mvar {i : Nat} {x : Str} (hN : X.N[i]? = some x) (hv : Vis X.env.scope x) (hd : (x == ("__debug__" : Str)) = false) (hcd : (x == ("__classdict__" : Str)) = false) : PE X (.Name x pos) (tE X.K X.mg W (mVar i C)) := by
  refine PE.weak (pe_var hN hv hd hcd) fun σ H Q ⟨ρ, μ, ι, rs, rm, h⟩ => ?_
  unfold mVar at h
  split at h
  · rename_i d hd
    obtain ⟨v, h1, h2⟩ := rs.at_ i d hd
    exact ⟨v, h1, h.done rm h2⟩
  · exact h.elim
theorem tE_const {d : D} {v : V} (hd : ∀ H ι, RepD X.K H ι d v) : ∀ σ H Q, tE X.K X.mg W (mC d C) σ H Q → tC v σ H Q := fun σ H Q ⟨ρ, μ, ι, rs, rm, h⟩ => PostE.done h rm (hd H ι)
theorem pe_mint {i : Int} {j} : PE X (.Constant (.int i) j pos) (tE X.K X.mg W (mC (.int i) C)) := PE.weak pe_int (tE_const fun _ _ => by rw [RepD])
theorem pe_mbl {i : Bool} {j} : PE X (.Constant (.bool i) j pos) (tE X.K X.mg W (mC (.bl i) C)) := PE.weak pe_bl (tE_const fun _ _ => by rw [RepD])
theorem pe_mnon {j} : PE X (.Constant .none j pos) (tE X.K X.mg W (mC .non C)) := PE.weak pe_non (tE_const fun _ _ => by rw [RepD])
theorem pe_mstr {i : Str} {j} : PE X (.Constant (.str i) j pos) (tE X.K X.mg W (mC (.str i) C)) := PE.weak pe_str (tE_const fun _ _ => by rw [RepD])

/-- two values one after another -/
theorem tE_two {ma mb : Ex} {f : D → D → Mem → Out} {σ : L2.St} {H : Hp} {Q : VK} (h : tE X.K X.mg W (mOp f ma mb C) σ H Q) :
    tE X.K X.mg W (ma C) σ H fun x H1 => tE X.K X.mg W (mb C) σ H1 fun y H2 => ∃ ι μ d e, RepM X.K H2 ι X.mg μ ∧ RepD X.K H2 ι d x ∧ RepD X.K H2 ι e y ∧ PostE X.K X.mg W σ H2 ι (f d e μ) Q := by
  obtain ⟨ρ, μ, ι, rs, rm, h⟩ := h
  refine ⟨ρ, μ, ι, rs, rm, ?_⟩
  have h1 := PostE.bind h
  revert h1
  cases q : ma C ρ μ with
  | ok d μ1 =>
    intro h1 v H1 ι1 e rm1 rd
    obtain ⟨ι', d', μ', e0, e1, r1, r2, p⟩ := h1 v H1 ι1 e rm1 rd
    cases e0
    refine ⟨ρ, μ1, ι', rs.mono e1, r1, ?_⟩
    have h2 := PostE.bind p
    revert h2
    cases q2 : mb C ρ μ1 with
    | ok d2 μ2 =>
      intro h2 v2 H2 ι2 e2 rm2 rd2
      obtain ⟨ι3, d3, μ3, e0, e3, r3, r4, p3⟩ := h2 v2 H2 ι2 e2 rm2 rd2
      cases e0
      exact ⟨ι3, μ2, d, d2, r3, r2.mono e3, r4, p3⟩
    | ex x μ2 => exact fun h => h
    | bad => exact fun h => h
  | ex x μ2 => exact fun h => h
  | bad => exact fun h => h
theorem tE_one {ma : Ex} {f : D → Mem → Out} {σ : L2.St} {H : Hp} {Q : VK} (h : tE X.K X.mg W (mUn f ma C) σ H Q) :
    tE X.K X.mg W (ma C) σ H fun x H1 => ∃ ι μ d, RepM X.K H1 ι X.mg μ ∧ RepD X.K H1 ι d x ∧ PostE X.K X.mg W σ H1 ι (f d μ) Q := by
  obtain ⟨ρ, μ, ι, rs, rm, h⟩ := h
  refine ⟨ρ, μ, ι, rs, rm, ?_⟩
  have h1 := PostE.bind h
  revert h1
  cases q : ma C ρ μ with
  | ok d μ1 =>
    intro h1 v H1 ι1 e rm1 rd
    obtain ⟨ι', d', μ', e0, e1, r1, r2, p⟩ := h1 v H1 ι1 e rm1 rd
    cases e0
    exact ⟨ι', μ1, d, r1, r2, p⟩
  | ex x μ2 => exact fun h => h
  | bad => exact fun h => h
theorem tE_args {ma : Exs} {f : List D → Mem → Out} {σ : L2.St} {H : Hp} {Q : VK} (h : tE X.K X.mg W (mCB f ma C) σ H Q) :
    tA X.K X.mg W (ma C) σ H fun x H1 => ∃ ι μ d, RepM X.K H1 ι X.mg μ ∧ RepL X.K H1 ι d x ∧ PostE X.K X.mg W σ H1 ι (f d μ) Q := by
  obtain ⟨ρ, μ, ι, rs, rm, h⟩ := h
  refine ⟨ρ, μ, ι, rs, rm, ?_⟩
  have h1 := PostA.bind h
  revert h1
  cases q : ma C ρ μ with
  | ok d μ1 =>
    intro h1 v H1 ι1 e rm1 rd
    obtain ⟨ι', d', μ', e0, e1, r1, r2, p⟩ := h1 v H1 ι1 e rm1 rd
    cases e0
    exact ⟨ι', μ1, d, r1, r2, p⟩
  | ex x μ2 => exact fun h => h
  | bad => exact fun h => h
theorem pe_mop {op : Operator} {ma mb : Ex} {f : D → D → Mem → Out} (ho : OpR X (binaryOp op) (rD X.K X.mg f)) (hp : ∀ d e μ, pureO (f d e μ)) (ha : PE X a (tE X.K X.mg W (ma C))) (hb : PE X b (tE X.K X.mg W (mb C))) : PE X (.BinOp a op b pos) (tE X.K X.mg W (mOp f ma mb C)) :=
  PE.weak (pe_op ho ha hb) fun σ H Q h => tE.mono (tE_two h) fun x H1 h1 => tE.mono h1 fun y H2 ⟨ι2, μ2, d2, e2, r1, r2, r3, p⟩ => ⟨ι2, μ2, d2, e2, r1, r2, r3, p.calm (hp _ _ _)⟩
theorem pe_mcmp {op : CmpOp} {ma mb : Ex} {f : D → D → Mem → Out} (ho : OpR X (compareOp op) (rD X.K X.mg f)) (hp : ∀ d e μ, pureO (f d e μ)) (hm : behindInMarks op b = false) (ha : PE X a (tE X.K X.mg W (ma C))) (hb : PE X b (tE X.K X.mg W (mb C))) :
    PE X (.Compare a [op] [b] pos) (tE X.K X.mg W (mOp f ma mb C)) :=
  PE.weak (pe_cmpR ho ha hb hm) fun σ H Q h => tE.mono (tE_two h) fun x H1 h1 => tE.mono h1 fun y H2 ⟨ι2, μ2, d2, e2, r1, r2, r3, p⟩ => ⟨ι2, μ2, d2, e2, r1, r2, r3, p.calm (hp _ _ _)⟩
theorem pe_mun {op : UnaryOp} {ma : Ex} {f : D → Mem → Out} (ho : UnR X (unaryOp op) (rU1 X.K X.mg f)) (hp : ∀ d μ, pureO (f d μ)) (ha : PE X a (tE X.K X.mg W (ma C))) : PE X (.UnaryOp op a pos) (tE X.K X.mg W (mUn f ma C)) :=
  PE.weak (pe_un ho ha) fun σ H Q h => tE.mono (tE_one h) fun x H1 ⟨ι2, μ2, d2, r1, r2, p⟩ => ⟨ι2, μ2, d2, r1, r2, p.calm (hp _ _)⟩
theorem pa_mnil : PA X [] (tA X.K X.mg W (mNil C)) := PA.weak pa_nil fun σ H Q ⟨ρ, μ, ι, rs, rm, h⟩ => h [] H ι .refl rm RepL.nil
theorem pa_mcons {es : List Expr} {ma : Ex} {ms : Exs} (ha : PE X a (tE X.K X.mg W (ma C))) (hr : PA X es (tA X.K X.mg W (ms C))) (hs : starEach (a :: es) X.env = (false, eval a X.env) :: starEach es X.env) : PA X (a :: es) (tA X.K X.mg W (mCons ma ms C)) := by
  refine PA.weak (pa_cons ha hr hs) fun σ H Q ⟨ρ, μ, ι, rs, rm, h⟩ => ?_
  refine ⟨ρ, μ, ι, rs, rm, ?_⟩
  refine PostE.mono (PostE.cons h) fun x H1 ⟨ι1, d, μ1, e, e1, r1, r2, p⟩ => ?_
  exact ⟨ρ, μ1, ι1, rs.mono e1, r1, p⟩
theorem pe_mtup {es : List Expr} {ms : Exs} {k} (h : PA X es (tA X.K X.mg W (ms C))) : PE X (.Tuple es k pos) (tE X.K X.mg W (mTup ms C)) := by
  refine PE.weak (pe_tup h) fun σ H Q h => ?_
  refine tA.mono (tE_args h) fun xs H1 ⟨ι1, μ1, ds, r1, r2, p⟩ => ?_
  unfold mkTup at p
  split at p
  · rename_i hl
    refine ⟨by rw [r2.length]; exact hl, fun q hq => ?_⟩
    exact p (.ref q) _ ι1 (ext_new hq) (r1.new hq) (by rw [RepD]; exact ⟨q, xs, rfl, SqT.of upd_same, r2.mono (ext_new hq)⟩)
  · exact p.elim
theorem pe_mlst {es : List Expr} {ms : Exs} (h : PA X es (tA X.K X.mg W (ms C))) : PE X (.List es pos) (tE X.K X.mg W (mLst ms C)) := by
  refine PE.weak (pe_lst h) fun σ H Q h => ?_
  refine tA.mono (tE_args h) fun xs H1 ⟨ι1, μ1, ds, r1, r2, p⟩ => ?_
  unfold mkLst at p
  split at p
  · rename_i hl
    refine ⟨by rw [r2.length]; exact hl, fun q hq => ?_⟩
    refine p (.ref q) _ (ι1 ++ [q]) (ext_alloc hq) (r1.alloc hq ⟨xs, upd_same, r2.mono (ext_alloc hq)⟩) ?_
    rw [RepD]
    exact ⟨q, rfl, by rw [List.getElem?_append_right (by rw [r1.len]; exact Nat.le_refl _), r1.len, Nat.sub_self]; rfl⟩
  · exact p.elim

/-! ### tests -/
theorem ifT {o : Out} {f g : Mem → Out} {σ : L2.St} {H : Hp} {ι : List Addr} {Q : VK} (h : PostE X.K X.mg W σ H ι (ifD o f g) Q) :
    PostT X.K X.mg W σ H ι o fun b H1 => ∃ ι1 μ1, Ext X.K H ι H1 ι1 ∧ RepM X.K H1 ι1 X.mg μ1 ∧ o = .ok (.bl b) μ1 ∧ PostE X.K X.mg W σ H1 ι1 (if b = true then f μ1 else g μ1) Q := by
  cases o with
  | ok d μ =>
    cases d with
    | bl b =>
      intro H' ι' e rm
      refine ⟨ι', μ, e, rm, rfl, ?_⟩
      cases b with
      | true => exact PostE.ext e h
      | false => exact PostE.ext e h
    | _ => exact h
  | ex x μ => exact h
  | bad => exact h
theorem ifTT {o : Out} {f g : Mem → Out} {σ : L2.St} {H : Hp} {ι : List Addr} {Q : Bool → Hp → Prop} (h : PostT X.K X.mg W σ H ι (ifD o f g) Q) :
    PostT X.K X.mg W σ H ι o fun b H1 => ∃ ι1 μ1, Ext X.K H ι H1 ι1 ∧ RepM X.K H1 ι1 X.mg μ1 ∧ o = .ok (.bl b) μ1 ∧ PostT X.K X.mg W σ H1 ι1 (if b = true then f μ1 else g μ1) Q := by
  cases o with
  | ok d μ =>
    cases d with
    | bl b =>
      intro H' ι' e rm
      refine ⟨ι', μ, e, rm, rfl, ?_⟩
      cases b with
      | true => exact PostT.ext e h
      | false => exact PostT.ext e h
    | _ => exact h
  | ex x μ => exact h
  | bad => exact h
theorem ite_if {c : Bool} {A B : Prop} (h1 : c = true → A) (h2 : c = false → B) : if c = true then A else B := by
  cases c with
  | true => exact iteT (h1 rfl)
  | false => exact iteF (h2 rfl)
theorem pe_mif {c : Expr} {mc ma mb : Ex} (hc : PT X c (tT X.K X.mg W (mc C))) (ha : PE X a (tE X.K X.mg W (ma C))) (hb : PE X b (tE X.K X.mg W (mb C))) : PE X (.IfExp c a b pos) (tE X.K X.mg W (mIf mc ma mb C)) := by
  refine PE.weak (pe_ifExp hc ha hb) fun σ H Q ⟨ρ, μ, ι, rs, rm, h⟩ => ?_
  refine ⟨ρ, μ, ι, rs, rm, ?_⟩
  refine PostT.mono (ifT h) fun b H1 ⟨ι1, μ1, e, r1, q, p⟩ => ite_if (fun z => ?_) fun z => ?_
  · subst z
    exact ⟨ρ, μ1, ι1, rs.mono e, r1, p⟩
  · subst z
    exact ⟨ρ, μ1, ι1, rs.mono e, r1, p⟩
theorem pt_mnot {ma : Ex} (ha : PT X a (tT X.K X.mg W (ma C))) : PT X (.UnaryOp .Not a pos) (tT X.K X.mg W (mNot ma C)) := by
  refine PT.weak (pt_not ha) fun σ H Q ⟨ρ, μ, ι, rs, rm, h⟩ => ⟨ρ, μ, ι, rs, rm, ?_⟩
  refine PostT.mono (ifTT h) fun b H1 ⟨ι1, μ1, e, r1, q, p⟩ => ?_
  cases b with
  | true => exact p H1 ι1 .refl r1
  | false => exact p H1 ι1 .refl r1
theorem pw_mand1 {ma : Ex} (ha : PT X a (tT X.K X.mg W (ma C))) : PW X (.BoolOp .And [a] pos) (tT X.K X.mg W (ma C)) := pw_and1 ha
theorem pw_mand {rest : List Expr} {ma mb : Ex} (ha : PT X a (tT X.K X.mg W (ma C))) (hb : PW X (.BoolOp .And (b :: rest) pos) (tT X.K X.mg W (mb C))) : PW X (.BoolOp .And (a :: b :: rest) pos) (tT X.K X.mg W (mAndT ma mb C)) := by
  refine ⟨fun wh pins s σ H Q I h => (pw_and ha hb).run wh pins s σ H Q I ?_⟩
  obtain ⟨ρ, μ, ι, rs, rm, h⟩ := h
  refine ⟨ρ, μ, ι, rs, rm, ?_⟩
  refine PostT.mono (ifTT h) fun b H1 ⟨ι1, μ1, e, r1, q, p⟩ => ite_if (fun z => ?_) fun z => ?_
  · subst z
    exact ⟨ρ, μ1, ι1, rs.mono e, r1, p⟩
  · subst z
    exact p H1 ι1 .refl r1
theorem pw_mor {rest : List Expr} {ma mb : Ex} (ha : PT X a (tT X.K X.mg W (ma C))) (hb : PW X (.BoolOp .Or (b :: rest) pos) (tT X.K X.mg W (mb C))) : PW X (.BoolOp .Or (a :: b :: rest) pos) (tT X.K X.mg W (mOrT ma mb C)) := by
  refine ⟨fun wh pins s σ H Q I h => (pw_or ha hb).run wh pins s σ H Q I ?_⟩
  obtain ⟨ρ, μ, ι, rs, rm, h⟩ := h
  refine ⟨ρ, μ, ι, rs, rm, ?_⟩
  refine PostT.mono (ifTT h) fun b H1 ⟨ι1, μ1, e, r1, q, p⟩ => ite_if (fun z => ?_) fun z => ?_
  · subst z
    exact p H1 ι1 .refl r1
  · subst z
    exact ⟨ρ, μ1, ι1, rs.mono e, r1, p⟩
/-- a value's truth -/
theorem tru_rep {H : Hp} {ι : List Addr} {μ : Mem} {d : D} {v : V} {b : Bool} (rm : RepM X.K H ι X.mg μ) (rd : RepD X.K H ι d v) (h : truD d μ = some b) : TruV X.K v H b := by
  cases d with
  | non => rw [RepD] at rd; subst rd; cases h; rfl
  | bl c => rw [RepD] at rd; subst rd; cases h; rfl
  | int i => rw [RepD] at rd; subst rd; cases h; rfl
  | str s =>
    rw [RepD] at rd; subst rd
    have h : (if s.length ≤ sizeLine then some ((s.length : Int) != 0) else none) = some b := h
    by_cases hl : s.length ≤ sizeLine
    · rw [if_pos hl] at h
      cases h
      exact ⟨hl, rfl⟩
    · rw [if_neg hl] at h
      cases h
  | tup l =>
    rw [RepD] at rd
    obtain ⟨a, xs, rfl, hs, hl⟩ := rd
    cases h
    refine .inr (.inl ⟨xs, hs, ?_⟩)
    have := hl.length
    cases l <;> cases xs <;> simp at this ⊢
  | ref n =>
    rw [RepD] at rd
    obtain ⟨a, rfl, ha⟩ := rd
    have h : (match μ[n]? with
    | some (.lst l) => some (!l.isEmpty)
    | some (.rol l) => some (!l.isEmpty)
    | some (.dic l) => some (!l.isEmpty)
    | _ => none) = some b := h
    split at h
    · rename_i l q
      cases h
      obtain ⟨xs, h1, h2⟩ := rm.at_ n _ a q ha
      have := h2.length
      refine .inl ⟨xs, SqL.of h1, ?_⟩
      cases l <;> cases xs <;> simp at this ⊢
    · rename_i l q
      cases h
      obtain ⟨xs, h1, h2⟩ := rm.at_ n _ a q ha
      have := h2.length
      refine .inl ⟨xs, h1.seq, ?_⟩
      cases l <;> cases xs <;> simp at this ⊢
    · rename_i l q
      cases h
      obtain ⟨xs, h1, h2⟩ := rm.at_ n _ a q ha
      refine .inr (.inr ⟨xs, h1, ?_⟩)
      cases l with
      | nil => rw [RepKV] at h2; subst h2; rfl
      | cons kv r =>
        obtain ⟨k, d⟩ := kv
        rw [RepKV] at h2
        obtain ⟨y, ys, rfl, _⟩ := h2
        rfl
    · cases h
theorem pt_mtru {ma : Ex} (ha : PE X a (tE X.K X.mg W (ma C))) (he : ∀ whole, isTrue a X.env whole = (do let v ← whole; standAt a.pos; holding [v] (truthy v))) : PT X a (tT X.K X.mg W (mTru ma C)) := by
  refine PT.weak (pt_truth ha he) fun σ H Q ⟨ρ, μ, ι, rs, rm, h⟩ => ⟨ρ, μ, ι, rs, rm, ?_⟩
  refine PostE.mono (PostE.bindT h) fun v H1 ⟨ι1, d, μ1, q, e, r1, r2, p⟩ => ?_
  unfold truO at p
  split at p
  · rename_i b hb
    exact ⟨b, tru_rep r1 r2 hb, p H1 ι1 .refl r1⟩
  · exact p.elim
/-- a comparison as a test: its value is a bool -/
theorem pt_mcmp {op : CmpOp} {ma mb : Ex} {f : D → D → Mem → Out} (ho : OpR X (compareOp op) (rD X.K X.mg f)) (hp : ∀ d e μ, pureO (f d e μ)) (hm : behindInMarks op b = false) (ha : PE X a (tE X.K X.mg W (ma C))) (hb : PE X b (tE X.K X.mg W (mb C))) :
    PT X (.Compare a [op] [b] pos) (tT X.K X.mg W (mOp f ma mb C)) := by
  refine PT.weak (pt_cmpR ho ha hb hm) fun σ H Q ⟨ρ, μ, ι, rs, rm, h⟩ => ?_
  have key : tE X.K X.mg W (mOp f ma mb C) σ H (fun x H' => ∃ k, x = .bl k ∧ Q k H') := by
    refine ⟨ρ, μ, ι, rs, rm, ?_⟩
    revert h
    cases q : mOp f ma mb C ρ μ with
    | ok d μ1 =>
      cases d with
      | bl b =>
        intro h v H' ι' e r1 r2
        rw [RepD] at r2
        exact ⟨b, r2, h H' ι' e r1⟩
      | _ => exact fun h => h.elim
    | ex x μ1 => exact fun h => h
    | bad => exact fun h => h
  exact tE.mono (tE_two key) fun x H1 h1 => tE.mono h1 fun y H2 ⟨ι2, μ2, d2, e2, r1, r2, r3, p⟩ => ⟨ι2, μ2, d2, e2, r1, r2, r3, p.calm (hp _ _ _)⟩
theorem pe_mand1 {op} {ma : Ex} (ha : PE X a (tE X.K X.mg W (ma C))) : PE X (.BoolOp op [a] pos) (tE X.K X.mg W (ma C)) := pe_one ha
theorem pe_mandV {rest : List Expr} {ma mb : Ex} (ha : PE X a (tE X.K X.mg W (ma C))) (hb : PE X (.BoolOp .And (b :: rest) pos) (tE X.K X.mg W (mb C))) : PE X (.BoolOp .And (a :: b :: rest) pos) (tE X.K X.mg W (mAndV ma mb C)) := by
  refine PE.weak (pe_andT ha hb) fun σ H Q ⟨ρ, μ, ι, rs, rm, h⟩ => ⟨ρ, μ, ι, rs, rm, ?_⟩
  refine PostE.mono (PostE.bind h) fun v H1 ⟨ι1, d, μ1, q, e, r1, r2, p⟩ => ?_
  split at p
  · rename_i hb
    exact ⟨true, tru_rep r1 r2 hb, iteT ⟨ρ, μ1, ι1, rs.mono e, r1, p⟩⟩
  · rename_i hb
    exact ⟨false, tru_rep r1 r2 hb, iteF (p.done r1 r2)⟩
  · exact p.elim
theorem pe_morV {rest : List Expr} {ma mb : Ex} (ha : PE X a (tE X.K X.mg W (ma C))) (hb : PE X (.BoolOp .Or (b :: rest) pos) (tE X.K X.mg W (mb C))) : PE X (.BoolOp .Or (a :: b :: rest) pos) (tE X.K X.mg W (mOrV ma mb C)) := by
  refine PE.weak (pe_orT ha hb) fun σ H Q ⟨ρ, μ, ι, rs, rm, h⟩ => ⟨ρ, μ, ι, rs, rm, ?_⟩
  refine PostE.mono (PostE.bind h) fun v H1 ⟨ι1, d, μ1, q, e, r1, r2, p⟩ => ?_
  split at p
  · rename_i hb
    exact ⟨true, tru_rep r1 r2 hb, iteT (p.done r1 r2)⟩
  · rename_i hb
    exact ⟨false, tru_rep r1 r2 hb, iteF ⟨ρ, μ1, ι1, rs.mono e, r1, p⟩⟩
  · exact p.elim
theorem pe_mnotV {ma : Ex} (ha : PE X a (tE X.K X.mg W (ma C))) : PE X (.UnaryOp .Not a pos) (tE X.K X.mg W (mNotV ma C)) := by
  refine PE.weak (pe_notT ha) fun σ H Q ⟨ρ, μ, ι, rs, rm, h⟩ => ⟨ρ, μ, ι, rs, rm, ?_⟩
  refine PostE.mono (PostE.bind h) fun v H1 ⟨ι1, d, μ1, q, e, r1, r2, p⟩ => ?_
  split at p
  · rename_i b hb
    exact ⟨b, tru_rep r1 r2 hb, p.done r1 (by rw [RepD])⟩
  · exact p.elim
end
end PM
set_option Elab.async false
set_option linter.all false
set_option maxRecDepth 100000
set_option maxHeartbeats 1000000
/-! PM3: operators, comparisons, built-ins by values. -/
namespace PM
open PySem PySem.Spec PyProof.Rows L2

def oB (b : Bool) (μ : Mem) : Out := .ok (.bl b) μ
def oI (i : Int) (μ : Mem) : Out := .ok (.int i) μ
def oS (s : Str) (μ : Mem) : Out := .ok (.str s) μ
def ob (o : Option Bool) (μ : Mem) : Out := match o with
  | some b => .ok (.bl b) μ
  | none => .bad
/-- a new list of the store -/
def newL (l : List D) (μ : Mem) : Out := .ok (.ref μ.length) (μ ++ [.lst l])
def getM (μ : Mem) (n : Nat) : Option (List D) := match μ[n]? with
  | some (.lst l) => some l
  | _ => none

def fAdd (d e : D) (μ : Mem) : Out := match d, e with
  | .int i, .int j => oI (i + j) μ
  | .str x, .str y => if x.length + y.length ≤ sizeLine then oS (x ++ y) μ else .bad
  | .tup l, .tup m => if l.length + m.length ≤ sizeLine then .ok (.tup (l ++ m)) μ else .bad
  | .ref n, .ref m => match getM μ n, getM μ m with
    | some l, some k => if l.length + k.length ≤ sizeLine then newL (l ++ k) μ else .bad
    | _, _ => .bad
  | _, _ => .bad
def fSub (d e : D) (μ : Mem) : Out := match d, e with
  | .int i, .int j => oI (i - j) μ
  | _, _ => .bad
def fMul (d e : D) (μ : Mem) : Out := match d, e with
  | .int i, .int j => if ((-(2 ^ 64) < i ∧ i < 2 ^ 64) ∨ (-(2 ^ 64) < j ∧ j < 2 ^ 64)) ∨ i.natAbs.log2 + j.natAbs.log2 < 1000000 then oI (i * j) μ else .bad
  | .ref n, .int k => match getM μ n with
    | some l => if -(2 ^ 63) ≤ k ∧ k < 2 ^ 63 ∧ l.length * k.toNat ≤ sizeLine then newL (List.replicate k.toNat l).flatten μ else .bad
    | none => .bad
  | _, _ => .bad
def fDiv (d e : D) (μ : Mem) : Out := match d, e with
  | .int i, .int j => if 0 < j ∧ (j < 2 ^ 64 ∨ j.natAbs.log2 < 9000) then oI (i / j) μ else .bad
  | _, _ => .bad
def fMod (d e : D) (μ : Mem) : Out := match d, e with
  | .int i, .int j => if 0 < j then oI (i % j) μ else .bad
  | _, _ => .bad
def fPow (d e : D) (μ : Mem) : Out := match d, e with
  | .int i, .int j => if 0 ≤ j ∧ j ≤ 1000000 ∧ i.natAbs < 2 ^ 64 then oI (i ^ j.toNat) μ else .bad
  | _, _ => .bad
def fShl (d e : D) (μ : Mem) : Out := match d, e with
  | .int i, .int j => if 0 ≤ j ∧ j ≤ 1000000 ∧ i.natAbs < 2 ^ 64 then oI (i * 2 ^ j.toNat) μ else .bad
  | _, _ => .bad
def fShr (d e : D) (μ : Mem) : Out := match d, e with
  | .int i, .int j => if 0 ≤ j then oI (i / 2 ^ j.toNat) μ else .bad
  | _, _ => .bad
def fAnd (d e : D) (μ : Mem) : Out := match d, e with
  | .int i, .int j => oI (Builtin.bitAnd i j) μ
  | _, _ => .bad
def fOr (d e : D) (μ : Mem) : Out := match d, e with
  | .int i, .int j => oI (Builtin.bitOr i j) μ
  | _, _ => .bad
def fXor (d e : D) (μ : Mem) : Out := match d, e with
  | .int i, .int j => oI (Builtin.bitXor i j) μ
  | _, _ => .bad
def fNeg (d : D) (μ : Mem) : Out := match d with
  | .int i => oI (-i) μ
  | _ => .bad
/-! ### comparisons -/
def optAll {α β : Type} (g : α → Option β) : List α → Option (List β)
  | [] => some []
  | d :: ds => match g d, optAll g ds with
    | some p, some ps => some (p :: ps)
    | _, _ => none
/-- a datum as data, to a depth -/
def toPy (μ : Mem) : Nat → D → Option PyData
  | 0, _ => none
  | f + 1, d => match d with
    | .non => some .none
    | .bl b => some (.bool b)
    | .int i => some (.int i)
    | .str s => some (.str s)
    | .tup l => (optAll (toPy μ f) l).map .tuple
    | .ref n => match getL μ n with
      | some l => (optAll (toPy μ f) l).map .list
      | none => none
def dEq (μ : Mem) (d e : D) : Option Bool := match d, e with
  | .int i, .int j => some (i == j)
  | .str x, .str y => some (x == y)
  | .bl x, .bl y => some (x == y)
  | d, e => match toPy μ 60 d, toPy μ 60 e with
    | some p, some q => if SeqAt.shaped p && SeqAt.shaped q then some (PyData.eqv p q) else none
    | _, _ => none
def fEq (d e : D) (μ : Mem) : Out := ob (dEq μ d e) μ
def fNe (d e : D) (μ : Mem) : Out := ob ((dEq μ d e).map not) μ
def fLt (d e : D) (μ : Mem) : Out := match d, e with
  | .int i, .int j => oB (decide (i < j)) μ
  | .str x, .str y => oB (decide (x.cps.toList < y.cps.toList)) μ
  | _, _ => .bad
def fLe (d e : D) (μ : Mem) : Out := match d, e with
  | .int i, .int j => oB (decide (i ≤ j)) μ
  | .str x, .str y => oB (!decide (y.cps.toList < x.cps.toList)) μ
  | _, _ => .bad
def fGt (d e : D) (μ : Mem) : Out := match d, e with
  | .int i, .int j => oB (decide (j < i)) μ
  | .str x, .str y => oB (decide (y.cps.toList < x.cps.toList)) μ
  | _, _ => .bad
def fGe (d e : D) (μ : Mem) : Out := match d, e with
  | .int i, .int j => oB (decide (j ≤ i)) μ
  | .str x, .str y => oB (!decide (x.cps.toList < y.cps.toList)) μ
  | _, _ => .bad
def isObjD (μ : Mem) (n : Nat) : Bool := match μ[n]? with
  | some (.lst _) => true
  | some (.ins _ _) => true
  | _ => false
def dIs (μ : Mem) (d e : D) : Option Bool := match e with
  | .non => some (match d with | .non => true | _ => false)
  | .bl b => some (match d with | .bl c => c == b | _ => false)
  | .ref m => match d with
    | .ref n => if isObjD μ n && isObjD μ m then some (n == m) else none
    | _ => none
  | _ => none
def fIs (d e : D) (μ : Mem) : Out := ob (dIs μ d e) μ
def fIsN (d e : D) (μ : Mem) : Out := ob ((dIs μ d e).map not) μ
def flatD : D → Bool
  | .non => true | .bl _ => true | .int _ => true | .str _ => true
  | _ => false
def toV : D → V
  | .non => .non | .bl b => .bl b | .int i => .int i | .str s => .str s
  | _ => .non
def dIn (μ : Mem) (d e : D) : Option Bool := match e with
  | .tup l => if flatD d && l.all flatD then some (l.any fun y => eqV (toV y) (toV d)) else none
  | .ref n => match getL μ n with
    | some l => if flatD d && l.all flatD then some (l.any fun y => eqV (toV y) (toV d)) else none
    | none => none
  | .str z => match d with
    | .str x => some (!(Builtin.Str.occurrences z x 0 z.length 1).isEmpty)
    | _ => none
  | _ => none
def fIn (d e : D) (μ : Mem) : Out := ob (dIn μ d e) μ
def fNotIn (d e : D) (μ : Mem) : Out := ob ((dIn μ d e).map not) μ

/-! ### items, slices -/
def fIx (d e : D) (μ : Mem) : Out := match e with
  | .int i => match d with
    | .tup l => (match atI l i with
      | some v => .ok v μ
      | none => .bad)
    | .ref n => (match getL μ n with
      | some l => (match atI l i with
        | some v => .ok v μ
        | none => .bad)
      | none => .bad)
    | .str z => if z.length ≤ sizeLine then (match atI z.cps.toList i with
      | some c => .ok (.str ⟨#[c]⟩) μ
      | none => .bad) else .bad
    | _ => .bad
  | _ => .bad

/-! ### built-ins -/
def bLen (ds : List D) (μ : Mem) : Out := match ds with
  | [.tup l] => oI l.length μ
  | [.str s] => if s.length ≤ sizeLine then oI s.length μ else .bad
  | [.ref n] => (match μ[n]? with
    | some (.lst l) => oI l.length μ
    | some (.rol l) => oI l.length μ
    | some (.dic kvs) => oI kvs.length μ
    | _ => .bad)
  | _ => .bad
def bAbs (ds : List D) (μ : Mem) : Out := match ds with
  | [.int i] => oI (if i < 0 then -i else i) μ
  | _ => .bad
def bInt (ds : List D) (μ : Mem) : Out := match ds with
  | [.int i] => oI i μ
  | [.bl b] => oI (if b then 1 else 0) μ
  | [.str a] => (match PySem.intText? a with
    | some n => if a.length ≤ 640 then oI n μ else .bad
    | none => .bad)
  | _ => .bad
def bMax (ds : List D) (μ : Mem) : Out := match ds with
  | [.int i, .int j] => oI (if j > i then j else i) μ
  | _ => .bad
def bMin (ds : List D) (μ : Mem) : Out := match ds with
  | [.int i, .int j] => oI (if j < i then j else i) μ
  | _ => .bad
def bStr (ds : List D) (μ : Mem) : Out := match ds with
  | [.int i] => if i.natAbs.log2 < 1920 then oS (toString i) μ else .bad
  | _ => .bad
def intsD : List D → Option (List Int)
  | [] => some []
  | .int i :: r => (intsD r).map (i :: ·)
  | _ => none
def bSum (ds : List D) (μ : Mem) : Out := match ds with
  | [.ref n] => (match (getL μ n).bind intsD with
    | some l => oI l.sum μ
    | none => .bad)
  | _ => .bad
def bList (ds : List D) (μ : Mem) : Out := match ds with
  | [.tup l] => newL l μ
  | [.ref n] => (match getL μ n with
    | some l => newL l μ
    | none => .bad)
  | _ => .bad
def bTuple (ds : List D) (μ : Mem) : Out := match ds with
  | [.tup l] => .ok (.tup l) μ
  | [.ref n] => (match getL μ n with
    | some l => .ok (.tup l) μ
    | none => .bad)
  | _ => .bad
def bOrd (ds : List D) (μ : Mem) : Out := match ds with
  | [.str x] => if x.length = 1 then oI (x.cps.getD 0 0 : Nat) μ else .bad
  | _ => .bad
def bChr (ds : List D) (μ : Mem) : Out := match ds with
  | [.int i] => if 0 ≤ i ∧ i ≤ 1114111 then oS ⟨#[i.toNat]⟩ μ else .bad
  | _ => .bad
def tyD (μ : Mem) : D → Option String
  | .non => some "NoneType"
  | .bl _ => some "bool"
  | .int _ => some "int"
  | .str _ => some "str"
  | .tup _ => some "tuple"
  | .ref n => match μ[n]? with
    | some (.lst _) => some "list"
    | some (.rol _) => some "list"
    | some (.dic _) => some "dict"
    | some (.dit _) => some "dict"
    | _ => none
def fIsI (T : String) (d : D) (μ : Mem) : Out := ob ((tyD μ d).bind fun t => kitB t T) μ
/-! ### methods -/
def kAppend (d : D) (ds : List D) (μ : Mem) : Out := match d, ds with
  | .ref n, [y] => (match getM μ n with
    | some l => if l.length < sizeLine then .ok .non (μ.set n (.lst (l ++ [y]))) else .bad
    | none => .bad)
  | _, _ => .bad
def kExtend (d : D) (ds : List D) (μ : Mem) : Out := match d, ds with
  | .ref n, [.ref m] => (match getM μ n, getM μ m with
    | some l, some k => if l.length + k.length ≤ sizeLine then .ok .non (μ.set n (.lst (l ++ k))) else .bad
    | _, _ => .bad)
  | _, _ => .bad

/-! ### they are the machine's -/
theorem pureO_ok {d : D} {μ : Mem} : pureO (.ok d μ) := fun _ _ h => by cases h
theorem pureO_bad : pureO .bad := fun _ _ h => by cases h
theorem pureO_ob {o : Option Bool} {μ : Mem} : pureO (ob o μ) := by
  cases o with
  | none => exact pureO_bad
  | some b => exact pureO_ok
section
variable {K : PySem.W.Frag} {mg : Str → Option Value} {H : Hp} {ι : List Addr} {μ : Mem} {v : V} {d : D}
theorem rd_int {i : Int} (h : RepD K H ι (.int i) v) : v = .int i := by rw [RepD] at h; exact h
theorem rd_str {i : Str} (h : RepD K H ι (.str i) v) : v = .str i := by rw [RepD] at h; exact h
theorem rd_bl {i : Bool} (h : RepD K H ι (.bl i) v) : v = .bl i := by rw [RepD] at h; exact h
theorem rd_non (h : RepD K H ι .non v) : v = .non := by rw [RepD] at h; exact h
theorem rd_tup {l : List D} (h : RepD K H ι (.tup l) v) : ∃ a xs, v = .ref a ∧ SqT K H a xs ∧ RepL K H ι l xs := by rw [RepD] at h; exact h
theorem rd_ref {n : Nat} (h : RepD K H ι (.ref n) v) : ∃ a, v = .ref a ∧ ι[n]? = some a := by rw [RepD] at h; exact h
theorem dr_int {i : Int} : RepD K H ι (.int i) (.int i) := by rw [RepD]
theorem dr_str {i : Str} : RepD K H ι (.str i) (.str i) := by rw [RepD]
theorem dr_bl {i : Bool} : RepD K H ι (.bl i) (.bl i) := by rw [RepD]
theorem dr_non : RepD K H ι .non .non := by rw [RepD]
theorem dr_tup {l : List D} {a : Addr} {xs : List V} (h : SqT K H a xs) (r : RepL K H ι l xs) : RepD K H ι (.tup l) (.ref a) := by rw [RepD]; exact ⟨a, xs, rfl, h, r⟩
theorem dr_ref {n : Nat} {a : Addr} (h : ι[n]? = some a) : RepD K H ι (.ref n) (.ref a) := by rw [RepD]; exact ⟨a, rfl, h⟩
theorem getM_at {n : Nat} {l : List D} (h : getM μ n = some l) : μ[n]? = some (.lst l) := by
  unfold getM at h
  split at h
  · rename_i q; cases h; exact q
  · cases h
theorem rm_lst {n : Nat} {l : List D} {a : Addr} (rm : RepM K H ι mg μ) (h : getM μ n = some l) (ha : ι[n]? = some a) : ∃ xs, H a = some (.lst xs) ∧ RepL K H ι l xs := rm.at_ n _ a (getM_at h) ha
theorem rm_seq {n : Nat} {l : List D} {a : Addr} (rm : RepM K H ι mg μ) (h : getL μ n = some l) (ha : ι[n]? = some a) : ∃ xs, SqL K H a xs ∧ RepL K H ι l xs := by
  unfold getL at h
  split at h
  · rename_i q; cases h
    obtain ⟨xs, h1, h2⟩ := rm.at_ n _ a q ha
    exact ⟨xs, SqL.of h1, h2⟩
  · rename_i q; cases h
    obtain ⟨xs, h1, h2⟩ := rm.at_ n _ a q ha
    exact ⟨xs, h1.seq, h2⟩
  · cases h
variable {W : WX} {σ : L2.St} {Q : VK}
/-- a new list is laid -/
theorem newL_post {l : List D} {xs : List V} (h : PostE K mg W σ H ι (newL l μ) Q) (rm : RepM K H ι mg μ) (rl : RepL K H ι l xs) : ∀ p, H p = none → Q (.ref p) (upd H p (.lst xs)) := fun p hp =>
  h (.ref p) _ (ι ++ [p]) (ext_alloc hp) (rm.alloc hp ⟨xs, upd_same, rl.mono (ext_alloc hp)⟩) (dr_ref (by rw [List.getElem?_append_right (by rw [rm.len]; exact Nat.le_refl _), rm.len, Nat.sub_self]; rfl))
theorem newT_post {l : List D} {xs : List V} (h : PostE K mg W σ H ι (.ok (.tup l) μ) Q) (rm : RepM K H ι mg μ) (rl : RepL K H ι l xs) : ∀ p, H p = none → Q (.ref p) (upd H p (.tup xs)) := fun p hp =>
  h (.ref p) _ ι (ext_new hp) (rm.new hp) (dr_tup (SqT.of upd_same) (rl.mono (ext_new hp)))
end

section
variable {X : Cx}
/-- a rule of the machine by its cases -/
theorem op_Add : OpR X (binaryOp .Add) (rD X.K X.mg fAdd) := by
  intro pins s σ H x y v u Q I rx ry ⟨ι, μ, d, e, rm, r1, r2, p⟩
  cases d with
  | int i => cases e with
    | int j =>
      cases rd_int r1; cases rd_int r2
      exact op_add pins s σ H _ _ v u Q I rx ry ⟨i, j, rfl, rfl, p.done rm dr_int⟩
    | _ => exact p.elim
  | str i => cases e with
    | str j =>
      cases rd_str r1; cases rd_str r2
      unfold fAdd at p
      dsimp only at p
      split at p
      · rename_i hl
        exact op_add_str pins s σ H _ _ v u Q I rx ry ⟨i, j, rfl, rfl, hl, p.done rm dr_str⟩
      · exact p.elim
    | _ => exact p.elim
  | tup l => cases e with
    | tup m =>
      obtain ⟨a, xs, rfl, h1, h2⟩ := rd_tup r1
      obtain ⟨b, ys, rfl, h3, h4⟩ := rd_tup r2
      unfold fAdd at p
      dsimp only at p
      split at p
      · rename_i hl
        refine op_catA pins s σ H _ _ v u Q I rx ry ⟨a, b, xs, ys, rfl, rfl, h1, h3, by rw [h2.length, h4.length]; exact hl, fun e => ?_, fun e1 e2 => ?_, fun e1 e2 => newT_post p rm (h2.append h4)⟩
        · subst e
          have : l = [] := by have := h2.length; cases l <;> simp at this ⊢
          subst this
          exact p.done rm (dr_tup h3 h4)
        · subst e2
          have : m = [] := by have := h4.length; cases m <;> simp at this ⊢
          subst this
          rw [List.append_nil] at p
          exact p.done rm (dr_tup h1 h2)
      · exact p.elim
    | _ => exact p.elim
  | ref n => cases e with
    | ref m =>
      obtain ⟨a, rfl, ha⟩ := rd_ref r1
      obtain ⟨b, rfl, hb⟩ := rd_ref r2
      unfold fAdd at p
      dsimp only at p
      split at p
      · rename_i l k hl hk
        split at p
        · rename_i hz
          obtain ⟨xs, h1, h2⟩ := rm_lst rm hl ha
          obtain ⟨ys, h3, h4⟩ := rm_lst rm hk hb
          exact op_cat pins s σ H _ _ v u Q I rx ry ⟨a, b, xs, ys, rfl, rfl, h1, h3, by rw [h2.length, h4.length]; exact hz, newL_post p rm (h2.append h4)⟩
        · exact p.elim
      · exact p.elim
    | _ => exact p.elim
  | _ => exact p.elim
theorem pu_Add (d e : D) (μ : Mem) : pureO (fAdd d e μ) := by
  unfold fAdd; repeat' split
  all_goals first | exact pureO_ok | exact pureO_bad
/-- an operator of two ints -/
theorem op_II {F : Value → Value → Sem Value} {r : R2} {f : D → D → Mem → Out} (ho : OpR X F r) (hf : ∀ d e μ, f d e μ ≠ .bad → ∃ i j, d = .int i ∧ e = .int j)
    (hr : ∀ (i j : Int) (μ : Mem) (ι : List Addr) (H : Hp) (Q : VK), RepM X.K H ι X.mg μ → PostE X.K X.mg (fun _ _ _ _ => False) [] H ι (f (.int i) (.int j) μ) Q → r (.int i) (.int j) H Q) : OpR X F (rD X.K X.mg f) := by
  intro pins s σ H x y v u Q I rx ry ⟨ι, μ, d, e, rm, r1, r2, p⟩
  obtain ⟨i, j, rfl, rfl⟩ := hf d e μ (fun z => by rw [z] at p; exact p.elim)
  cases rd_int r1; cases rd_int r2
  exact ho pins s σ H _ _ v u Q I rx ry (hr i j μ ι H Q rm p)
local macro_rules | `(tactic| walk_at "ints") => `(tactic| (intro d e μ h; cases d <;> cases e <;> first | exact ⟨_, _, rfl, rfl⟩ | exact absurd rfl h))
theorem op_Sub : OpR X (binaryOp .Sub) (rD X.K X.mg fSub) := op_II op_sub (by walk_at "ints") fun i j μ ι H Q rm p => ⟨i, j, rfl, rfl, p.done rm dr_int⟩
theorem op_And : OpR X (binaryOp .BitAnd) (rD X.K X.mg fAnd) := op_II op_and (by walk_at "ints") fun i j μ ι H Q rm p => ⟨i, j, rfl, rfl, p.done rm dr_int⟩
theorem op_Or : OpR X (binaryOp .BitOr) (rD X.K X.mg fOr) := op_II op_or (by walk_at "ints") fun i j μ ι H Q rm p => ⟨i, j, rfl, rfl, p.done rm dr_int⟩
theorem op_Xor : OpR X (binaryOp .BitXor) (rD X.K X.mg fXor) := op_II op_xor (by walk_at "ints") fun i j μ ι H Q rm p => ⟨i, j, rfl, rfl, p.done rm dr_int⟩
theorem op_Mod : OpR X (binaryOp .Mod) (rD X.K X.mg fMod) := op_II op_mod (by walk_at "ints") fun i j μ ι H Q rm p => by
  unfold fMod at p
  dsimp only at p
  split at p
  · rename_i h
    exact ⟨i, j, rfl, rfl, h, p.done rm dr_int⟩
  · exact p.elim
theorem op_Pow : OpR X (binaryOp .Pow) (rD X.K X.mg fPow) := op_II op_pow (by walk_at "ints") fun i j μ ι H Q rm p => by
  unfold fPow at p
  dsimp only at p
  split at p
  · rename_i h
    exact ⟨i, j, rfl, rfl, h, p.done rm dr_int⟩
  · exact p.elim
theorem op_Shl : OpR X (binaryOp .LShift) (rD X.K X.mg fShl) := op_II op_shl (by walk_at "ints") fun i j μ ι H Q rm p => by
  unfold fShl at p
  dsimp only at p
  split at p
  · rename_i h
    exact ⟨i, j, rfl, rfl, h, p.done rm dr_int⟩
  · exact p.elim
theorem op_Shr : OpR X (binaryOp .RShift) (rD X.K X.mg fShr) := op_II op_shr (by walk_at "ints") fun i j μ ι H Q rm p => by
  unfold fShr at p
  dsimp only at p
  split at p
  · rename_i h
    exact ⟨i, j, rfl, rfl, h, p.done rm dr_int⟩
  · exact p.elim
theorem log_64 {j : Int} (h : 0 < j) (h1 : j < 2 ^ 64) : j.natAbs.log2 < 9000 := Nat.lt_of_lt_of_le (PySem.Flt.log2_lt_of (by decide) (show j.natAbs < 2 ^ 64 by omega)) (by decide)
theorem op_Div : OpR X (binaryOp .FloorDiv) (rD X.K X.mg fDiv) := op_II op_fdivW (by walk_at "ints") fun i j μ ι H Q rm p => by
  unfold fDiv at p
  dsimp only at p
  split at p
  · rename_i h
    exact ⟨i, j, rfl, rfl, ⟨h.1, h.2.elim (log_64 h.1) id⟩, p.done rm dr_int⟩
  · exact p.elim
theorem op_Mul : OpR X (binaryOp .Mult) (rD X.K X.mg fMul) := by
  intro pins s σ H x y v u Q I rx ry ⟨ι, μ, d, e, rm, r1, r2, p⟩
  cases d with
  | int i => cases e with
    | int j =>
      cases rd_int r1; cases rd_int r2
      unfold fMul at p
      dsimp only at p
      split at p
      · rename_i h
        rcases h with h | h
        · exact op_mul pins s σ H _ _ v u Q I rx ry ⟨i, j, rfl, rfl, h, p.done rm dr_int⟩
        · exact op_mulW pins s σ H _ _ v u Q I rx ry ⟨i, j, rfl, rfl, h, p.done rm dr_int⟩
      · exact p.elim
    | _ => exact p.elim
  | ref n => cases e with
    | int k =>
      obtain ⟨a, rfl, ha⟩ := rd_ref r1
      cases rd_int r2
      unfold fMul at p
      dsimp only at p
      split at p
      · rename_i l hl
        split at p
        · rename_i hz
          obtain ⟨xs, h1, h2⟩ := rm_lst rm hl ha
          have fl : ∀ k : Nat, RepL X.K H ι (List.replicate k l).flatten (List.replicate k xs).flatten := fun k => by
            induction k with
            | zero => exact RepL.nil
            | succ k ih =>
              rw [List.replicate_succ, List.replicate_succ, List.flatten_cons, List.flatten_cons]
              exact h2.append ih
          exact op_rep pins s σ H _ _ v u Q I rx ry ⟨a, k, xs, rfl, rfl, h1, hz.1, hz.2.1, by rw [h2.length]; exact hz.2.2, newL_post p rm (fl _)⟩
        · exact p.elim
      · exact p.elim
    | _ => exact p.elim
  | _ => exact p.elim
local macro_rules | `(tactic| walk_at "pure") => `(tactic| (repeat' split
                                                            all_goals first | exact pureO_ok | exact pureO_bad | exact pureO_ob))
theorem pu_Sub (d e : D) (μ : Mem) : pureO (fSub d e μ) := by unfold fSub; walk_at "pure"
theorem pu_Mul (d e : D) (μ : Mem) : pureO (fMul d e μ) := by unfold fMul; walk_at "pure"
theorem pu_Div (d e : D) (μ : Mem) : pureO (fDiv d e μ) := by unfold fDiv; walk_at "pure"
theorem pu_Mod (d e : D) (μ : Mem) : pureO (fMod d e μ) := by unfold fMod; walk_at "pure"
theorem pu_Pow (d e : D) (μ : Mem) : pureO (fPow d e μ) := by unfold fPow; walk_at "pure"
theorem pu_Shl (d e : D) (μ : Mem) : pureO (fShl d e μ) := by unfold fShl; walk_at "pure"
theorem pu_Shr (d e : D) (μ : Mem) : pureO (fShr d e μ) := by unfold fShr; walk_at "pure"
theorem pu_And (d e : D) (μ : Mem) : pureO (fAnd d e μ) := by unfold fAnd; walk_at "pure"
theorem pu_Or (d e : D) (μ : Mem) : pureO (fOr d e μ) := by unfold fOr; walk_at "pure"
theorem pu_Xor (d e : D) (μ : Mem) : pureO (fXor d e μ) := by unfold fXor; walk_at "pure"
theorem pu_Neg (d : D) (μ : Mem) : pureO (fNeg d μ) := by unfold fNeg; walk_at "pure"
theorem pu_Eq (d e : D) (μ : Mem) : pureO (fEq d e μ) := pureO_ob
theorem pu_Ne (d e : D) (μ : Mem) : pureO (fNe d e μ) := pureO_ob
theorem pu_Lt (d e : D) (μ : Mem) : pureO (fLt d e μ) := by unfold fLt; walk_at "pure"
theorem pu_Le (d e : D) (μ : Mem) : pureO (fLe d e μ) := by unfold fLe; walk_at "pure"
theorem pu_Gt (d e : D) (μ : Mem) : pureO (fGt d e μ) := by unfold fGt; walk_at "pure"
theorem pu_Ge (d e : D) (μ : Mem) : pureO (fGe d e μ) := by unfold fGe; walk_at "pure"
theorem pu_Is (d e : D) (μ : Mem) : pureO (fIs d e μ) := pureO_ob
theorem pu_IsN (d e : D) (μ : Mem) : pureO (fIsN d e μ) := pureO_ob
theorem pu_In (d e : D) (μ : Mem) : pureO (fIn d e μ) := pureO_ob
theorem pu_NotIn (d e : D) (μ : Mem) : pureO (fNotIn d e μ) := pureO_ob
theorem pu_Ix (d e : D) (μ : Mem) : pureO (fIx d e μ) := by unfold fIx; walk_at "pure"
end
end PM
set_option Elab.async false
set_option linter.all false
set_option maxRecDepth 100000
set_option maxHeartbeats 1000000
/-! PM4: comparisons, items, built-ins are the machine's. -/
namespace PM
open PySem PySem.Spec PyProof.Rows L2
section
variable {K : PySem.W.Frag} {mg : Str → Option Value} {H : Hp} {ι : List Addr} {μ : Mem}
theorem optAll_dp {f : Nat} (ih : ∀ {d : D} {v : V} {p : PyData}, RepD K H ι d v → toPy μ f d = some p → Dp K H v p) : ∀ {l : List D} {xs : List V} {ps : List PyData}, RepL K H ι l xs → optAll (toPy μ f) l = some ps → DpAll K H xs ps
  | [], xs, ps, h, e => by
    rw [RepL] at h; subst h
    unfold optAll at e
    cases e
    exact .nil
  | d :: ds, xs, ps, h, e => by
    rw [RepL] at h
    obtain ⟨y, ys, rfl, h1, h2⟩ := h
    unfold optAll at e
    split at e
    · rename_i p qs hp hq
      cases e
      exact .cons (ih h1 hp) (optAll_dp ih h2 hq)
    · cases e
theorem toPy_dp (rm : RepM K H ι mg μ) : ∀ (f : Nat) {d : D} {v : V} {p : PyData}, RepD K H ι d v → toPy μ f d = some p → Dp K H v p
  | 0, d, v, p, h, e => by unfold toPy at e; cases e
  | f + 1, d, v, p, h, e => by
    have ih := @toPy_dp rm f
    cases d with
    | non => cases rd_non h; unfold toPy at e; cases e; exact .non
    | bl b => cases rd_bl h; unfold toPy at e; cases e; exact .bl b
    | int b => cases rd_int h; unfold toPy at e; cases e; exact .int b
    | str b => cases rd_str h; unfold toPy at e; cases e; exact .str b
    | tup l =>
      obtain ⟨a, xs, rfl, h1, h2⟩ := rd_tup h
      unfold toPy at e
      dsimp only at e
      cases q : optAll (toPy μ f) l with
      | none => rw [q] at e; cases e
      | some ps =>
        rw [q] at e
        cases e
        exact .tup h1 (optAll_dp ih h2 q)
    | ref n =>
      obtain ⟨a, rfl, ha⟩ := rd_ref h
      unfold toPy at e
      dsimp only at e
      split at e
      · rename_i l hl
        obtain ⟨xs, h1, h2⟩ := rm_seq rm hl ha
        cases q : optAll (toPy μ f) l with
        | none => rw [q] at e; cases e
        | some ps =>
          rw [q] at e
          cases e
          exact .lst h1 (optAll_dp ih h2 q)
      · cases e
/-- == by values -/
theorem dEq_rep (rm : RepM K H ι mg μ) {d e : D} {x y : V} {b : Bool} (r1 : RepD K H ι d x) (r2 : RepD K H ι e y) (h : dEq μ d e = some b) : (scal x y = true ∧ decide (x = y) = b) ∨ ∃ p q, Dp K H x p ∧ Dp K H y q ∧ SeqAt.shaped p = true ∧ SeqAt.shaped q = true ∧ PyData.eqv p q = b := by
  have gen : (match toPy μ 60 d, toPy μ 60 e with
    | some p, some q => if SeqAt.shaped p && SeqAt.shaped q then some (PyData.eqv p q) else none
    | _, _ => none) = some b → ∃ p q, Dp K H x p ∧ Dp K H y q ∧ SeqAt.shaped p = true ∧ SeqAt.shaped q = true ∧ PyData.eqv p q = b := fun h => by
    split at h
    · rename_i p q hp hq
      split at h
      · rename_i hs
        rw [Bool.and_eq_true] at hs
        cases h
        exact ⟨p, q, toPy_dp rm 60 r1 hp, toPy_dp rm 60 r2 hq, hs.1, hs.2, rfl⟩
      · cases h
    · cases h
  unfold dEq at h
  split at h
  · cases rd_int r1; cases rd_int r2; cases h; exact .inl ⟨rfl, dec_int⟩
  · cases rd_str r1; cases rd_str r2; cases h
    refine .inl ⟨rfl, ?_⟩
    rw [Bool.eq_iff_iff]
    simp
  · cases rd_bl r1; cases rd_bl r2; cases h; exact .inl ⟨rfl, dec_bl⟩
  · exact .inr (gen h)
end
section
variable {X : Cx}
theorem op_Eq (hu : X.A.units + 64 < cLine) : OpR X (compareOp .Eq) (rD X.K X.mg fEq) := by
  intro pins s σ H x y v u Q I rx ry ⟨ι, μ, d, e, rm, r1, r2, p⟩
  unfold fEq at p
  cases q : dEq μ d e with
  | none => rw [q] at p; exact p.elim
  | some b =>
    rw [q] at p
    rcases dEq_rep rm r1 r2 q with ⟨hs, he⟩ | ⟨pd, qd, h1, h2, h3, h4, h5⟩
    · exact op_eq pins s σ H x y v u Q I rx ry ⟨hs, by rw [he]; exact p.done rm dr_bl⟩
    · exact op_eqD hu pins s σ H x y v u Q I rx ry ⟨pd, qd, h1, h2, h3, h4, by rw [h5]; exact p.done rm dr_bl⟩
theorem op_Ne (hu : X.A.units + 64 < cLine) : OpR X (compareOp .NotEq) (rD X.K X.mg fNe) := by
  intro pins s σ H x y v u Q I rx ry ⟨ι, μ, d, e, rm, r1, r2, p⟩
  unfold fNe at p
  cases q : dEq μ d e with
  | none => rw [q] at p; exact p.elim
  | some b =>
    rw [q] at p
    rcases dEq_rep rm r1 r2 q with ⟨hs, he⟩ | ⟨pd, qd, h1, h2, h3, h4, h5⟩
    · exact op_ne pins s σ H x y v u Q I rx ry ⟨hs, by rw [he]; exact p.done rm dr_bl⟩
    · exact op_neD hu pins s σ H x y v u Q I rx ry ⟨pd, qd, h1, h2, h3, h4, by rw [h5]; exact p.done rm dr_bl⟩
/-- two ints or two texts -/
theorem op_ord {F : Value → Value → Sem Value} {f : D → D → Mem → Out} {pi : Int → Int → Bool} {ps : Str → Str → Bool}
    (hI : OpR X F (rI0 fun i j => .bl (pi i j))) (hS : OpR X F (fun x y H Q => ∃ i j, x = .str i ∧ y = .str j ∧ Q (.bl (ps i j)) H))
    (fI : ∀ i j μ, f (.int i) (.int j) μ = oB (pi i j) μ) (fS : ∀ i j μ, f (.str i) (.str j) μ = oB (ps i j) μ)
    (fN : ∀ d e μ, f d e μ ≠ .bad → (∃ i j, d = .int i ∧ e = .int j) ∨ ∃ i j, d = .str i ∧ e = .str j) : OpR X F (rD X.K X.mg f) := by
  intro pins s σ H x y v u Q I rx ry ⟨ι, μ, d, e, rm, r1, r2, p⟩
  rcases fN d e μ (fun z => by rw [z] at p; exact p.elim) with ⟨i, j, rfl, rfl⟩ | ⟨i, j, rfl, rfl⟩
  · cases rd_int r1; cases rd_int r2
    rw [fI] at p
    exact hI pins s σ H _ _ v u Q I rx ry ⟨i, j, rfl, rfl, p.done rm dr_bl⟩
  · cases rd_str r1; cases rd_str r2
    rw [fS] at p
    exact hS pins s σ H _ _ v u Q I rx ry ⟨i, j, rfl, rfl, p.done rm dr_bl⟩
local macro_rules | `(tactic| walk_at "ord") => `(tactic| (intro d e μ h; cases d <;> cases e <;> first | exact .inl ⟨_, _, rfl, rfl⟩ | exact .inr ⟨_, _, rfl, rfl⟩ | exact absurd rfl h))
theorem op_Lt : OpR X (compareOp .Lt) (rD X.K X.mg fLt) := op_ord op_lt op_lt_str (fun _ _ _ => rfl) (fun _ _ _ => rfl) (by walk_at "ord")
theorem op_Le : OpR X (compareOp .LtE) (rD X.K X.mg fLe) := op_ord op_le op_le_str (fun _ _ _ => rfl) (fun _ _ _ => rfl) (by walk_at "ord")
theorem op_Gt : OpR X (compareOp .Gt) (rD X.K X.mg fGt) := op_ord op_gt op_gt_str (fun _ _ _ => rfl) (fun _ _ _ => rfl) (by walk_at "ord")
theorem op_Ge : OpR X (compareOp .GtE) (rD X.K X.mg fGe) := op_ord op_ge op_ge_str (fun _ _ _ => rfl) (fun _ _ _ => rfl) (by walk_at "ord")
/-- what is of None, of a bool -/
theorem is_bool {pins : List (Addr × Obj)} {σ : L2.St} {H : Hp} {s : Shared} {x : V} {v : Value} {b : Bool} {Q : VK} (I : Inv X pins σ H s) (r : RelV x v) (q : Q (.bl (decide (x = .bl b))) H) :
    wpAny (model X.prog X.w) X.A (compareOp .Is v (.bool b)) (EP X pins σ Q) X.xe s := by
  have hp : plainIs v (.bool b) = true := by
    cases x <;> first
      | (cases r; rfl)
      | (obtain ⟨t, rfl⟩ := r; rfl)
  refine wpAny_is_plain hp (fin_bl I q ?_)
  cases x <;> first
    | (cases r; rfl)
    | (obtain ⟨t, rfl⟩ := r; rfl)
    | skip
  all_goals
    rename_i c
    cases r
    rw [Bool.eq_iff_iff]
    simp
theorem isnot_bool {pins : List (Addr × Obj)} {σ : L2.St} {H : Hp} {s : Shared} {x : V} {v : Value} {b : Bool} {Q : VK} (I : Inv X pins σ H s) (r : RelV x v) (q : Q (.bl (!decide (x = .bl b))) H) :
    wpAny (model X.prog X.w) X.A (compareOp .IsNot v (.bool b)) (EP X pins σ Q) X.xe s := by
  have hp : plainIs v (.bool b) = true := by
    cases x <;> first
      | (cases r; rfl)
      | (obtain ⟨t, rfl⟩ := r; rfl)
  refine wpAny_isNot_plain hp (fin_bl I q ?_)
  cases x <;> first
    | (cases r; rfl)
    | (obtain ⟨t, rfl⟩ := r; rfl)
    | skip
  all_goals
    rename_i c
    cases r
    rw [Bool.eq_iff_iff]
    simp
theorem obj_rep {ι : List Addr} {μ : Mem} {H : Hp} {n : Nat} {a : Addr} (rm : RepM X.K H ι X.mg μ) (h : isObjD μ n = true) (ha : ι[n]? = some a) : ∃ o, H a = some o ∧ isObj o = true := by
  unfold isObjD at h
  split at h
  · rename_i q
    obtain ⟨xs, h1, _⟩ := rm.at_ n _ a q ha
    exact ⟨_, h1, rfl⟩
  · rename_i q
    obtain ⟨C, dx, xs, h1, _⟩ := rm.at_ n _ a q ha
    exact ⟨_, h1, rfl⟩
  · cases h
theorem obj_mut {μ : Mem} {n : Nat} (h : isObjD μ n = true) : ∃ o, μ[n]? = some o ∧ mutO o = true := by
  unfold isObjD at h
  split at h
  · rename_i q; exact ⟨_, q, rfl⟩
  · rename_i q; exact ⟨_, q, rfl⟩
  · cases h
theorem dIs_case {H : Hp} {ι : List Addr} {μ : Mem} {d e : D} {x y : V} {b : Bool} (rm : RepM X.K H ι X.mg μ) (r1 : RepD X.K H ι d x) (r2 : RepD X.K H ι e y) (h : dIs μ d e = some b) :
    (y = .non ∧ decide (x = .non) = b) ∨ (∃ c, y = .bl c ∧ decide (x = .bl c) = b) ∨ ∃ p q op oq, x = .ref p ∧ y = .ref q ∧ H p = some op ∧ isObj op = true ∧ H q = some oq ∧ isObj oq = true ∧ decide (p = q) = b := by
  cases e with
  | non =>
    cases rd_non r2
    refine .inl ⟨rfl, ?_⟩
    cases d with
    | non => cases rd_non r1; cases h; rfl
    | bl b => cases rd_bl r1; cases h; rfl
    | int b => cases rd_int r1; cases h; rfl
    | str b => cases rd_str r1; cases h; rfl
    | tup l => obtain ⟨a, xs, rfl, _⟩ := rd_tup r1; cases h; rfl
    | ref n => obtain ⟨a, rfl, _⟩ := rd_ref r1; cases h; rfl
  | bl c =>
    cases rd_bl r2
    refine .inr (.inl ⟨c, rfl, ?_⟩)
    cases d with
    | non => cases rd_non r1; cases h; rfl
    | bl b => cases rd_bl r1; cases h; rw [Bool.eq_iff_iff]; simp
    | int b => cases rd_int r1; cases h; rfl
    | str b => cases rd_str r1; cases h; rfl
    | tup l => obtain ⟨a, xs, rfl, _⟩ := rd_tup r1; cases h; rfl
    | ref n => obtain ⟨a, rfl, _⟩ := rd_ref r1; cases h; rfl
  | ref m =>
    cases d with
    | ref n =>
      obtain ⟨p, rfl, hp⟩ := rd_ref r1
      obtain ⟨q, rfl, hq⟩ := rd_ref r2
      unfold dIs at h
      dsimp only at h
      split at h
      · rename_i ho
        rw [Bool.and_eq_true] at ho
        cases h
        obtain ⟨o1, e1, i1⟩ := obj_rep rm ho.1 hp
        obtain ⟨o2, e2, i2⟩ := obj_rep rm ho.2 hq
        refine .inr (.inr ⟨p, q, o1, o2, rfl, rfl, e1, i1, e2, i2, ?_⟩)
        by_cases z : n = m
        · subst z
          rw [hp] at hq; cases hq
          simp
        · have : p ≠ q := fun z2 => by
            subst z2
            obtain ⟨o1, a1, b1⟩ := obj_mut ho.1
            obtain ⟨o2, a2, b2⟩ := obj_mut ho.2
            exact z (rm.nd n m p o1 o2 a1 a2 hp hq b1 b2)
          simp [z, this]
      · cases h
    | _ => cases h
  | _ => cases h
theorem op_Is : OpR X (compareOp .Is) (rD X.K X.mg fIs) := by
  intro pins s σ H x y v u Q I rx ry ⟨ι, μ, d, e, rm, r1, r2, p⟩
  unfold fIs at p
  cases q : dIs μ d e with
  | none => rw [q] at p; exact p.elim
  | some b =>
    rw [q] at p
    have fin := p.done rm (dr_bl (i := b))
    rcases dIs_case rm r1 r2 q with ⟨rfl, hd⟩ | ⟨c, rfl, hd⟩ | ⟨a1, a2, o1, o2, rfl, rfl, e1, i1, e2, i2, hd⟩
    · exact op_isN pins s σ H x _ v u Q I rx ry ⟨rfl, by rw [hd]; exact fin⟩
    · cases ry
      exact is_bool I rx (by rw [hd]; exact fin)
    · exact op_is_ref pins s σ H _ _ v u Q I rx ry ⟨a1, a2, o1, o2, rfl, rfl, e1, i1, e2, i2, by rw [hd]; exact fin⟩
theorem op_IsN : OpR X (compareOp .IsNot) (rD X.K X.mg fIsN) := by
  intro pins s σ H x y v u Q I rx ry ⟨ι, μ, d, e, rm, r1, r2, p⟩
  unfold fIsN at p
  cases q : dIs μ d e with
  | none => rw [q] at p; exact p.elim
  | some b =>
    rw [q] at p
    have fin : Q (.bl (!b)) H := p.done rm (dr_bl (i := !b))
    rcases dIs_case rm r1 r2 q with ⟨rfl, hd⟩ | ⟨c, rfl, hd⟩ | ⟨a1, a2, o1, o2, rfl, rfl, e1, i1, e2, i2, hd⟩
    · exact op_notN pins s σ H x _ v u Q I rx ry ⟨rfl, by rw [hd]; exact fin⟩
    · cases ry
      exact isnot_bool I rx (by rw [hd]; exact fin)
    · exact op_isnot_ref pins s σ H _ _ v u Q I rx ry ⟨a1, a2, o1, o2, rfl, rfl, e1, i1, e2, i2, by rw [hd]; exact fin⟩
/-- flat items -/
theorem flat_rep {K : PySem.W.Frag} {H : Hp} {ι : List Addr} {d : D} {v : V} (h : flatD d = true) (r : RepD K H ι d v) : v = toV d ∧ flatV v = true := by
  cases d with
  | non => cases rd_non r; exact ⟨rfl, rfl⟩
  | bl b => cases rd_bl r; exact ⟨rfl, rfl⟩
  | int b => cases rd_int r; exact ⟨rfl, rfl⟩
  | str b => cases rd_str r; exact ⟨rfl, rfl⟩
  | _ => cases h
theorem flats_rep {K : PySem.W.Frag} {H : Hp} {ι : List Addr} : ∀ {l : List D} {xs : List V}, l.all flatD = true → RepL K H ι l xs → xs = l.map toV ∧ xs.all flatV = true
  | [], xs, _, r => by rw [RepL] at r; subst r; exact ⟨rfl, rfl⟩
  | d :: ds, xs, h, r => by
    rw [RepL] at r
    obtain ⟨y, ys, rfl, h1, h2⟩ := r
    rw [List.all_cons, Bool.and_eq_true] at h
    obtain ⟨e1, e2⟩ := flat_rep h.1 h1
    obtain ⟨e3, e4⟩ := flats_rep h.2 h2
    exact ⟨by rw [e1, e3, List.map_cons], by rw [List.all_cons, e2, e4]; rfl⟩
theorem dIn_case {H : Hp} {ι : List Addr} {μ : Mem} {d e : D} {x y : V} {b : Bool} (rm : RepM X.K H ι X.mg μ) (r1 : RepD X.K H ι d x) (r2 : RepD X.K H ι e y) (h : dIn μ d e = some b) :
    (∃ p xs, y = .ref p ∧ (SqL X.K H p xs ∨ SqT X.K H p xs) ∧ flatV x = true ∧ xs.all flatV = true ∧ inV x xs = b) ∨ ∃ i j, x = .str i ∧ y = .str j ∧ (!(Builtin.Str.occurrences j i 0 j.length 1).isEmpty) = b := by
  have key : ∀ {l : List D} {xs : List V}, RepL X.K H ι l xs → (if (flatD d && l.all flatD) = true then some (l.any fun y => eqV (toV y) (toV d)) else none) = some b → flatV x = true ∧ xs.all flatV = true ∧ inV x xs = b := fun {l xs} hl h => by
    split at h
    · rename_i hf
      rw [Bool.and_eq_true] at hf
      cases h
      obtain ⟨e1, e2⟩ := flat_rep hf.1 r1
      obtain ⟨e3, e4⟩ := flats_rep hf.2 hl
      refine ⟨e2, e4, ?_⟩
      rw [e1, e3]
      unfold inV
      rw [List.any_map]
      rfl
    · cases h
  cases e with
  | tup l =>
    obtain ⟨a, xs, rfl, h1, h2⟩ := rd_tup r2
    obtain ⟨k1, k2, k3⟩ := key h2 h
    exact .inl ⟨a, xs, rfl, .inr h1, k1, k2, k3⟩
  | ref n =>
    obtain ⟨a, rfl, ha⟩ := rd_ref r2
    unfold dIn at h
    dsimp only at h
    split at h
    · rename_i l hl
      obtain ⟨xs, h1, h2⟩ := rm_seq rm hl ha
      obtain ⟨k1, k2, k3⟩ := key h2 h
      exact .inl ⟨a, xs, rfl, .inl h1, k1, k2, k3⟩
    · cases h
  | str z =>
    cases rd_str r2
    cases d with
    | str w =>
      cases rd_str r1
      cases h
      exact .inr ⟨w, z, rfl, rfl, rfl⟩
    | _ => cases h
  | _ => cases h
theorem op_In : OpR X (compareOp .In) (rD X.K X.mg fIn) := by
  intro pins s σ H x y v u Q I rx ry ⟨ι, μ, d, e, rm, r1, r2, p⟩
  unfold fIn at p
  cases q : dIn μ d e with
  | none => rw [q] at p; exact p.elim
  | some b =>
    rw [q] at p
    have fin := p.done rm (dr_bl (i := b))
    rcases dIn_case rm r1 r2 q with ⟨a, xs, rfl, h1, h2, h3, h4⟩ | ⟨i, j, rfl, rfl, h⟩
    · exact op_in_seq pins s σ H x _ v u Q I rx ry ⟨a, xs, rfl, h1, h2, h3, by show Q (.bl (inV x xs)) H; rw [h4]; exact fin⟩
    · exact op_in_str pins s σ H _ _ v u Q I rx ry ⟨i, j, rfl, rfl, by rw [h]; exact fin⟩
theorem op_NotIn : OpR X (compareOp .NotIn) (rD X.K X.mg fNotIn) := by
  intro pins s σ H x y v u Q I rx ry ⟨ι, μ, d, e, rm, r1, r2, p⟩
  unfold fNotIn at p
  cases q : dIn μ d e with
  | none => rw [q] at p; exact p.elim
  | some b =>
    rw [q] at p
    have fin : Q (.bl (!b)) H := p.done rm (dr_bl (i := !b))
    rcases dIn_case rm r1 r2 q with ⟨a, xs, rfl, h1, h2, h3, h4⟩ | ⟨i, j, rfl, rfl, h⟩
    · exact op_notIn_seq pins s σ H x _ v u Q I rx ry ⟨a, xs, rfl, h1, h2, h3, by show Q (.bl (!inV x xs)) H; rw [h4]; exact fin⟩
    · exact op_notin_str pins s σ H _ _ v u Q I rx ry ⟨i, j, rfl, rfl, by rw [h]; exact fin⟩
theorem un_Neg : UnR X (unaryOp .USub) (rU1 X.K X.mg fNeg) := by
  intro pins s σ H x v Q I rx ⟨ι, μ, d, rm, r1, p⟩
  cases d with
  | int i =>
    cases rd_int r1
    exact un_neg pins s σ H _ v Q I rx ⟨i, rfl, p.done rm dr_int⟩
  | _ => exact p.elim
/-! ### items -/
theorem at_rep {K : PySem.W.Frag} {H : Hp} {ι : List Addr} {l : List D} {xs : List V} {i : Int} {d : D} (r : RepL K H ι l xs) (h : atI l i = some d) : ∃ v, atI xs i = some v ∧ RepD K H ι d v := by
  unfold atI at h ⊢
  rw [r.length]
  cases q : ixN l.length i with
  | none => rw [q] at h; cases h
  | some j =>
    rw [q] at h
    exact r.get h
theorem ix_All : IxR X (rD X.K X.mg fIx) := by
  intro value slice pins s σ H x y v u Q I rx ry ⟨ι, μ, d, e, rm, r1, r2, p⟩ hs
  cases e with
  | int i =>
    cases rd_int r2
    cases d with
    | tup l =>
      obtain ⟨a, xs, rfl, h1, h2⟩ := rd_tup r1
      unfold fIx at p
      dsimp only at p
      split at p
      · rename_i z hz
        obtain ⟨w, h3, h4⟩ := at_rep h2 hz
        exact ix_tup value slice pins s σ H _ _ v u Q I rx ry ⟨a, xs, i, w, rfl, rfl, h1, h3, p.done rm h4⟩ hs
      · exact p.elim
    | ref n =>
      obtain ⟨a, rfl, ha⟩ := rd_ref r1
      unfold fIx at p
      dsimp only at p
      split at p
      · rename_i l hl
        split at p
        · rename_i z hz
          obtain ⟨xs, h1, h2⟩ := rm_seq rm hl ha
          obtain ⟨w, h3, h4⟩ := at_rep h2 hz
          exact ix_list value slice pins s σ H _ _ v u Q I rx ry ⟨a, xs, i, w, rfl, rfl, h1, h3, p.done rm h4⟩ hs
        · exact p.elim
      · exact p.elim
    | str z =>
      cases rd_str r1
      unfold fIx at p
      dsimp only at p
      split at p
      · rename_i hl
        split at p
        · rename_i c hc
          exact ix_str value slice pins s σ H _ _ v u Q I rx ry ⟨z, i, c, rfl, rfl, hl, hc, p.done rm dr_str⟩ hs
        · exact p.elim
      · exact p.elim
    | _ => exact p.elim
  | _ => exact p.elim
variable {W : WX} {C : CEnv} {a b : Expr} {pos : Pos}
theorem pe_mix {ma mb : Ex} (ha : PE X a (tE X.K X.mg W (ma C))) (hb : PE X b (tE X.K X.mg W (mb C))) (hs : PlainIx b) : PE X (.Subscript a b pos) (tE X.K X.mg W (mOp fIx ma mb C)) :=
  PE.weak (pe_ix ix_All ha hb hs) fun σ H Q h => tE.mono (tE_two h) fun x H1 h1 => tE.mono h1 fun y H2 ⟨ι2, μ2, d2, e2, r1, r2, r3, p⟩ => ⟨ι2, μ2, d2, e2, r1, r2, r3, p.calm (pu_Ix _ _ _)⟩
end
end PM
set_option Elab.async false
set_option linter.all false
set_option maxRecDepth 100000
set_option maxHeartbeats 1000000
/-! PM5: built-ins, methods, slices. -/
namespace PM
open PySem PySem.Spec PyProof.Rows L2
section
variable {K : PySem.W.Frag} {mg : Str → Option Value} {H : Hp} {ι : List Addr} {μ : Mem}
theorem rl_nil {xs : List V} (h : RepL K H ι [] xs) : xs = [] := by rw [RepL] at h; exact h
theorem rl_cons {d : D} {ds : List D} {xs : List V} (h : RepL K H ι (d :: ds) xs) : ∃ y ys, xs = y :: ys ∧ RepD K H ι d y ∧ RepL K H ι ds ys := by rw [RepL] at h; exact h
theorem rl_one {d : D} {xs : List V} (h : RepL K H ι [d] xs) : ∃ y, xs = [y] ∧ RepD K H ι d y := by
  obtain ⟨y, ys, rfl, h1, h2⟩ := rl_cons h
  cases rl_nil h2
  exact ⟨y, rfl, h1⟩
theorem rl_two {d e : D} {xs : List V} (h : RepL K H ι [d, e] xs) : ∃ y z, xs = [y, z] ∧ RepD K H ι d y ∧ RepD K H ι e z := by
  obtain ⟨y, ys, rfl, h1, h2⟩ := rl_cons h
  obtain ⟨z, rfl, h3⟩ := rl_one h2
  exact ⟨y, z, rfl, h1, h3⟩
theorem intsD_rep : ∀ {l : List D} {ns : List Int} {xs : List V}, intsD l = some ns → RepL K H ι l xs → xs = ns.map V.int
  | [], ns, xs, h, r => by
    cases rl_nil r
    unfold intsD at h
    cases h; rfl
  | d :: ds, ns, xs, h, r => by
    obtain ⟨y, ys, rfl, h1, h2⟩ := rl_cons r
    cases d with
    | int i =>
      cases rd_int h1
      unfold intsD at h
      cases q : intsD ds with
      | none => rw [q] at h; cases h
      | some ms =>
        rw [q] at h
        cases h
        rw [intsD_rep q h2]
        rfl
    | _ => cases h
theorem rkv_length {κ : Type} : ∀ {l : List (κ × D)} {xs : List (κ × V)}, RepKV K H ι l xs → xs.length = l.length
  | [], xs, h => by rw [RepKV] at h; subst h; rfl
  | (k, d) :: r, xs, h => by
    rw [RepKV] at h
    obtain ⟨y, ys, rfl, h1, h2⟩ := h
    rw [List.length_cons, List.length_cons, rkv_length h2]
end
section
variable {X : Cx}
theorem cr_Len : CallR X (.builtin "len") (rC X.K X.mg bLen) := by
  intro pins s σ H xs us Q I r ⟨ι, μ, ds, rm, rl, p⟩
  unfold bLen at p
  split at p
  · obtain ⟨y, rfl, h1⟩ := rl_one rl
    obtain ⟨a, zs, rfl, h2, h3⟩ := rd_tup h1
    exact call_len_seq pins s σ H _ us Q I r ⟨a, zs, rfl, .inr h2, by rw [h3.length]; exact p.done rm dr_int⟩
  · obtain ⟨y, rfl, h1⟩ := rl_one rl
    cases rd_str h1
    split at p
    · rename_i hl
      exact call_len_str pins s σ H _ us Q I r ⟨_, rfl, hl, p.done rm dr_int⟩
    · exact p.elim
  · obtain ⟨y, rfl, h1⟩ := rl_one rl
    obtain ⟨a, rfl, ha⟩ := rd_ref h1
    split at p
    · rename_i q
      obtain ⟨zs, h2, h3⟩ := rm.at_ _ _ a q ha
      exact call_len_seq pins s σ H _ us Q I r ⟨a, zs, rfl, .inl (SqL.of h2), by rw [h3.length]; exact p.done rm dr_int⟩
    · rename_i q
      obtain ⟨zs, h2, h3⟩ := rm.at_ _ _ a q ha
      exact call_len_seq pins s σ H _ us Q I r ⟨a, zs, rfl, .inl h2.seq, by rw [h3.length]; exact p.done rm dr_int⟩
    · rename_i q
      obtain ⟨zs, h2, h3⟩ := rm.at_ _ _ a q ha
      exact call_lenD pins s σ H _ us Q I r ⟨a, zs, rfl, h2, by rw [rkv_length h3]; exact p.done rm dr_int⟩
    · exact p.elim
  · exact p.elim
theorem cr_Abs : CallR X (.builtin "abs") (rC X.K X.mg bAbs) := by
  intro pins s σ H xs us Q I r ⟨ι, μ, ds, rm, rl, p⟩
  unfold bAbs at p
  split at p
  · obtain ⟨y, rfl, h1⟩ := rl_one rl
    cases rd_int h1
    exact call_abs pins s σ H _ us Q I r ⟨_, rfl, p.done rm dr_int⟩
  · exact p.elim
theorem cr_Int : CallR X (.type "int") (rC X.K X.mg bInt) := by
  intro pins s σ H xs us Q I r ⟨ι, μ, ds, rm, rl, p⟩
  unfold bInt at p
  split at p
  · obtain ⟨y, rfl, h1⟩ := rl_one rl
    cases rd_int h1
    exact call_int1 pins s σ H _ us Q I r (.inl ⟨_, rfl, p.done rm dr_int⟩)
  · obtain ⟨y, rfl, h1⟩ := rl_one rl
    cases rd_bl h1
    exact call_int1 pins s σ H _ us Q I r (.inr ⟨_, rfl, p.done rm dr_int⟩)
  · obtain ⟨y, rfl, h1⟩ := rl_one rl
    cases rd_str h1
    split at p
    · rename_i n hn
      split at p
      · rename_i hl
        exact call_int_str pins s σ H _ us Q I r ⟨_, n, rfl, hn, hl, p.done rm dr_int⟩
      · exact p.elim
    · exact p.elim
  · exact p.elim
theorem cr_Max2 (hc : X.calm = true) : CallR X (.builtin "max") (rC X.K X.mg bMax) := by
  intro pins s σ H xs us Q I r ⟨ι, μ, ds, rm, rl, p⟩
  unfold bMax at p
  split at p
  · obtain ⟨y, z, rfl, h1, h2⟩ := rl_two rl
    cases rd_int h1; cases rd_int h2
    exact call_max2 hc pins s σ H _ us Q I r ⟨_, _, rfl, p.done rm dr_int⟩
  · exact p.elim
theorem cr_Min2 (hc : X.calm = true) : CallR X (.builtin "min") (rC X.K X.mg bMin) := by
  intro pins s σ H xs us Q I r ⟨ι, μ, ds, rm, rl, p⟩
  unfold bMin at p
  split at p
  · obtain ⟨y, z, rfl, h1, h2⟩ := rl_two rl
    cases rd_int h1; cases rd_int h2
    exact call_min2 hc pins s σ H _ us Q I r ⟨_, _, rfl, p.done rm dr_int⟩
  · exact p.elim
theorem cr_Str : CallR X (.type "str") (rC X.K X.mg bStr) := by
  intro pins s σ H xs us Q I r ⟨ι, μ, ds, rm, rl, p⟩
  unfold bStr at p
  split at p
  · obtain ⟨y, rfl, h1⟩ := rl_one rl
    cases rd_int h1
    split at p
    · rename_i hl
      exact call_str_int pins s σ H _ us Q I r ⟨_, rfl, hl, p.done rm dr_str⟩
    · exact p.elim
  · exact p.elim
theorem cr_Sum (hc : X.calm = true) : CallR X (.builtin "sum") (rC X.K X.mg bSum) := by
  intro pins s σ H xs us Q I r ⟨ι, μ, ds, rm, rl, p⟩
  unfold bSum at p
  split at p
  · obtain ⟨y, rfl, h1⟩ := rl_one rl
    obtain ⟨a, rfl, ha⟩ := rd_ref h1
    split at p
    · rename_i ns q
      rename_i n _
      cases q1 : getL μ n with
      | none => rw [q1] at q; cases q
      | some l =>
        rw [q1] at q
        obtain ⟨zs, h2, h3⟩ := rm_seq rm q1 ha
        rw [intsD_rep q h3] at h2
        exact L2.cr_sum hc pins s σ H _ us Q I r ⟨a, ns, rfl, h2, p.done rm dr_int⟩
    · exact p.elim
  · exact p.elim
theorem cr_List : CallR X (.type "list") (rC X.K X.mg bList) := by
  intro pins s σ H xs us Q I r ⟨ι, μ, ds, rm, rl, p⟩
  unfold bList at p
  split at p
  · obtain ⟨y, rfl, h1⟩ := rl_one rl
    obtain ⟨a, zs, rfl, h2, h3⟩ := rd_tup h1
    exact call_list_of pins s σ H _ us Q I r ⟨a, zs, rfl, .inr h2, newL_post p rm h3⟩
  · obtain ⟨y, rfl, h1⟩ := rl_one rl
    obtain ⟨a, rfl, ha⟩ := rd_ref h1
    split at p
    · rename_i l hl
      obtain ⟨zs, h2, h3⟩ := rm_seq rm hl ha
      exact call_list_of pins s σ H _ us Q I r ⟨a, zs, rfl, .inl h2, newL_post p rm h3⟩
    · exact p.elim
  · exact p.elim
theorem cr_Tuple : CallR X (.type "tuple") (rC X.K X.mg bTuple) := by
  intro pins s σ H xs us Q I r ⟨ι, μ, ds, rm, rl, p⟩
  unfold bTuple at p
  split at p
  · obtain ⟨y, rfl, h1⟩ := rl_one rl
    obtain ⟨a, zs, rfl, h2, h3⟩ := rd_tup h1
    exact call_tuple_of pins s σ H _ us Q I r ⟨a, zs, rfl, .inr ⟨h2, p.done rm h1⟩⟩
  · obtain ⟨y, rfl, h1⟩ := rl_one rl
    obtain ⟨a, rfl, ha⟩ := rd_ref h1
    split at p
    · rename_i l hl
      obtain ⟨zs, h2, h3⟩ := rm_seq rm hl ha
      exact call_tuple_of pins s σ H _ us Q I r ⟨a, zs, rfl, .inl ⟨h2, newT_post p rm h3⟩⟩
    · exact p.elim
  · exact p.elim
theorem cr_Ord : CallR X (.builtin "ord") (rC X.K X.mg bOrd) := by
  intro pins s σ H xs us Q I r ⟨ι, μ, ds, rm, rl, p⟩
  unfold bOrd at p
  split at p
  · obtain ⟨y, rfl, h1⟩ := rl_one rl
    cases rd_str h1
    split at p
    · rename_i hl
      exact call_ord pins s σ H _ us Q I r ⟨_, rfl, hl, p.done rm dr_int⟩
    · exact p.elim
  · exact p.elim
theorem cr_Chr : CallR X (.builtin "chr") (rC X.K X.mg bChr) := by
  intro pins s σ H xs us Q I r ⟨ι, μ, ds, rm, rl, p⟩
  unfold bChr at p
  split at p
  · obtain ⟨y, rfl, h1⟩ := rl_one rl
    cases rd_int h1
    split at p
    · rename_i hl
      exact call_chr pins s σ H _ us Q I r ⟨_, rfl, hl.1, hl.2, p.done rm dr_str⟩
    · exact p.elim
  · exact p.elim
local macro_rules | `(tactic| walk_at "pure") => `(tactic| (repeat' split
                                                            all_goals first | exact pureO_ok | exact pureO_bad | exact pureO_ob))
theorem pu_Len (ds : List D) (μ : Mem) : pureO (bLen ds μ) := by unfold bLen; walk_at "pure"
theorem pu_Abs (ds : List D) (μ : Mem) : pureO (bAbs ds μ) := by unfold bAbs; walk_at "pure"
theorem pu_Int (ds : List D) (μ : Mem) : pureO (bInt ds μ) := by unfold bInt; walk_at "pure"
theorem pu_Max (ds : List D) (μ : Mem) : pureO (bMax ds μ) := by unfold bMax; walk_at "pure"
theorem pu_Min (ds : List D) (μ : Mem) : pureO (bMin ds μ) := by unfold bMin; walk_at "pure"
theorem pu_Str (ds : List D) (μ : Mem) : pureO (bStr ds μ) := by unfold bStr; walk_at "pure"
theorem pu_Sum (ds : List D) (μ : Mem) : pureO (bSum ds μ) := by unfold bSum; walk_at "pure"
theorem pu_List (ds : List D) (μ : Mem) : pureO (bList ds μ) := by unfold bList; walk_at "pure"
theorem pu_Tuple (ds : List D) (μ : Mem) : pureO (bTuple ds μ) := by unfold bTuple; walk_at "pure"
theorem pu_Ord (ds : List D) (μ : Mem) : pureO (bOrd ds μ) := by unfold bOrd; walk_at "pure"
theorem pu_Chr (ds : List D) (μ : Mem) : pureO (bChr ds μ) := by unfold bChr; walk_at "pure"
/-! ### isinstance of a built-in type -/
theorem ty_rep {H : Hp} {ι : List Addr} {μ : Mem} {d : D} {v : V} {t : String} (rm : RepM X.K H ι X.mg μ) (r : RepD X.K H ι d v) (h : tyD μ d = some t) : TyX X.K H v (.type t) := by
  cases d with
  | non => cases rd_non r; cases h; exact .base .non
  | bl b => cases rd_bl r; cases h; exact .base (.bl b)
  | int b => cases rd_int r; cases h; exact .base (.int b)
  | str b => cases rd_str r; cases h; exact .base (.str b)
  | tup l =>
    obtain ⟨a, xs, rfl, h1, _⟩ := rd_tup r
    cases h
    rcases h1 with (h1 | ⟨o, h1⟩) | ⟨o, its, n, hk, hc, _⟩
    · exact .base (.tup h1)
    · exact .fTuple h1
    · exact .kTuple hk hc
  | ref n =>
    obtain ⟨a, rfl, ha⟩ := rd_ref r
    unfold tyD at h
    dsimp only at h
    split at h
    · rename_i q
      cases h
      obtain ⟨xs, h1, _⟩ := rm.at_ _ _ a q ha
      exact .base (.lst h1)
    · rename_i q
      cases h
      obtain ⟨xs, h1, _⟩ := rm.at_ _ _ a q ha
      rcases h1 with ⟨o, h1⟩ | ⟨o, its, n, hk, hc, _⟩
      · exact .base (.frz h1)
      · exact .kList hk hc
    · rename_i q
      cases h
      obtain ⟨xs, h1, _⟩ := rm.at_ _ _ a q ha
      exact .base (.dK h1)
    · rename_i q
      cases h
      obtain ⟨xs, h1, _⟩ := rm.at_ _ _ a q ha
      exact .base (.dT h1)
    · cases h
variable {W : WX} {C : CEnv} {e a b : Expr} {es : List Expr} {x y : Str} {p1 p2 pos : Pos}
theorem pe_misi {ma : Ex} {T : String} (ha : PE X a (tE X.K X.mg W (ma C))) (hg : Gl X "isinstance") (hm : X.mg "isinstance" = none) (hg2 : Gl X y) (hm2 : X.mg y = none) (hv : bootBuiltins y = some (.type T)) (hn : y ≠ "__name__") (hd : (y == ("__debug__" : Str)) = false)
    (hs : starEach [a, .Name y p2] X.env = (false, eval a X.env) :: starEach [.Name y p2] X.env) :
    PE X (.Call (.Name "isinstance" p1) [a, .Name y p2] [] pos) (tE X.K X.mg W (mUn (fIsI T) ma C)) := by
  have hb : PE X (.Name y p2) (tC (.ty T)) := pe_bltn hg2 hm2 hv rfl hn hd
  refine PE.weak (pe_callB call_isi hg hm (by decide +kernel) (pa_cons ha (pa_cons hb pa_nil) hs) (he := hs)) fun σ H Q h => ?_
  refine tE.mono (tE_one h) fun v H1 ⟨ι, μ, d, rm, rd, p⟩ => ?_
  unfold fIsI at p
  cases q : tyD μ d with
  | none => rw [q] at p; exact p.elim
  | some t =>
    rw [q] at p
    cases q2 : kitB t T with
    | none =>
      have p : PostE X.K X.mg W σ H1 ι (ob (kitB t T) μ) Q := p
      rw [q2] at p
      exact p.elim
    | some c =>
      have p : PostE X.K X.mg W σ H1 ι (ob (kitB t T) μ) Q := p
      rw [q2] at p
      exact ⟨v, .ty T, .type t, .type T, c, rfl, .ty T, ty_rep rm rd q, kit_ty q2, p.done rm dr_bl⟩
/-! ### a built-in called -/
theorem pe_mcb {id : String} {ma : Ex} {ms : Exs} {f : List D → Mem → Out} (hc : CallR X (.builtin id) (rC X.K X.mg f)) (hp : ∀ ds μ, pureO (f ds μ)) (hg : Gl X x) (hm : X.mg x = none) (hv : bootBuiltins x = some (.builtin id)) (ha : PA X (e :: es) (tA X.K X.mg W (ms C)))
    (hn : x ≠ "__name__") (hdb : (x == ("__debug__" : Str)) = false) (he : starEach (e :: es) X.env = (false, eval e X.env) :: starEach es X.env) (hpl : (backTo pos (starEach es X.env)).any (·.1) = false) :
    PE X (.Call (.Name x p1) (e :: es) [] pos) (tE X.K X.mg W (mCB f ms C)) :=
  PE.weak (pe_callB hc hg hm hv ha hn hdb he hpl) fun σ H Q h => tA.mono (tE_args h) fun xs H1 ⟨ι, μ, ds, rm, rl, p⟩ => ⟨ι, μ, ds, rm, rl, p.calm (hp _ _)⟩
theorem pe_mct {T : String} {ma : Ex} {ms : Exs} {f : List D → Mem → Out} (hc : CallR X (.type T) (rC X.K X.mg f)) (hp : ∀ ds μ, pureO (f ds μ)) (hg : Gl X x) (hm : X.mg x = none) (hv : bootBuiltins x = some (.type T)) (ha : PA X (e :: es) (tA X.K X.mg W (ms C)))
    (hn : x ≠ "__name__") (hdb : (x == ("__debug__" : Str)) = false) (he : starEach (e :: es) X.env = (false, eval e X.env) :: starEach es X.env) (hpl : (backTo pos (starEach es X.env)).any (·.1) = false) :
    PE X (.Call (.Name x p1) (e :: es) [] pos) (tE X.K X.mg W (mCB f ms C)) :=
  PE.weak (pe_callTy hc hg hm hv ha hn hdb he hpl) fun σ H Q h => tA.mono (tE_args h) fun xs H1 ⟨ι, μ, ds, rm, rl, p⟩ => ⟨ι, μ, ds, rm, rl, p.calm (hp _ _)⟩
end
/-! ### methods of lists -/
/-- a method of a built-in type: the receiver, a look at its type, the arguments -/
def mBM (ty : D → Mem → Bool) (f : D → List D → Mem → Out) (a : Ex) (as : Exs) : Ex := fun C ρ μ => (a C ρ μ).bind fun d μ1 => if ty d μ1 then (as C ρ μ1).bind fun ds μ2 => f d ds μ2 else .bad
def isLst (d : D) (μ : Mem) : Bool := match d with
  | .ref n => (getL μ n).isSome
  | _ => false
def isStr (d : D) (_ : Mem) : Bool := match d with
  | .str _ => true
  | _ => false
section
variable {X : Cx} {W : WX} {C : CEnv} {o e : Expr} {es : List Expr} {name : Str} {apos cpos : Pos}
theorem tE_bm {T : String} {ma : Ex} {ms : Exs} {ty : D → Mem → Bool} {f : D → List D → Mem → Out} {σ : L2.St} {H : Hp} {Q : VK} (hp : ∀ d ds μ, pureO (f d ds μ)) (ht : ∀ d μ H ι v, ty d μ = true → RepM X.K H ι X.mg μ → RepD X.K H ι d v → tyV X.K T v H)
    (h : tE X.K X.mg W (mBM ty f ma ms C) σ H Q) : tBM X.K T (rM X.K X.mg f) (tE X.K X.mg W (ma C)) (tA X.K X.mg W (ms C)) σ H Q := by
  obtain ⟨ρ, μ, ι, rs, rm, h⟩ := h
  refine ⟨ρ, μ, ι, rs, rm, ?_⟩
  refine PostE.mono (PostE.bind h) fun v H1 ⟨ι1, d, μ1, q, e, r1, r2, p⟩ => ?_
  split at p
  · rename_i hty
    refine ⟨ht d μ1 H1 ι1 v hty r1 r2, ρ, μ1, ι1, rs.mono e, r1, ?_⟩
    refine PostA.mono (PostA.bind p) fun vs H2 ⟨ι2, ds, μ2, q2, e2, r3, r4, p2⟩ => ?_
    exact ⟨ι2, μ2, d, ds, r3, r2.mono e2, r4, p2.calm (hp _ _ _)⟩
  · exact p.elim
theorem lst_ty {d : D} {μ : Mem} {H : Hp} {ι : List Addr} {v : V} (h : isLst d μ = true) (rm : RepM X.K H ι X.mg μ) (rd : RepD X.K H ι d v) : tyV X.K "list" v H := by
  cases d with
  | ref n =>
    obtain ⟨a, rfl, ha⟩ := rd_ref rd
    have h : (getL μ n).isSome = true := h
    obtain ⟨l, hl⟩ := Option.isSome_iff_exists.mp h
    obtain ⟨xs, h1, _⟩ := rm_seq rm hl ha
    exact .inl ⟨rfl, xs, h1⟩
  | _ => cases h
theorem str_ty {d : D} {μ : Mem} {H : Hp} {ι : List Addr} {v : V} (h : isStr d μ = true) (rm : RepM X.K H ι X.mg μ) (rd : RepD X.K H ι d v) : tyV X.K "str" v H := by
  cases d with
  | str s => cases rd_str rd; rfl
  | _ => cases h
/-- a list of the store written -/
theorem wr_post {K : PySem.W.Frag} {mg : Str → Option Value} {W : WX} {σ : L2.St} {H : Hp} {ι : List Addr} {μ : Mem} {Q : VK} {n : Nat} {p : Addr} {l l' : List D} {xs' : List V} {d : D} {v : V} (h : PostE K mg W σ H ι (.ok d (μ.set n (.lst l'))) Q) (rm : RepM K H ι mg μ) (hn : getM μ n = some l) (hp : ι[n]? = some p)
    (rl : ∀ ι' H', Ext K H ι H' ι' → RepL K H' ι' l' xs') (rd : ∀ ι' H', Ext K H ι H' ι' → RepD K H' ι' d v) : Q v (upd H p (.lst xs')) := by
  have w := RepM.write (u := .lst xs') (o' := .lst l') rm (getM_at hn) hp rfl rfl
  have hv := rm.at_ _ _ p (getM_at hn) hp
  obtain ⟨xs, h1, _⟩ := hv
  have ex : Ext K H ι (upd H p (.lst xs')) ι := ⟨List.prefix_refl _, tups_upd (fun xs e => by rw [h1] at e; cases e) (fun _ _ e => by rw [h1] at e; cases e)⟩
  obtain ⟨w1, w2⟩ := w ⟨xs', upd_same, rl _ _ ex⟩
  exact h v _ ι ex w1 (rd _ _ ex)
theorem mt_Append : MtR X "list.append" (rM X.K X.mg kAppend) := by
  intro pins s σ H x xs v us Q I rx rs ⟨ι, μ, d, ds, rm, r1, r2, p⟩
  unfold kAppend at p
  split at p
  · obtain ⟨a, rfl, ha⟩ := rd_ref r1
    obtain ⟨y, rfl, h1⟩ := rl_one r2
    split at p
    · rename_i l hl
      split at p
      · rename_i hz
        obtain ⟨zs, h2, h3⟩ := rm_lst rm hl ha
        exact mt_append pins s σ H _ _ v us Q I rx rs ⟨a, zs, y, rfl, rfl, h2, by rw [h3.length]; exact hz, wr_post p rm hl ha (fun _ _ e => (h3.mono e).append (RepL.one (h1.mono e))) (fun _ _ _ => dr_non)⟩
      · exact p.elim
    · exact p.elim
  · exact p.elim
theorem mt_Extend : MtR X "list.extend" (rM X.K X.mg kExtend) := by
  intro pins s σ H x xs v us Q I rx rs ⟨ι, μ, d, ds, rm, r1, r2, p⟩
  unfold kExtend at p
  split at p
  · obtain ⟨a, rfl, ha⟩ := rd_ref r1
    obtain ⟨y, rfl, h1⟩ := rl_one r2
    obtain ⟨b, rfl, hb⟩ := rd_ref h1
    split at p
    · rename_i l k hl hk
      split at p
      · rename_i hz
        obtain ⟨zs, h2, h3⟩ := rm_lst rm hl ha
        obtain ⟨ws, h4, h5⟩ := rm_lst rm hk hb
        exact mt_extend pins s σ H _ _ v us Q I rx rs ⟨a, b, zs, ws, rfl, rfl, h2, h4, by rw [h3.length, h5.length]; exact hz, wr_post p rm hl ha (fun _ _ e => (h3.mono e).append (h5.mono e)) (fun _ _ _ => dr_non)⟩
      · exact p.elim
    · exact p.elim
  · exact p.elim
local macro_rules | `(tactic| walk_at "pure") => `(tactic| (repeat' split
                                                            all_goals first | exact pureO_ok | exact pureO_bad | exact pureO_ob))
theorem pu_Append (d : D) (ds : List D) (μ : Mem) : pureO (kAppend d ds μ) := by unfold kAppend; walk_at "pure"
theorem pu_Extend (d : D) (ds : List D) (μ : Mem) : pureO (kExtend d ds μ) := by unfold kExtend; walk_at "pure"
end

/-! ### slices -/
def mNo : CEnv → Loc → Mem → Out := fun _ _ μ => .ok .non μ
/-- part of a slice: none, or an int -/
def cutD (l : List D) (lo hi : Option Int) : List D := (l.drop (HT.sIx l.length 0 lo)).take (HT.sIx l.length l.length hi - HT.sIx l.length 0 lo)
def fSl (d : D) (lo hi : Option Int) (μ : Mem) : Out := match d with
  | .tup l => .ok (.tup (cutD l lo hi)) μ
  | .ref n => (match getL μ n with
    | some l => newL (cutD l lo hi) μ
    | none => .bad)
  | .str z => if z.length ≤ sizeLine then oS (cutS z lo hi) μ else .bad
  | _ => .bad
/-- an optional part -/
inductive Opt where
  | no | yes (m : Ex)
def optI (o : Opt) (C : CEnv) (ρ : Loc) (μ : Mem) (f : Option Int → Mem → Out) : Out := match o with
  | .no => f none μ
  | .yes m => (m C ρ μ).bind fun d μ1 => match d with
    | .int i => f (some i) μ1
    | _ => .bad
def mSl (a : Ex) (lo hi : Opt) : Ex := fun C ρ μ => (a C ρ μ).bind fun d μ1 => optI lo C ρ μ1 fun l μ2 => optI hi C ρ μ2 fun u μ3 => fSl d l u μ3
end PM
set_option Elab.async false
set_option linter.all false
set_option maxRecDepth 100000
set_option maxHeartbeats 1000000
/-! PM6: slices, targets, iteration, statements. -/
namespace PM
open PySem PySem.Spec PyProof.Rows L2
section
variable {X : Cx} {W : WX} {C : CEnv}
/-! ### slices -/
theorem cut_rep {K : PySem.W.Frag} {H : Hp} {ι : List Addr} {l : List D} {xs : List V} {lo hi : Option Int} (r : RepL K H ι l xs) : RepL K H ι (cutD l lo hi) (cutV xs lo hi) := by
  unfold cutD cutV
  rw [r.length]
  exact (r.drop _).take _
theorem cut_whole {l : List D} {lo hi : Option Int} (h : HT.sIx l.length 0 lo = 0 ∧ HT.sIx l.length l.length hi = l.length) : cutD l lo hi = l := by
  unfold cutD
  rw [h.1, h.2]
  simp
def rSl (K : PySem.W.Frag) (mg : Str → Option Value) : V → Option Int → Option Int → Hp → VK → Prop := fun x lo hi H Q => ∃ ι μ d, RepM K H ι mg μ ∧ RepD K H ι d x ∧ PostE K mg (fun _ _ _ _ => False) [] H ι (fSl d lo hi μ) Q
theorem sl_All : SlR X (rSl X.K X.mg) := by
  intro pins s σ H x v vl vu lo hi sl Q I rx hs pl pu ⟨ι, μ, d, rm, rd, p⟩
  cases d with
  | tup l =>
    obtain ⟨a, xs, rfl, h1, h2⟩ := rd_tup rd
    refine sl_tupA pins s σ H _ v vl vu lo hi sl Q I rx hs pl pu ⟨a, xs, rfl, h1, fun hw => ?_, fun hw => newT_post p rm (cut_rep h2)⟩
    have p' : PostE X.K X.mg (fun _ _ _ _ => False) [] H ι (.ok (.tup (cutD l lo hi)) μ) Q := p
    rw [cut_whole (by rw [← h2.length]; exact hw)] at p'
    exact p'.done rm (dr_tup h1 h2)
  | ref n =>
    obtain ⟨a, rfl, ha⟩ := rd_ref rd
    unfold fSl at p
    dsimp only at p
    split at p
    · rename_i l hl
      obtain ⟨xs, h1, h2⟩ := rm_seq rm hl ha
      exact sl_list pins s σ H _ v vl vu lo hi sl Q I rx hs pl pu ⟨a, xs, rfl, h1, newL_post p rm (cut_rep h2)⟩
    · exact p.elim
  | str z =>
    cases rd_str rd
    unfold fSl at p
    dsimp only at p
    split at p
    · rename_i hl
      exact sl_str pins s σ H _ v vl vu lo hi sl Q I rx hs pl pu ⟨z, rfl, hl, p.done rm dr_str⟩
    · exact p.elim
  | _ => exact p.elim
theorem pu_Sl (d : D) (lo hi : Option Int) (μ : Mem) : pureO (fSl d lo hi μ) := by
  unfold fSl; repeat' split
  all_goals first | exact pureO_ok | exact pureO_bad
def tOpt (K : PySem.W.Frag) (mg : Str → Option Value) (W : WX) (C : CEnv) : Opt → TO
  | .no => tNoPart
  | .yes m => tPart (tE K mg W (m C))
theorem optI_post {K : PySem.W.Frag} {mg : Str → Option Value} {W : WX} {o : Opt} {ρ : Loc} {μ : Mem} {f : Option Int → Mem → Out} {σ : L2.St} {H : Hp} {ι : List Addr} {Q : VK} (rs : RepS K H ι ρ σ) (rm : RepM K H ι mg μ) (h : PostE K mg W σ H ι (optI o C ρ μ f) Q) :
    tOpt K mg W C o σ H fun u H1 => ∃ ι1 μ1, Ext K H ι H1 ι1 ∧ RepM K H1 ι1 mg μ1 ∧ PostE K mg W σ H1 ι1 (f u μ1) Q := by
  cases o with
  | no => exact ⟨ι, μ, .refl, rm, h⟩
  | yes m =>
    refine ⟨ρ, μ, ι, rs, rm, ?_⟩
    refine PostE.mono (PostE.bind (f := fun d μ1 => match d with | .int i => f (some i) μ1 | _ => .bad) h) fun v H1 ⟨ι1, d, μ1, q, e, r1, r2, p⟩ => ?_
    cases d with
    | int i =>
      cases rd_int r2
      exact ⟨i, rfl, ι1, μ1, e, r1, p⟩
    | _ => exact p.elim
theorem tOpt.mono {K : PySem.W.Frag} {mg : Str → Option Value} {W : WX} {o : Opt} {σ : L2.St} {H : Hp} {Q Q' : Option Int → Hp → Prop} (h : tOpt K mg W C o σ H Q) (q : ∀ v H, Q v H → Q' v H) : tOpt K mg W C o σ H Q' := by
  cases o with
  | no => exact q _ _ h
  | yes m => exact tE.mono h fun v H1 ⟨i, e, p⟩ => ⟨i, e, q _ _ p⟩
theorem pe_msl {a : Expr} {lo hi : Option Expr} {ma : Ex} {ol oh : Opt} {p2 pos : Pos} (ha : PE X a (tE X.K X.mg W (ma C))) (hl : PO X lo (tOpt X.K X.mg W C ol)) (hh : PO X hi (tOpt X.K X.mg W C oh)) : PE X (.Subscript a (.Slice lo hi none p2) pos) (tE X.K X.mg W (mSl ma ol oh C)) := by
  refine PE.weak (pe_slice sl_All ha hl hh) fun σ H Q ⟨ρ, μ, ι, rs, rm, h⟩ => ⟨ρ, μ, ι, rs, rm, ?_⟩
  refine PostE.mono (PostE.bind h) fun v H1 ⟨ι1, d, μ1, q, e, r1, r2, p⟩ => ?_
  refine tOpt.mono (optI_post (rs.mono e) r1 p) fun u H2 ⟨ι2, μ2, e2, r3, p2⟩ => ?_
  refine tOpt.mono (optI_post (rs.mono (e.trans e2)) r3 p2) fun u2 H3 ⟨ι3, μ3, e3, r4, p3⟩ => ?_
  exact ⟨ι3, μ3, d, r4, r2.mono (e2.trans e3), p3.calm (pu_Sl _ _ _ _)⟩
theorem po_mno : PO X none (tOpt X.K X.mg W C .no) := po_none
theorem po_myes {a : Expr} {ma : Ex} (ha : PE X a (tE X.K X.mg W (ma C))) : PO X (some a) (tOpt X.K X.mg W C (.yes ma)) := po_some ha
end

/-! ### what a statement promises -/
section
variable (K : PySem.W.Frag) (mg : Str → Option Value) (W : WX)
def PostR (H : Hp) (ι : List Addr) (ρ : Loc) (μ : Mem) (Q : L2.St → Hp → Prop) : Prop := ∀ σ' H' ι', Ext K H ι H' ι' → RepM K H' ι' mg μ → RepS K H' ι' ρ σ' → Q σ' H'
def PostS (H : Hp) (ι : List Addr) (o : Fl) (Dn : Ends) : Prop := match o with
  | .nx ρ μ => PostR K mg H ι ρ μ Dn.nx
  | .rt d μ => PostV K mg H ι d μ Dn.rt
  | .bk ρ μ => PostR K mg H ι ρ μ Dn.bk
  | .ct ρ μ => PostR K mg H ι ρ μ Dn.ct
  | .ex x ρ μ => ∀ cls d σ' H' ι', Ext K H ι H' ι' → RepM K H' ι' mg μ → RepS K H' ι' ρ σ' → XRep K mg H' ι' x cls d → W cls d σ' H'
  | .bad => False
def tS (m : Loc → Mem → Fl) : TS := fun Dn σ H => ∃ ρ μ ι, RepS K H ι ρ σ ∧ RepM K H ι mg μ ∧ PostS K mg W H ι (m ρ μ) Dn
/-- a target -/
def tG (m : D → Loc → Mem → Fl) : TG := fun v σ H Q => ∃ ρ μ ι d, RepS K H ι ρ σ ∧ RepM K H ι mg μ ∧ RepD K H ι d v ∧ PostS K mg W H ι (m d ρ μ) { nx := Q, rt := fun _ _ => False }
def tGs (m : List D → Loc → Mem → Fl) : TGs := fun vs σ H Q => ∃ ρ μ ι ds, RepS K H ι ρ σ ∧ RepM K H ι mg μ ∧ RepL K H ι ds vs ∧ PostS K mg W H ι (m ds ρ μ) { nx := Q, rt := fun _ _ => False }
end
abbrev Tg := CEnv → D → Loc → Mem → Fl
abbrev Tgs := CEnv → List D → Loc → Mem → Fl
/-- an expression's outcome, then a statement's -/
def Out.then (o : Out) (ρ : Loc) (f : D → Mem → Fl) : Fl := match o with
  | .ok d μ => f d μ
  | .ex x μ => .ex x ρ μ
  | .bad => .bad
def Outs.then (o : Outs) (ρ : Loc) (f : List D → Mem → Fl) : Fl := match o with
  | .ok d μ => f d μ
  | .ex x μ => .ex x ρ μ
  | .bad => .bad
def Fl.then (o : Fl) (f : Loc → Mem → Fl) : Fl := match o with
  | .nx ρ μ => f ρ μ
  | o => o
@[simp] theorem Out.then_ok {d : D} {μ : Mem} {ρ : Loc} {f : D → Mem → Fl} : (Out.ok d μ).then ρ f = f d μ := rfl
@[simp] theorem Outs.then_ok {d : List D} {μ : Mem} {ρ : Loc} {f : List D → Mem → Fl} : (Outs.ok d μ).then ρ f = f d μ := rfl
@[simp] theorem Fl.then_nx {ρ : Loc} {μ : Mem} {f : Loc → Mem → Fl} : (Fl.nx ρ μ).then f = f ρ μ := rfl
@[simp] theorem Fl.then_rt {d : D} {μ : Mem} {f : Loc → Mem → Fl} : (Fl.rt d μ).then f = .rt d μ := rfl
@[simp] theorem Fl.then_bk {ρ : Loc} {μ : Mem} {f : Loc → Mem → Fl} : (Fl.bk ρ μ).then f = .bk ρ μ := rfl
@[simp] theorem Fl.then_ct {ρ : Loc} {μ : Mem} {f : Loc → Mem → Fl} : (Fl.ct ρ μ).then f = .ct ρ μ := rfl
section
variable {K : PySem.W.Frag} {mg : Str → Option Value} {W : WX} {H H1 : Hp} {ι ι1 : List Addr} {Dn : Ends}
theorem PostR.ext {ρ : Loc} {μ : Mem} {Q : L2.St → Hp → Prop} (e : Ext K H ι H1 ι1) (h : PostR K mg H ι ρ μ Q) : PostR K mg H1 ι1 ρ μ Q := fun σ' H' ι' e' rm rs => h σ' H' ι' (e.trans e') rm rs
theorem PostS.ext {o : Fl} (e : Ext K H ι H1 ι1) (h : PostS K mg W H ι o Dn) : PostS K mg W H1 ι1 o Dn := by
  cases o with
  | nx ρ μ => exact PostR.ext e h
  | rt d μ => exact PostV.ext e h
  | bk ρ μ => exact PostR.ext e h
  | ct ρ μ => exact PostR.ext e h
  | ex x ρ μ => exact fun cls d σ' H' ι' e' rm rs rx => h cls d σ' H' ι' (e.trans e') rm rs rx
  | bad => exact h
/-- the next, and nothing else, is another -/
theorem PostS.nx {o : Fl} {Q : L2.St → Hp → Prop} (h : PostS K mg W H ι o Dn) (q : ∀ ρ μ, o = .nx ρ μ → PostR K mg H ι ρ μ Q) : PostS K mg W H ι o { Dn with nx := Q } := by
  cases o with
  | nx ρ μ => exact q ρ μ rfl
  | rt d μ => exact h
  | bk ρ μ => exact h
  | ct ρ μ => exact h
  | ex x ρ μ => exact h
  | bad => exact h
theorem PostE.then {o : Out} {ρ : Loc} {σ : L2.St} {f : D → Mem → Fl} (h : PostS K mg W H ι (o.then ρ f) Dn) (rs : RepS K H ι ρ σ) :
    PostE K mg W σ H ι o (fun v H1 => ∃ ι1 d μ1, o = .ok d μ1 ∧ Ext K H ι H1 ι1 ∧ RepM K H1 ι1 mg μ1 ∧ RepD K H1 ι1 d v ∧ PostS K mg W H1 ι1 (f d μ1) Dn) := by
  cases o with
  | ok d μ => exact fun v H' ι' e rm rd => ⟨ι', d, μ, rfl, e, rm, rd, PostS.ext e h⟩
  | ex x μ => exact fun cls d H' ι' e rm rx => h cls d σ H' ι' e rm (rs.mono e) rx
  | bad => exact h
theorem PostA.then {o : Outs} {ρ : Loc} {σ : L2.St} {f : List D → Mem → Fl} (h : PostS K mg W H ι (o.then ρ f) Dn) (rs : RepS K H ι ρ σ) :
    PostA K mg W σ H ι o (fun v H1 => ∃ ι1 d μ1, o = .ok d μ1 ∧ Ext K H ι H1 ι1 ∧ RepM K H1 ι1 mg μ1 ∧ RepL K H1 ι1 d v ∧ PostS K mg W H1 ι1 (f d μ1) Dn) := by
  cases o with
  | ok d μ => exact fun v H' ι' e rm rd => ⟨ι', d, μ, rfl, e, rm, rd, PostS.ext e h⟩
  | ex x μ => exact fun cls d H' ι' e rm rx => h cls d σ H' ι' e rm (rs.mono e) rx
  | bad => exact h
theorem PostS.then {o : Fl} {f : Loc → Mem → Fl} (h : PostS K mg W H ι (o.then f) Dn) :
    PostS K mg W H ι o { Dn with nx := fun σ1 H1 => ∃ ι1 ρ1 μ1, o = .nx ρ1 μ1 ∧ Ext K H ι H1 ι1 ∧ RepM K H1 ι1 mg μ1 ∧ RepS K H1 ι1 ρ1 σ1 ∧ PostS K mg W H1 ι1 (f ρ1 μ1) Dn } := by
  cases o with
  | nx ρ μ => exact fun σ' H' ι' e rm rs => ⟨ι', ρ, μ, rfl, e, rm, rs, PostS.ext e h⟩
  | rt d μ => exact h
  | bk ρ μ => exact h
  | ct ρ μ => exact h
  | ex x ρ μ => exact h
  | bad => exact h
theorem PostS.mono {o : Fl} {D' : Ends} (h : PostS K mg W H ι o Dn) (h1 : ∀ σ H, Dn.nx σ H → D'.nx σ H) (h2 : ∀ v H, Dn.rt v H → D'.rt v H) (h3 : ∀ σ H, Dn.bk σ H → D'.bk σ H) (h4 : ∀ σ H, Dn.ct σ H → D'.ct σ H) : PostS K mg W H ι o D' := by
  cases o with
  | nx ρ μ => exact fun σ' H' ι' e rm rs => h1 _ _ (h σ' H' ι' e rm rs)
  | rt d μ => exact fun σ' H' ι' e rm rs => h2 _ _ (h σ' H' ι' e rm rs)
  | bk ρ μ => exact fun σ' H' ι' e rm rs => h3 _ _ (h σ' H' ι' e rm rs)
  | ct ρ μ => exact fun σ' H' ι' e rm rs => h4 _ _ (h σ' H' ι' e rm rs)
  | ex x ρ μ => exact h
  | bad => exact h
theorem PostS.done {ρ : Loc} {μ : Mem} {σ : L2.St} (h : PostS K mg W H ι (.nx ρ μ) Dn) (rm : RepM K H ι mg μ) (rs : RepS K H ι ρ σ) : Dn.nx σ H := h σ H ι .refl rm rs
end
theorem PS.weak {X : Cx} {e : Stmt} {t t' : TS} (h : PS X e t) (w : ∀ Dn σ H, t' Dn σ H → t Dn σ H) : PS X e t' := ⟨fun pins s σ H Dn I q => h.run pins s σ H Dn I (w Dn σ H q)⟩
theorem PSs.weak {X : Cx} {e : List Stmt} {t t' : TS} (h : PSs X e t) (w : ∀ Dn σ H, t' Dn σ H → t Dn σ H) : PSs X e t' := ⟨fun pins s σ H Dn I q => h.run pins s σ H Dn I (w Dn σ H q)⟩
theorem PG.weak {X : Cx} {e : Expr} {t t' : TG} (h : PG X e t) (w : ∀ v σ H Q, t' v σ H Q → t v σ H Q) : PG X e t' := ⟨fun pins s σ H v u Q I r q => h.run pins s σ H v u Q I r (w v σ H Q q)⟩
theorem PGs.weak {X : Cx} {e : List Expr} {t t' : TGs} (h : PGs X e t) (w : ∀ v σ H Q, t' v σ H Q → t v σ H Q) : PGs X e t' := ⟨fun pins s σ H v u Q I r q => h.run pins s σ H v u Q I r (w v σ H Q q)⟩

/-! ### statements -/
def sNil : Sm := fun _ ρ μ => .nx ρ μ
def sBad : Sm := fun _ _ _ => .bad
def sSeq (a b : Sm) : Sm := fun C ρ μ => (a C ρ μ).then (b C)
def sExpr (a : Ex) : Sm := fun C ρ μ => (a C ρ μ).then ρ fun _ μ1 => .nx ρ μ1
def sRet (a : Ex) : Sm := fun C ρ μ => (a C ρ μ).then ρ fun d μ1 => .rt d μ1
def sRetN : Sm := fun _ _ μ => .rt .non μ
def sBrk : Sm := fun _ ρ μ => .bk ρ μ
def sCont : Sm := fun _ ρ μ => .ct ρ μ
def ifS (o : Out) (ρ : Loc) (f g : Mem → Fl) : Fl := o.then ρ fun d μ => match d with
  | .bl true => f μ
  | .bl false => g μ
  | _ => .bad
def sIf (c : Ex) (a b : Sm) : Sm := fun C ρ μ => ifS (c C ρ μ) ρ (a C ρ) (b C ρ)
/-- what a target may do -/
def Fl.only (o : Fl) : Fl := match o with
  | .nx ρ μ => .nx ρ μ
  | .ex x ρ μ => .ex x ρ μ
  | _ => .bad
@[simp] theorem Fl.only_nx {ρ : Loc} {μ : Mem} : (Fl.nx ρ μ).only = .nx ρ μ := rfl
def sAsg (a : Ex) (g : Tg) : Sm := fun C ρ μ => (a C ρ μ).then ρ fun d μ1 => (g C d ρ μ1).only
def gNm (i : Nat) : Tg := fun _ d ρ μ => .nx (ρ.set i (some d)) μ
def gNo : Tgs := fun _ ds ρ μ => match ds with
  | [] => .nx ρ μ
  | _ => .bad
def gCo (g : Tg) (gs : Tgs) : Tgs := fun C ds ρ μ => match ds with
  | d :: r => (g C d ρ μ).then (gs C r)
  | [] => .bad
def gTp (gs : Tgs) (n : Nat) : Tg := fun C d ρ μ => match d with
  | .tup l => if l.length = n then gs C l ρ μ else .bad
  | _ => .bad
def setLO (d : D) (k : D) (v : D) (μ : Mem) : Option Mem := match d, k with
  | .ref n, .int i => match getM μ n with
    | some l => match ixN l.length i with
      | some j => some (μ.set n (.lst (l.set j v)))
      | none => none
    | none => none
  | _, _ => none
def gSb (o i : Ex) : Tg := fun C v ρ μ => (o C ρ μ).then ρ fun d μ1 => (i C ρ μ1).then ρ fun k μ2 => match setLO d k v μ2 with
  | some μ3 => .nx ρ μ3
  | none => .bad
/-- a, b = x, y by names -/
def sPar (i j : Nat) (as : Exs) : Sm := fun C ρ μ => (as C ρ μ).then ρ fun ds μ1 => match ds with
  | [d, e] => .nx ((ρ.set i (some d)).set j (some e)) μ1
  | _ => .bad
def sPar3 (i j k : Nat) (as : Exs) : Sm := fun C ρ μ => (as C ρ μ).then ρ fun ds μ1 => match ds with
  | [d, e, f] => .nx (((ρ.set i (some d)).set j (some e)).set k (some f)) μ1
  | _ => .bad
def augI (op : Operator) (d e : D) (μ : Mem) : Out := match d, e with
  | .int i, .int j => (match op with
    | .Add => oI (i + j) μ
    | .Sub => oI (i - j) μ
    | _ => .bad)
  | _, _ => .bad
def sAug (op : Operator) (i : Nat) (a : Ex) : Sm := fun C ρ μ => match ρ[i]? with
  | some (some x) => (a C ρ μ).then ρ fun y μ1 => (augI op x y μ1).then ρ fun z μ2 => .nx (ρ.set i (some z)) μ2
  | _ => .bad
section
variable {X : Cx} {W : WX} {C : CEnv} {e a b c : Expr} {st : Stmt} {rest : List Stmt} {pos : Pos}
theorem ps_bad : PS X st (tS X.K X.mg W (sBad C)) := ⟨fun _ _ _ _ _ _ ⟨_, _, _, _, _, h⟩ => h.elim⟩
theorem pss_mnil : PSs X [] (tS X.K X.mg W (sNil C)) := PSs.weak pss_nil fun Dn σ H ⟨ρ, μ, ι, rs, rm, h⟩ => h.done rm rs
theorem pss_mcons {ma mb : Sm} (h1 : PS X st (tS X.K X.mg W (ma C))) (h2 : PSs X rest (tS X.K X.mg W (mb C))) : PSs X (st :: rest) (tS X.K X.mg W (sSeq ma mb C)) := by
  refine PSs.weak (pss_cons h1 h2) fun Dn σ H ⟨ρ, μ, ι, rs, rm, h⟩ => ⟨ρ, μ, ι, rs, rm, ?_⟩
  refine PostS.mono (PostS.then h) (fun σ1 H1 ⟨ι1, ρ1, μ1, q, e, r1, r2, p⟩ => ?_) (fun _ _ h => h) (fun _ _ h => h) (fun _ _ h => h)
  exact ⟨ρ1, μ1, ι1, r2, r1, p⟩
theorem pss_mone {ma : Sm} (h1 : PS X st (tS X.K X.mg W (ma C))) : PSs X [st] (tS X.K X.mg W (ma C)) := pss_one h1
theorem ps_mpass : PS X (.Pass pos) (tS X.K X.mg W (sNil C)) := PS.weak ps_pass fun Dn σ H ⟨ρ, μ, ι, rs, rm, h⟩ => h.done rm rs
theorem ps_mdoc {x j pos'} : PS X (.Expr (.Constant (.str x) j pos) pos') (tS X.K X.mg W (sNil C)) := PS.weak ps_doc fun Dn σ H ⟨ρ, μ, ι, rs, rm, h⟩ => h.done rm rs
theorem ps_mbrk : PS X (.Break pos) (tS X.K X.mg W (sBrk C)) := PS.weak ps_break fun Dn σ H ⟨ρ, μ, ι, rs, rm, h⟩ => h σ H ι .refl rm rs
theorem ps_mcont : PS X (.Continue pos) (tS X.K X.mg W (sCont C)) := PS.weak ps_continue fun Dn σ H ⟨ρ, μ, ι, rs, rm, h⟩ => h σ H ι .refl rm rs
theorem ps_mexpr {ma : Ex} (ha : PE X a (tE X.K X.mg W (ma C))) (hs : swapsWith a none pos.line X.env = pure false) : PS X (.Expr a pos) (tS X.K X.mg W (sExpr ma C)) := by
  refine PS.weak (ps_expr ha hs) fun Dn σ H ⟨ρ, μ, ι, rs, rm, h⟩ => ⟨ρ, μ, ι, rs, rm, ?_⟩
  exact PostE.mono (PostE.then h rs) fun v H1 ⟨ι1, d, μ1, q, e, r1, r2, p⟩ => p.done r1 (rs.mono e)
theorem ps_mret {ma : Ex} (ha : PE X a (tE X.K X.mg W (ma C))) : PS X (.Return (some a) pos) (tS X.K X.mg W (sRet ma C)) := by
  refine PS.weak (ps_ret ha) fun Dn σ H ⟨ρ, μ, ι, rs, rm, h⟩ => ⟨ρ, μ, ι, rs, rm, ?_⟩
  exact PostE.mono (PostE.then h rs) fun v H1 ⟨ι1, d, μ1, q, e, r1, r2, p⟩ => p v H1 ι1 .refl r1 r2
theorem ps_mretN : PS X (.Return none pos) (tS X.K X.mg W (sRetN C)) := PS.weak ps_retN fun Dn σ H ⟨ρ, μ, ι, rs, rm, h⟩ => h .non H ι .refl rm dr_non
theorem ifS_post {o : Out} {ρ : Loc} {f g : Mem → Fl} {σ : L2.St} {H : Hp} {ι : List Addr} {Dn : Ends} (rs : RepS X.K H ι ρ σ) (h : PostS X.K X.mg W H ι (ifS o ρ f g) Dn) :
    PostT X.K X.mg W σ H ι o fun b H1 => ∃ ι1 μ1, Ext X.K H ι H1 ι1 ∧ RepM X.K H1 ι1 X.mg μ1 ∧ o = .ok (.bl b) μ1 ∧ PostS X.K X.mg W H1 ι1 (if b = true then f μ1 else g μ1) Dn := by
  cases o with
  | ok d μ =>
    cases d with
    | bl b =>
      intro H' ι' e rm
      refine ⟨ι', μ, e, rm, rfl, ?_⟩
      cases b with
      | true => exact PostS.ext e h
      | false => exact PostS.ext e h
    | _ => exact h
  | ex x μ => exact fun cls d H' ι' e rm rx => h cls d σ H' ι' e rm (rs.mono e) rx
  | bad => exact h
theorem ps_mif {mc : Ex} {ma mb : Sm} {sa sb : List Stmt} (hc : PT X c (tT X.K X.mg W (mc C))) (ha : PSs X sa (tS X.K X.mg W (ma C))) (hb : PSs X sb (tS X.K X.mg W (mb C))) : PS X (.If c sa sb pos) (tS X.K X.mg W (sIf mc ma mb C)) := by
  refine PS.weak (ps_if hc ha hb) fun Dn σ H ⟨ρ, μ, ι, rs, rm, h⟩ => ⟨ρ, μ, ι, rs, rm, ?_⟩
  refine PostT.mono (ifS_post rs h) fun b H1 ⟨ι1, μ1, e, r1, q, p⟩ => ite_if (fun z => ?_) fun z => ?_
  · subst z
    exact ⟨ρ, μ1, ι1, rs.mono e, r1, p⟩
  · subst z
    exact ⟨ρ, μ1, ι1, rs.mono e, r1, p⟩
/-! ### targets -/
theorem pg_mnm {i : Nat} {x : Str} (hN : X.N.Nodup) (hi : X.N[i]? = some x) (hx : L2.Loc X.env.scope x) (hf : X.fn x = true ∨ X.env.scope.names.lookup x = some .local) : PG X (.Name x pos) (tG X.K X.mg W (gNm i C)) :=
  PG.weak (pg_name hN hi hx hf) fun v σ H Q ⟨ρ, μ, ι, d, rs, rm, rd, h⟩ => h.done rm (rs.set i rd)
theorem pg_bad : PG X e (tG X.K X.mg W fun _ _ _ => .bad) := ⟨fun _ _ _ _ _ _ _ _ _ ⟨_, _, _, _, _, _, _, h⟩ => h.elim⟩
theorem pgs_mno : PGs X [] (tGs X.K X.mg W (gNo C)) := PGs.weak pgs_nil fun vs σ H Q ⟨ρ, μ, ι, ds, rs, rm, rl, h⟩ => by
  cases ds with
  | nil => exact ⟨rl_nil rl, h.done rm rs⟩
  | cons d r => exact h.elim
theorem pgs_mco {es : List Expr} {g : Tg} {gs : Tgs} (h1 : PG X e (tG X.K X.mg W (g C))) (h2 : PGs X es (tGs X.K X.mg W (gs C))) (hs : (assignEach (e :: es) X.env).map (·.2) = assign e X.env :: (assignEach es X.env).map (·.2)) :
    PGs X (e :: es) (tGs X.K X.mg W (gCo g gs C)) := PGs.weak (pgs_cons h1 h2 hs) fun vs σ H Q ⟨ρ, μ, ι, ds, rs, rm, rl, h⟩ => by
  cases ds with
  | nil => exact h.elim
  | cons d r =>
    obtain ⟨y, ys, rfl, r1, r2⟩ := rl_cons rl
    refine ⟨y, ys, rfl, ρ, μ, ι, d, rs, rm, r1, ?_⟩
    refine PostS.mono (PostS.then h) (fun σ1 H1 ⟨ι1, ρ1, μ1, q, e, r3, r4, p⟩ => ?_) (fun _ _ h => h) (fun _ _ h => h) (fun _ _ h => h)
    exact ⟨ρ1, μ1, ι1, r, r4, r3, r2.mono e, p⟩
theorem pg_mtp {es : List Expr} {k : Nat} {gs : Tgs} {n : Nat} (hc : X.calm = true) (h : PGs X es (tGs X.K X.mg W (gs C))) (hn : (assignEach es X.env).length = n) (hst : (assignEach es X.env).findIdx? (·.1) = none) : PG X (.Tuple es k pos) (tG X.K X.mg W (gTp gs n C)) :=
  PG.weak (pg_tup hc h hn hst) fun v σ H Q ⟨ρ, μ, ι, d, rs, rm, rd, h⟩ => by
    cases d with
    | tup l =>
      obtain ⟨a, xs, rfl, h1, h2⟩ := rd_tup rd
      unfold gTp at h
      dsimp only at h
      split at h
      · rename_i hl
        exact ⟨a, xs, rfl, h1, by rw [h2.length]; exact hl, ρ, μ, ι, l, rs, rm, h2, h⟩
      · exact h.elim
    | _ => exact h.elim
theorem pg_msb {o i : Expr} {mo mi : Ex} (ho : PE X o (tE X.K X.mg W (mo C))) (hi : PE X i (tE X.K X.mg W (mi C)))
    (ha : ∀ v, assign (.Subscript o i pos) X.env v = (do
      let ov ← holding [v] (eval o X.env)
      let iv ← holding [v, ov] (eval i X.env)
      standAt pos
      holding [v, ov, iv] (setItem ov iv v)
      release [v, ov, iv] [])) : PG X (.Subscript o i pos) (tG X.K X.mg W (gSb mo mi C)) :=
  PG.weak (pg_sub ho hi set_list ha) fun v σ H Q ⟨ρ, μ, ι, d, rs, rm, rd, h⟩ => by
    refine ⟨ρ, μ, ι, rs, rm, ?_⟩
    refine PostE.mono (PostE.then h rs) fun x H1 ⟨ι1, do_, μ1, q, e, r1, r2, p⟩ => ?_
    refine ⟨ρ, μ1, ι1, rs.mono e, r1, ?_⟩
    refine PostE.mono (PostE.then p (rs.mono e)) fun y H2 ⟨ι2, di, μ2, q2, e2, r3, r4, p2⟩ => ?_
    revert p2
    cases z : setLO do_ di d μ2 with
    | none => exact fun p2 => p2.elim
    | some μ3 =>
      intro p2
      unfold setLO at z
      split at z
      · split at z
        · rename_i l hl
          split at z
          · rename_i j hj
            cases z
            obtain ⟨ao, rfl, hao⟩ := rd_ref (r2.mono e2)
            cases rd_int r4
            obtain ⟨xs, h1, h2⟩ := rm_lst r3 hl hao
            refine ⟨ao, xs, _, j, rfl, rfl, h1, by rw [h2.length]; exact hj, ?_⟩
            have e3 := e.trans e2
            have ex : Ext X.K H2 ι2 (upd H2 ao (.lst (xs.set j v))) ι2 := ⟨List.prefix_refl _, tups_upd (fun xs e => by rw [h1] at e; cases e) (fun _ _ e => by rw [h1] at e; cases e)⟩
            have w := RepM.write (u := .lst (xs.set j v)) (o' := .lst (l.set j d)) r3 (getM_at hl) hao rfl rfl ⟨xs.set j v, upd_same, (h2.mono ex).set (rd.mono (e3.trans ex)) j⟩
            exact p2 σ _ ι2 ex w.1 (rs.mono (e3.trans ex))
          · cases z
        · cases z
      · cases z
theorem PostS.only {K : PySem.W.Frag} {mg : Str → Option Value} {W : WX} {H : Hp} {ι : List Addr} {Dn : Ends} {o : Fl} {R : V → Hp → Prop} (h : PostS K mg W H ι o.only Dn) : PostS K mg W H ι o { nx := Dn.nx, rt := R } := by
  cases o with
  | nx ρ μ => exact h
  | ex x ρ μ => exact h
  | _ => exact h.elim
theorem ps_masg {tg : Expr} {ma : Ex} {g : Tg} (he : PE X e (tE X.K X.mg W (ma C))) (hg : PG X tg (tG X.K X.mg W (g C))) (hs : swapsWithSole [tg] e pos.line X.env = pure false) (hw : swappedStores [tg] e X.env = pure none)
    (h1 : (assignEach [tg] X.env).map (·.2) = [assign tg X.env]) : PS X (.Assign [tg] e pos) (tS X.K X.mg W (sAsg ma g C)) := by
  refine PS.weak (ps_asg he hg hs hw h1) fun Dn σ H ⟨ρ, μ, ι, rs, rm, h⟩ => ⟨ρ, μ, ι, rs, rm, ?_⟩
  refine PostE.mono (PostE.then h rs) fun v H1 ⟨ι1, d, μ1, q, e, r1, r2, p⟩ => ?_
  refine ⟨ρ, μ1, ι1, d, rs.mono e, r1, r2, ?_⟩
  exact PostS.only p
/-- a, b = x, y -/
theorem ps_mpar {i j : Nat} {x y : Str} {ms : Exs} {px py pt : Pos} {kt k2 pt2} (hc : X.calm = true) (hN : X.N.Nodup) (hi : X.N[i]? = some x) (hj : X.N[j]? = some y) (hij : i ≠ j)
    (hx : X.env.scope.names.lookup x = some .local) (hy : X.env.scope.names.lookup y = some .local) (ha : PA X [a, b] (tA X.K X.mg W (ms C)))
    (hw : swappedStores [.Tuple [.Name x px, .Name y py] kt pt] (.Tuple [a, b] k2 pt2) X.env = pure (some [x, y])) :
    PS X (.Assign [.Tuple [.Name x px, .Name y py] kt pt] (.Tuple [a, b] k2 pt2) pos) (tS X.K X.mg W (sPar i j ms C)) := by
  refine PS.weak (ps_par hc hN hi hj hij hx hy ha hw) fun Dn σ H ⟨ρ, μ, ι, rs, rm, h⟩ => ⟨ρ, μ, ι, rs, rm, ?_⟩
  refine PostA.mono (PostA.then h rs) fun vs H1 ⟨ι1, ds, μ1, q, e, r1, r2, p⟩ => ?_
  split at p
  · obtain ⟨v, w, rfl, h1, h2⟩ := rl_two r2
    exact ⟨v, w, rfl, p.done r1 (((rs.mono e).set i h1).set j h2)⟩
  · exact p.elim
theorem rl_three {K : PySem.W.Frag} {H : Hp} {ι : List Addr} {d e f : D} {xs : List V} (h : RepL K H ι [d, e, f] xs) : ∃ y z w, xs = [y, z, w] ∧ RepD K H ι d y ∧ RepD K H ι e z ∧ RepD K H ι f w := by
  obtain ⟨y, ys, rfl, h1, h2⟩ := rl_cons h
  obtain ⟨z, w, rfl, h3, h4⟩ := rl_two h2
  exact ⟨y, z, w, rfl, h1, h3, h4⟩
theorem ps_mpar3 {i j l : Nat} {x y z : Str} {ms : Exs} {px py pz pt : Pos} {kt k2 pt2} (hc : X.calm = true) (hN : X.N.Nodup) (hi : X.N[i]? = some x) (hj : X.N[j]? = some y) (hl : X.N[l]? = some z) (hij : i ≠ j) (hil : i ≠ l) (hjl : j ≠ l)
    (hx : X.env.scope.names.lookup x = some .local) (hy : X.env.scope.names.lookup y = some .local) (hz : X.env.scope.names.lookup z = some .local) (ha : PA X [a, b, c] (tA X.K X.mg W (ms C)))
    (hw : swappedStores [.Tuple [.Name x px, .Name y py, .Name z pz] kt pt] (.Tuple [a, b, c] k2 pt2) X.env = pure (some [x, y, z])) :
    PS X (.Assign [.Tuple [.Name x px, .Name y py, .Name z pz] kt pt] (.Tuple [a, b, c] k2 pt2) pos) (tS X.K X.mg W (sPar3 i j l ms C)) := by
  refine PS.weak (ps_par3 hc hN hi hj hl hij hil hjl hx hy hz ha hw) fun Dn σ H ⟨ρ, μ, ι, rs, rm, h⟩ => ⟨ρ, μ, ι, rs, rm, ?_⟩
  refine PostA.mono (PostA.then h rs) fun vs H1 ⟨ι1, ds, μ1, q, e, r1, r2, p⟩ => ?_
  split at p
  · obtain ⟨u, v, w, rfl, h1, h2, h3⟩ := rl_three r2
    exact ⟨u, v, w, rfl, p.done r1 ((((rs.mono e).set i h1).set j h2).set l h3)⟩
  · exact p.elim
/-- name op= e -/
theorem pip_int {op : Operator} : PIp X op (rD X.K X.mg (augI op)) := by
  intro pins s σ H x y v u Q I rx ry ⟨ι, μ, d, e, rm, r1, r2, p⟩
  cases d with
  | int i => cases e with
    | int j =>
      cases rd_int r1; cases rd_int r2
      cases op with
      | Add => exact ip_add pins s σ H _ _ v u Q I rx ry ⟨i, j, rfl, rfl, p.done rm dr_int⟩
      | Sub => exact ip_sub pins s σ H _ _ v u Q I rx ry ⟨i, j, rfl, rfl, p.done rm dr_int⟩
      | _ => exact p.elim
    | _ => exact p.elim
  | _ => exact p.elim
theorem pu_aug (op : Operator) (d e : D) (μ : Mem) : pureO (augI op d e μ) := by
  unfold augI; repeat' split
  all_goals first | exact pureO_ok | exact pureO_bad
theorem ps_maug {i : Nat} {x : Str} {op : Operator} {ma : Ex} {pos' : Pos} (hN : X.N.Nodup) (hi : X.N[i]? = some x) (hx : L2.Loc X.env.scope x) (he : PE X e (tE X.K X.mg W (ma C))) (hf : X.fn x = true ∨ X.env.scope.names.lookup x = some .local) :
    PS X (.AugAssign (.Name x pos') op e pos) (tS X.K X.mg W (sAug op i ma C)) := by
  refine PS.weak (ps_aug hN hi hx he pip_int hf) fun Dn σ H ⟨ρ, μ, ι, rs, rm, h⟩ => ?_
  unfold sAug at h
  split at h
  · rename_i d hd
    obtain ⟨v, h1, h2⟩ := rs.at_ i d hd
    refine ⟨v, h1, ρ, μ, ι, rs, rm, ?_⟩
    refine PostE.mono (PostE.then h rs) fun w H1 ⟨ι1, d1, μ1, q, e, r1, r2, p⟩ => ?_
    refine ⟨ι1, μ1, d, d1, r1, h2.mono e, r2, ?_⟩
    refine PostE.calm (W := W) (σ := σ) ?_ (pu_aug _ _ _ _)
    exact PostE.mono (PostE.then p (rs.mono e)) fun z H2 ⟨ι2, d2, μ2, q2, e2, r3, r4, p2⟩ => p2.done r3 (((rs.mono (e.trans e2)).set i r4))
  · exact h.elim
end
end PM
set_option Elab.async false
set_option linter.all false
set_option maxRecDepth 100000
set_option maxHeartbeats 1000000
/-! PM7: for, while, comprehensions. -/
namespace PM
open PySem PySem.Spec PyProof.Rows L2

/-- what is walked: at turn i, in a store: none (not so), the end, an item -/
abbrev Src := Nat → Mem → Option (Option D)
inductive Ito where
  | ok (s : Src) (n : Nat) (μ : Mem) | ex (x : Exn) (μ : Mem) | bad
abbrev Itm := CEnv → Loc → Mem → Ito
/-- the machine's iterator yields what the source says -/
def ItSim (K : PySem.W.Frag) (mg : Str → Option Value) (H0 : Hp) (ι0 : List Addr) (J : It) (s : Src) : Prop :=
  ∀ i H ι μ, Ext K H0 ι0 H ι → RepM K H ι mg μ →
    (s i μ = some none → J.stop i H) ∧
    ∀ d, s i μ = some (some d) → J.go i H ∧ ∀ x H', J.yld i H x H' → ∃ ι', Ext K H ι H' ι' ∧ RepM K H' ι' mg μ ∧ RepD K H' ι' d x
section
variable (K : PySem.W.Frag) (mg : Str → Option Value) (W : WX)
def PostI (σ : L2.St) (H : Hp) (ι : List Addr) (o : Ito) (R : It → Hp → Prop) : Prop := match o with
  | .ok s n μ => ∀ J H' ι', Ext K H ι H' ι' → RepM K H' ι' mg μ → ItSim K mg H' ι' J s → R J H'
  | .ex x μ => PostX K mg W σ H ι x μ
  | .bad => False
def tI (m : Loc → Mem → Ito) : TI := fun σ H R => ∃ ρ μ ι, RepS K H ι ρ σ ∧ RepM K H ι mg μ ∧ PostI K mg W σ H ι (m ρ μ) R
end
def srcV (l : List D) : Src := fun i _ => some l[i]?
def srcL (n : Nat) : Src := fun i μ => (getL μ n).map fun l => l[i]?
def srcE (n : Nat) : Src := fun i μ => (getL μ n).map fun l => (l[i]?).map fun d => .tup [.int (i : Nat), d]
def srcZ (n m : Nat) : Src := fun i μ => match getL μ n, getL μ m with
  | some l, some k => some (match l[i]?, k[i]? with
    | some d, some e => some (.tup [d, e])
    | _, _ => none)
  | _, _ => none
def Out.ito (o : Out) (f : D → Mem → Ito) : Ito := match o with
  | .ok d μ => f d μ
  | .ex x μ => .ex x μ
  | .bad => .bad
def Outs.ito (o : Outs) (f : List D → Mem → Ito) : Ito := match o with
  | .ok d μ => f d μ
  | .ex x μ => .ex x μ
  | .bad => .bad
@[simp] theorem Out.ito_ok {d : D} {μ : Mem} {f : D → Mem → Ito} : (Out.ok d μ).ito f = f d μ := rfl
@[simp] theorem Outs.ito_ok {d : List D} {μ : Mem} {f : List D → Mem → Ito} : (Outs.ok d μ).ito f = f d μ := rfl
/-- a value, walked -/
def itV (d : D) (μ : Mem) : Ito := match d with
  | .tup l => .ok (srcV l) l.length μ
  | .str z => .ok (srcV (z.cps.toList.map fun c => .str ⟨#[c]⟩)) z.cps.toList.length μ
  | .ref n => (match getL μ n with
    | some l => .ok (srcL n) l.length μ
    | none => .bad)
  | _ => .bad
def iVal (a : Ex) : Itm := fun C ρ μ => (a C ρ μ).ito itV
def rngD (lo hi : Int) : List D := (List.range (hi - lo).toNat).map fun i => .int (lo + (i : Nat))
def itR1 (ds : List D) (μ : Mem) : Ito := match ds with
  | [.int j] => if -(2 ^ 62) ≤ j ∧ j < 2 ^ 62 then .ok (srcV (rngD 0 j)) j.toNat μ else .bad
  | _ => .bad
def itR2 (ds : List D) (μ : Mem) : Ito := match ds with
  | [.int i, .int j] => if -(2 ^ 62) ≤ i ∧ i < 2 ^ 62 ∧ -(2 ^ 62) ≤ j ∧ j < 2 ^ 62 then .ok (srcV (rngD i j)) (j - i).toNat μ else .bad
  | _ => .bad
def rngC (lo c : Int) (n : Nat) : List D := (List.range n).map fun i => .int (lo + (i : Nat) * c)
def itR3 (ds : List D) (μ : Mem) : Ito := match ds with
  | [.int i, .int j, .int c] => if c = -1 ∧ -(2 ^ 62) ≤ i ∧ i < 2 ^ 62 ∧ -(2 ^ 62) ≤ j ∧ j < 2 ^ 62 then .ok (srcV (rngC i (-1) (i - j).toNat)) (i - j).toNat μ else .bad
  | _ => .bad
def iR (f : List D → Mem → Ito) (as : Exs) : Itm := fun C ρ μ => (as C ρ μ).ito f
def itE (ds : List D) (μ : Mem) : Ito := match ds with
  | [.ref n] => (match getL μ n with
    | some l => .ok (srcE n) l.length μ
    | none => .bad)
  | _ => .bad
def iEnm (as : Exs) : Itm := fun C ρ μ => (as C ρ μ).ito itE
def itZ (ds : List D) (μ : Mem) : Ito := match ds with
  | [.ref n, .ref m] => (match getL μ n, getL μ m with
    | some l, some k => .ok (srcZ n m) (min l.length k.length) μ
    | _, _ => .bad)
  | _ => .bad
def iZp (as : Exs) : Itm := fun C ρ μ => (as C ρ μ).ito itZ
def iBad : Itm := fun _ _ _ => .bad

section
variable {K : PySem.W.Frag} {mg : Str → Option Value} {W : WX} {σ : L2.St} {H H1 : Hp} {ι ι1 : List Addr} {μ : Mem} {R R' : It → Hp → Prop}
theorem PostI.ext {o : Ito} (e : Ext K H ι H1 ι1) (h : PostI K mg W σ H ι o R) : PostI K mg W σ H1 ι1 o R := by
  cases o with
  | ok s n μ => exact fun J H' ι' e' rm q => h J H' ι' (e.trans e') rm q
  | ex x μ => exact PostX.ext e h
  | bad => exact h
theorem PostE.ito {o : Out} {f : D → Mem → Ito} (h : PostI K mg W σ H ι (o.ito f) R) : PostE K mg W σ H ι o (fun v H1 => ∃ ι1 d μ1, o = .ok d μ1 ∧ Ext K H ι H1 ι1 ∧ RepM K H1 ι1 mg μ1 ∧ RepD K H1 ι1 d v ∧ PostI K mg W σ H1 ι1 (f d μ1) R) := by
  cases o with
  | ok d μ => exact fun v H' ι' e rm rd => ⟨ι', d, μ, rfl, e, rm, rd, PostI.ext e h⟩
  | ex x μ => exact h
  | bad => exact h
theorem PostA.ito {o : Outs} {f : List D → Mem → Ito} (h : PostI K mg W σ H ι (o.ito f) R) : PostA K mg W σ H ι o (fun v H1 => ∃ ι1 d μ1, o = .ok d μ1 ∧ Ext K H ι H1 ι1 ∧ RepM K H1 ι1 mg μ1 ∧ RepL K H1 ι1 d v ∧ PostI K mg W σ H1 ι1 (f d μ1) R) := by
  cases o with
  | ok d μ => exact fun v H' ι' e rm rd => ⟨ι', d, μ, rfl, e, rm, rd, PostI.ext e h⟩
  | ex x μ => exact h
  | bad => exact h
theorem seqT_ext {a : Addr} {xs : List V} (e : Ext K H ι H1 ι1) (h : SqT K H a xs) : SqT K H1 a xs := e.tup a xs h
/-- sources -/
theorem sim_tup {a : Addr} {xs : List V} {l : List D} (h : SqT K H a xs) (r : RepL K H ι l xs) : ItSim K mg H ι (Itt K a) (srcV l) := fun i H' ι' μ' e rm => by
  have h' := e.tup _ _ h
  have r' := r.mono e
  refine ⟨fun q => ?_, fun d q => ?_⟩
  · have q : l[i]? = none := Option.some.inj q
    exact ⟨xs, h', by rw [r'.length]; exact List.getElem?_eq_none_iff.mp q⟩
  · have q : l[i]? = some d := Option.some.inj q
    obtain ⟨v, hv, rv⟩ := r'.get q
    refine ⟨⟨xs, v, h', hv⟩, fun x H2 ⟨e2, hx⟩ => ?_⟩
    subst e2
    have := hx xs h'
    rw [hv] at this
    cases this
    exact ⟨ι', .refl, rm, rv⟩
theorem sim_lst {a : Addr} {n : Nat} (h : ι[n]? = some a) : ItSim K mg H ι (Itl K a) (srcL n) := fun i H' ι' μ' e rm => by
  have h' := pre_get e.pre h
  refine ⟨fun q => ?_, fun d q => ?_⟩
  · unfold srcL at q
    cases hl : getL μ' n with
    | none => rw [hl] at q; cases q
    | some l =>
      rw [hl] at q
      have q : l[i]? = none := Option.some.inj q
      obtain ⟨xs, h1, h2⟩ := rm_seq rm hl h'
      exact ⟨xs, h1, by rw [h2.length]; exact List.getElem?_eq_none_iff.mp q⟩
  · unfold srcL at q
    cases hl : getL μ' n with
    | none => rw [hl] at q; cases q
    | some l =>
      rw [hl] at q
      have q : l[i]? = some d := Option.some.inj q
      obtain ⟨xs, h1, h2⟩ := rm_seq rm hl h'
      obtain ⟨v, hv, rv⟩ := h2.get q
      refine ⟨⟨xs, v, h1, hv⟩, fun x H2 ⟨e2, hx⟩ => ?_⟩
      subst e2
      have := hx xs h1
      rw [hv] at this
      cases this
      exact ⟨ι', .refl, rm, rv⟩
theorem sim_str {z : Str} : ItSim K mg H ι (Its z) (srcV (z.cps.toList.map fun c => .str ⟨#[c]⟩)) := fun i H' ι' μ' e rm => by
  have hg : ∀ i : Nat, z.cps.toList[i]? = z.cps[i]? := fun i => by simp
  refine ⟨fun q => ?_, fun d q => ?_⟩
  · have q : (z.cps.toList.map fun c => D.str ⟨#[c]⟩)[i]? = none := Option.some.inj q
    have q2 := List.getElem?_eq_none_iff.mp q
    rw [List.length_map] at q2
    show z.cps.size ≤ i
    simpa using q2
  · have q : (z.cps.toList.map fun c => D.str ⟨#[c]⟩)[i]? = some d := Option.some.inj q
    rw [List.getElem?_map, hg] at q
    cases hc : z.cps[i]? with
    | none => rw [hc] at q; cases q
    | some c =>
      rw [hc] at q
      cases q
      refine ⟨?_, fun x H2 ⟨e2, c', hc', hx⟩ => ?_⟩
      · exact (Array.getElem?_eq_some_iff.mp hc).1
      · subst e2
        rw [hc] at hc'
        cases hc'
        subst hx
        exact ⟨ι', .refl, rm, dr_str⟩
theorem sim_rng {lo hi : Int} : ItSim K mg H ι (Itr lo (hi - lo).toNat) (srcV (rngD lo hi)) := fun i H' ι' μ' e rm => by
  refine ⟨fun q => ?_, fun d q => ?_⟩
  · have q : (rngD lo hi)[i]? = none := Option.some.inj q
    have q2 := List.getElem?_eq_none_iff.mp q
    unfold rngD at q2
    rw [List.length_map, List.length_range] at q2
    exact q2
  · have q : (rngD lo hi)[i]? = some d := Option.some.inj q
    unfold rngD at q
    rw [List.getElem?_map] at q
    by_cases hl : i < (hi - lo).toNat
    · rw [List.getElem?_range hl] at q
      cases q
      refine ⟨hl, fun x H2 ⟨e2, hx⟩ => ?_⟩
      subst e2; subst hx
      exact ⟨ι', .refl, rm, dr_int⟩
    · rw [List.getElem?_eq_none (by rw [List.length_range]; omega)] at q
      cases q
theorem pair_rep {T : Addr} {x y : V} {d e : D} (hn : H T = none) (rm : RepM K H ι mg μ) (r1 : RepD K H ι d x) (r2 : RepD K H ι e y) :
    ∃ ι', Ext K H ι (upd H T (.tup [x, y])) ι' ∧ RepM K (upd H T (.tup [x, y])) ι' mg μ ∧ RepD K (upd H T (.tup [x, y])) ι' (.tup [d, e]) (.ref T) :=
  ⟨ι, ext_new hn, rm.new hn, dr_tup (SqT.of upd_same) (RepL.cons (r1.mono (ext_new hn)) (RepL.one (r2.mono (ext_new hn))))⟩
theorem sim_enm {a : Addr} {n : Nat} (h : ι[n]? = some a) : ItSim K mg H ι (Ite K a) (srcE n) := fun i H' ι' μ' e rm => by
  have h' := pre_get e.pre h
  refine ⟨fun q => ?_, fun d q => ?_⟩
  · unfold srcE at q
    cases hl : getL μ' n with
    | none => rw [hl] at q; cases q
    | some l =>
      rw [hl] at q
      have q : (l[i]?).map (fun d => D.tup [.int (i : Nat), d]) = none := Option.some.inj q
      obtain ⟨xs, h1, h2⟩ := rm_seq rm hl h'
      rw [Option.map_eq_none_iff] at q
      exact ⟨xs, h1, by rw [h2.length]; exact List.getElem?_eq_none_iff.mp q⟩
  · unfold srcE at q
    cases hl : getL μ' n with
    | none => rw [hl] at q; cases q
    | some l =>
      rw [hl] at q
      have q : (l[i]?).map (fun d => D.tup [.int (i : Nat), d]) = some d := Option.some.inj q
      cases hd : l[i]? with
      | none => rw [hd] at q; cases q
      | some d0 =>
        rw [hd] at q
        cases q
        obtain ⟨xs, h1, h2⟩ := rm_seq rm hl h'
        obtain ⟨v, hv, rv⟩ := h2.get hd
        refine ⟨⟨xs, v, h1, hv⟩, fun x H2 ⟨T, y, ex, hT, e2, hy⟩ => ?_⟩
        subst e2; subst ex
        have := hy xs h1
        rw [hv] at this
        cases this
        exact pair_rep hT rm dr_int rv
theorem sim_zip {a b : Addr} {n m : Nat} (h : ι[n]? = some a) (hb : ι[m]? = some b) : ItSim K mg H ι (Itz K a b) (srcZ n m) := fun i H' ι' μ' e rm => by
  have h' := pre_get e.pre h
  have hb' := pre_get e.pre hb
  refine ⟨fun q => ?_, fun d q => ?_⟩
  · unfold srcZ at q
    split at q
    · rename_i l k hl hk
      obtain ⟨xs, h1, h2⟩ := rm_seq rm hl h'
      obtain ⟨ys, h3, h4⟩ := rm_seq rm hk hb'
      refine ⟨xs, ys, h1, h3, ?_⟩
      rw [h2.length, h4.length]
      have q := Option.some.inj q
      split at q
      · cases q
      · rename_i z
        by_cases z1 : i < l.length
        · by_cases z2 : i < k.length
          · exact absurd (List.getElem?_eq_getElem z2) (z _ _ (List.getElem?_eq_getElem z1))
          · exact .inr (by omega)
        · exact .inl (by omega)
    · cases q
  · unfold srcZ at q
    split at q
    · rename_i l k hl hk
      obtain ⟨xs, h1, h2⟩ := rm_seq rm hl h'
      obtain ⟨ys, h3, h4⟩ := rm_seq rm hk hb'
      have q := Option.some.inj q
      split at q
      · rename_i d0 e0 hd he
        cases q
        obtain ⟨v, hv, rv⟩ := h2.get hd
        obtain ⟨w, hw, rw'⟩ := h4.get he
        refine ⟨⟨xs, ys, v, w, h1, h3, hv, hw⟩, fun x H2 ⟨T, y, z, ex, hT, e2, hy, hz⟩ => ?_⟩
        subst e2; subst ex
        have t1 := hy xs h1
        have t2 := hz ys h3
        rw [hv] at t1; rw [hw] at t2
        cases t1; cases t2
        exact pair_rep hT rm rv rw'
      · cases q
    · cases q
end
theorem PI.weak {X : Cx} {tg e : Expr} {t t' : TI} (h : PI X tg e t) (w : ∀ σ H R, t' σ H R → t σ H R) : PI X tg e t' := ⟨fun pins s σ H R I q => h.run pins s σ H R I (w σ H R q)⟩
theorem PI.or {X : Cx} {tg e : Expr} {t t' : TI} (h : PI X tg e t) (h' : PI X tg e t') : PI X tg e (fun σ H R => t σ H R ∨ t' σ H R) := ⟨fun pins s σ H R I q => q.elim (h.run pins s σ H R I) (h'.run pins s σ H R I)⟩
section
variable {X : Cx} {W : WX} {C : CEnv} {tg a b c : Expr} {es : List Expr} {p pos : Pos}
theorem pi_mbad : PI X tg a (tI X.K X.mg W (iBad C)) := ⟨fun _ _ _ _ _ _ ⟨_, _, _, _, _, h⟩ => h.elim⟩
theorem pi_mval {ma : Ex} (ha : PE X a (tE X.K X.mg W (ma C))) : PI X tg a (tI X.K X.mg W (iVal ma C)) := by
  refine PI.weak (PI.or (pi_list ha) (PI.or (pi_tup ha) (pi_str ha))) fun σ H R ⟨ρ, μ, ι, rs, rm, h⟩ => ?_
  have h1 := PostE.ito h
  revert h1
  cases q : ma C ρ μ with
  | ok d μ1 =>
    intro h1
    have h1' := PostE.ito h
    cases d with
    | tup l =>
      refine .inr (.inl ⟨ρ, μ, ι, rs, rm, PostE.mono h1' fun v H1 ⟨ι1, d, μ2, e0, e, r1, r2, p⟩ => ?_⟩)
      rw [q] at e0; cases e0
      obtain ⟨a, xs, rfl, h2, h3⟩ := rd_tup r2
      exact ⟨a, rfl, ⟨xs, h2⟩, p _ H1 ι1 .refl r1 (sim_tup h2 h3)⟩
    | str z =>
      refine .inr (.inr ⟨ρ, μ, ι, rs, rm, PostE.mono h1' fun v H1 ⟨ι1, d, μ2, e0, e, r1, r2, p⟩ => ?_⟩)
      rw [q] at e0; cases e0
      cases rd_str r2
      exact ⟨z, rfl, p _ H1 ι1 .refl r1 sim_str⟩
    | ref n =>
      refine .inl ⟨ρ, μ, ι, rs, rm, PostE.mono h1' fun v H1 ⟨ι1, d, μ2, e0, e, r1, r2, p⟩ => ?_⟩
      rw [q] at e0; cases e0
      obtain ⟨a, rfl, ha⟩ := rd_ref r2
      unfold itV at p
      dsimp only at p
      split at p
      · rename_i l hl
        obtain ⟨xs, h2, h3⟩ := rm_seq r1 hl ha
        exact ⟨a, rfl, ⟨xs, h2⟩, p _ H1 ι1 .refl r1 (sim_lst ha)⟩
      · exact p.elim
    | _ =>
      refine .inl ⟨ρ, μ, ι, rs, rm, PostE.mono h1' fun v H1 ⟨ι1, d, μ2, e0, e, r1, r2, p⟩ => ?_⟩
      rw [q] at e0; cases e0
      exact p.elim
  | ex x μ1 => exact fun h1 => .inl ⟨ρ, μ, ι, rs, rm, by rw [q]; exact h1⟩
  | bad => exact fun h1 => h1.elim
theorem pi_mrng1 {ms : Exs} (hg : Gl X "range") (hm : X.mg "range" = none) (ha : PA X [a] (tA X.K X.mg W (ms C))) (hs : starEach [a] X.env = [(false, eval a X.env)]) : PI X tg (.Call (.Name "range" p) [a] [] pos) (tI X.K X.mg W (iR itR1 ms C)) := by
  refine PI.weak (pi_range1 hg hm ha hs) fun σ H R ⟨ρ, μ, ι, rs, rm, h⟩ => ⟨ρ, μ, ι, rs, rm, ?_⟩
  refine PostA.mono (PostA.ito h) fun vs H1 ⟨ι1, ds, μ1, q, e, r1, r2, p⟩ => ?_
  unfold itR1 at p
  split at p
  · obtain ⟨y, rfl, h2⟩ := rl_one r2
    cases rd_int h2
    split at p
    · rename_i hb
      have z := p _ H1 ι1 .refl r1 (sim_rng (lo := 0))
      rw [Int.sub_zero] at z
      exact ⟨_, rfl, hb.1, hb.2, z⟩
    · exact p.elim
  · exact p.elim
theorem pi_mrng2 {ms : Exs} (hg : Gl X "range") (hm : X.mg "range" = none) (ha : PA X [a, b] (tA X.K X.mg W (ms C))) (hs : starEach [a, b] X.env = [(false, eval a X.env), (false, eval b X.env)]) (hs2 : starEach [b] X.env = [(false, eval b X.env)]) :
    PI X tg (.Call (.Name "range" p) [a, b] [] pos) (tI X.K X.mg W (iR itR2 ms C)) := by
  refine PI.weak (pi_range2 hg hm ha hs hs2) fun σ H R ⟨ρ, μ, ι, rs, rm, h⟩ => ⟨ρ, μ, ι, rs, rm, ?_⟩
  refine PostA.mono (PostA.ito h) fun vs H1 ⟨ι1, ds, μ1, q, e, r1, r2, p⟩ => ?_
  unfold itR2 at p
  split at p
  · obtain ⟨y, w, rfl, h2, h3⟩ := rl_two r2
    cases rd_int h2; cases rd_int h3
    split at p
    · rename_i hb
      exact ⟨_, _, rfl, hb, p _ H1 ι1 .refl r1 sim_rng⟩
    · exact p.elim
  · exact p.elim
theorem sim_rngC {K : PySem.W.Frag} {mg : Str → Option Value} {H : Hp} {ι : List Addr} {lo c : Int} {n : Nat} : ItSim K mg H ι (Itc lo c n) (srcV (rngC lo c n)) := fun i H' ι' μ' e rm => by
  refine ⟨fun q => ?_, fun d q => ?_⟩
  · have q : (rngC lo c n)[i]? = none := Option.some.inj q
    have q2 := List.getElem?_eq_none_iff.mp q
    unfold rngC at q2
    rw [List.length_map, List.length_range] at q2
    exact q2
  · have q : (rngC lo c n)[i]? = some d := Option.some.inj q
    unfold rngC at q
    rw [List.getElem?_map] at q
    by_cases hl : i < n
    · rw [List.getElem?_range hl] at q
      cases q
      refine ⟨hl, fun x H2 ⟨e2, hx⟩ => ?_⟩
      subst e2; subst hx
      exact ⟨ι', .refl, rm, dr_int⟩
    · rw [List.getElem?_eq_none (by rw [List.length_range]; omega)] at q
      cases q
theorem pi_mrng3 {ms : Exs} (hg : Gl X "range") (hm : X.mg "range" = none) (ha : PA X [a, b, c] (tA X.K X.mg W (ms C)))
    (hs : starEach [a, b, c] X.env = (false, eval a X.env) :: starEach [b, c] X.env) (hpl : (backTo pos (starEach [b, c] X.env)).any (·.1) = false) :
    PI X tg (.Call (.Name "range" p) [a, b, c] [] pos) (tI X.K X.mg W (iR itR3 ms C)) := by
  refine PI.weak (pi_range3 hg hm ha hs hpl) fun σ H R ⟨ρ, μ, ι, rs, rm, h⟩ => ⟨ρ, μ, ι, rs, rm, ?_⟩
  refine PostA.mono (PostA.ito h) fun vs H1 ⟨ι1, ds, μ1, q, e, r1, r2, p⟩ => ?_
  unfold itR3 at p
  split at p
  · obtain ⟨y, w, z, rfl, h2, h3, h4⟩ := rl_three r2
    cases rd_int h2; cases rd_int h3; cases rd_int h4
    split at p
    · rename_i hb
      obtain ⟨rfl, b1, b2, b3, b4⟩ := hb
      exact ⟨_, _, _, _, rfl, RgC.neg b1 b2 b3 b4, p _ H1 ι1 .refl r1 sim_rngC⟩
    · exact p.elim
  · exact p.elim
theorem pi_menm {ms : Exs} {elts : List Expr} {kk : Nat} {tpos : Pos} (hg : Gl X "enumerate") (hm : X.mg "enumerate" = none) (ha : PA X [a] (tA X.K X.mg W (ms C))) (hs : starEach [a] X.env = [(false, eval a X.env)]) :
    PI X (.Tuple elts kk tpos) (.Call (.Name "enumerate" p) [a] [] pos) (tI X.K X.mg W (iEnm ms C)) := by
  refine PI.weak (pi_enum hg hm ha hs) fun σ H R ⟨ρ, μ, ι, rs, rm, h⟩ => ⟨ρ, μ, ι, rs, rm, ?_⟩
  refine PostA.mono (PostA.ito h) fun vs H1 ⟨ι1, ds, μ1, q, e, r1, r2, p⟩ => ?_
  unfold itE at p
  split at p
  · obtain ⟨y, rfl, h2⟩ := rl_one r2
    obtain ⟨a, rfl, ha⟩ := rd_ref h2
    split at p
    · rename_i l hl
      obtain ⟨xs, h3, h4⟩ := rm_seq r1 hl ha
      exact ⟨a, xs, rfl, h3, p _ H1 ι1 .refl r1 (sim_enm ha)⟩
    · exact p.elim
  · exact p.elim
theorem pi_mzip {ms : Exs} {elts : List Expr} {kk : Nat} {tpos : Pos} (hg : Gl X "zip") (hm : X.mg "zip" = none) (ha : PA X [a, b] (tA X.K X.mg W (ms C)))
    (hs : starEach [a, b] X.env = (false, eval a X.env) :: starEach [b] X.env) (hpl : (backTo pos (starEach [b] X.env)).any (·.1) = false) :
    PI X (.Tuple elts kk tpos) (.Call (.Name "zip" p) [a, b] [] pos) (tI X.K X.mg W (iZp ms C)) := by
  refine PI.weak (pi_zip hg hm ha hs hpl) fun σ H R ⟨ρ, μ, ι, rs, rm, h⟩ => ⟨ρ, μ, ι, rs, rm, ?_⟩
  refine PostA.mono (PostA.ito h) fun vs H1 ⟨ι1, ds, μ1, q, e, r1, r2, p⟩ => ?_
  unfold itZ at p
  split at p
  · obtain ⟨y, w, rfl, h2, h3⟩ := rl_two r2
    obtain ⟨a, rfl, ha⟩ := rd_ref h2
    obtain ⟨b, rfl, hb⟩ := rd_ref h3
    split at p
    · rename_i l k hl hk
      obtain ⟨xs, h4, h5⟩ := rm_seq r1 hl ha
      obtain ⟨ys, h6, h7⟩ := rm_seq r1 hk hb
      exact ⟨a, b, xs, ys, rfl, h4, h6, p _ H1 ι1 .refl r1 (sim_zip ha hb)⟩
    · exact p.elim
  · exact p.elim
end

/-! ### for -/
def loopG (s : Src) (g : Tg) (b : Sm) (C : CEnv) : Nat → Nat → Loc → Mem → Fl
  | 0, _, _, _ => .bad
  | f + 1, i, ρ, μ => match s i μ with
    | none => .bad
    | some none => .nx ρ μ
    | some (some d) => (g C d ρ μ).only.then fun ρ1 μ1 => match b C ρ1 μ1 with
      | .nx ρ2 μ2 => loopG s g b C f (i + 1) ρ2 μ2
      | .ct ρ2 μ2 => loopG s g b C f (i + 1) ρ2 μ2
      | .bk ρ2 μ2 => .nx ρ2 μ2
      | o => o
def sFor (it : Itm) (g : Tg) (b : Sm) : Sm := fun C ρ μ => match it C ρ μ with
  | .ok s n μ1 => loopG s g b C (n + 1) 0 ρ μ1
  | .ex x μ1 => .ex x ρ μ1
  | .bad => .bad
/-- while -/
def loopW (c : Ex) (b : Sm) (C : CEnv) : Nat → Loc → Mem → Fl
  | 0, _, _ => .bad
  | f + 1, ρ, μ => ifS (c C ρ μ) ρ (fun μ1 => match b C ρ μ1 with
      | .nx ρ2 μ2 => loopW c b C f ρ2 μ2
      | .ct ρ2 μ2 => loopW c b C f ρ2 μ2
      | .bk ρ2 μ2 => .nx ρ2 μ2
      | o => o) (fun μ1 => .nx ρ μ1)
def fuelW : Nat := 1000000000000
def sWhile (c : Ex) (b : Sm) : Sm := fun C ρ μ => loopW c b C fuelW ρ μ
section
variable {X : Cx} {W : WX} {C : CEnv} {tg e c : Expr} {body : List Stmt} {pos : Pos}
theorem ps_mfor {mi : Itm} {g : Tg} {mb : Sm} (hp : PassesOwn (model X.prog X.w) X.A X.env X.xe) (hc : X.calm = true) (hi : PI X tg e (tI X.K X.mg W (mi C))) (hg : PG X tg (tG X.K X.mg W (g C))) (hb : PSs X body (tS X.K X.mg W (mb C)))
    (hs : ∀ x, foldedSetIterable e X.env x = pure x) : PS X (.For tg e body [] pos) (tS X.K X.mg W (sFor mi g mb C)) := by
  refine PS.weak (ps_for hp hc hi hg hb hs) fun Dn σ H ⟨ρ, μ, ι, rs, rm, h⟩ => ⟨ρ, μ, ι, rs, rm, ?_⟩
  unfold sFor at h
  revert h
  cases q : mi C ρ μ with
  | ex x μ1 => exact fun h cls d H' ι' e rm rx => h cls d σ H' ι' e rm (rs.mono e) rx
  | bad => exact fun h => h.elim
  | ok s n μ1 =>
    intro h J H1 ι1 e1 r1 sim
    refine ⟨fun i m σ2 H2 => ∃ ρ2 μ2 ι2, Ext X.K H1 ι1 H2 ι2 ∧ RepM X.K H2 ι2 X.mg μ2 ∧ RepS X.K H2 ι2 ρ2 σ2 ∧ PostS X.K X.mg W H2 ι2 (loopG s g mb C m i ρ2 μ2) Dn, ⟨n + 1, ρ, μ1, ι1, .refl, r1, rs.mono e1, PostS.ext e1 h⟩, ?_⟩
    rintro i m σ2 H2 ⟨ρ2, μ2, ι2, e2, r2, s2, p⟩
    cases m with
    | zero => exact p.elim
    | succ m =>
      unfold loopG at p
      obtain ⟨k1, k2⟩ := sim i H2 ι2 μ2 e2 r2
      split at p
      · exact p.elim
      · rename_i hs
        exact .inl ⟨k1 hs, p.done r2 s2⟩
      · rename_i d hs
        obtain ⟨k3, k4⟩ := k2 d hs
        refine .inr ⟨k3, fun σ3 H3 => ∃ ρ3 μ3 ι3, Ext X.K H1 ι1 H3 ι3 ∧ RepM X.K H3 ι3 X.mg μ3 ∧ RepS X.K H3 ι3 ρ3 σ3 ∧ PostS X.K X.mg W H3 ι3 (loopG s g mb C m (i + 1) ρ3 μ3) Dn, fun σ3 H3 h3 => ⟨m, Nat.lt_succ_self _, h3⟩, fun x H3 y => ?_⟩
        obtain ⟨ι3, e3, r3, rd⟩ := k4 x H3 y
        refine ⟨ρ2, μ2, ι3, d, s2.mono e3, r3, rd, ?_⟩
        have p' := PostS.then (PostS.ext e3 p)
        revert p'
        cases g C d ρ2 μ2 with
        | nx ρ4 μ4 =>
          intro p' σ4 H4 ι4 e4 r4 s4
          obtain ⟨ι5, ρ5, μ5, e0, e5, r5, s5, p5⟩ := p' σ4 H4 ι4 e4 r4 s4
          cases e0
          refine ⟨ρ4, μ4, ι5, s5, r5, ?_⟩
          have eA : Ext X.K H1 ι1 H4 ι5 := e2.trans (e3.trans e5)
          revert p5
          cases mb C ρ4 μ4 with
          | nx ρ6 μ6 => exact fun p5 σ6 H6 ι6 e6 r6 s6 => ⟨ρ6, μ6, ι6, eA.trans e6, r6, s6, PostS.ext e6 p5⟩
          | ct ρ6 μ6 => exact fun p5 σ6 H6 ι6 e6 r6 s6 => ⟨ρ6, μ6, ι6, eA.trans e6, r6, s6, PostS.ext e6 p5⟩
          | bk ρ6 μ6 => exact fun p5 => p5
          | rt d μ6 => exact fun p5 => p5
          | ex x ρ6 μ6 => exact fun p5 => p5
          | bad => exact fun p5 => p5
        | ex x ρ4 μ4 => exact fun p' => p'
        | rt d μ4 => exact fun p' => p'.elim
        | bk ρ4 μ4 => exact fun p' => p'.elim
        | ct ρ4 μ4 => exact fun p' => p'.elim
        | bad => exact fun p' => p'.elim
theorem ps_mwhile {mc : Ex} {mb : Sm} (hp : PassesOwn (model X.prog X.w) X.A X.env X.xe) (hc : PT X c (tT X.K X.mg W (mc C))) (hb : PSs X body (tS X.K X.mg W (mb C))) : PS X (.While c body [] pos) (tS X.K X.mg W (sWhile mc mb C)) := by
  refine PS.weak (ps_while hp hc hb) fun Dn σ H ⟨ρ, μ, ι, rs, rm, h⟩ => ?_
  refine ⟨fun m σ2 H2 => ∃ ρ2 μ2 ι2, Ext X.K H ι H2 ι2 ∧ RepM X.K H2 ι2 X.mg μ2 ∧ RepS X.K H2 ι2 ρ2 σ2 ∧ PostS X.K X.mg W H2 ι2 (loopW mc mb C m ρ2 μ2) Dn, ⟨fuelW, ρ, μ, ι, .refl, rm, rs, h⟩, ?_⟩
  rintro m σ2 H2 ⟨ρ2, μ2, ι2, e2, r2, s2, p⟩
  cases m with
  | zero => exact p.elim
  | succ m =>
    unfold loopW at p
    refine ⟨ρ2, μ2, ι2, s2, r2, ?_⟩
    refine PostT.mono (ifS_post s2 p) fun b H3 ⟨ι3, μ3, e3, r3, q, p3⟩ => ite_if (fun z => ?_) fun z => ?_
    · subst z
      refine ⟨fun σ4 H4 => ∃ ρ4 μ4 ι4, Ext X.K H ι H4 ι4 ∧ RepM X.K H4 ι4 X.mg μ4 ∧ RepS X.K H4 ι4 ρ4 σ4 ∧ PostS X.K X.mg W H4 ι4 (loopW mc mb C m ρ4 μ4) Dn, fun σ4 H4 h4 => ⟨m, Nat.lt_succ_self _, h4⟩, ρ2, μ3, ι3, s2.mono e3, r3, ?_⟩
      have eA := e2.trans e3
      revert p3
      rw [if_pos rfl]
      cases mb C ρ2 μ3 with
      | nx ρ6 μ6 => exact fun p5 σ6 H6 ι6 e6 r6 s6 => ⟨ρ6, μ6, ι6, eA.trans e6, r6, s6, PostS.ext e6 p5⟩
      | ct ρ6 μ6 => exact fun p5 σ6 H6 ι6 e6 r6 s6 => ⟨ρ6, μ6, ι6, eA.trans e6, r6, s6, PostS.ext e6 p5⟩
      | bk ρ6 μ6 => exact fun p5 => p5
      | rt d μ6 => exact fun p5 => p5
      | ex x ρ6 μ6 => exact fun p5 => p5
      | bad => exact fun p5 => p5
    · subst z
      have p3 : PostS X.K X.mg W H3 ι3 (.nx ρ2 μ3) Dn := p3
      exact p3.done r3 (s2.mono e3)
end

/-! ### comprehensions -/
def wipeD (ρ : Loc) : List Nat → Loc
  | [] => ρ
  | v :: vs => (wipeD ρ vs).set v none
/-- the target of a clause: a name, or some names -/
inductive CTg where
  | nm (i : Nat) | tp (l : List Nat)
def setAll (ρ : Loc) : List Nat → List D → Loc
  | i :: r, d :: ds => setAll (ρ.set i (some d)) r ds
  | _, _ => ρ
def CTg.put (g : CTg) (d : D) (ρ : Loc) : Option Loc := match g with
  | .nm i => some (ρ.set i (some d))
  | .tp is => match d with
    | .tup l => if l.length = is.length then some (setAll ρ is l) else none
    | _ => none
def lcG (s : Src) (g : CTg) (t : Option Ex) (elt : Ex) (n : Nat) (C : CEnv) : Nat → Nat → Loc → Mem → Out
  | 0, _, _, _ => .bad
  | f + 1, i, ρ, μ => match s i μ with
    | none => .bad
    | some none => .ok (.ref n) μ
    | some (some d) => match g.put d ρ with
      | none => .bad
      | some ρ1 =>
        let body := fun μ2 => match elt C ρ1 μ2 with
          | .ok y μ3 => (match getM μ3 n with
            | some l => if l.length < sizeLine then lcG s g t elt n C f (i + 1) ρ (μ3.set n (.lst (l ++ [y]))) else .bad
            | none => .bad)
          | _ => .bad
        match t with
        | none => body μ
        | some c => match c C ρ1 μ with
          | .ok (.bl true) μ2 => body μ2
          | .ok (.bl false) μ2 => lcG s g t elt n C f (i + 1) ρ μ2
          | _ => .bad
def mLc (it : Itm) (g : CTg) (t : Option Ex) (elt : Ex) (vs : List Nat) : Ex := fun C ρ μ => match it C ρ μ with
  | .ok s n μ1 => lcG s g t elt μ1.length C (n + 1) 0 (wipeD ρ vs) (μ1 ++ [.lst []])
  | .ex x μ1 => .ex x μ1
  | .bad => .bad
end PM
set_option Elab.async false
set_option linter.all false
set_option maxRecDepth 100000
set_option maxHeartbeats 1000000
/-! PM8: comprehensions are the machine's; calls of defs. -/
namespace PM
open PySem PySem.Spec PyProof.Rows L2
theorem wipe_at {σ : L2.St} {i : Nat} : ∀ {vs : List Nat}, i ∉ vs → (wipe σ vs)[i]? = σ[i]?
  | [], _ => rfl
  | v :: vs, h => by
    unfold wipe
    rw [List.getElem?_set_ne (fun e => h (by rw [e]; exact List.mem_cons_self))]
    exact wipe_at fun z => h (List.mem_cons_of_mem _ z)
theorem wipe_in {σ : L2.St} {i : Nat} : ∀ {vs : List Nat}, i ∈ vs → i < σ.length → (wipe σ vs)[i]? = some none
  | v :: vs, h, hl => by
    unfold wipe
    by_cases e : v = i
    · subst e
      exact List.getElem?_set_self (by rw [wipe_length]; exact hl)
    · rw [List.getElem?_set_ne e]
      exact wipe_in ((List.mem_cons.mp h).resolve_left fun z => e z.symm) hl
theorem wipe_ext {σ τ : L2.St} {vs : List Nat} (hl : σ.length = τ.length) (h : ∀ i, i ∉ vs → σ[i]? = τ[i]?) : wipe σ vs = wipe τ vs := by
  refine List.ext_getElem? fun i => ?_
  by_cases hi : i ∈ vs
  · by_cases hz : i < σ.length
    · rw [wipe_in hi hz, wipe_in hi (by rw [← hl]; exact hz)]
    · rw [List.getElem?_eq_none (by rw [wipe_length]; omega), List.getElem?_eq_none (by rw [wipe_length]; omega)]
  · rw [wipe_at hi, wipe_at hi, h i hi]
theorem wipe_wipe {σ : L2.St} {vs : List Nat} : wipe (wipe σ vs) vs = wipe σ vs := wipe_ext (wipe_length _ _) fun i hi => wipe_at hi
theorem wipe_set {σ : L2.St} {vs : List Nat} {i : Nat} {v : Option V} (h : i ∈ vs) : wipe (σ.set i v) vs = wipe σ vs := wipe_ext (by rw [List.length_set]) fun j hj => by
  rw [List.getElem?_set_ne]
  intro e
  subst e
  exact hj h
theorem wipeD_length (ρ : Loc) : ∀ vs : List Nat, (wipeD ρ vs).length = ρ.length
  | [] => rfl
  | v :: vs => by unfold wipeD; rw [List.length_set, wipeD_length ρ vs]
theorem wipeD_some {ρ : Loc} {i : Nat} {x : D} : ∀ {vs : List Nat}, (wipeD ρ vs)[i]? = some (some x) → ρ[i]? = some (some x) ∧ i ∉ vs
  | [], h => ⟨h, by simp⟩
  | v :: vs, h => by
    unfold wipeD at h
    by_cases hi : v = i
    · subst hi
      by_cases hv : v < (wipeD ρ vs).length
      · rw [List.getElem?_set_self hv] at h; cases h
      · rw [List.getElem?_eq_none (by simpa using hv)] at h; cases h
    · rw [List.getElem?_set_ne hi] at h
      obtain ⟨h1, h2⟩ := wipeD_some h
      exact ⟨h1, by simp only [List.mem_cons, not_or]; exact ⟨fun e => hi e.symm, h2⟩⟩
section
variable {K : PySem.W.Frag} {mg : Str → Option Value} {W : WX} {H : Hp} {ι : List Addr} {μ : Mem}
theorem RepS.wipe {ρ : Loc} {σ : L2.St} {vs : List Nat} (h : RepS K H ι ρ σ) : RepS K H ι (wipeD ρ vs) (L2.wipe σ vs) :=
  ⟨by rw [wipe_length, wipeD_length]; exact h.len, fun i d e => by
    obtain ⟨h1, h2⟩ := wipeD_some e
    obtain ⟨v, h3, h4⟩ := h.at_ i d h1
    exact ⟨v, by rw [wipe_at h2]; exact h3, h4⟩⟩
def gNames : List Nat → TGs
  | [] => gNil
  | i :: r => gCons (gName i) (gNames r)
def tgOf (K : PySem.W.Frag) : CTg → TG
  | .nm i => gName i
  | .tp l => gTup K l.length (gNames l)
def CTg.slots : CTg → List Nat
  | .nm i => [i]
  | .tp l => l
theorem gNames_put {vs : List Nat} {Q : L2.St → Hp → Prop} : ∀ {is : List Nat} {l : List D} {xs : List V} {ρ : Loc} {σ σ0 : L2.St}, l.length = is.length → RepL K H ι l xs → RepS K H ι ρ σ → (∀ i ∈ is, i ∈ vs) → L2.wipe σ vs = L2.wipe σ0 vs →
    (∀ σ1, RepS K H ι (setAll ρ is l) σ1 → L2.wipe σ1 vs = L2.wipe σ0 vs → Q σ1 H) → gNames is xs σ H Q
  | [], [], xs, ρ, σ, σ0, _, rl, rs, _, e, q => ⟨rl_nil rl, q σ rs e⟩
  | [], _ :: _, xs, ρ, σ, σ0, h, rl, rs, _, e, q => by simp at h
  | _ :: _, [], xs, ρ, σ, σ0, h, rl, rs, _, e, q => by simp at h
  | i :: is, d :: l, xs, ρ, σ, σ0, h, rl, rs, hv, e, q => by
    obtain ⟨y, ys, rfl, r1, r2⟩ := rl_cons rl
    refine ⟨y, ys, rfl, ?_⟩
    exact gNames_put (by simpa using h) r2 (rs.set i r1) (fun j hj => hv j (List.mem_cons_of_mem _ hj)) ((wipe_set (hv i List.mem_cons_self)).trans e) q
theorem tgOf_put {g : CTg} {vs : List Nat} {d : D} {x : V} {ρ ρ1 : Loc} {σ : L2.St} {Q : L2.St → Hp → Prop} (h : g.put d ρ = some ρ1) (rd : RepD K H ι d x) (rs : RepS K H ι ρ σ) (hv : ∀ i ∈ g.slots, i ∈ vs)
    (q : ∀ σ1, RepS K H ι ρ1 σ1 → L2.wipe σ1 vs = L2.wipe σ vs → Q σ1 H) : tgOf K g x σ H Q := by
  cases g with
  | nm i =>
    cases h
    exact q _ (rs.set i rd) (wipe_set (hv i List.mem_cons_self))
  | tp is =>
    unfold CTg.put at h
    dsimp only at h
    split at h
    · rename_i l
      split at h
      · rename_i hl
        cases h
        obtain ⟨a, xs, rfl, h1, h2⟩ := rd_tup rd
        exact ⟨a, xs, rfl, h1, by rw [h2.length]; exact hl, gNames_put hl h2 rs hv rfl q⟩
      · cases h
    · cases h
abbrev W0 : WX := fun _ _ _ _ => False
def tTo (K : PySem.W.Frag) (mg : Str → Option Value) (C : CEnv) : Option Ex → TT
  | none => tYes
  | some c => tT K mg W0 (c C)
theorem lc_sound {mi : Itm} {g : CTg} {t : Option Ex} {elt : Ex} {vs : List Nat} {C : CEnv} {σ : L2.St} {Q : VK} (hv : ∀ i ∈ g.slots, i ∈ vs) (h : tE K mg W (mLc mi g t elt vs C) σ H Q) :
    tLc (tI K mg W (mi C)) (tgOf K g) (tTo K mg C t) (tE K mg W0 (elt C)) vs σ H Q := by
  obtain ⟨ρ, μ, ι, rs, rm, h⟩ := h
  refine ⟨ρ, μ, ι, rs, rm, ?_⟩
  unfold mLc at h
  revert h
  cases q : mi C ρ μ with
  | ex x μ1 => exact fun h => h
  | bad => exact fun h => h.elim
  | ok s n μ1 =>
    intro h J H1 ι1 e1 r1 sim D0 hD
    have eA := ext_alloc (K := K) (ι := ι1) (u := HO.lst []) hD
    have r1' : RepM K (upd H1 D0 (.lst [])) (ι1 ++ [D0]) mg (μ1 ++ [.lst []]) := r1.alloc hD ⟨[], upd_same, RepL.nil⟩
    have hD1 : (ι1 ++ [D0])[μ1.length]? = some D0 := by rw [List.getElem?_append_right (by rw [r1.len]; exact Nat.le_refl _), r1.len, Nat.sub_self]; rfl
    obtain ⟨I, hI⟩ : ∃ I : Nat → Nat → Hp → Prop, I = fun i m H2 => ∃ μ2 ι2, Ext K (upd H1 D0 (.lst [])) (ι1 ++ [D0]) H2 ι2 ∧ RepM K H2 ι2 mg μ2 ∧ PostE K mg W σ H2 ι2 (lcG s g t elt μ1.length C m i (wipeD ρ vs) μ2) Q := ⟨_, rfl⟩
    refine ⟨I, ⟨n + 1, ?_⟩, ?_⟩
    · subst hI
      exact ⟨μ1 ++ [.lst []], ι1 ++ [D0], .refl, r1', PostE.ext (e1.trans eA) h⟩
    rintro i m H2 hi
    have hi' := hi
    rw [hI] at hi'
    obtain ⟨μ2, ι2, e2, r2, p⟩ := hi'
    cases m with
    | zero => exact p.elim
    | succ m =>
      unfold lcG at p
      have eB : Ext K H1 ι1 H2 ι2 := eA.trans e2
      have hD2 : ι2[μ1.length]? = some D0 := pre_get e2.pre hD1
      obtain ⟨k1, k2⟩ := sim i H2 ι2 μ2 eB r2
      split at p
      · exact p.elim
      · rename_i hs
        exact .inl ⟨k1 hs, p.done r2 (dr_ref hD2)⟩
      · rename_i d hs
        obtain ⟨k3, k4⟩ := k2 d hs
        refine .inr ⟨k3, fun H3 => I (i + 1) m H3, fun H3 h3 => ⟨m, Nat.lt_succ_self _, h3⟩, fun x H3 y => ?_⟩
        obtain ⟨ι3, e3, r3, rd⟩ := k4 x H3 y
        split at p
        · exact p.elim
        · rename_i ρ1 hput
          have rsA : RepS K H3 ι3 ρ σ := (((rs.mono e1).mono eB).mono e3)
          refine tgOf_put hput rd rsA.wipe hv fun σ1 rs1 hw => ⟨hw.trans wipe_wipe, ?_⟩
          -- the element
          have body : ∀ {H4 : Hp} {ι4 : List Addr} {μ4 : Mem}, Ext K H3 ι3 H4 ι4 → RepM K H4 ι4 mg μ4 → PostE K mg W σ H4 ι4 (match elt C ρ1 μ4 with
              | .ok y μ3 => (match getM μ3 μ1.length with
                | some l => if l.length < sizeLine then lcG s g t elt μ1.length C m (i + 1) (wipeD ρ vs) (μ3.set μ1.length (.lst (l ++ [y]))) else .bad
                | none => .bad)
              | _ => .bad) Q → tE K mg W0 (elt C) σ1 H4 fun y H5 => ∃ acc, H5 D0 = some (.lst acc) ∧ acc.length < sizeLine ∧ I (i + 1) m (upd H5 D0 (.lst (acc ++ [y]))) := fun {H4 ι4 μ4} e4 r4 p => by
            refine ⟨ρ1, μ4, ι4, rs1.mono e4, r4, ?_⟩
            revert p
            cases elt C ρ1 μ4 with
            | ex x μ5 => exact fun p => p.elim
            | bad => exact fun p => p.elim
            | ok y μ5 =>
              intro p v H5 ι5 e5 r5 rd5
              dsimp only at p
              split at p
              · rename_i l hl
                split at p
                · rename_i hz
                  have eC : Ext K H2 ι2 H5 ι5 := e3.trans (e4.trans e5)
                  have hD5 : ι5[μ1.length]? = some D0 := pre_get eC.pre hD2
                  obtain ⟨acc, h1, h2⟩ := rm_lst r5 hl hD5
                  refine ⟨acc, h1, by rw [h2.length]; exact hz, ?_⟩
                  have ex : Ext K H5 ι5 (upd H5 D0 (.lst (acc ++ [v]))) ι5 := ⟨List.prefix_refl _, tups_upd (fun xs e => by rw [h1] at e; cases e) (fun _ _ e => by rw [h1] at e; cases e)⟩
                  have w := RepM.write (u := .lst (acc ++ [v])) (o' := .lst (l ++ [y])) r5 (getM_at hl) hD5 rfl rfl ⟨acc ++ [v], upd_same, (h2.mono ex).append (RepL.one (rd5.mono ex))⟩
                  rw [hI]
                  exact ⟨_, ι5, e2.trans (eC.trans ex), w.1, PostE.ext (e5.trans ex) p⟩
                · exact p.elim
              · exact p.elim
          cases t with
          | none =>
            have z := body .refl r3 (PostE.ext e3 p)
            dsimp only [tTo, tYes]
            rw [if_pos rfl]
            exact z
          | some c =>
            refine ⟨ρ1, μ2, ι3, rs1, r3, ?_⟩
            have p := PostE.ext e3 p
            revert p
            dsimp only
            cases c C ρ1 μ2 with
            | ex x μ5 => exact fun p => p.elim
            | bad => exact fun p => p.elim
            | ok b μ5 =>
              cases b with
              | bl b =>
                cases b with
                | true => exact fun p H4 ι4 e4 r4 => iteT (body e4 r4 (PostE.ext e4 p))
                | false =>
                  intro p H4 ι4 e4 r4
                  refine iteF ?_
                  rw [hI]
                  exact ⟨μ5, ι4, e2.trans (e3.trans e4), r4, PostE.ext e4 p⟩
              | _ => exact fun p => p.elim
end
section
variable {X : Cx} {W : WX} {C : CEnv}
/-- the block's context -/
theorem pe_mlc {elt tg iter : Expr} {ifs : List Expr} {scope : Scope} {own : List (Str × Nat)} {pos : Pos} {mi : Itm} {g : CTg} {t : Option Ex} {me : Ex} (hc : X.calm = true) (hN : X.N.Nodup) (hi : PI X tg iter (tI X.K X.mg W (mi C))) (ok : BlkOk X.N X.env.scope scope own)
    (hv : ∀ i ∈ g.slots, i ∈ own.map (·.2))
    (hg : ∀ (s : Shared) (H : Hp) (A : Addr) (cl : List (Str × Addr)) (fp : List Addr), PG (X.blk s H scope (compEnvC scope cl A X.env) fp) tg (tgOf X.K g)) (ht : ∀ (s : Shared) (H : Hp) (A : Addr) (cl : List (Str × Addr)) (fp : List Addr), PTs (X.blk s H scope (compEnvC scope cl A X.env) fp) ifs (tTo X.K X.mg C t))
    (he : ∀ (s : Shared) (H : Hp) (A : Addr) (cl : List (Str × Addr)) (fp : List Addr), PE (X.blk s H scope (compEnvC scope cl A X.env) fp) elt (tE X.K X.mg W0 (me C))) (hs : ∀ x, foldedSetIterable iter X.env x = pure x) :
    PE X (.ListComp elt [⟨tg, iter, ifs, 0⟩] scope pos) (tE X.K X.mg W (mLc mi g t me (own.map (·.2)) C)) :=
  PE.weak (pe_lc hc hN hi ok hg ht he hs) fun σ H Q h => lc_sound hv h
theorem ps_msetLc {i : Nat} {y : Str} {py : Pos} {elt tg iter : Expr} {ifs : List Expr} {scope : Scope} {own : List (Str × Nat)} {pos spos : Pos} {mi : Itm} {g : CTg} {t : Option Ex} {me : Ex} (hc : X.calm = true) (hN : X.N.Nodup) (hy : X.N[i]? = some y) (hyl : X.env.scope.names.lookup y = some .local)
    (hsw : swapsWith (.ListComp elt [⟨tg, iter, ifs, 0⟩] scope pos) (some (.Name y py)) spos.line X.env = pure true) (hi : PI X tg iter (tI X.K X.mg W (mi C))) (ok : BlkOk X.N X.env.scope scope own)
    (hv : ∀ i ∈ g.slots, i ∈ own.map (·.2))
    (hg : ∀ (s : Shared) (H : Hp) (A : Addr) (cl : List (Str × Addr)) (fp : List Addr), PG (X.blk s H scope (compEnvC scope cl A X.env) fp) tg (tgOf X.K g)) (ht : ∀ (s : Shared) (H : Hp) (A : Addr) (cl : List (Str × Addr)) (fp : List Addr), PTs (X.blk s H scope (compEnvC scope cl A X.env) fp) ifs (tTo X.K X.mg C t))
    (he : ∀ (s : Shared) (H : Hp) (A : Addr) (cl : List (Str × Addr)) (fp : List Addr), PE (X.blk s H scope (compEnvC scope cl A X.env) fp) elt (tE X.K X.mg W0 (me C))) (hs : ∀ x, foldedSetIterable iter X.env x = pure x) :
    PS X (.Assign [.Name y py] (.ListComp elt [⟨tg, iter, ifs, 0⟩] scope pos) spos) (tS X.K X.mg W (sAsg (mLc mi g t me (own.map (·.2))) (gNm i) C)) := by
  refine PS.weak (ps_setLc hc hN hy hyl hsw hi ok hg ht he hs) fun Dn σ H ⟨ρ, μ, ι, rs, rm, h⟩ => ?_
  refine lc_sound hv ⟨ρ, μ, ι, rs, rm, ?_⟩
  refine PostE.mono (PostE.then h rs) fun v H1 ⟨ι1, d, μ1, q, e, r1, r2, p⟩ => ?_
  exact p.done r1 ((rs.mono e).set i r2)
end
end PM
set_option Elab.async false
set_option linter.all false
set_option maxRecDepth 100000
set_option maxHeartbeats 1000000
/-! PM9: defs: a table, their meaning to a depth of calls, their promises. -/
namespace PM
open PySem PySem.Spec PyProof.Rows L2

/-- where an argument comes from -/
inductive Arg where
  | pos (i : Nat) | kw (j : Nat) | dfl (d : D)
def arr (ar : List Arg) (ds es : List D) : List D := ar.map fun a => match a with
  | .pos i => ds.getD i .non
  | .kw j => es.getD j .non
  | .dfl d => d
/-- what the translator knows of the text -/
structure Sig where
  /-- the defs' parameters -/
  ps : Str → Option (List Str)
  /-- all parameters may be given by place -/
  po : Str → Bool
  /-- the defs' numbers -/
  ix : Str → Nat
  /-- a call with n arguments and these keywords: the parameters' sources -/
  kw : Str → Nat → List Str → Option (List Arg) := fun _ _ _ => none
  /-- the module's constants -/
  con : Str → Option D := fun _ => none
  /-- names that the module does not bind -/
  blt : Str → Bool := fun _ => false
/-- a def: how many parameters, how many names, its meaning -/
structure DefM where
  ar : Nat
  nl : Nat
  body : Sm
structure Tab where
  sg : Sig
  df : Nat → DefM
def finish (o : Fl) : Out := match o with
  | .nx _ μ => .ok .non μ
  | .rt d μ => .ok d μ
  | .ex x _ μ => .ex x μ
  | _ => .bad
def start0 (nl : Nat) (ds : List D) : Loc := ds.map some ++ List.replicate (nl - ds.length) none
def callN (T : Tab) : Nat → CEnv
  | 0 => fun _ _ _ => .bad
  | k + 1 => fun f ds μ => if ds.length = (T.df f).ar then finish ((T.df f).body (callN T k) (start0 (T.df f).nl ds) μ) else .bad
/-- a def's promise: what its meaning says -/
def spF (K : PySem.W.Frag) (mg : Str → Option Value) (C : CEnv) (f : Nat) (ps : List Str) : Sp := fun vs H Q E => vs.length = ps.length ∧
  ∃ ι μ ds, RepM K H ι mg μ ∧ RepL K H ι ds vs ∧ PostE K mg (fun c d _ H => E c d H) [] H ι (C f ds μ) Q
/-- what the machine's heap must hold of a table, over a context -/
structure TabOk (T : Tab) (k : Nat) (P : Program) (w : World) (K : PySem.W.Frag) (mg : Str → Option Value) (base : Heap) : Prop where
  fn : ∀ f ps, T.sg.ps f = some ps → ps.length = (T.df (T.sg.ix f)).ar ∧ ∃ a fd, (∃ oc od sl, K.lookup a = some ⟨oc, od, .func fd, sl⟩) ∧ mg f = some (.ref a) ∧ PySem.W.keepIn K (.ref a) = true ∧ (T.sg.po f = true → Binds K fd ps []) ∧ FnOk P w K mg base (L2.CX P w) k a fd ps (spF K mg (callN T k) (T.sg.ix f) ps) ∧
    ∀ n ks ar, T.sg.kw f n ks = some ar → ∃ g gV, KBn K fd ps n ks g gV ∧ ar.length = ps.length ∧ ∀ H ι ds es vs zs, ds.length = n → es.length = ks.length → RepL K H ι ds vs → RepL K H ι es zs → RepL K H ι (arr ar ds es) (gV vs zs)
  con : ∀ x d, T.sg.con x = some d → ∃ u v, mg x = some u ∧ RelV v u ∧ ∀ H ι, RepD K H ι d v
  blt : ∀ x, T.sg.blt x = true → mg x = none
def mCall (f : Nat) (as : Exs) : Ex := fun C ρ μ => (as C ρ μ).bind fun ds μ1 => C f ds μ1
def mCallK (f : Nat) (ar : List Arg) (as ks : Exs) : Ex := fun C ρ μ => (as C ρ μ).bind fun ds μ1 => (ks C ρ μ1).bind fun es μ2 => C f (arr ar ds es) μ2
section
variable {X : Cx} {W : WX} {x : Str} {p pos : Pos} {e : Expr} {es : List Expr}
theorem callN_len {T : Tab} {k : Nat} {f : Nat} {ds : List D} {μ : Mem} {ps : List Str} (h : callN T k f ds μ ≠ .bad) (hd : ps.length = (T.df f).ar) : ds.length = ps.length := by
  cases k with
  | zero => exact absurd rfl h
  | succ k =>
    unfold callN at h
    rw [hd]
    split at h
    · assumption
    · exact absurd rfl h
theorem PostE.notbad {K : PySem.W.Frag} {mg : Str → Option Value} {W : WX} {σ : L2.St} {H : Hp} {ι : List Addr} {o : Out} {Q : VK} (h : PostE K mg W σ H ι o Q) : o ≠ .bad := fun e => by subst e; exact h
theorem PostE.sig {K : PySem.W.Frag} {mg : Str → Option Value} {W : WX} {σ τ : L2.St} {H : Hp} {ι : List Addr} {o : Out} {Q : VK} (h : PostE K mg W σ H ι o Q) : PostE K mg (fun c d _ H => W c d σ H) τ H ι o Q := by
  cases o with
  | ok d μ => exact h
  | ex x μ => exact h
  | bad => exact h
theorem pe_mcall {T : Tab} {k : Nat} {ps : List Str} {ms : Exs} (ok : TabOk T k X.prog X.w X.K X.mg X.base) (hd : T.sg.ps x = some ps) (hpo : T.sg.po x = true) (hr : Room k X.A) (hg : Gl X x) (tk : Takes X W) (ha : PA X (e :: es) (tA X.K X.mg W (ms (callN T k))))
    (hdb : (x == ("__debug__" : Str)) = false) (he : starEach (e :: es) X.env = (false, eval e X.env) :: starEach es X.env) (hpl : (backTo pos (starEach es X.env)).any (·.1) = false) :
    PE X (.Call (.Name x p) (e :: es) [] pos) (tE X.K X.mg W (mCall (T.sg.ix x) ms (callN T k))) := by
  obtain ⟨har, a, fd, _, hm, hk, hb, F, _⟩ := ok.fn x ps hd
  refine PE.weak (pe_callS F hr hg hm hk (hb hpo) (fun σ => passAt tk σ) ha hdb he hpl) fun σ H Q h => ?_
  refine tA.mono (tE_args (f := fun ds μ1 => callN T k (T.sg.ix x) ds μ1) h) fun vs H1 ⟨ι, μ, ds, rm, rl, q⟩ => ?_
  exact ⟨by rw [rl.length]; exact callN_len q.notbad har, ι, μ, ds, rm, rl, q.sig⟩
theorem pe_callS0 {CX : CXT} {k : Nat} {f : Addr} {fd : FuncData} {ps : List Str} {sp : Sp} {E : L2.St → XK} (F : FnOk X.prog X.w X.K X.mg X.base CX k f fd ps sp) (hr : Room k X.A) (hg : Gl X x) (hm : X.mg x = some (.ref f)) (hk : PySem.W.keepIn X.K (.ref f) = true) (hb : Binds X.K fd ps []) (hx : ∀ σ, PassesAt CX X σ (E σ))
    (hdb : (x == ("__debug__" : Str)) = false) : PE X (.Call (.Name x p) [] [] pos) (tCallS sp E tNil) := by
  refine ⟨fun pins s σ H Q I h => ?_⟩
  refine wpAny_Call_Name_kw (ld_glob I hg hm ?_ hdb)
  exact PySem.W.callWith_K0 I.kIn hk (run_fnS (us := []) F hr hb (hx σ) I .nil h)
theorem pe_mcall0 {T : Tab} {k : Nat} {ps : List Str} (ok : TabOk T k X.prog X.w X.K X.mg X.base) (hd : T.sg.ps x = some ps) (hpo : T.sg.po x = true) (hr : Room k X.A) (hg : Gl X x) (tk : Takes X W)
    (hdb : (x == ("__debug__" : Str)) = false) : PE X (.Call (.Name x p) [] [] pos) (tE X.K X.mg W (mCall (T.sg.ix x) mNil (callN T k))) := by
  obtain ⟨har, a, fd, _, hm, hk, hb, F, _⟩ := ok.fn x ps hd
  refine PE.weak (pe_callS0 F hr hg hm hk (hb hpo) (fun σ => passAt tk σ) hdb) fun σ H Q h => ?_
  obtain ⟨ρ, μ, ι, rs, rm, q⟩ := h
  have q : PostE X.K X.mg W σ H ι (callN T k (T.sg.ix x) [] μ) Q := q
  exact ⟨callN_len q.notbad har, ι, μ, [], rm, RepL.nil, q.sig⟩
/-- keywords' values -/
theorem pk_mnil {C : CEnv} : PK X [] (tA X.K X.mg W (mNil C)) := ⟨fun pos pins s σ H Q I ⟨ρ, μ, ι, rs, rm, h⟩ => pk_nil.run pos pins s σ H Q I (h [] H ι .refl rm RepL.nil)⟩
theorem pk_mcons {C : CEnv} {kws : List Keyword} {nm : Option Str} {kpos : Pos} {ma : Ex} {ms : Exs} (ha : PE X e (tE X.K X.mg W (ma C))) (hr : PK X kws (tA X.K X.mg W (ms C))) : PK X (⟨nm, e, kpos⟩ :: kws) (tA X.K X.mg W (mCons ma ms C)) := by
  refine ⟨fun pos pins s σ H Q I ⟨ρ, μ, ι, rs, rm, h⟩ => (pk_cons ha hr).run pos pins s σ H Q I ⟨ρ, μ, ι, rs, rm, ?_⟩⟩
  refine PostE.mono (PostE.cons h) fun x H1 ⟨ι1, d, μ1, e, e1, r1, r2, p⟩ => ?_
  exact ⟨ρ, μ1, ι1, rs.mono e1, r1, p⟩
theorem run_fnNS {CX : CXT} {k n : Nat} {f : Addr} {fd : FuncData} {ps ks : List Str} {sp : Sp} {E : L2.St → XK} {g : List Value → List Value → List Value} {gV : List V → List V → List V} {pins : List (Addr × Obj)} {σ : L2.St} {H : Hp} {s : Shared} {Q : VK} {us ws : List Value} {vs zs : List V} (F : FnOk X.prog X.w X.K X.mg X.base CX k f fd ps sp) (hr : Room k X.A) (hb : KBn X.K fd ps n ks g gV) (hx : PassesAt CX X σ (E σ))
    (I : Inv X pins σ H s) (r : Vals vs us) (rz : Vals zs ws) (l1 : vs.length = n) (l2 : zs.length = ks.length) (h : sp (gV vs zs) H Q (E σ)) : wpAny (model X.prog X.w) X.A (call (.ref f) us (ks.zip ws)) (EP X pins σ Q) X.xe s := by
  have r2 := hb.rel r rz
  refine wpAny_call (codeAny_mono (F.run X.A X.stack s H ⟨us, ks.zip ws⟩ (g us ws) (gV vs zs) Q (E σ) hr I.env0 (hb.to s us ws I.kIn (r.length.symm.trans l1) (rz.length.symm.trans l2)) r2 h) fun r s' hq => ?_)
  cases r with
  | error e => exact hx pins H s e s' I hq
  | ok fl =>
    cases fl with
    | ret u => exact I.after hq
    | next => exact False.elim hq
    | brk => exact False.elim hq
    | cont => exact False.elim hq
def tCallNS (n m : Nat) (sp : Sp) (gV : List V → List V → List V) (E : L2.St → XK) (t tk : TA) : TE := fun σ H Q => t σ H fun vs H1 => tk σ H1 fun zs H2 => vs.length = n ∧ zs.length = m ∧ sp (gV vs zs) H2 Q (E σ)
theorem pe_callNS {CX : CXT} {k n : Nat} {f : Addr} {fd : FuncData} {ps ks : List Str} {sp : Sp} {E : L2.St → XK} {g : List Value → List Value → List Value} {gV : List V → List V → List V} {kws : List Keyword} {t tk : TA} (F : FnOk X.prog X.w X.K X.mg X.base CX k f fd ps sp) (hr : Room k X.A) (hg : Gl X x) (hm : X.mg x = some (.ref f)) (hk : PySem.W.keepIn X.K (.ref f) = true) (hb : KBn X.K fd ps n ks g gV) (hx : ∀ σ, PassesAt CX X σ (E σ))
    (ha : PA X (e :: es) t) (hkw : PK X kws tk) (hall : (backToKw pos (keywordEach kws X.env)).all (·.1.isSome) = true) (hks : (backToKw pos (keywordEach kws X.env)).filterMap (·.1) = ks)
    (hdb : (x == ("__debug__" : Str)) = false) (he : starEach (e :: es) X.env = (false, eval e X.env) :: starEach es X.env)
    (hpl : ((backTo pos (starEach (e :: es) X.env)).any (·.1) || (backToKw pos (keywordEach kws X.env)).any (·.1.isNone)) = false) :
    PE X (.Call (.Name x p) (e :: es) kws pos) (tCallNS n ks.length sp gV E t tk) := by
  refine ⟨fun pins s σ H Q I h => ?_⟩
  refine wpAny_Call_Name_kw (ld_glob I hg hm ?_ hdb)
  refine PySem.W.callWith_KW (h₀ := X.base) I.ok.mod.kin hk hall (thn (ha.run pos pins s σ H _ I h) fun us s1 ⟨vs, H1, I1, r, q⟩ => ?_) hpl he
  refine thn (hkw.run pos pins s1 σ H1 _ I1 q) fun ws s2 ⟨zs, H2, I2, rz, l1, l2, q2⟩ => ⟨I2.kIn, ?_⟩
  rw [hks]
  exact run_fnNS F hr hb (hx σ) I2 r rz l1 l2 q2
theorem pe_mcallK {T : Tab} {k n : Nat} {ps ks : List Str} {ar : List Arg} {kws : List Keyword} {ms mk : Exs} (ok : TabOk T k X.prog X.w X.K X.mg X.base) (hd : T.sg.ps x = some ps) (hkd : T.sg.kw x n ks = some ar) (hr : Room k X.A) (hg : Gl X x) (tk : Takes X W) (ha : PA X (e :: es) (tA X.K X.mg W (ms (callN T k)))) (hkw : PK X kws (tA X.K X.mg W (mk (callN T k))))
    (hn : ∀ ρ μ ds μ', ms (callN T k) ρ μ = .ok ds μ' → ds.length = n) (hm' : ∀ ρ μ ds μ', mk (callN T k) ρ μ = .ok ds μ' → ds.length = ks.length)
    (hall : (backToKw pos (keywordEach kws X.env)).all (·.1.isSome) = true) (hks : (backToKw pos (keywordEach kws X.env)).filterMap (·.1) = ks)
    (hdb : (x == ("__debug__" : Str)) = false) (he : starEach (e :: es) X.env = (false, eval e X.env) :: starEach es X.env)
    (hpl : ((backTo pos (starEach (e :: es) X.env)).any (·.1) || (backToKw pos (keywordEach kws X.env)).any (·.1.isNone)) = false) :
    PE X (.Call (.Name x p) (e :: es) kws pos) (tE X.K X.mg W (mCallK (T.sg.ix x) ar ms mk (callN T k))) := by
  obtain ⟨har, a, fd, _, hm, hk, hb, F, hkb⟩ := ok.fn x ps hd
  obtain ⟨g, gV, B, hlen, hrep⟩ := hkb n ks ar hkd
  refine PE.weak (pe_callNS F hr hg hm hk B (fun σ => passAt tk σ) ha hkw hall hks hdb he hpl) fun σ H Q ⟨ρ, μ, ι, rs, rm, h⟩ => ⟨ρ, μ, ι, rs, rm, ?_⟩
  refine PostA.mono (PostA.bind h) fun vs H1 ⟨ι1, ds, μ1, q1, e1, r1, l1, p1⟩ => ?_
  refine ⟨ρ, μ1, ι1, rs.mono e1, r1, ?_⟩
  refine PostA.mono (PostA.bind p1) fun zs H2 ⟨ι2, es, μ2, q2, e2, r2, l2, p2⟩ => ?_
  have n1 := hn _ _ _ _ q1
  have n2 := hm' _ _ _ _ q2
  refine ⟨by rw [l1.length]; exact n1, by rw [l2.length]; exact n2, ?_⟩
  have rr := hrep H2 ι2 ds es vs zs n1 n2 (l1.mono e2) l2
  exact ⟨by rw [rr.length]; exact callN_len p2.notbad har, ι2, μ2, _, r2, rr, p2.sig⟩
end
/-! ### a def keeps its promise -/
theorem start_rep {K : PySem.W.Frag} {H : Hp} {ι : List Addr} {N : List Str} {ds : List D} {vs : List V} (h : RepL K H ι ds vs) : RepS K H ι (start0 N.length ds) (L2.start N vs) := by
  have hl := h.length
  refine ⟨?_, fun i d e => ?_⟩
  · unfold L2.start start0
    rw [List.length_append, List.length_append, List.length_map, List.length_map, List.length_replicate, List.length_replicate, hl]
  · unfold start0 at e
    by_cases hi : i < ds.length
    · rw [List.getElem?_append_left (by rw [List.length_map]; exact hi), List.getElem?_map] at e
      cases hd : ds[i]? with
      | none => rw [hd] at e; cases e
      | some d' =>
        rw [hd] at e
        cases e
        obtain ⟨v, hv, rv⟩ := h.get hd
        refine ⟨v, ?_, rv⟩
        unfold L2.start
        rw [List.getElem?_append_left (by rw [List.length_map, hl]; exact hi), List.getElem?_map, hv]
        rfl
    · rw [List.getElem?_append_right (by rw [List.length_map]; omega), List.getElem?_replicate] at e
      split at e <;> cases e
theorem finish_post {K : PySem.W.Frag} {mg : Str → Option Value} {H : Hp} {ι : List Addr} {o : Fl} {Q : VK} {E : XK} (h : PostE K mg (fun c d _ H => E c d H) [] H ι (finish o) Q) : PostS K mg (fun c d _ H => E c d H) H ι o { nx := fun _ H' => Q .non H', rt := Q } := by
  cases o with
  | nx ρ μ => exact fun σ' H' ι' e rm rs => h .non H' ι' e rm dr_non
  | rt d μ => exact h
  | ex x ρ μ => exact fun cls d σ' H' ι' e rm rs rx => h cls d H' ι' e rm rx
  | bk ρ μ => exact h.elim
  | ct ρ μ => exact h.elim
  | bad => exact h
theorem fn_ok {P : Program} {w : World} {K : PySem.W.Frag} {mg : Str → Option Value} {base : Heap} {T : Tab} {k : Nat} {x qual : Str} {nm : Nat} {params : Arguments} {body : List Stmt} {scope : Scope} {dvs : List V} {kws : List (Str × V)} {f : Addr} {fd : FuncData} {N ps : List Str} (F : FunD K x qual params body scope dvs kws f fd) (S : FnScope N ps scope) (hd : ps.length = (T.df nm).ar) (hN : (T.df nm).nl = N.length)
    (hb : ∀ (cdv : Value) (A : Around) (outer : List Env) (s : Shared) (H : Hp) (E : XK), Room k (A.deeper (envOfC qual scope s.heap.objs.size f cdv)) →
      PSs (cxOf (L2.CX P w) P w K mg base N qual scope f cdv A outer s H E) body (tS K mg (fun c d _ H => E c d H) ((T.df nm).body (callN T k)))) :
    FnOk P w K mg base (L2.CX P w) (k + 1) f fd ps (spF K mg (callN T (k + 1)) nm ps) := by
  refine F.ok S (fun vs H Q E h => h.1) fun cdv A outer s H vs Q E hr ⟨hl, ι, μ, ds, rm, rl, p⟩ => ?_
  refine ⟨_, hb cdv A outer s H E hr, start0 N.length ds, μ, ι, start_rep rl, rm, ?_⟩
  have e : ds.length = ps.length := by rw [← rl.length]; exact hl
  have p : PostE K mg (fun c d _ H => E c d H) [] H ι (if ds.length = (T.df nm).ar then finish ((T.df nm).body (callN T k) (start0 (T.df nm).nl ds) μ) else .bad) Q := p
  rw [if_pos (e.trans hd), hN] at p
  exact finish_post p
end PM
set_option Elab.async false
set_option linter.all false
set_option maxRecDepth 100000
set_option maxHeartbeats 1000000
/-! PX1: more of the built-ins. -/
namespace PM
open PySem PySem.Spec PyProof.Rows L2
def fBits (d : D) (μ : Mem) : Out := match d with
  | .int i => oI (Builtin.Int.intBits i : Nat) μ
  | _ => .bad
def rgOut (t : Bool) (a b : Int) (μ : Mem) : Out := if -(2 ^ 62) ≤ a ∧ a < 2 ^ 62 ∧ -(2 ^ 62) ≤ b ∧ b < 2 ^ 62 ∧ (b - a).toNat ≤ 2 ^ 24 then (if t then .ok (.tup (rngD a b)) μ else newL (rngD a b) μ) else .bad
def fRg1 (t : Bool) (d : D) (μ : Mem) : Out := match d with
  | .int n => rgOut t 0 n μ
  | _ => .bad
def fRg2 (t : Bool) (d e : D) (μ : Mem) : Out := match d, e with
  | .int i, .int j => rgOut t i j μ
  | _, _ => .bad
/-- a f b g c -/
def mChain (f g : D → D → Mem → Out) (a b c : Ex) : Ex := fun C ρ μ => (a C ρ μ).bind fun x μ1 => (b C ρ μ1).bind fun y μ2 => ifD (f x y μ2) (fun μ3 => (c C ρ μ3).bind fun z μ4 => g y z μ4) (fun μ3 => .ok (.bl false) μ3)
section
variable {X : Cx} {W : WX} {C : CEnv} {o e a b c : Expr} {p p2 pos apos : Pos}
theorem pe_mbits {mo : Ex} (ho : PE X o (tE X.K X.mg W (mo C))) (hbase : attributeBase o "bit_length" X.env (eval o X.env) = eval o X.env) (hline : (apos.endLine == pos.line) = true) :
    PE X (.Call (.Attribute o "bit_length" apos) [] [] pos) (tE X.K X.mg W (mUn fBits mo C)) :=
  PE.weak (pe_bits ho hbase hline) fun σ H Q h => tE.mono (tE_one h) fun x H1 ⟨ι2, μ2, d2, r1, r2, p⟩ => by
    cases d2 with
    | int i => exact ⟨i, rd_int r2, PostE.done p r1 dr_int⟩
    | _ => exact p.elim
theorem rl_rng {K : PySem.W.Frag} {H : Hp} {ι : List Addr} {a b : Int} : RepL K H ι (rngD a b) (rgV a b) := by
  unfold rngD rgV
  generalize List.range (b - a).toNat = l
  induction l with
  | nil => exact RepL.nil
  | cons x r ih =>
    rw [List.map_cons, List.map_cons, RepL]
    exact ⟨_, _, rfl, dr_int, ih⟩
theorem rg_lst {K : PySem.W.Frag} {mg : Str → Option Value} {σ : L2.St} {H : Hp} {ι : List Addr} {μ : Mem} {a b : Int} {Q : VK} (h : PostE K mg W σ H ι (rgOut false a b μ) Q) (rm : RepM K H ι mg μ) : RgOk a b ∧ ∀ q, H q = none → Q (.ref q) (upd H q (.lst (rgV a b))) := by
  unfold rgOut at h
  split at h
  · rename_i c
    exact ⟨c, newL_post h rm rl_rng⟩
  · exact h.elim
theorem rg_tup {K : PySem.W.Frag} {mg : Str → Option Value} {σ : L2.St} {H : Hp} {ι : List Addr} {μ : Mem} {a b : Int} {Q : VK} (h : PostE K mg W σ H ι (rgOut true a b μ) Q) (rm : RepM K H ι mg μ) : RgOk a b ∧ ∀ q, H q = none → Q (.ref q) (upd H q (.tup (rgV a b))) := by
  unfold rgOut at h
  split at h
  · rename_i c
    exact ⟨c, newT_post h rm rl_rng⟩
  · exact h.elim
theorem pe_mlr1 {ma : Ex} (hc : X.calm = true) (hl : Gl X "list") (hlm : X.mg "list" = none) (hg : Gl X "range") (hm : X.mg "range" = none) (ha : PE X a (tE X.K X.mg W (ma C))) (na : starEach [a] X.env = (false, eval a X.env) :: starEach [] X.env) (nr : starEach [.Call (.Name "range" p) [a] [] p2] X.env = (false, eval (.Call (.Name "range" p) [a] [] p2) X.env) :: starEach [] X.env) :
    PE X (.Call (.Name "list" apos) [.Call (.Name "range" p) [a] [] p2] [] pos) (tE X.K X.mg W (mUn (fRg1 false) ma C)) :=
  PE.weak (pe_listRg hc hl hlm (prg_1 hg hm ha na) nr) fun σ H Q h => tE.mono (tE_one h) fun x H1 ⟨ι2, μ2, d2, r1, r2, p⟩ => by
    cases d2 with
    | int i => exact ⟨i, rd_int r2, rg_lst p r1⟩
    | _ => exact p.elim
theorem pe_mlr2 {ma mb : Ex} (hc : X.calm = true) (hl : Gl X "list") (hlm : X.mg "list" = none) (hg : Gl X "range") (hm : X.mg "range" = none) (ha : PE X a (tE X.K X.mg W (ma C))) (hb : PE X b (tE X.K X.mg W (mb C))) (na : starEach [a, b] X.env = (false, eval a X.env) :: starEach [b] X.env) (nb : starEach [b] X.env = (false, eval b X.env) :: starEach [] X.env) (nr : starEach [.Call (.Name "range" p) [a, b] [] p2] X.env = (false, eval (.Call (.Name "range" p) [a, b] [] p2) X.env) :: starEach [] X.env) :
    PE X (.Call (.Name "list" apos) [.Call (.Name "range" p) [a, b] [] p2] [] pos) (tE X.K X.mg W (mOp (fRg2 false) ma mb C)) :=
  PE.weak (pe_listRg hc hl hlm (prg_2 hg hm ha hb na nb (by rw [nb]; rfl)) nr) fun σ H Q h => tE.mono (tE_two h) fun x H1 h1 => tE.mono h1 fun y H2 ⟨ι2, μ2, d2, e2, r1, r2, r3, p⟩ => by
    cases d2 with
    | int i => cases e2 with
      | int j => exact ⟨i, j, rd_int r2, rd_int r3, rg_lst p r1⟩
      | _ => exact p.elim
    | _ => cases e2 <;> exact p.elim
theorem pe_mtr1 {ma : Ex} (hc : X.calm = true) (hl : Gl X "tuple") (hlm : X.mg "tuple" = none) (hg : Gl X "range") (hm : X.mg "range" = none) (ha : PE X a (tE X.K X.mg W (ma C))) (na : starEach [a] X.env = (false, eval a X.env) :: starEach [] X.env) (nr : starEach [.Call (.Name "range" p) [a] [] p2] X.env = (false, eval (.Call (.Name "range" p) [a] [] p2) X.env) :: starEach [] X.env) :
    PE X (.Call (.Name "tuple" apos) [.Call (.Name "range" p) [a] [] p2] [] pos) (tE X.K X.mg W (mUn (fRg1 true) ma C)) :=
  PE.weak (pe_tupRg hc hl hlm (prg_1 hg hm ha na) nr) fun σ H Q h => tE.mono (tE_one h) fun x H1 ⟨ι2, μ2, d2, r1, r2, p⟩ => by
    cases d2 with
    | int i => exact ⟨i, rd_int r2, rg_tup p r1⟩
    | _ => exact p.elim
theorem pe_mtr2 {ma mb : Ex} (hc : X.calm = true) (hl : Gl X "tuple") (hlm : X.mg "tuple" = none) (hg : Gl X "range") (hm : X.mg "range" = none) (ha : PE X a (tE X.K X.mg W (ma C))) (hb : PE X b (tE X.K X.mg W (mb C))) (na : starEach [a, b] X.env = (false, eval a X.env) :: starEach [b] X.env) (nb : starEach [b] X.env = (false, eval b X.env) :: starEach [] X.env) (nr : starEach [.Call (.Name "range" p) [a, b] [] p2] X.env = (false, eval (.Call (.Name "range" p) [a, b] [] p2) X.env) :: starEach [] X.env) :
    PE X (.Call (.Name "tuple" apos) [.Call (.Name "range" p) [a, b] [] p2] [] pos) (tE X.K X.mg W (mOp (fRg2 true) ma mb C)) :=
  PE.weak (pe_tupRg hc hl hlm (prg_2 hg hm ha hb na nb (by rw [nb]; rfl)) nr) fun σ H Q h => tE.mono (tE_two h) fun x H1 h1 => tE.mono h1 fun y H2 ⟨ι2, μ2, d2, e2, r1, r2, r3, p⟩ => by
    cases d2 with
    | int i => cases e2 with
      | int j => exact ⟨i, j, rd_int r2, rd_int r3, rg_tup p r1⟩
      | _ => exact p.elim
    | _ => cases e2 <;> exact p.elim
end
end PM
namespace PM
open PySem PySem.Spec PyProof.Rows L2
section
variable {X : Cx} {W : WX} {C : CEnv} {a b c : Expr} {pos : Pos}
theorem tT_test {m : Ex} {σ : L2.St} {H : Hp} {Q : Bool → Hp → Prop} (h : tT X.K X.mg W (m C) σ H Q) : tE X.K X.mg W (m C) σ H (fun x H' => ∃ k, x = .bl k ∧ Q k H') := by
  obtain ⟨ρ, μ, ι, rs, rm, h⟩ := h
  refine ⟨ρ, μ, ι, rs, rm, ?_⟩
  revert h
  cases q : m C ρ μ with
  | ok d μ1 =>
    cases d with
    | bl b =>
      intro h v H' ι' e r1 r2
      rw [RepD] at r2
      exact ⟨b, r2, h H' ι' e r1⟩
    | _ => exact fun h => h.elim
  | ex x μ1 => exact fun h => h
  | bad => exact fun h => h.elim
theorem chain_sound {f g : D → D → Mem → Out} {ma mb mc : Ex} {σ : L2.St} {H : Hp} {Q : VK} (hp : ∀ d e μ, pureO (f d e μ)) (hp' : ∀ d e μ, pureO (g d e μ)) (h : tE X.K X.mg W (mChain f g ma mb mc C) σ H Q) :
    tChain (rD X.K X.mg f) (rD X.K X.mg g) (tE X.K X.mg W (ma C)) (tE X.K X.mg W (mb C)) (tE X.K X.mg W (mc C)) σ H Q := by
  obtain ⟨ρ, μ, ι, rs, rm, h⟩ := h
  refine ⟨ρ, μ, ι, rs, rm, ?_⟩
  refine PostE.mono (PostE.bind h) fun x H1 ⟨ι1, d, μ1, q1, e1, r1, r2, p1⟩ => ?_
  refine ⟨ρ, μ1, ι1, rs.mono e1, r1, ?_⟩
  refine PostE.mono (PostE.bind p1) fun y H2 ⟨ι2, d2, μ2, q2, e2, r3, r4, p2⟩ => ?_
  refine ⟨ι2, μ2, d, d2, r3, r2.mono e2, r4, ?_⟩
  unfold ifD at p2
  refine PostE.calm (PostE.mono (PostE.bind p2) fun z H3 ⟨ι3, d3, μ3, q3, e3, r5, r6, p4⟩ => ?_) (hp _ _ _)
  cases d3 with
  | bl k =>
    have hz : z = .bl k := by rw [RepD] at r6; exact r6
    refine ⟨k, hz, ?_⟩
    cases k with
    | true =>
      rw [if_pos rfl]
      refine ⟨ρ, μ3, ι3, rs.mono (e1.trans (e2.trans e3)), r5, ?_⟩
      refine PostE.mono (PostE.bind p4) fun w H4 ⟨ι4, d4, μ4, q4, e4, r7, r8, p5⟩ => ?_
      exact ⟨ι4, μ4, d2, d4, r7, r4.mono (e3.trans e4), r8, PostE.calm p5 (hp' _ _ _)⟩
    | false => exact PostE.done p4 r5 dr_bl
  | _ => exact p4.elim
theorem pe_mchain {op op' : CmpOp} {f g : D → D → Mem → Out} {ma mb mc : Ex} (ho : OpR X (compareOp op) (rD X.K X.mg f)) (hp : ∀ d e μ, pureO (f d e μ)) (ho' : OpR X (compareOp op') (rD X.K X.mg g)) (hp' : ∀ d e μ, pureO (g d e μ))
    (hm : lastMarks [op, op'] [b, c] = false) (ha : PE X a (tE X.K X.mg W (ma C))) (hb : PE X b (tE X.K X.mg W (mb C))) (hc : PE X c (tE X.K X.mg W (mc C))) :
    PE X (.Compare a [op, op'] [b, c] pos) (tE X.K X.mg W (mChain f g ma mb mc C)) :=
  PE.weak (pe_chain ho ho' ha hb hc hm) fun σ H Q h => chain_sound hp hp' h
theorem pt_mchain {op op' : CmpOp} {f g : D → D → Mem → Out} {ma mb mc : Ex} (ho : OpR X (compareOp op) (rD X.K X.mg f)) (hp : ∀ d e μ, pureO (f d e μ)) (ho' : OpR X (compareOp op') (rD X.K X.mg g)) (hp' : ∀ d e μ, pureO (g d e μ))
    (hm : lastMarks [op, op'] [b, c] = false) (ha : PE X a (tE X.K X.mg W (ma C))) (hb : PE X b (tE X.K X.mg W (mb C))) (hc : PE X c (tE X.K X.mg W (mc C))) :
    PT X (.Compare a [op, op'] [b, c] pos) (tT X.K X.mg W (mChain f g ma mb mc C)) :=
  PT.weak (pt_chain ho ho' ha hb hc hm) fun σ H Q h => chain_sound hp hp' (tT_test h)
end
end PM
set_option Elab.async false
set_option linter.all false
set_option maxRecDepth 100000
set_option maxHeartbeats 1000000
/-! PX2: texts: repeated; find, split, the like. -/
namespace PM
open PySem PySem.Spec PyProof.Rows L2
def fMulS (d e : D) (μ : Mem) : Out := match d with
  | .str s => (match e with
    | .int k => if 0 ≤ k ∧ k ≤ 1000 ∧ s.length ≤ 10000 then oS (Txt.mul s k) μ else .bad
    | _ => .bad)
  | d => fMul d e μ
/-- a method of texts with one argument -/
def mS1 (f : Str → D → Mem → Out) (a b : Ex) : Ex := fun C ρ μ => (a C ρ μ).bind fun d μ1 => match d with
  | .str x => (b C ρ μ1).bind fun e μ2 => f x e μ2
  | _ => .bad
def fFind (x : Str) (e : D) (μ : Mem) : Out := match e with
  | .str y => oI (Txt.find x y) μ
  | _ => .bad
def fSplit (x : Str) (e : D) (μ : Mem) : Out := match e with
  | .str y => if (y.length == 0) = false ∧ x.length + 2 ≤ sizeLine then newL ((Txt.split x y).map .str) μ else .bad
  | _ => .bad
def fStarts (x : Str) (e : D) (μ : Mem) : Out := match e with
  | .str y => oB (Txt.startswith x y) μ
  | _ => .bad
def fCount (x : Str) (e : D) (μ : Mem) : Out := match e with
  | .str y => oI (Txt.count x y) μ
  | _ => .bad
section
variable {X : Cx} {W : WX} {C : CEnv} {o e a b c : Expr} {p p2 pos apos : Pos}
theorem mulOk {s : Str} {k : Int} (h : 0 ≤ k ∧ k ≤ 1000 ∧ s.length ≤ 10000) : MulOk s k := by
  obtain ⟨h1, h2, h3⟩ := h
  refine ⟨?_, fun a _ => ?_, fun _ _ => ?_⟩
  · rw [decide_eq_false (by omega), decide_eq_false (by omega)]
    rfl
  · have : (9223372036854775807 : Int) / 1000 ≤ (2 ^ 63 - 1) / k := by
      refine Int.le_ediv_of_mul_le (by omega) ?_
      omega
    omega
  · have : s.length * k.toNat ≤ 10000 * 1000 := Nat.mul_le_mul h3 (by omega)
    unfold Builtin.Str.tooLong
    exact decide_eq_false (by rw [sizeLine_eq]; omega)
theorem op_MulS : OpR X (binaryOp .Mult) (rD X.K X.mg fMulS) := by
  intro pins s σ H x y v u Q I rx ry h
  obtain ⟨ι, μ, d, e, rm, r1, r2, p⟩ := h
  have alt : (∀ z, d ≠ .str z) → wpAny (model X.prog X.w) X.A (binaryOp .Mult v u) (EP X pins σ Q) X.xe s := fun hn => by
    refine op_Mul pins s σ H x y v u Q I rx ry ⟨ι, μ, d, e, rm, r1, r2, ?_⟩
    cases d with
    | str z => exact absurd rfl (hn z)
    | _ => exact p
  cases d with
  | str z =>
    cases e with
    | int k =>
      cases rd_str r1
      cases rd_int r2
      obtain ⟨t, rfl⟩ := rx
      obtain ⟨t', rfl⟩ := ry
      unfold fMulS at p
      dsimp only at p
      split at p
      · rename_i hc
        exact SB.mul (mulOk hc) fun t' tk => ⟨.str _, H, I.tok _, ⟨_, rfl⟩, PostE.done p rm dr_str⟩
      · exact p.elim
    | _ => exact p.elim
  | _ => exact alt fun z hz => nomatch hz
theorem pu_MulS (d e : D) (μ : Mem) : pureO (fMulS d e μ) := by
  cases d with
  | str z =>
    cases e with
    | int k =>
      unfold fMulS
      dsimp only
      split <;> (intro x μ' h; cases h)
    | _ => intro x μ' h; cases h
  | non => exact (pu_Mul .non e μ : pureO (fMul .non e μ))
  | bl b => exact (pu_Mul (.bl b) e μ : pureO (fMul (.bl b) e μ))
  | int i => exact (pu_Mul (.int i) e μ : pureO (fMul (.int i) e μ))
  | tup l => exact (pu_Mul (.tup l) e μ : pureO (fMul (.tup l) e μ))
  | ref n => exact (pu_Mul (.ref n) e μ : pureO (fMul (.ref n) e μ))
theorem pe_mS1 {id : String} {name : Str} {f : Str → D → Mem → Out} {r : V → List V → Hp → VK → Prop} {ma mb : Ex} (slot : Slot "str" name id) (ty : typeOf (.builtin id) = pure (.type "method_descriptor")) (rule : MtR X id r)
    (hf : ∀ σ H ι μ z d v (Q : VK), RepM X.K H ι X.mg μ → RepD X.K H ι d v → PostE X.K X.mg W σ H ι (f z d μ) Q → r (.str z) [v] H Q)
    (ho : PE X o (tE X.K X.mg W (ma C))) (he : PE X e (tE X.K X.mg W (mb C))) (hs : starEach [e] X.env = [(false, eval e X.env)]) (hbase : attributeBase o name X.env (eval o X.env) = eval o X.env) (hline : (apos.endLine == pos.line) = true) :
    PE X (.Call (.Attribute o name apos) [e] [] pos) (tE X.K X.mg W (mS1 f ma mb C)) :=
  PE.weak (pe_m1 slot ty rule ho he hs hbase hline) fun σ H Q ⟨ρ, μ, ι, rs, rm, h⟩ => by
    refine ⟨ρ, μ, ι, rs, rm, ?_⟩
    refine PostE.mono (PostE.bind h) fun x H1 ⟨ι1, d, μ1, q1, e1, r1, r2, p1⟩ => ?_
    cases d with
    | str z =>
      refine ⟨⟨z, rd_str r2⟩, ρ, μ1, ι1, rs.mono e1, r1, ?_⟩
      refine PostE.mono (PostE.bind p1) fun y H2 ⟨ι2, d2, μ2, q2, e2, r3, r4, p2⟩ => ?_
      rw [rd_str r2]
      exact hf σ H2 ι2 μ2 z d2 y Q r3 r4 p2
    | _ => exact p1.elim
theorem rl_strs {K : PySem.W.Frag} {H : Hp} {ι : List Addr} : ∀ l : List Str, RepL K H ι (l.map .str) (l.map V.str)
  | [] => RepL.nil
  | z :: r => by
    rw [List.map_cons, List.map_cons, RepL]
    exact ⟨_, _, rfl, dr_str, rl_strs r⟩
section
variable {ma mb : Ex} (ho : PE X o (tE X.K X.mg W (ma C))) (he : PE X e (tE X.K X.mg W (mb C))) (hs : starEach [e] X.env = [(false, eval e X.env)]) (hline : (apos.endLine == pos.line) = true)
include ho he hs hline
theorem pe_mfind (hbase : attributeBase o "find" X.env (eval o X.env) = eval o X.env) : PE X (.Call (.Attribute o "find" apos) [e] [] pos) (tE X.K X.mg W (mS1 fFind ma mb C)) :=
  pe_mS1 F.slot_str_find F.type_str_find mt_find (fun σ H ι μ z d v Q rm rd p => by
    cases d with
    | str y => exact ⟨z, y, rfl, by rw [rd_str rd], PostE.done p rm dr_int⟩
    | _ => exact p.elim) ho he hs hbase hline
theorem pe_mcount (hbase : attributeBase o "count" X.env (eval o X.env) = eval o X.env) : PE X (.Call (.Attribute o "count" apos) [e] [] pos) (tE X.K X.mg W (mS1 fCount ma mb C)) :=
  pe_mS1 F.slot_str_count F.type_str_count mt_count (fun σ H ι μ z d v Q rm rd p => by
    cases d with
    | str y => exact ⟨z, y, rfl, by rw [rd_str rd], PostE.done p rm dr_int⟩
    | _ => exact p.elim) ho he hs hbase hline
theorem pe_mstarts (hbase : attributeBase o "startswith" X.env (eval o X.env) = eval o X.env) : PE X (.Call (.Attribute o "startswith" apos) [e] [] pos) (tE X.K X.mg W (mS1 fStarts ma mb C)) :=
  pe_mS1 F.slot_str_startswith F.type_str_startswith mt_startswith (fun σ H ι μ z d v Q rm rd p => by
    cases d with
    | str y => exact ⟨z, y, rfl, by rw [rd_str rd], PostE.done p rm dr_bl⟩
    | _ => exact p.elim) ho he hs hbase hline
theorem pe_msplit (hbase : attributeBase o "split" X.env (eval o X.env) = eval o X.env) : PE X (.Call (.Attribute o "split" apos) [e] [] pos) (tE X.K X.mg W (mS1 fSplit ma mb C)) :=
  pe_mS1 F.slot_str_split F.type_str_split mt_split (fun σ H ι μ z d v Q rm rd p => by
    cases d with
    | str y =>
      unfold fSplit at p
      dsimp only at p
      split at p
      · rename_i hc
        exact ⟨z, y, rfl, by rw [rd_str rd], hc.1, hc.2, newL_post p rm (rl_strs _)⟩
      · exact p.elim
    | _ => exact p.elim) ho he hs hbase hline
end
end
end PM
set_option Elab.async false
set_option linter.all false
set_option maxRecDepth 100000
set_option maxHeartbeats 1000000
/-! PM10: the translator. What it has no mirror for becomes «bad». -/
namespace PM
open PySem PySem.Spec PyProof.Rows L2

structure TE where
  sg : Sig
  N : List Str
  sc : Scope
  /-- a def's own body (not a comprehension's block) -/
  top : Bool := true

def slotOf (N : List Str) (x : Str) : Option Nat := N.findIdx? (· == x)
def visB (sc : Scope) (x : Str) : Bool := match sc.names.lookup x with
  | some .local => true
  | some .cell => true
  | some .free => true
  | _ => false
def plainB (x : Str) : Bool := !(x == ("__debug__" : Str)) && !(x == ("__classdict__" : Str))
def glB (sc : Scope) (x : Str) : Bool := match sc.names.lookup x with
  | some .globalImplicit => true
  | _ => false
def opF : Operator → Option (D → D → Mem → Out)
  | .Add => some fAdd | .Sub => some fSub | .Mult => some fMulS | .FloorDiv => some fDiv | .Mod => some fMod
  | .Pow => some fPow | .LShift => some fShl | .RShift => some fShr | .BitAnd => some fAnd | .BitOr => some fOr | .BitXor => some fXor
  | _ => none
def cmpF : CmpOp → Option (D → D → Mem → Out)
  | .Eq => some fEq | .NotEq => some fNe | .Lt => some fLt | .LtE => some fLe | .Gt => some fGt | .GtE => some fGe
  | .Is => some fIs | .IsNot => some fIsN | .In => some fIn | .NotIn => some fNotIn
def isStar : Expr → Bool
  | .Starred .. => true
  | _ => false
def isSlice : Expr → Bool
  | .Slice .. => true
  | _ => false
def isSet : Expr → Bool
  | .Set .. => true
  | _ => false
def isLC : Expr → Bool
  | .ListComp .. => true
  | .SetComp .. => true
  | .DictComp .. => true
  | _ => false
/-- built-in functions with a mirror -/
def bltTab : List (Str × (List D → Mem → Out)) := [("len", bLen), ("abs", bAbs), ("int", bInt), ("max", bMax), ("min", bMin), ("str", bStr), ("sum", bSum), ("list", bList), ("tuple", bTuple), ("ord", bOrd), ("chr", bChr)]
def bltF (x : Str) : Option (List D → Mem → Out) := bltTab.lookup x
def tyTab : List (Str × String) := [("int", "int"), ("bool", "bool"), ("str", "str"), ("list", "list"), ("tuple", "tuple"), ("dict", "dict")]
def tyName (x : Str) : Option String := tyTab.lookup x
def boolV (op : BoolOp) : List Ex → Ex
  | [] => mBad
  | [a] => a
  | a :: r => match op with
    | .And => mAndV a (boolV op r)
    | .Or => mOrV a (boolV op r)
def boolT (op : BoolOp) : List Ex → Ex
  | [] => mBad
  | [a] => a
  | a :: r => match op with
    | .And => mAndT a (boolT op r)
    | .Or => mOrT a (boolT op r)
def consAll : List Ex → Exs
  | [] => mNil
  | a :: r => mCons a (consAll r)
def exsBad : Exs := fun _ _ _ => .bad
def trName (G : TE) (x : Str) : Ex :=
  if plainB x then
    if visB G.sc x then (match slotOf G.N x with
      | some i => mVar i
      | none => mBad)
    else if glB G.sc x then (match G.sg.con x with
      | some d => mC d
      | none => mBad)
    else mBad
  else mBad
def slotName (N : List Str) : Expr → Option (Str × Nat)
  | .Name x _ => (slotOf N x).map fun i => (x, i)
  | _ => none
/-- the names of a clause's target -/
def ctgOf (N : List Str) : Expr → Option (CTg × List (Str × Nat))
  | .Name x _ => (slotOf N x).map fun i => (.nm i, [(x, i)])
  | .Tuple es _ _ => (optAll (slotName N) es).map fun l => (.tp (l.map (·.2)), l)
  | _ => none
/-- the block's scope as it runs -/
def blkSc (sc scope : Scope) : Scope := relS scope sc
def locB (sc : Scope) (x : Str) : Bool := match sc.names.lookup x with
  | some .local => true
  | _ => false
def kwNames : List Keyword → Option (List Str)
  | [] => some []
  | ⟨some n, _, _⟩ :: r => (kwNames r).map (n :: ·)
  | _ => none
def kwExprs : List Keyword → List Expr
  | [] => []
  | ⟨_, e, _⟩ :: r => e :: kwExprs r
def trConst : Const → Ex
  | .int i => mC (.int i)
  | .str s => mC (.str s)
  | .bool b => mC (.bl b)
  | .none => mC .non
  | _ => mBad
def trBin (op : Operator) (a b : Ex) : Ex := match opF op with
  | some f => mOp f a b
  | none => mBad
def trUn (op : UnaryOp) (a : Ex) : Ex := match op with
  | .USub => mUn fNeg a
  | .Not => mNotV a
  | _ => mBad
def trCmp (ops : List CmpOp) (bs : List Expr) (a : Ex) (tr : Expr → Ex) : Ex := match ops with
  | [op] => (match bs with
    | [b] => (match cmpF op with
      | some f => if behindInMarks op b then mBad else mOp f a (tr b)
      | none => mBad)
    | _ => mBad)
  | [op, op2] => (match bs with
    | [b, c] => (match cmpF op with
      | some f => (match cmpF op2 with
        | some g => if lastMarks [op, op2] [b, c] then mBad else mChain f g a (tr b) (tr c)
        | none => mBad)
      | none => mBad)
    | _ => mBad)
  | _ => mBad
def trSub (b : Expr) (a : Ex) (tr : Expr → Ex) (tro : Option Expr → Opt) : Ex := match b with
  | .Slice lo hi st _ => (match st with
    | none => mSl a (tro lo) (tro hi)
    | some _ => mBad)
  | b => mOp fIx a (tr b)
def trLC (gens : List Comprehension) (f : Expr → Expr → List Expr → Ex) : Ex := match gens with
  | [⟨tg, iter, ifs, a⟩] => if a = 0 then f tg iter ifs else mBad
  | _ => mBad
def trIsi (G : TE) (args : List Expr) (a : Ex) : Ex := match args with
  | [b] => (match b with
    | .Name y _ => (match tyName y with
      | some T => if plainB y && glB G.sc y && G.sg.blt y then mUn (fIsI T) a else mBad
      | none => mBad)
    | _ => mBad)
  | _ => mBad
/-- list(range(..)), tuple(range(..)) -/
def trLR (t : Bool) (args : List Expr) (tr : Expr → Ex) : Ex := match args with
  | [a] => if isStar a then mBad else mUn (fRg1 t) (tr a)
  | [a, b] => if isStar a || isStar b then mBad else mOp (fRg2 t) (tr a) (tr b)
  | _ => mBad
/-- is it a range, with its arguments -/
def rgArgs (G : TE) (e : Expr) : Option (List Expr) := match e with
  | .Call f args kws _ => (match f with
    | .Name x _ => (match kws with
      | [] => if x = "range" && plainB "range" && glB G.sc "range" && G.sg.blt "range" && (G.sg.ps "range").isNone then some args else none
      | _ => none)
    | _ => none)
  | _ => none
def trConv (G : TE) (x : Str) (a : Expr) (args : List Expr) (tr : Expr → Ex) (dflt : Ex) : Ex := match args with
  | [] => (match rgArgs G a with
    | some ras => if x = "list" then trLR false ras tr else if x = "tuple" then trLR true ras tr else dflt
    | none => dflt)
  | _ => dflt
/-- a call by a name, of positional arguments -/
def trCallP (G : TE) (x : Str) (a : Expr) (args : List Expr) (tr : Expr → Ex) : Ex := match G.sg.ps x with
  | some ps => if (a :: args).length = ps.length ∧ G.sg.po x = true then mCall (G.sg.ix x) (consAll ((a :: args).map tr)) else (match G.sg.kw x (a :: args).length [] with
    | some ar => mCallK (G.sg.ix x) ar (consAll ((a :: args).map tr)) mNil
    | none => mBad)
  | none => if G.sg.blt x then (if x = "isinstance" then trIsi G args (tr a) else trConv G x a args tr (match bltF x with
      | some f => mCB f (consAll ((a :: args).map tr))
      | none => mBad)) else mBad
def trCallK (G : TE) (x : Str) (a : Expr) (args : List Expr) (kws : List Keyword) (tr : Expr → Ex) : Ex := match G.sg.ps x with
  | some _ => (match kwNames kws with
    | some ks => (match G.sg.kw x (a :: args).length ks with
      | some ar => mCallK (G.sg.ix x) ar (consAll ((a :: args).map tr)) (consAll ((kwExprs kws).map tr))
      | none => mBad)
    | none => mBad)
  | none => mBad
def trCall0 (G : TE) (x : Str) : Ex := match G.sg.ps x with
  | some _ => if G.sg.po x = true then mCall (G.sg.ix x) mNil else mBad
  | none => mBad
def trCallN (G : TE) (x : Str) (args : List Expr) (kws : List Keyword) (tr : Expr → Ex) : Ex :=
  if plainB x && glB G.sc x && !(args.any isStar) then (match args with
    | [] => (match kws with
      | [] => trCall0 G x
      | _ => mBad)
    | a :: args => (match kws with
      | [] => trCallP G x a args tr
      | k :: kws => trCallK G x a args (k :: kws) tr)) else mBad
def notCall0 : Expr → Bool
  | .Call (.Name _ _) [] [] _ => false
  | _ => true
/-- methods of texts -/
def trStr (m : Str) (a b : Ex) : Ex :=
  if m = "find" then mS1 fFind a b
  else if m = "split" then mS1 fSplit a b
  else if m = "startswith" then mS1 fStarts a b
  else if m = "count" then mS1 fCount a b
  else mBad
def trMeth (o : Expr) (m : Str) (apos : Pos) (args : List Expr) (kws : List Keyword) (pos : Pos) (tr : Expr → Ex) : Ex := match kws with
  | [] => (match args with
    | [a] => if !isStar a && (apos.endLine == pos.line) && notCall0 o then
        (if m = "append" then mBM isLst kAppend (tr o) (mCons (tr a) mNil)
        else if m = "extend" then mBM isLst kExtend (tr o) (mCons (tr a) mNil)
        else trStr m (tr o) (tr a)) else mBad
    | [] => if (apos.endLine == pos.line) && notCall0 o then (if m = "bit_length" then mUn fBits (tr o) else mBad) else mBad
    | _ => mBad)
  | _ => mBad
def trCall (G : TE) (f : Expr) (args : List Expr) (kws : List Keyword) (pos : Pos) (tr : Expr → Ex) : Ex := match f with
  | .Name x _ => trCallN G x args kws tr
  | .Attribute o m apos => trMeth o m apos args kws pos tr
  | _ => mBad
/-- what a for or a clause walks -/
def trRng (args : List Expr) (tr : Expr → Ex) : Itm := match args with
  | [a] => iR itR1 (consAll [tr a])
  | [a, b] => iR itR2 (consAll [tr a, tr b])
  | [a, b, c] => iR itR3 (consAll [tr a, tr b, tr c])
  | _ => iBad
def isTup : Expr → Bool
  | .Tuple .. => true
  | _ => false
def trItN (G : TE) (tg : Expr) (x : Str) (args : List Expr) (tr : Expr → Ex) (dflt : Itm) : Itm :=
  if x = "range" then trRng args tr
  else if x = "enumerate" then (match args with
    | [a] => if isTup tg then iEnm (consAll [tr a]) else iBad
    | _ => iBad)
  else if x = "zip" then (match args with
    | [a, b] => if isTup tg then iZp (consAll [tr a, tr b]) else iBad
    | _ => iBad)
  else dflt
def trIt (G : TE) (tg e : Expr) (tr : Expr → Ex) : Itm := match e with
  | .Call f args kws _ => (match f with
    | .Name x _ => if (G.sg.ps x).isNone && G.sg.blt x && plainB x && glB G.sc x && !(args.any isStar) && kws.isEmpty then trItN G tg x args tr (iVal (tr e)) else iVal (tr e)
    | _ => iVal (tr e))
  | .Set .. => iBad
  | e => iVal (tr e)
def optAnd (o : Option Ex) (f : Ex → Ex) : Ex := match o with
  | some m => f m
  | none => mBad
mutual
def trE (G : TE) : Nat → Expr → Ex
  | 0, _ => mBad
  | n + 1, e => match e with
    | .Constant c _ _ => trConst c
    | .Name x _ => trName G x
    | .BinOp a op b _ => trBin op (trE G n a) (trE G n b)
    | .UnaryOp op a _ => trUn op (trE G n a)
    | .BoolOp op vs _ => boolV op (vs.map (trE G n))
    | .Compare a ops bs _ => trCmp ops bs (trE G n a) (trE G n)
    | .IfExp c a b _ => mIf (trT G n c) (trE G n a) (trE G n b)
    | .Tuple es _ _ => if es.any isStar then mBad else mTup (consAll (es.map (trE G n)))
    | .List es _ => if es.any isStar then mBad else mLst (consAll (es.map (trE G n)))
    | .Subscript a b _ => trSub b (trE G n a) (trE G n) (trO G n)
    | .ListComp elt gens scope _ => trLC gens fun tg iter ifs => trC G n elt tg iter ifs scope
    | .Call f args kws pos => trCall G f args kws pos (trE G n)
    | _ => mBad
def trO (G : TE) : Nat → Option Expr → Opt
  | 0, _ => .yes mBad
  | n + 1, o => match o with
    | none => .no
    | some e => .yes (trE G n e)
def trT (G : TE) : Nat → Expr → Ex
  | 0, _ => mBad
  | n + 1, e => match e with
    | .UnaryOp op a _ => (match op with
      | .Not => mNot (trT G n a)
      | _ => mBad)
    | .BoolOp op vs _ => boolT op (vs.map (trT G n))
    | .Compare a ops bs _ => trCmp ops bs (trE G n a) (trE G n)
    | .IfExp .. => mBad
    | e => mTru (trE G n e)
def trC (G : TE) : Nat → Expr → Expr → Expr → List Expr → Scope → Ex
  | 0, _, _, _, _, _ => mBad
  | n + 1, elt, tg, iter, ifs, scope => match ctgOf G.N tg with
    | none => mBad
    | some (g, own) =>
      if isSet iter || !blkC G.N G.sc scope own || !(own.all fun p => locB (blkSc G.sc scope) p.1) then mBad
      else match ifs with
        | [] => mLc (trIt G tg iter (trE G n)) g none (trE { G with sc := blkSc G.sc scope, top := false } n elt) (own.map (·.2))
        | [c] => mLc (trIt G tg iter (trE G n)) g (some (trT { G with sc := blkSc G.sc scope, top := false } n c)) (trE { G with sc := blkSc G.sc scope, top := false } n elt) (own.map (·.2))
        | _ => mBad
end
end PM
set_option Elab.async false
set_option linter.all false
set_option maxRecDepth 100000
set_option maxHeartbeats 4000000
/-! PM11: the translator's mirrors of expressions are the machine's. -/
namespace PM
open PySem PySem.Spec PyProof.Rows L2

structure Good (G : TE) (T : Tab) (k : Nat) (W : WX) (X : Cx) : Prop where
  sg : T.sg = G.sg
  N : X.N = G.N
  nd : X.N.Nodup
  sc : X.env.scope = G.sc
  calm : X.calm = true
  hp : PassesOwn (model X.prog X.w) X.A X.env X.xe
  tk : Takes X W
  room : Room k X.A
  top : G.top = true → ∀ x, X.fn x = true
  kind : X.env.scope.kind = .function
  tab : TabOk T k X.prog X.w X.K X.mg X.base

theorem slot_at {N : List Str} {x : Str} {i : Nat} (h : slotOf N x = some i) : N[i]? = some x := by
  unfold slotOf at h
  rw [List.findIdx?_eq_some_iff_getElem] at h
  obtain ⟨hl, h1, _⟩ := h
  rw [List.getElem?_eq_getElem hl]
  have := eq_of_beq h1
  rw [this]
theorem vis_of {sc : Scope} {x : Str} (h : visB sc x = true) : Vis sc x := by
  unfold visB at h
  unfold Vis
  split at h
  · rename_i q; exact .inl q
  · rename_i q; exact .inr (.inl q)
  · rename_i q; exact .inr (.inr q)
  · cases h
theorem gl_of {X : Cx} {sc : Scope} {x : Str} (e : X.env.scope = sc) (h : glB sc x = true) : Gl X x := by
  unfold glB at h
  show X.env.scope.names.lookup x = _
  rw [e]
  split at h
  · assumption
  · cases h
theorem plain_of {x : Str} (h : plainB x = true) : (x == ("__debug__" : Str)) = false ∧ (x == ("__classdict__" : Str)) = false := by
  unfold plainB at h
  rw [Bool.and_eq_true, Bool.not_eq_true', Bool.not_eq_true'] at h
  exact h
theorem star_of {e : Expr} {es : List Expr} {env : Env} (h : isStar e = false) : starEach (e :: es) env = (false, eval e env) :: starEach es env := by
  cases e <;> first | rfl | (exact Bool.noConfusion h)
theorem stars_any {es : List Expr} {env : Env} {pos : Pos} (h : es.any isStar = false) : (backTo pos (starEach es env)).any (·.1) = false := by
  induction es with
  | nil => rfl
  | cons e r ih =>
    rw [List.any_cons, Bool.or_eq_false_iff] at h
    rw [star_of h.1]
    show (false || (backTo pos (starEach r env)).any (·.1)) = false
    rw [ih h.2]
    rfl
section
variable {X : Cx} {W : WX} {G : TE} {T : Tab} {k n : Nat} {pos : Pos}
/-- argument lists -/
theorem pa_all {C : CEnv} {tr : Expr → Ex} (h : ∀ e, PE X e (tE X.K X.mg W (tr e C))) : ∀ {es : List Expr}, es.any isStar = false → PA X es (tA X.K X.mg W (consAll (es.map tr) C))
  | [], _ => pa_mnil
  | e :: r, hs => by
    rw [List.any_cons, Bool.or_eq_false_iff] at hs
    exact pa_mcons (h e) (pa_all h hs.2) (star_of hs.1)
theorem boolV_ok {C : CEnv} {tr : Expr → Ex} {op : BoolOp} (h : ∀ e, PE X e (tE X.K X.mg W (tr e C))) : ∀ {es : List Expr}, PE X (.BoolOp op es pos) (tE X.K X.mg W (boolV op (es.map tr) C))
  | [] => pe_bad
  | [e] => pe_mand1 (h e)
  | e :: e2 :: r => by
    have ih := boolV_ok (op := op) h (es := e2 :: r)
    cases op with
    | And => exact pe_mandV (h e) ih
    | Or => exact pe_morV (h e) ih
theorem boolT_ok {C : CEnv} {tr : Expr → Ex} {op : BoolOp} (h : ∀ e, PT X e (tT X.K X.mg W (tr e C))) : ∀ {es : List Expr}, PW X (.BoolOp op es pos) (tT X.K X.mg W (boolT op (es.map tr) C))
  | [] => ⟨fun _ _ _ _ _ _ _ ⟨_, _, _, _, _, h⟩ => h.elim⟩
  | [e] => by
    cases op with
    | And => exact pw_and1 (h e)
    | Or => exact pw_or1 (h e)
  | e :: e2 :: r => by
    have ih := boolT_ok (op := op) h (es := e2 :: r)
    cases op with
    | And => exact pw_mand (h e) ih
    | Or => exact pw_mor (h e) ih
theorem opF_ok {op : Operator} {f : D → D → Mem → Out} (h : opF op = some f) : OpR X (binaryOp op) (rD X.K X.mg f) ∧ ∀ d e μ, pureO (f d e μ) := by
  cases op <;> first | (cases h; done) | (cases h; first
    | exact ⟨op_Add, pu_Add⟩ | exact ⟨op_Sub, pu_Sub⟩ | exact ⟨op_MulS, pu_MulS⟩ | exact ⟨op_Div, pu_Div⟩ | exact ⟨op_Mod, pu_Mod⟩ | exact ⟨op_Pow, pu_Pow⟩
    | exact ⟨op_Shl, pu_Shl⟩ | exact ⟨op_Shr, pu_Shr⟩ | exact ⟨op_And, pu_And⟩ | exact ⟨op_Or, pu_Or⟩ | exact ⟨op_Xor, pu_Xor⟩)
theorem cmpF_ok {op : CmpOp} {f : D → D → Mem → Out} (hu : X.A.units + 64 < cLine) (h : cmpF op = some f) : OpR X (compareOp op) (rD X.K X.mg f) ∧ ∀ d e μ, pureO (f d e μ) := by
  cases op <;> (cases h; first
    | exact ⟨op_Eq hu, pu_Eq⟩ | exact ⟨op_Ne hu, pu_Ne⟩ | exact ⟨op_Lt, pu_Lt⟩ | exact ⟨op_Le, pu_Le⟩ | exact ⟨op_Gt, pu_Gt⟩ | exact ⟨op_Ge, pu_Ge⟩
    | exact ⟨op_Is, pu_Is⟩ | exact ⟨op_IsN, pu_IsN⟩ | exact ⟨op_In, pu_In⟩ | exact ⟨op_NotIn, pu_NotIn⟩)
theorem trName_ok {C : CEnv} {x : Str} (g : Good G T k W X) : PE X (.Name x pos) (tE X.K X.mg W (trName G x C)) := by
  unfold trName
  split
  · rename_i hp
    obtain ⟨p1, p2⟩ := plain_of hp
    split
    · rename_i hv
      cases hi : slotOf G.N x with
      | some i => exact pe_mvar (by rw [g.N]; exact slot_at hi) (by rw [g.sc]; exact vis_of hv) p1 p2
      | none => exact pe_bad
    · split
      · rename_i hg
        cases hd : G.sg.con x with
        | some d =>
          obtain ⟨u, v, h1, h2, h3⟩ := g.tab.con x d (by rw [g.sg]; exact hd)
          exact PE.weak (pe_glob (gl_of g.sc hg) h1 h2 p1) (tE_const h3)
        | none => exact pe_bad
      · exact pe_bad
  · exact pe_bad
/-- a built-in called -/
theorem bltF_ok {C : CEnv} {x : Str} {p : Pos} {a : Expr} {args : List Expr} {f : List D → Mem → Out} {ms : Exs} (g : Good G T k W X) (h : bltF x = some f) (hb : G.sg.blt x = true) (hp : plainB x = true) (hg : glB G.sc x = true) (hs : (a :: args).any isStar = false) (ha : PA X (a :: args) (tA X.K X.mg W (ms C))) :
    PE X (.Call (.Name x p) (a :: args) [] pos) (tE X.K X.mg W (mCB f ms C)) := by
  have hm := g.tab.blt x (by rw [g.sg]; exact hb)
  have hgl := gl_of g.sc hg
  obtain ⟨p1, _⟩ := plain_of hp
  rw [List.any_cons, Bool.or_eq_false_iff] at hs
  have he := star_of (es := args) (env := X.env) hs.1
  have hpl := stars_any (env := X.env) (pos := pos) hs.2
  have hmem := PySem.mem_of_lookup h
  simp only [bltTab, List.mem_cons, Prod.mk.injEq, List.not_mem_nil, or_false] at hmem
  rcases hmem with ⟨rfl, rfl⟩ | ⟨rfl, rfl⟩ | ⟨rfl, rfl⟩ | ⟨rfl, rfl⟩ | ⟨rfl, rfl⟩ | ⟨rfl, rfl⟩ | ⟨rfl, rfl⟩ | ⟨rfl, rfl⟩ | ⟨rfl, rfl⟩ | ⟨rfl, rfl⟩ | ⟨rfl, rfl⟩
  · exact pe_mcb (ma := mBad) cr_Len pu_Len hgl hm (by decide +kernel) ha (by decide +kernel) p1 he hpl
  · exact pe_mcb (ma := mBad) cr_Abs pu_Abs hgl hm (by decide +kernel) ha (by decide +kernel) p1 he hpl
  · exact pe_mct (ma := mBad) cr_Int pu_Int hgl hm (by decide +kernel) ha (by decide +kernel) p1 he hpl
  · exact pe_mcb (ma := mBad) (cr_Max2 g.calm) pu_Max hgl hm (by decide +kernel) ha (by decide +kernel) p1 he hpl
  · exact pe_mcb (ma := mBad) (cr_Min2 g.calm) pu_Min hgl hm (by decide +kernel) ha (by decide +kernel) p1 he hpl
  · exact pe_mct (ma := mBad) cr_Str pu_Str hgl hm (by decide +kernel) ha (by decide +kernel) p1 he hpl
  · exact pe_mcb (ma := mBad) (cr_Sum g.calm) pu_Sum hgl hm (by decide +kernel) ha (by decide +kernel) p1 he hpl
  · exact pe_mct (ma := mBad) cr_List pu_List hgl hm (by decide +kernel) ha (by decide +kernel) p1 he hpl
  · exact pe_mct (ma := mBad) cr_Tuple pu_Tuple hgl hm (by decide +kernel) ha (by decide +kernel) p1 he hpl
  · exact pe_mcb (ma := mBad) cr_Ord pu_Ord hgl hm (by decide +kernel) ha (by decide +kernel) p1 he hpl
  · exact pe_mcb (ma := mBad) cr_Chr pu_Chr hgl hm (by decide +kernel) ha (by decide +kernel) p1 he hpl
theorem tyName_ok {y : Str} {T : String} (h : tyName y = some T) : bootBuiltins y = some (.type T) ∧ y ≠ "__name__" := by
  have hmem := PySem.mem_of_lookup h
  simp only [tyTab, List.mem_cons, Prod.mk.injEq, List.not_mem_nil, or_false] at hmem
  rcases hmem with ⟨rfl, rfl⟩ | ⟨rfl, rfl⟩ | ⟨rfl, rfl⟩ | ⟨rfl, rfl⟩ | ⟨rfl, rfl⟩ | ⟨rfl, rfl⟩ <;> exact ⟨by decide +kernel, by decide +kernel⟩
/-- how many values an argument list has -/
theorem consAll_len {C : CEnv} : ∀ {ms : List Ex} {ρ : Loc} {μ : Mem} {ds : List D} {μ' : Mem}, consAll ms C ρ μ = .ok ds μ' → ds.length = ms.length
  | [], ρ, μ, ds, μ', h => by cases h; rfl
  | m :: r, ρ, μ, ds, μ', h => by
    have h : (m C ρ μ).cons (fun μ1 => consAll r C ρ μ1) = .ok ds μ' := h
    unfold Out.cons at h
    split at h
    · split at h
      · rename_i q
        cases h
        rw [List.length_cons, List.length_cons, consAll_len q]
      · cases h
      · cases h
    · cases h
    · cases h
theorem pk_all {C : CEnv} {tr : Expr → Ex} (h : ∀ e, PE X e (tE X.K X.mg W (tr e C))) : ∀ {kws : List Keyword}, PK X kws (tA X.K X.mg W (consAll ((kwExprs kws).map tr) C))
  | [] => pk_mnil
  | ⟨nm, e, p⟩ :: r => pk_mcons (h e) (pk_all h)
theorem kw_names {env : Env} {pos : Pos} : ∀ {kws : List Keyword} {ks : List Str}, kwNames kws = some ks →
    (backToKw pos (keywordEach kws env)).all (·.1.isSome) = true ∧ (backToKw pos (keywordEach kws env)).filterMap (·.1) = ks ∧ (backToKw pos (keywordEach kws env)).any (·.1.isNone) = false ∧ ks.length = (kwExprs kws).length
  | [], ks, h => by cases h; exact ⟨rfl, rfl, rfl, rfl⟩
  | ⟨none, e, p⟩ :: r, ks, h => by cases h
  | ⟨some nm, e, p⟩ :: r, ks, h => by
    unfold kwNames at h
    cases q : kwNames r with
    | none => rw [q] at h; cases h
    | some l =>
      rw [q] at h
      cases h
      obtain ⟨h1, h2, h3, h4⟩ := kw_names (env := env) (pos := pos) q
      refine ⟨?_, ?_, ?_, ?_⟩
      · show (true && (backToKw pos (keywordEach r env)).all (·.1.isSome)) = true
        rw [h1]; rfl
      · show nm :: (backToKw pos (keywordEach r env)).filterMap (·.1) = nm :: l
        rw [h2]
      · show (false || (backToKw pos (keywordEach r env)).any (·.1.isNone)) = false
        rw [h3]; rfl
      · show l.length + 1 = (kwExprs r).length + 1
        rw [h4]
theorem attr_base {o : Expr} {m : Str} {env : Env} {w : Sem Value} (h : notCall0 o = true) : attributeBase o m env w = w := by
  unfold attributeBase
  split
  · exact absurd h (by simp [notCall0])
  · rfl
theorem plainIx_of {b : Expr} (h : isSlice b = false) : PlainIx b := by
  intro o i
  cases b <;> first | rfl | (exact Bool.noConfusion h)
/-- the block of a comprehension -/
theorem Good.blk {scope : Scope} {s : Shared} {H : Hp} {A : Addr} {cl : List (Str × Addr)} {fp : List Addr} (g : Good G T k W X) (hk : scope.kind = .function) : Good { G with sc := blkSc G.sc scope, top := false } T k W0 (X.blk s H scope (compEnvC scope cl A X.env) fp) where
  sg := g.sg
  N := g.N
  nd := g.nd
  sc := by
    show relS scope X.env.scope = relS scope G.sc
    rw [g.sc]
  calm := g.calm
  hp := PassesOwn.never
  tk := takes0
  room := g.room
  top := fun h => by cases h
  kind := hk
  tab := g.tab
theorem gnames_ok {N : List Str} {L : List (Str × Nat)} {es : List Expr} (hN : X.N = N) (nd : X.N.Nodup) (h : optAll (slotName N) es = some L) (hl : ∀ p ∈ L, X.env.scope.names.lookup p.1 = some .local) : PGs X es (gNames (L.map (·.2))) ∧ (assignEach es X.env).length = (L.map (·.2)).length ∧ (assignEach es X.env).findIdx? (·.1) = none := by
  induction es generalizing L with
  | nil => cases h; exact ⟨pgs_nil, rfl, rfl⟩
  | cons e r ih =>
    unfold optAll at h
    split at h
    · rename_i p ps hp hps
      cases h
      unfold slotName at hp
      split at hp
      · rename_i x px
        cases q : slotOf N x with
        | none => rw [q] at hp; cases hp
        | some i =>
          rw [q] at hp
          cases hp
          obtain ⟨h1, h2, h3⟩ := ih hps fun p hp => hl p (List.mem_cons_of_mem _ hp)
          have hx := hl (x, i) List.mem_cons_self
          refine ⟨pgs_cons (pg_name nd (by rw [hN]; exact slot_at q) (.inl hx) (.inr hx)) h1, ?_, ?_⟩
          · show (assignEach r X.env).length + 1 = (ps.map (·.2)).length + 1
            rw [h2]
          · have e : assignEach (Expr.Name x px :: r) X.env = (false, assign (Expr.Name x px) X.env) :: assignEach r X.env := rfl
            rw [e, List.findIdx?_cons, h3]
            rfl
      · cases hp
    · cases h
theorem ctg_ok {N : List Str} {tg : Expr} {g : CTg} {own : List (Str × Nat)} (hN : X.N = N) (nd : X.N.Nodup) (hc : X.calm = true) (h : ctgOf N tg = some (g, own)) (hl : ∀ p ∈ own, X.env.scope.names.lookup p.1 = some .local) :
    PG X tg (tgOf X.K g) ∧ ∀ i ∈ g.slots, i ∈ own.map (·.2) := by
  unfold ctgOf at h
  split at h
  · rename_i x px
    cases q : slotOf N x with
    | none => rw [q] at h; cases h
    | some i =>
      rw [q] at h
      cases h
      have hx := hl (x, i) List.mem_cons_self
      exact ⟨pg_name nd (by rw [hN]; exact slot_at q) (.inl hx) (.inr hx), fun j hj => hj⟩
  · rename_i es kk pp
    cases q : optAll (slotName N) es with
    | none => rw [q] at h; cases h
    | some L =>
      rw [q] at h
      cases h
      obtain ⟨h1, h2, h3⟩ := gnames_ok hN nd q hl
      exact ⟨pg_tup hc h1 h2 h3, fun j hj => hj⟩
  · cases h
end
end PM
set_option Elab.async false
set_option linter.all false
set_option maxRecDepth 100000
set_option maxHeartbeats 4000000
/-! PM12: expressions: the whole translator. -/
namespace PM
open PySem PySem.Spec PyProof.Rows L2
abbrev c0 : CEnv := fun _ _ _ => .bad
theorem pt_bad {X : Cx} {W : WX} {C : CEnv} {e : Expr} : PT X e (tT X.K X.mg W (mBad C)) := ⟨fun _ _ _ _ _ _ ⟨_, _, _, _, _, h⟩ => h.elim⟩
theorem folded_of {e : Expr} {env : Env} (h : isSet e = false) (x : Value) : foldedSetIterable e env x = pure x := by
  cases e <;> first | rfl | exact Bool.noConfusion h
section
variable {X : Cx} {W : WX} {G : TE} {T : Tab} {k : Nat} {tr : Expr → Ex} {C : CEnv} {pos : Pos}
theorem trConst_ok {c : Const} {j : Nat} : PE X (.Constant c j pos) (tE X.K X.mg W (trConst c C)) := by
  cases c with
  | int i => exact pe_mint (C := C)
  | str s => exact pe_mstr (C := C)
  | bool b => exact pe_mbl (C := C)
  | none => exact pe_mnon (C := C)
  | _ => exact pe_bad (C := c0)
theorem trBin_ok {op : Operator} {a b : Expr} {ma mb : Ex} (ha : PE X a (tE X.K X.mg W (ma C))) (hb : PE X b (tE X.K X.mg W (mb C))) : PE X (.BinOp a op b pos) (tE X.K X.mg W (trBin op ma mb C)) := by
  unfold trBin
  cases h : opF op with
  | none => exact pe_bad (C := c0)
  | some f => exact pe_mop (opF_ok (X := X) h).1 (opF_ok (X := X) h).2 ha hb
theorem trUn_ok {op : UnaryOp} {a : Expr} {ma : Ex} (ha : PE X a (tE X.K X.mg W (ma C))) : PE X (.UnaryOp op a pos) (tE X.K X.mg W (trUn op ma C)) := by
  cases op with
  | USub => exact pe_mun un_Neg pu_Neg ha
  | Not => exact pe_mnotV ha
  | _ => exact pe_bad (C := c0)
theorem trCmp_ok {ops : List CmpOp} {bs : List Expr} {a : Expr} {ma : Ex} (g : Good G T k W X) (ha : PE X a (tE X.K X.mg W (ma C))) (hE : ∀ e, PE X e (tE X.K X.mg W (tr e C))) : PE X (.Compare a ops bs pos) (tE X.K X.mg W (trCmp ops bs ma tr C)) ∧ PT X (.Compare a ops bs pos) (tT X.K X.mg W (trCmp ops bs ma tr C)) := by
  have hu : X.A.units + 64 < cLine := g.room.units
  unfold trCmp
  cases ops with
  | nil => exact ⟨pe_bad (C := c0), pt_bad (C := c0)⟩
  | cons op r =>
    cases r with
    | cons op2 r2 =>
      cases r2 with
      | cons op3 r3 => exact ⟨pe_bad (C := c0), pt_bad (C := c0)⟩
      | nil =>
        cases bs with
        | nil => exact ⟨pe_bad (C := c0), pt_bad (C := c0)⟩
        | cons b r =>
          cases r with
          | nil => exact ⟨pe_bad (C := c0), pt_bad (C := c0)⟩
          | cons c r2 =>
            cases r2 with
            | cons c3 r3 => exact ⟨pe_bad (C := c0), pt_bad (C := c0)⟩
            | nil =>
              dsimp only
              cases h : cmpF op with
              | none => exact ⟨pe_bad (C := c0), pt_bad (C := c0)⟩
              | some f =>
                dsimp only
                cases h2 : cmpF op2 with
                | none => exact ⟨pe_bad (C := c0), pt_bad (C := c0)⟩
                | some f2 =>
                  dsimp only
                  cases hm : lastMarks [op, op2] [b, c] with
                  | true => exact ⟨pe_bad (C := c0), pt_bad (C := c0)⟩
                  | false => exact ⟨pe_mchain (cmpF_ok (X := X) hu h).1 (cmpF_ok (X := X) hu h).2 (cmpF_ok (X := X) hu h2).1 (cmpF_ok (X := X) hu h2).2 hm ha (hE b) (hE c), pt_mchain (cmpF_ok (X := X) hu h).1 (cmpF_ok (X := X) hu h).2 (cmpF_ok (X := X) hu h2).1 (cmpF_ok (X := X) hu h2).2 hm ha (hE b) (hE c)⟩
    | nil =>
      cases bs with
      | nil => exact ⟨pe_bad (C := c0), pt_bad (C := c0)⟩
      | cons b r2 =>
        cases r2 with
        | cons b2 r3 => exact ⟨pe_bad (C := c0), pt_bad (C := c0)⟩
        | nil =>
          dsimp only
          cases h : cmpF op with
          | none => exact ⟨pe_bad (C := c0), pt_bad (C := c0)⟩
          | some f =>
            dsimp only
            cases hm : behindInMarks op b with
            | true => exact ⟨pe_bad (C := c0), pt_bad (C := c0)⟩
            | false => exact ⟨pe_mcmp (cmpF_ok (X := X) hu h).1 (cmpF_ok (X := X) hu h).2 hm ha (hE b), pt_mcmp (cmpF_ok (X := X) hu h).1 (cmpF_ok (X := X) hu h).2 hm ha (hE b)⟩
theorem trSub_ok {a b : Expr} {ma : Ex} {tro : Option Expr → Opt} (ha : PE X a (tE X.K X.mg W (ma C))) (hE : ∀ e, PE X e (tE X.K X.mg W (tr e C))) (hO : ∀ o, PO X o (tOpt X.K X.mg W C (tro o))) : PE X (.Subscript a b pos) (tE X.K X.mg W (trSub b ma tr tro C)) := by
  cases b with
  | Slice lo hi st p2 =>
    cases st with
    | none => exact pe_msl ha (hO lo) (hO hi)
    | some st => exact pe_bad (C := c0)
  | _ => exact pe_mix ha (hE _) (plainIx_of rfl)
theorem trIsi_ok {a : Expr} {args : List Expr} {p : Pos} {ma : Ex} (g : Good G T k W X) (ha : PE X a (tE X.K X.mg W (ma C))) (hb : G.sg.blt "isinstance" = true) (hg : glB G.sc "isinstance" = true) (hs : (a :: args).any isStar = false) : PE X (.Call (.Name "isinstance" p) (a :: args) [] pos) (tE X.K X.mg W (trIsi G args ma C)) := by
  unfold trIsi
  cases args with
  | nil => exact pe_bad (C := c0)
  | cons b r =>
    cases r with
    | cons b2 r2 => exact pe_bad (C := c0)
    | nil =>
      cases b with
      | Name y py =>
        dsimp only
        cases hT : tyName y with
        | none => exact pe_bad (C := c0)
        | some ty =>
          dsimp only
          cases hp : (plainB y && glB G.sc y && G.sg.blt y) with
          | false => exact pe_bad (C := c0)
          | true =>
            rw [Bool.and_eq_true, Bool.and_eq_true] at hp
            rw [List.any_cons, Bool.or_eq_false_iff] at hs
            exact pe_misi ha (gl_of g.sc hg) (g.tab.blt _ (by rw [g.sg]; exact hb)) (gl_of g.sc hp.1.2) (g.tab.blt _ (by rw [g.sg]; exact hp.2)) (tyName_ok hT).1 (tyName_ok hT).2 (plain_of hp.1.1).1 (star_of hs.1)
      | _ => exact pe_bad (C := c0)
theorem rgArgs_of {e : Expr} {ras : List Expr} (g : Good G T k W X) (h : rgArgs G e = some ras) : ∃ p p2, e = .Call (.Name "range" p) ras [] p2 ∧ Gl X "range" ∧ X.mg "range" = none := by
  unfold rgArgs at h
  cases e with
  | Call f args kws p2 =>
    cases f with
    | Name x p =>
      cases kws with
      | nil =>
        dsimp only at h
        split at h
        · rename_i q
          simp only [Bool.and_eq_true, decide_eq_true_eq] at q
          cases h
          obtain ⟨⟨⟨⟨rfl, _⟩, q3⟩, q4⟩, _⟩ := q
          exact ⟨p, p2, rfl, gl_of g.sc q3, g.tab.blt _ (by rw [g.sg]; exact q4)⟩
        · cases h
      | cons _ _ => cases h
    | _ => cases h
  | _ => cases h
theorem trLR_ok {t : Bool} {x : Str} {e : Expr} {ras : List Expr} {p : Pos} (g : Good G T k W X) (hE : ∀ e, PE X e (tE X.K X.mg W (tr e (callN T k)))) (h : rgArgs G e = some ras) (hx : x = if t then "tuple" else "list") (hl : Gl X x) (hlm : X.mg x = none) (hs : isStar e = false) :
    PE X (.Call (.Name x p) [e] [] pos) (tE X.K X.mg W (trLR t ras tr (callN T k))) := by
  obtain ⟨p1, p2, rfl, h1, h2⟩ := rgArgs_of g h
  have nr := star_of (es := []) (env := X.env) hs
  unfold trLR
  cases ras with
  | nil => exact pe_bad (C := c0)
  | cons a r =>
    cases r with
    | nil =>
      dsimp only
      cases ha : isStar a with
      | true => exact pe_bad (C := c0)
      | false =>
        rw [if_neg Bool.false_ne_true]
        cases t with
        | false => subst hx; exact pe_mlr1 g.calm hl hlm h1 h2 (hE a) (star_of ha) nr
        | true => subst hx; exact pe_mtr1 g.calm hl hlm h1 h2 (hE a) (star_of ha) nr
    | cons b r2 =>
      cases r2 with
      | cons c r3 => exact pe_bad (C := c0)
      | nil =>
        dsimp only
        cases hab : (isStar a || isStar b) with
        | true => exact pe_bad (C := c0)
        | false =>
          rw [Bool.or_eq_false_iff] at hab
          rw [if_neg Bool.false_ne_true]
          cases t with
          | false => subst hx; exact pe_mlr2 g.calm hl hlm h1 h2 (hE a) (hE b) (star_of hab.1) (star_of hab.2) nr
          | true => subst hx; exact pe_mtr2 g.calm hl hlm h1 h2 (hE a) (hE b) (star_of hab.1) (star_of hab.2) nr
theorem trConv_ok {x : Str} {p : Pos} {a : Expr} {args : List Expr} {m : Ex} (g : Good G T k W X) (hE : ∀ e, PE X e (tE X.K X.mg W (tr e (callN T k)))) (hl : Gl X x) (hlm : X.mg x = none) (hs : (a :: args).any isStar = false)
    (hd : PE X (.Call (.Name x p) (a :: args) [] pos) (tE X.K X.mg W (m (callN T k)))) : PE X (.Call (.Name x p) (a :: args) [] pos) (tE X.K X.mg W (trConv G x a args tr m (callN T k))) := by
  unfold trConv
  cases args with
  | cons b r => exact hd
  | nil =>
    dsimp only
    cases h : rgArgs G a with
    | none => exact hd
    | some ras =>
      dsimp only
      rw [List.any_cons, Bool.or_eq_false_iff] at hs
      by_cases h1 : x = "list"
      · rw [if_pos h1]
        exact trLR_ok (t := false) g hE h h1 hl hlm hs.1
      · rw [if_neg h1]
        by_cases h2 : x = "tuple"
        · rw [if_pos h2]
          exact trLR_ok (t := true) g hE h h2 hl hlm hs.1
        · rw [if_neg h2]
          exact hd
theorem trCallP_ok {x : Str} {p : Pos} {a : Expr} {args : List Expr} (g : Good G T k W X) (hE : ∀ e, PE X e (tE X.K X.mg W (tr e (callN T k)))) (hp : plainB x = true) (hg : glB G.sc x = true) (hs : (a :: args).any isStar = false) :
    PE X (.Call (.Name x p) (a :: args) [] pos) (tE X.K X.mg W (trCallP G x a args tr (callN T k))) := by
  have hs' := hs
  rw [List.any_cons, Bool.or_eq_false_iff] at hs'
  have he := star_of (es := args) (env := X.env) hs'.1
  have hpl := stars_any (env := X.env) (pos := pos) hs'.2
  have hA := pa_all hE hs
  unfold trCallP
  cases hd : G.sg.ps x with
  | some d =>
    dsimp only
    by_cases hl : (a :: args).length = d.length ∧ G.sg.po x = true
    · rw [if_pos hl]
      rw [← g.sg]
      exact pe_mcall g.tab (by rw [g.sg]; exact hd) (by rw [g.sg]; exact hl.2) g.room (gl_of g.sc hg) g.tk hA (plain_of hp).1 he hpl
    · rw [if_neg hl]
      cases hk : G.sg.kw x (a :: args).length [] with
      | none => exact pe_bad (C := c0)
      | some ar =>
        rw [← g.sg]
        refine pe_mcallK (ks := []) g.tab (by rw [g.sg]; exact hd) (by rw [g.sg]; exact hk) g.room (gl_of g.sc hg) g.tk hA pk_mnil (fun ρ μ ds μ' h => ?_) (fun ρ μ ds μ' h => ?_) rfl rfl (plain_of hp).1 he ?_
        · rw [consAll_len h, List.length_map]
        · cases h; rfl
        · rw [he]
          show ((false || (backTo pos (starEach args X.env)).any (·.1)) || false) = false
          rw [hpl]; rfl
  | none =>
    dsimp only
    cases hb : G.sg.blt x with
    | false => exact pe_bad (C := c0)
    | true =>
      rw [if_pos rfl]
      by_cases hi : x = "isinstance"
      · subst hi
        rw [if_pos rfl]
        exact trIsi_ok g (hE a) hb hg hs
      · rw [if_neg hi]
        refine trConv_ok g hE (gl_of g.sc hg) (g.tab.blt _ (by rw [g.sg]; exact hb)) hs ?_
        cases hf : bltF x with
        | none => exact pe_bad (C := c0)
        | some f => exact bltF_ok g hf hb hp hg hs hA
theorem trCallK_ok {x : Str} {p : Pos} {a : Expr} {args : List Expr} {kws : List Keyword} (g : Good G T k W X) (hE : ∀ e, PE X e (tE X.K X.mg W (tr e (callN T k)))) (hp : plainB x = true) (hg : glB G.sc x = true) (hs : (a :: args).any isStar = false) :
    PE X (.Call (.Name x p) (a :: args) kws pos) (tE X.K X.mg W (trCallK G x a args kws tr (callN T k))) := by
  have hs' := hs
  rw [List.any_cons, Bool.or_eq_false_iff] at hs'
  have he := star_of (es := args) (env := X.env) hs'.1
  have hpl := stars_any (env := X.env) (pos := pos) hs'.2
  have hA := pa_all hE hs
  unfold trCallK
  cases hd : G.sg.ps x with
  | none => exact pe_bad (C := c0)
  | some d =>
    dsimp only
    cases hk : kwNames kws with
    | none => exact pe_bad (C := c0)
    | some ks =>
      dsimp only
      cases hr : G.sg.kw x (a :: args).length ks with
      | none => exact pe_bad (C := c0)
      | some ar =>
        obtain ⟨h1, h2, h3, h4⟩ := kw_names (env := X.env) (pos := pos) hk
        rw [← g.sg]
        refine pe_mcallK g.tab (by rw [g.sg]; exact hd) (by rw [g.sg]; exact hr) g.room (gl_of g.sc hg) g.tk hA (pk_all hE) (fun ρ μ ds μ' h => ?_) (fun ρ μ ds μ' h => ?_) h1 h2 (plain_of hp).1 he ?_
        · rw [consAll_len h, List.length_map]
        · rw [consAll_len h, List.length_map, h4]
        · rw [he]
          show ((false || (backTo pos (starEach args X.env)).any (·.1)) || _) = false
          rw [hpl, h3]; rfl
theorem trCallN_ok {x : Str} {p : Pos} {args : List Expr} {kws : List Keyword} (g : Good G T k W X) (hE : ∀ e, PE X e (tE X.K X.mg W (tr e (callN T k)))) : PE X (.Call (.Name x p) args kws pos) (tE X.K X.mg W (trCallN G x args kws tr (callN T k))) := by
  unfold trCallN
  cases h : (plainB x && glB G.sc x && !(args.any isStar)) with
  | false => exact pe_bad (C := c0)
  | true =>
    rw [Bool.and_eq_true, Bool.and_eq_true, Bool.not_eq_true'] at h
    rw [if_pos rfl]
    cases args with
    | nil =>
      cases kws with
      | cons kw r => exact pe_bad (C := c0)
      | nil =>
        dsimp only
        unfold trCall0
        cases hd : G.sg.ps x with
        | none => exact pe_bad (C := c0)
        | some d =>
          dsimp only
          by_cases hpo : G.sg.po x = true
          case neg => rw [if_neg hpo]; exact pe_bad (C := c0)
          rw [if_pos hpo, ← g.sg]
          exact pe_mcall0 g.tab (by rw [g.sg]; exact hd) (by rw [g.sg]; exact hpo) g.room (gl_of g.sc h.1.2) g.tk (plain_of h.1.1).1
    | cons a args =>
      cases kws with
      | nil => exact trCallP_ok g hE h.1.1 h.1.2 h.2
      | cons kw r => exact trCallK_ok g hE h.1.1 h.1.2 h.2
theorem trStr_ok {o a : Expr} {m : Str} {apos : Pos} {ma mb : Ex} (ho : PE X o (tE X.K X.mg W (ma C))) (he : PE X a (tE X.K X.mg W (mb C))) (hn : notCall0 o = true) (hs : starEach [a] X.env = [(false, eval a X.env)]) (hline : (apos.endLine == pos.line) = true) :
    PE X (.Call (.Attribute o m apos) [a] [] pos) (tE X.K X.mg W (trStr m ma mb C)) := by
  unfold trStr
  by_cases h1 : m = "find"
  · subst h1
    rw [if_pos rfl]
    exact pe_mfind ho he hs hline (attr_base hn)
  rw [if_neg h1]
  by_cases h2 : m = "split"
  · subst h2
    rw [if_pos rfl]
    exact pe_msplit ho he hs hline (attr_base hn)
  rw [if_neg h2]
  by_cases h3 : m = "startswith"
  · subst h3
    rw [if_pos rfl]
    exact pe_mstarts ho he hs hline (attr_base hn)
  rw [if_neg h3]
  by_cases h4 : m = "count"
  · subst h4
    rw [if_pos rfl]
    exact pe_mcount ho he hs hline (attr_base hn)
  rw [if_neg h4]
  exact pe_bad (C := c0)
theorem trMeth_ok {o : Expr} {m : Str} {apos : Pos} {args : List Expr} {kws : List Keyword} (hE : ∀ e, PE X e (tE X.K X.mg W (tr e C))) : PE X (.Call (.Attribute o m apos) args kws pos) (tE X.K X.mg W (trMeth o m apos args kws pos tr C)) := by
  unfold trMeth
  cases kws with
  | cons kw r => exact pe_bad (C := c0)
  | nil =>
    cases args with
    | nil =>
      dsimp only
      cases h : ((apos.endLine == pos.line) && notCall0 o) with
      | false => exact pe_bad (C := c0)
      | true =>
        rw [Bool.and_eq_true] at h
        rw [if_pos rfl]
        by_cases h1 : m = "bit_length"
        · subst h1
          rw [if_pos rfl]
          exact pe_mbits (hE o) (attr_base h.2) h.1
        · rw [if_neg h1]
          exact pe_bad (C := c0)
    | cons a r =>
      cases r with
      | cons a2 r2 => exact pe_bad (C := c0)
      | nil =>
        dsimp only
        cases h : (!isStar a && (apos.endLine == pos.line) && notCall0 o) with
        | false => exact pe_bad (C := c0)
        | true =>
          rw [Bool.and_eq_true, Bool.and_eq_true, Bool.not_eq_true'] at h
          rw [if_pos rfl]
          have hA : PA X [a] (tA X.K X.mg W (mCons (tr a) mNil C)) := pa_mcons (hE a) pa_mnil (star_of h.1.1)
          have hst := star_of (es := []) (env := X.env) h.1.1
          have hfew : ((backTo pos (starEach [a] X.env)).all (fun x => !x.1) && (backToKw pos (keywordEach [] X.env)).all (fun x => x.1.isSome)
              && decide ([a].length + ([] : List Keyword).length + (if ([] : List Keyword).isEmpty then 0 else 1) < 30)) = true := by rw [hst]; rfl
          by_cases h1 : m = "append"
          · subst h1
            rw [if_pos rfl]
            exact PE.weak (pe_bm PySem.F.plainAttrs_list PySem.F.slot_list_append PySem.F.type_list_append mt_Append (hE o) hA (attr_base h.2) hfew h.1.2 hst rfl) fun σ H Q q => tE_bm pu_Append (fun d μ H ι v => lst_ty) q
          · rw [if_neg h1]
            by_cases h2 : m = "extend"
            · subst h2
              rw [if_pos rfl]
              exact PE.weak (pe_bm PySem.F.plainAttrs_list PySem.F.slot_list_extend PySem.F.type_list_extend mt_Extend (hE o) hA (attr_base h.2) hfew h.1.2 hst rfl) fun σ H Q q => tE_bm pu_Extend (fun d μ H ι v => lst_ty) q
            · rw [if_neg h2]
              exact trStr_ok (hE o) (hE a) h.2 hst h.1.2
theorem trCall_ok {f : Expr} {args : List Expr} {kws : List Keyword} (g : Good G T k W X) (hE : ∀ e, PE X e (tE X.K X.mg W (tr e (callN T k)))) : PE X (.Call f args kws pos) (tE X.K X.mg W (trCall G f args kws pos tr (callN T k))) := by
  cases f with
  | Name x p => exact trCallN_ok g hE
  | Attribute o m apos => exact trMeth_ok hE
  | _ => exact pe_bad (C := c0)
theorem trRng_ok {tg : Expr} {p : Pos} {args : List Expr} (hE : ∀ e, PE X e (tE X.K X.mg W (tr e C))) (hg : Gl X "range") (hm : X.mg "range" = none) (hs : args.any isStar = false) : PI X tg (.Call (.Name "range" p) args [] pos) (tI X.K X.mg W (trRng args tr C)) := by
  have hA := pa_all hE hs
  cases args with
  | nil => exact pi_mbad (C := c0)
  | cons a r =>
    rw [List.any_cons, Bool.or_eq_false_iff] at hs
    have he := star_of (es := r) (env := X.env) hs.1
    cases r with
    | nil => exact pi_mrng1 hg hm hA he
    | cons b r =>
      have hs2 := hs.2
      rw [List.any_cons, Bool.or_eq_false_iff] at hs2
      have he2 := star_of (es := r) (env := X.env) hs2.1
      cases r with
      | nil => exact pi_mrng2 hg hm hA (by rw [he, he2]; rfl) he2
      | cons c r =>
        cases r with
        | nil => exact pi_mrng3 hg hm hA he (stars_any (by rw [List.any_cons, Bool.or_eq_false_iff]; exact hs2))
        | cons d r => exact pi_mbad (C := c0)
theorem trIt_ok {tg e : Expr} (g : Good G T k W X) (hE : ∀ e, PE X e (tE X.K X.mg W (tr e C))) : PI X tg e (tI X.K X.mg W (trIt G tg e tr C)) := by
  unfold trIt
  cases e with
  | Set es kk p => exact pi_mbad (C := c0)
  | Call f args kws p =>
    cases f with
    | Name x px =>
      dsimp only
      cases h : ((G.sg.ps x).isNone && G.sg.blt x && plainB x && glB G.sc x && !(args.any isStar) && kws.isEmpty) with
      | false => exact pi_mval (hE _)
      | true =>
        rw [if_pos rfl]
        rw [Bool.and_eq_true, Bool.and_eq_true, Bool.and_eq_true, Bool.and_eq_true, Bool.and_eq_true, Bool.not_eq_true'] at h
        obtain ⟨⟨⟨⟨⟨_, hb⟩, hp⟩, hg⟩, hs⟩, hk⟩ := h
        have hk : kws = [] := List.isEmpty_iff.mp hk
        subst hk
        have hgl := gl_of g.sc hg
        have hm := g.tab.blt x (by rw [g.sg]; exact hb)
        unfold trItN
        by_cases h1 : x = "range"
        · subst h1
          rw [if_pos rfl]
          exact trRng_ok hE hgl hm hs
        · rw [if_neg h1]
          by_cases h2 : x = "enumerate"
          · subst h2
            rw [if_pos rfl]
            cases args with
            | nil => exact pi_mbad (C := c0)
            | cons a r =>
              cases r with
              | cons b r => exact pi_mbad (C := c0)
              | nil =>
                dsimp only
                cases ht : isTup tg with
                | false => exact pi_mbad (C := c0)
                | true =>
                  have hA := pa_all hE hs
                  rw [List.any_cons, Bool.or_eq_false_iff] at hs
                  cases tg with
                  | Tuple es kk tp => exact pi_menm hgl hm hA (star_of hs.1)
                  | _ => exact Bool.noConfusion ht
          · rw [if_neg h2]
            by_cases h3 : x = "zip"
            · subst h3
              rw [if_pos rfl]
              cases args with
              | nil => exact pi_mbad (C := c0)
              | cons a r =>
                cases r with
                | nil => exact pi_mbad (C := c0)
                | cons b r =>
                  cases r with
                  | cons c r => exact pi_mbad (C := c0)
                  | nil =>
                    dsimp only
                    cases ht : isTup tg with
                    | false => exact pi_mbad (C := c0)
                    | true =>
                      have hA := pa_all hE hs
                      rw [List.any_cons, Bool.or_eq_false_iff] at hs
                      cases tg with
                      | Tuple es kk tp => exact pi_mzip hgl hm hA (star_of hs.1) (stars_any hs.2)
                      | _ => exact Bool.noConfusion ht
            · rw [if_neg h3]
              exact pi_mval (hE _)
    | _ => exact pi_mval (hE _)
  | _ => exact pi_mval (hE _)
end
/-- what is shown to a depth -/
structure SE (n : Nat) : Prop where
  e : ∀ {G T k W X}, Good G T k W X → ∀ e, PE X e (tE X.K X.mg W (trE G n e (callN T k)))
  o : ∀ {G T k W X}, Good G T k W X → ∀ e, PO X e (tOpt X.K X.mg W (callN T k) (trO G n e))
  t : ∀ {G T k W X}, Good G T k W X → ∀ e, PT X e (tT X.K X.mg W (trT G n e (callN T k)))
theorem po_bad {X : Cx} {W : WX} {C : CEnv} {e : Option Expr} : PO X e (tOpt X.K X.mg W C (.yes mBad)) := by
  refine ⟨fun _ _ _ _ _ _ h => ?_⟩
  obtain ⟨_, _, _, _, _, h⟩ := h
  exact h.elim
section
variable {X : Cx} {W : WX} {G : TE} {T : Tab} {k n : Nat}
theorem trC_ok (ih : SE n) (g : Good G T k W X) (elt tg iter : Expr) (ifs : List Expr) (scope : Scope) (pos : Pos) : PE X (.ListComp elt [⟨tg, iter, ifs, 0⟩] scope pos) (tE X.K X.mg W (trC G (n + 1) elt tg iter ifs scope (callN T k))) := by
  unfold trC
  cases hc : ctgOf G.N tg with
  | none => exact pe_bad (C := c0)
  | some q =>
    obtain ⟨gt, own⟩ := q
    dsimp only
    cases h : (isSet iter || !blkC G.N G.sc scope own || !(own.all fun p => locB (blkSc G.sc scope) p.1)) with
    | true => exact pe_bad (C := c0)
    | false =>
      rw [Bool.or_eq_false_iff, Bool.or_eq_false_iff, Bool.not_eq_false', Bool.not_eq_false'] at h
      obtain ⟨⟨h1, h2⟩, h3⟩ := h
      rw [if_neg Bool.false_ne_true]
      have bo : BlkOk X.N X.env.scope scope own := by rw [g.N, g.sc]; exact blkOk_by h2
      have hloc : ∀ p ∈ own, (blkSc G.sc scope).names.lookup p.1 = some .local := fun p hp => by
        have := List.all_eq_true.mp h3 p hp
        unfold locB at this
        split at this
        · assumption
        · cases this
      have bg := fun (s : Shared) (H : Hp) (A : Addr) (cl : List (Str × Addr)) (fp : List Addr) => g.blk (scope := scope) (s := s) (H := H) (A := A) (cl := cl) (fp := fp) bo.kind
      have hv : ∀ i ∈ gt.slots, i ∈ own.map (·.2) := by
        have b := bg X.s_0 X.H_0 0 [] []
        exact (ctg_ok b.N b.nd b.calm hc (by rw [b.sc]; exact hloc)).2
      have hg := fun s H A cl fp => (ctg_ok (bg s H A cl fp).N (bg s H A cl fp).nd (bg s H A cl fp).calm hc (by rw [(bg s H A cl fp).sc]; exact hloc)).1
      have hi := trIt_ok (tg := tg) (e := iter) g (ih.e g)
      cases ifs with
      | nil => exact pe_mlc g.calm g.nd hi bo hv hg (fun _ _ _ _ _ => pts_nil) (fun s H A cl fp => ih.e (bg s H A cl fp) elt) (folded_of h1)
      | cons c r =>
        cases r with
        | nil => exact pe_mlc g.calm g.nd hi bo hv hg (fun s H A cl fp => pts_one (ih.t (bg s H A cl fp) c)) (fun s H A cl fp => ih.e (bg s H A cl fp) elt) (folded_of h1)
        | cons c2 r2 => exact pe_bad (C := c0)
end
end PM
set_option Elab.async false
set_option linter.all false
set_option maxRecDepth 100000
set_option maxHeartbeats 4000000
/-! PM13: statements: the translator and its soundness. -/
namespace PM
open PySem PySem.Spec PyProof.Rows L2
/-- what is shown to a depth -/
structure SX (n : Nat) : Prop where
  s : SE n
  c : ∀ {G T k W X}, Good G T k W X → ∀ elt tg iter ifs scope pos, PE X (.ListComp elt [⟨tg, iter, ifs, 0⟩] scope pos) (tE X.K X.mg W (trC G n elt tg iter ifs scope (callN T k)))
theorem sx_all : ∀ n, SX n
  | 0 => ⟨⟨fun _ _ => pe_bad (C := c0), fun _ _ => by
      show PO _ _ (tOpt _ _ _ _ (.yes mBad))
      exact po_bad, fun _ _ => pt_bad (C := c0)⟩, fun _ _ _ _ _ _ _ => pe_bad (C := c0)⟩
  | n + 1 => by
    have ih := sx_all n
    refine ⟨⟨fun {G T k W X} g e => ?_, fun {G T k W X} g e => ?_, fun {G T k W X} g e => ?_⟩, fun {G T k W X} g elt tg iter ifs scope pos => trC_ok ih.s g elt tg iter ifs scope pos⟩
    · have hE := ih.s.e g
      cases e with
      | Constant c j p => exact trConst_ok
      | Name x p => exact trName_ok g
      | BinOp a op b p => exact trBin_ok (hE a) (hE b)
      | UnaryOp op a p => exact trUn_ok (hE a)
      | BoolOp op vs p => exact boolV_ok hE
      | Compare a ops bs p => exact (trCmp_ok g (hE a) hE).1
      | IfExp c a b p => exact pe_mif (ih.s.t g c) (hE a) (hE b)
      | Tuple es kk p =>
        unfold trE
        dsimp only
        cases h : es.any isStar with
        | true => exact pe_bad (C := c0)
        | false => exact pe_mtup (pa_all hE h)
      | List es p =>
        unfold trE
        dsimp only
        cases h : es.any isStar with
        | true => exact pe_bad (C := c0)
        | false => exact pe_mlst (pa_all hE h)
      | Subscript a b p => exact trSub_ok (hE a) hE (ih.s.o g)
      | ListComp elt gens scope p =>
        unfold trE
        dsimp only
        unfold trLC
        cases gens with
        | nil => exact pe_bad (C := c0)
        | cons gen r =>
          obtain ⟨tg, iter, ifs, a⟩ := gen
          cases r with
          | cons g2 r2 => exact pe_bad (C := c0)
          | nil =>
            dsimp only
            by_cases ha : a = 0
            · subst ha
              rw [if_pos rfl]
              exact ih.c g elt tg iter ifs scope p
            · rw [if_neg ha]
              exact pe_bad (C := c0)
      | Call f args kws p => exact trCall_ok g hE
      | _ => exact pe_bad (C := c0)
    · cases e with
      | none => exact po_mno
      | some e => exact po_myes (ih.s.e g e)
    · have hE := ih.s.e g
      cases e with
      | UnaryOp op a p =>
        cases op with
        | Not => exact pt_mnot (ih.s.t g a)
        | _ => exact pt_bad (C := c0)
      | BoolOp op vs p => exact (boolT_ok (ih.s.t g)).pt
      | Compare a ops bs p => exact (trCmp_ok g (hE a) hE).2
      | IfExp c a b p => exact pt_bad (C := c0)
      | _ => exact pt_mtru (hE _) (fun _ => rfl)

/-! ### targets -/
def locOk (G : TE) (x : Str) : Bool := match G.sc.names.lookup x with
  | some .local => true
  | some .cell => G.top
  | _ => false
def coAll : List Tg → Tgs
  | [] => gNo
  | g :: r => gCo g (coAll r)
def tgBad : Tg := fun _ _ _ _ => .bad
def trG (G : TE) : Nat → Expr → Tg
  | 0, _ => tgBad
  | n + 1, e => match e with
    | .Name x _ => if locOk G x then (match slotOf G.N x with
      | some i => gNm i
      | none => tgBad) else tgBad
    | .Tuple es _ _ => if es.any isStar then tgBad else gTp (coAll (es.map (trG G n))) es.length
    | .Subscript o i _ => if isSlice i then tgBad else gSb (trE G n o) (trE G n i)
    | _ => tgBad
section
variable {X : Cx} {W : WX} {G : TE} {T : Tab} {k n : Nat}
theorem loc_of {x : Str} (g : Good G T k W X) (h : locOk G x = true) : L2.Loc X.env.scope x ∧ (X.fn x = true ∨ X.env.scope.names.lookup x = some .local) := by
  unfold locOk at h
  unfold L2.Loc
  rw [g.sc]
  split at h
  · rename_i q; exact ⟨.inl q, .inr q⟩
  · rename_i q; exact ⟨.inr q, .inl (g.top h x)⟩
  · cases h
theorem tg_bad {e : Expr} : PG X e (tG X.K X.mg W (tgBad c0)) := pg_bad
theorem asg_each {es : List Expr} {env : Env} (h : es.any isStar = false) : (assignEach es env).length = es.length ∧ (assignEach es env).findIdx? (·.1) = none := by
  induction es with
  | nil => exact ⟨rfl, rfl⟩
  | cons e r ih =>
    rw [List.any_cons, Bool.or_eq_false_iff] at h
    obtain ⟨h1, h2⟩ := ih h.2
    have q : assignEach (e :: r) env = (false, assign e env) :: assignEach r env := by
      have := h.1
      cases e <;> first | rfl | exact Bool.noConfusion this
    rw [q]
    refine ⟨by rw [List.length_cons, List.length_cons, h1], ?_⟩
    rw [List.findIdx?_cons, h2]
    rfl
theorem pgs_all {C : CEnv} {tr : Expr → Tg} (h : ∀ e, PG X e (tG X.K X.mg W (tr e C))) : ∀ {es : List Expr}, es.any isStar = false → PGs X es (tGs X.K X.mg W (coAll (es.map tr) C))
  | [], _ => pgs_mno
  | e :: r, hs => by
    rw [List.any_cons, Bool.or_eq_false_iff] at hs
    refine pgs_mco (h e) (pgs_all h hs.2) ?_
    have := hs.1
    cases e <;> first | rfl | exact Bool.noConfusion this
theorem trG_ok (g : Good G T k W X) : ∀ (n : Nat) (e : Expr), PG X e (tG X.K X.mg W (trG G n e (callN T k)))
  | 0, e => tg_bad
  | n + 1, e => by
    have ih := trG_ok g n
    have hE := (sx_all n).s.e g
    cases e with
    | Name x p =>
      unfold trG
      dsimp only
      cases h : locOk G x with
      | false => exact tg_bad
      | true =>
        rw [if_pos rfl]
        obtain ⟨h1, h2⟩ := loc_of g h
        cases hi : slotOf G.N x with
        | none => exact tg_bad
        | some i => exact pg_mnm g.nd (by rw [g.N]; exact slot_at hi) h1 h2
    | Tuple es kk p =>
      unfold trG
      dsimp only
      cases h : es.any isStar with
      | true => exact tg_bad
      | false =>
        obtain ⟨h1, h2⟩ := asg_each (env := X.env) h
        exact pg_mtp g.calm (pgs_all ih h) h1 h2
    | Subscript o i p =>
      unfold trG
      dsimp only
      cases h : isSlice i with
      | true => exact tg_bad
      | false =>
        refine pg_msb (hE o) (hE i) fun v => ?_
        cases i <;> first | rfl | exact Bool.noConfusion h
    | _ => exact tg_bad
end

/-! ### assignments -/
def swB (sc : Scope) (x : Str) (px lpos : Pos) (scope : Scope) : Bool := locB sc x && px.line == lpos.line && !(scope.names.any fun (n, k) => n == x && (k == .local || k == .cell))
def swS (sc : Scope) (ts vs : List Expr) : Option (Option (List Str)) :=
  if !(ts.length == 2 || ts.length == 3) || vs.length != ts.length then some none
  else if vs.any isStar then some none
  else
    let line := (ts.head?.map (·.pos.line)).getD 0
    let names := ts.filterMap fun
      | .Name id pos => if sc.names.lookup id == some .local && pos.line == line then some id else none
      | _ => none
    if names.length != ts.length || names.eraseDups.length != names.length then some none
    else if vs.all (foldedForSure 8) then some none
    else if vs.all (constantsAlone 8) then none
    else some (some names)
def trPar (G : TE) (ts : List Expr) (as : Exs) : Sm := match ts with
  | [.Name x _, .Name y _] => (match slotOf G.N x, slotOf G.N y with
    | some i, some j => if i ≠ j ∧ locB G.sc x = true ∧ locB G.sc y = true then sPar i j as else sBad
    | _, _ => sBad)
  | [.Name x _, .Name y _, .Name z _] => (match slotOf G.N x, slotOf G.N y, slotOf G.N z with
    | some i, some j, some l => if i ≠ j ∧ i ≠ l ∧ j ≠ l ∧ locB G.sc x = true ∧ locB G.sc y = true ∧ locB G.sc z = true then sPar3 i j l as else sBad
    | _, _, _ => sBad)
  | _ => sBad
def namesOf (ts : List Expr) : List Str := ts.filterMap fun
  | .Name x _ => some x
  | _ => none
def trAsg (G : TE) (n : Nat) (tg e : Expr) : Sm := match tg with
  | .Name x px => (match e with
    | .ListComp elt gens scope lpos => if swB G.sc x px lpos scope then (match slotOf G.N x with
        | some i => (match gens with
          | [⟨t, iter, ifs, a⟩] => if a = 0 then sAsg (trC G n elt t iter ifs scope) (gNm i) else sBad
          | _ => sBad)
        | none => sBad) else sAsg (trE G n e) (trG G n tg)
    | .SetComp .. => sBad
    | .DictComp .. => sBad
    | e => sAsg (trE G n e) (trG G n tg))
  | .Tuple ts _ _ => (match e with
    | .Tuple vs _ _ => (match swS G.sc ts vs with
      | some none => sAsg (trE G n e) (trG G n tg)
      | some (some names) => if vs.any isStar || names != namesOf ts || vs.length != ts.length then sBad else trPar G ts (consAll (vs.map (trE G n)))
      | none => sBad)
    | .ListComp .. => sAsg (trE G n e) (trG G n tg)
    | .SetComp .. => sBad
    | .DictComp .. => sBad
    | e => sAsg (trE G n e) (trG G n tg))
  | .Subscript .. => if isLC e then sBad else sAsg (trE G n e) (trG G n tg)
  | _ => sBad
section
variable {X : Cx} {W : WX} {G : TE} {T : Tab} {k n : Nat} {pos : Pos}
theorem block_kind (g : Good G T k W X) : X.env.blockKind = .function := by
  unfold Env.blockKind
  rw [g.kind]
  rfl
theorem swap_name {x : Str} {px : Pos} {elt : Expr} {gens : List Comprehension} {scope : Scope} {lpos : Pos} {line : Nat} (g : Good G T k W X) : swapsWith (.ListComp elt gens scope lpos) (some (.Name x px)) line X.env = pure (swB G.sc x px lpos scope) := by
  unfold swapsWith
  have hk : (X.env.kindOf x == some .local) = locB G.sc x := by
    show (X.env.scope.names.lookup x == some .local) = _
    rw [g.sc]
    unfold locB
    cases G.sc.names.lookup x with
    | none => rfl
    | some kk => cases kk <;> rfl
  simp only [block_kind g, hk, Expr.pos]
  rfl
theorem sw_none {tg e : Expr} {line : Nat} (h : isLC e = false) : swapsWithSole [tg] e line X.env = pure false := by
  cases e <;> first | rfl | exact Bool.noConfusion h
theorem swapped {ts vs : List Expr} {k1 k2 : Nat} {p1 p2 : Pos} {r : Option (List Str)} (g : Good G T k W X) (h : swS G.sc ts vs = some r) : swappedStores [.Tuple ts k1 p1] (.Tuple vs k2 p2) X.env = pure r := by
  rw [← g.sc] at h
  unfold swappedStores
  unfold swS at h
  have hb := block_kind g
  dsimp only at h ⊢
  rw [hb]
  by_cases c1 : (!(ts.length == 2 || ts.length == 3) || vs.length != ts.length) = true
  · rw [if_pos c1] at h
    cases h
    exact if_pos (by rw [c1]; rfl)
  · rw [if_neg c1] at h
    refine (if_neg (by rw [Bool.not_eq_true] at c1; rw [c1]; decide)).trans ?_
    by_cases c2 : vs.any isStar = true
    · rw [if_pos c2] at h
      cases h
      exact if_pos c2
    · rw [if_neg c2] at h
      refine (if_neg c2).trans ?_
      split at h
      · rename_i c3
        cases h
        exact if_pos c3
      · rename_i c3
        refine (if_neg c3).trans ?_
        split at h
        · rename_i c4
          cases h
          exact if_pos c4
        · rename_i c4
          refine (if_neg c4).trans ?_
          split at h
          · cases h
          · rename_i c5
            cases h
            exact if_neg c5
/-- an assignment by its plain form -/
theorem asg_plain {tg e : Expr} (g : Good G T k W X) (h1 : swapsWithSole [tg] e pos.line X.env = pure false) (h2 : swappedStores [tg] e X.env = pure none) (hs : isStar tg = false) : PS X (.Assign [tg] e pos) (tS X.K X.mg W (sAsg (trE G n e) (trG G n tg) (callN T k))) :=
  ps_masg ((sx_all n).s.e g e) (trG_ok g n tg) h1 h2 (by cases tg <;> first | rfl | exact Bool.noConfusion hs)
theorem trC_stm {i : Nat} {x : Str} {px lpos : Pos} {elt tg iter : Expr} {ifs : List Expr} {scope : Scope} (g : Good G T k W X) (hsw : swB G.sc x px lpos scope = true) (hi : slotOf G.N x = some i) :
    PS X (.Assign [.Name x px] (.ListComp elt [⟨tg, iter, ifs, 0⟩] scope lpos) pos) (tS X.K X.mg W (sAsg (trC G n elt tg iter ifs scope) (gNm i) (callN T k))) := by
  have bad : ∀ {m : Ex}, m = mBad → PS X (.Assign [.Name x px] (.ListComp elt [⟨tg, iter, ifs, 0⟩] scope lpos) pos) (tS X.K X.mg W (sAsg m (gNm i) (callN T k))) := fun e => by
    subst e
    exact ⟨fun _ _ _ _ _ _ ⟨_, _, _, _, _, h⟩ => h.elim⟩
  cases n with
  | zero => exact bad rfl
  | succ n =>
  have ih := sx_all n
  have hN : X.N[i]? = some x := by rw [g.N]; exact slot_at hi
  have hl : X.env.scope.names.lookup x = some .local := by
    rw [g.sc]
    unfold swB at hsw
    rw [Bool.and_eq_true, Bool.and_eq_true] at hsw
    have := hsw.1.1
    unfold locB at this
    split at this
    · assumption
    · cases this
  have hw : swapsWith (.ListComp elt [⟨tg, iter, ifs, 0⟩] scope lpos) (some (.Name x px)) pos.line X.env = pure true := by rw [swap_name g, hsw]
  unfold trC
  cases hc : ctgOf G.N tg with
  | none => exact bad rfl
  | some q =>
    obtain ⟨gt, own⟩ := q
    dsimp only
    cases h : (isSet iter || !blkC G.N G.sc scope own || !(own.all fun p => locB (blkSc G.sc scope) p.1)) with
    | true => exact bad rfl
    | false =>
      rw [Bool.or_eq_false_iff, Bool.or_eq_false_iff, Bool.not_eq_false', Bool.not_eq_false'] at h
      obtain ⟨⟨h1, h2⟩, h3⟩ := h
      rw [if_neg Bool.false_ne_true]
      have bo : BlkOk X.N X.env.scope scope own := by rw [g.N, g.sc]; exact blkOk_by h2
      have hloc : ∀ p ∈ own, (blkSc G.sc scope).names.lookup p.1 = some .local := fun p hp => by
        have := List.all_eq_true.mp h3 p hp
        unfold locB at this
        split at this
        · assumption
        · cases this
      have bg := fun (s : Shared) (H : Hp) (A : Addr) (cl : List (Str × Addr)) (fp : List Addr) => g.blk (scope := scope) (s := s) (H := H) (A := A) (cl := cl) (fp := fp) bo.kind
      have hv : ∀ i ∈ gt.slots, i ∈ own.map (·.2) := by
        have b := bg X.s_0 X.H_0 0 [] []
        exact (ctg_ok b.N b.nd b.calm hc (by rw [b.sc]; exact hloc)).2
      have hg := fun s H A cl fp => (ctg_ok (bg s H A cl fp).N (bg s H A cl fp).nd (bg s H A cl fp).calm hc (by rw [(bg s H A cl fp).sc]; exact hloc)).1
      have hi := trIt_ok (tg := tg) (e := iter) g (ih.s.e g)
      cases ifs with
      | nil => exact ps_msetLc g.calm g.nd hN hl hw hi bo hv hg (fun _ _ _ _ _ => pts_nil) (fun s H A cl fp => ih.s.e (bg s H A cl fp) elt) (folded_of h1)
      | cons c r =>
        cases r with
        | nil => exact ps_msetLc g.calm g.nd hN hl hw hi bo hv hg (fun s H A cl fp => pts_one (ih.s.t (bg s H A cl fp) c)) (fun s H A cl fp => ih.s.e (bg s H A cl fp) elt) (folded_of h1)
        | cons c2 r2 => exact bad rfl
theorem loc_b {x : Str} (g : Good G T k W X) (h : locB G.sc x = true) : X.env.scope.names.lookup x = some .local := by
  rw [g.sc]
  unfold locB at h
  split at h
  · assumption
  · cases h
theorem trPar_ok {ts vs : List Expr} {k1 k2 : Nat} {p1 p2 : Pos} {names : List Str} {ms : Exs} (g : Good G T k W X) (hw : swappedStores [.Tuple ts k1 p1] (.Tuple vs k2 p2) X.env = pure (some names)) (hn : names = namesOf ts) (hl : vs.length = ts.length) (ha : PA X vs (tA X.K X.mg W (ms (callN T k)))) :
    PS X (.Assign [.Tuple ts k1 p1] (.Tuple vs k2 p2) pos) (tS X.K X.mg W (trPar G ts ms (callN T k))) := by
  subst hn
  cases ts with
  | nil => exact ps_bad (C := c0)
  | cons t1 r => cases t1 with
    | Name x px => cases r with
      | nil => exact ps_bad (C := c0)
      | cons t2 r => cases t2 with
        | Name y py => cases r with
          | nil =>
            obtain ⟨a, b, rfl⟩ : ∃ a b, vs = [a, b] := by
              match vs, hl with
              | [a, b], _ => exact ⟨a, b, rfl⟩
            unfold trPar
            dsimp only
            cases hi : slotOf G.N x with
            | none => exact ps_bad (C := c0)
            | some i =>
              cases hj : slotOf G.N y with
              | none => exact ps_bad (C := c0)
              | some j =>
                dsimp only
                by_cases hc : i ≠ j ∧ locB G.sc x = true ∧ locB G.sc y = true
                · rw [if_pos hc]
                  exact ps_mpar g.calm g.nd (by rw [g.N]; exact slot_at hi) (by rw [g.N]; exact slot_at hj) hc.1 (loc_b g hc.2.1) (loc_b g hc.2.2) ha hw
                · rw [if_neg hc]
                  exact ps_bad (C := c0)
          | cons t3 r => cases t3 with
            | Name z pz => cases r with
              | cons t4 r => exact ps_bad (C := c0)
              | nil =>
                obtain ⟨a, b, c, rfl⟩ : ∃ a b c, vs = [a, b, c] := by
                  match vs, hl with
                  | [a, b, c], _ => exact ⟨a, b, c, rfl⟩
                unfold trPar
                dsimp only
                cases hi : slotOf G.N x with
                | none => exact ps_bad (C := c0)
                | some i =>
                  cases hj : slotOf G.N y with
                  | none => exact ps_bad (C := c0)
                  | some j =>
                    cases hk : slotOf G.N z with
                    | none => exact ps_bad (C := c0)
                    | some l =>
                      dsimp only
                      by_cases hc : i ≠ j ∧ i ≠ l ∧ j ≠ l ∧ locB G.sc x = true ∧ locB G.sc y = true ∧ locB G.sc z = true
                      · rw [if_pos hc]
                        exact ps_mpar3 g.calm g.nd (by rw [g.N]; exact slot_at hi) (by rw [g.N]; exact slot_at hj) (by rw [g.N]; exact slot_at hk) hc.1 hc.2.1 hc.2.2.1 (loc_b g hc.2.2.2.1) (loc_b g hc.2.2.2.2.1) (loc_b g hc.2.2.2.2.2) ha hw
                      · rw [if_neg hc]
                        exact ps_bad (C := c0)
            | _ => cases r <;> exact ps_bad (C := c0)
        | _ => cases r <;> first | exact ps_bad (C := c0) | (rename_i r; cases r <;> exact ps_bad (C := c0))
    | _ => exact ps_bad (C := c0)
theorem trAsg_ok {tg e : Expr} (g : Good G T k W X) : PS X (.Assign [tg] e pos) (tS X.K X.mg W (trAsg G n tg e (callN T k))) := by
  unfold trAsg
  cases tg with
  | Name x px =>
    dsimp only
    cases e with
    | ListComp elt gens scope lpos =>
      dsimp only
      cases hsw : swB G.sc x px lpos scope with
      | true =>
        rw [if_pos rfl]
        cases hi : slotOf G.N x with
        | none => exact ps_bad (C := c0)
        | some i =>
          dsimp only
          cases gens with
          | nil => exact ps_bad (C := c0)
          | cons gen r =>
            obtain ⟨t, iter, ifs, a⟩ := gen
            cases r with
            | cons g2 r2 => exact ps_bad (C := c0)
            | nil =>
              dsimp only
              by_cases ha : a = 0
              · subst ha
                rw [if_pos rfl]
                exact trC_stm g hsw hi
              · rw [if_neg ha]
                exact ps_bad (C := c0)
      | false =>
        rw [if_neg Bool.false_ne_true]
        refine asg_plain g ?_ rfl rfl
        have q : swapsWithSole [.Name x px] (.ListComp elt gens scope lpos) pos.line X.env = swapsWith (.ListComp elt gens scope lpos) (some (.Name x px)) pos.line X.env := by unfold swapsWithSole; rfl
        rw [q, swap_name g, hsw]
    | SetComp => exact ps_bad (C := c0)
    | DictComp => exact ps_bad (C := c0)
    | _ => exact asg_plain g (sw_none rfl) rfl rfl
  | Tuple ts kk pp =>
    dsimp only
    cases e with
    | Tuple vs k2 p2 =>
      dsimp only
      cases hs : swS G.sc ts vs with
      | none => exact ps_bad (C := c0)
      | some r =>
        cases r with
        | none => exact asg_plain g (sw_none rfl) (swapped g hs) rfl
        | some names =>
          dsimp only
          cases hv : (vs.any isStar || names != namesOf ts || vs.length != ts.length) with
          | true => exact ps_bad (C := c0)
          | false =>
            rw [Bool.or_eq_false_iff, Bool.or_eq_false_iff] at hv
            obtain ⟨⟨h1, h2⟩, h3⟩ := hv
            rw [if_neg Bool.false_ne_true]
            exact trPar_ok g (swapped g hs) (by simpa using h2) (by simpa using h3) (pa_all ((sx_all n).s.e g) h1)
    | ListComp elt gens scope lpos => exact asg_plain g rfl rfl rfl
    | SetComp => exact ps_bad (C := c0)
    | DictComp => exact ps_bad (C := c0)
    | _ => exact asg_plain g (sw_none rfl) rfl rfl
  | Subscript o i pp =>
    dsimp only
    cases h : isLC e with
    | true => exact ps_bad (C := c0)
    | false => exact asg_plain g (sw_none h) rfl rfl
  | _ => exact ps_bad (C := c0)
end

/-! ### statements -/
def isDoc : Expr → Bool
  | .Constant (.str _) _ _ => true
  | _ => false
def trAug (G : TE) (tg : Expr) (op : Operator) (a : Ex) : Sm := match tg with
  | .Name x _ => if locOk G x then (match slotOf G.N x with
    | some i => sAug op i a
    | none => sBad) else sBad
  | _ => sBad
def seqAll : List Sm → Sm
  | [] => sNil
  | [a] => a
  | a :: r => sSeq a (seqAll r)
mutual
def trS (G : TE) : Nat → Stmt → Sm
  | 0, _ => sBad
  | n + 1, s => match s with
    | .Expr e _ => if isDoc e then sNil else if isLC e then sBad else sExpr (trE G n e)
    | .Return o _ => (match o with
      | some e => sRet (trE G n e)
      | none => sRetN)
    | .Assign tgs e _ => (match tgs with
      | [tg] => trAsg G n tg e
      | _ => sBad)
    | .AugAssign tg op e _ => trAug G tg op (trE G n e)
    | .If c a b _ => sIf (trT G n c) (trB G n a) (trB G n b)
    | .For tg it body orelse _ => if isSet it || !orelse.isEmpty then sBad else sFor (trIt G tg it (trE G n)) (trG G n tg) (trB G n body)
    | .While c body orelse _ => if !orelse.isEmpty then sBad else sWhile (trT G n c) (trB G n body)
    | .Pass _ => sNil
    | .Break _ => sBrk
    | .Continue _ => sCont
    | _ => sBad
def trB (G : TE) : Nat → List Stmt → Sm
  | 0, _ => sBad
  | n + 1, l => seqAll (l.map (trS G n))
end
section
variable {X : Cx} {W : WX} {G : TE} {T : Tab} {k : Nat} {pos : Pos}
theorem seq_ok {C : CEnv} {tr : Stmt → Sm} (h : ∀ s, PS X s (tS X.K X.mg W (tr s C))) : ∀ {l : List Stmt}, PSs X l (tS X.K X.mg W (seqAll (l.map tr) C))
  | [] => pss_mnil
  | [s] => pss_mone (h s)
  | s :: s2 :: r => pss_mcons (h s) (seq_ok h (l := s2 :: r))
theorem pss_bad {l : List Stmt} : PSs X l (tS X.K X.mg W (sBad c0)) := ⟨fun _ _ _ _ _ _ ⟨_, _, _, _, _, h⟩ => h.elim⟩
theorem trSB (g : Good G T k W X) : ∀ n, (∀ s, PS X s (tS X.K X.mg W (trS G n s (callN T k)))) ∧ ∀ l, PSs X l (tS X.K X.mg W (trB G n l (callN T k)))
  | 0 => ⟨fun _ => ps_bad (C := c0), fun _ => pss_bad⟩
  | n + 1 => by
    obtain ⟨ihS, ihB⟩ := trSB g n
    have hE := (sx_all n).s.e g
    have hT := (sx_all n).s.t g
    refine ⟨fun s => ?_, fun l => seq_ok ihS⟩
    cases s with
    | Expr e p =>
      unfold trS
      dsimp only
      cases hd : isDoc e with
      | true =>
        rw [if_pos rfl]
        cases e with
        | Constant c j p2 => cases c with
          | str s => exact ps_mdoc (C := callN T k)
          | _ => exact Bool.noConfusion hd
        | _ => exact Bool.noConfusion hd
      | false =>
        rw [if_neg Bool.false_ne_true]
        cases hl : isLC e with
        | true => exact ps_bad (C := c0)
        | false =>
          rw [if_neg Bool.false_ne_true]
          exact ps_mexpr (hE e) (by cases e <;> first | rfl | exact Bool.noConfusion hl)
    | Return o p => cases o with
      | none => exact ps_mretN (C := callN T k)
      | some e => exact ps_mret (hE e)
    | Assign tgs e p => cases tgs with
      | nil => exact ps_bad (C := c0)
      | cons tg r => cases r with
        | nil => exact trAsg_ok g
        | cons t2 r => exact ps_bad (C := c0)
    | AugAssign tg op e p =>
      unfold trS
      dsimp only
      unfold trAug
      cases tg with
      | Name x px =>
        dsimp only
        cases h : locOk G x with
        | false => exact ps_bad (C := c0)
        | true =>
          rw [if_pos rfl]
          obtain ⟨h1, h2⟩ := loc_of g h
          cases hi : slotOf G.N x with
          | none => exact ps_bad (C := c0)
          | some i => exact ps_maug g.nd (by rw [g.N]; exact slot_at hi) h1 (hE e) h2
      | _ => exact ps_bad (C := c0)
    | If c a b p => exact ps_mif (hT c) (ihB a) (ihB b)
    | For tg it body orelse p =>
      unfold trS
      dsimp only
      cases h : (isSet it || !orelse.isEmpty) with
      | true => exact ps_bad (C := c0)
      | false =>
        rw [Bool.or_eq_false_iff, Bool.not_eq_false'] at h
        rw [if_neg Bool.false_ne_true]
        have ho : orelse = [] := List.isEmpty_iff.mp h.2
        subst ho
        exact ps_mfor g.hp g.calm (trIt_ok g hE) (trG_ok g n tg) (ihB body) (folded_of h.1)
    | While c body orelse p =>
      unfold trS
      dsimp only
      cases h : (!orelse.isEmpty) with
      | true => exact ps_bad (C := c0)
      | false =>
        rw [Bool.not_eq_false'] at h
        rw [if_neg Bool.false_ne_true]
        have ho : orelse = [] := List.isEmpty_iff.mp h
        subst ho
        exact ps_mwhile g.hp (hT c) (ihB body)
    | Pass p => exact ps_mpass (C := callN T k)
    | Break p => exact ps_mbrk (C := callN T k)
    | Continue p => exact ps_mcont (C := callN T k)
    | _ => exact ps_bad (C := c0)
end
end PM
set_option Elab.async false
set_option linter.all false
set_option maxRecDepth 100000
set_option maxHeartbeats 1000000
/-! PM14: a text's table, the law's end. -/
namespace PM
open PySem PySem.Spec PyProof.Rows L2

/-! ### arguments by keywords, the defaults -/
inductive PSrc where
  | pos (i : Nat) | kw (j : Nat) | dfl (i : Nat) | mis (i : Nat)
def pick {α : Type} (z : α) (us its mv ws : List α) : PSrc → α
  | .pos i => us.getD i z
  | .kw j => ws.getD j z
  | .dfl i => its.getD i z
  | .mis i => mv.getD i z
theorem rel_getD : ∀ {vs : List V} {us : List Value}, Vals vs us → ∀ i, RelV (vs.getD i .non) (us.getD i .none)
  | _, _, .nil, i => rfl
  | _, _, .cons r _, 0 => r
  | _, _, .cons _ t, i + 1 => by
    simpa using rel_getD t i
theorem pick_rel {vs ds mz zs : List V} {us its mv ws : List Value} (h1 : Vals vs us) (h2 : Vals ds its) (h3 : Vals mz mv) (h4 : Vals zs ws) : ∀ src : List PSrc, Vals (src.map (pick .non vs ds mz zs)) (src.map (pick .none us its mv ws))
  | [] => .nil
  | .pos i :: r => .cons (rel_getD h1 i) (pick_rel h1 h2 h3 h4 r)
  | .kw i :: r => .cons (rel_getD h4 i) (pick_rel h1 h2 h3 h4 r)
  | .dfl i :: r => .cons (rel_getD h2 i) (pick_rel h1 h2 h3 h4 r)
  | .mis i :: r => .cons (rel_getD h3 i) (pick_rel h1 h2 h3 h4 r)
def arOf (dD mD : List D) : PSrc → Arg
  | .pos i => .pos i
  | .kw j => .kw j
  | .dfl i => .dfl (dD.getD i .non)
  | .mis i => .dfl (mD.getD i .non)
theorem rep_getD {K : PySem.W.Frag} {H : Hp} {ι : List Addr} : ∀ {ds : List D} {vs : List V}, RepL K H ι ds vs → ∀ i, RepD K H ι (ds.getD i .non) (vs.getD i .non)
  | [], vs, h, i => by
    rw [RepL] at h
    subst h
    simp [RepD]
  | d :: ds, vs, h, i => by
    rw [RepL] at h
    obtain ⟨y, ys, rfl, h1, h2⟩ := h
    cases i with
    | zero => exact h1
    | succ i => simpa using rep_getD h2 i
theorem arr_rep {K : PySem.W.Frag} {H : Hp} {ι : List Addr} {ds es dD mD : List D} {vs zs dvs mvs : List V} (h1 : RepL K H ι ds vs) (h2 : RepL K H ι es zs) (h3 : RepL K H ι dD dvs) (h4 : RepL K H ι mD mvs) : ∀ src : List PSrc, RepL K H ι (arr (src.map (arOf dD mD)) ds es) (src.map (pick .non vs dvs mvs zs))
  | [] => RepL.nil
  | .pos i :: r => by
    rw [List.map_cons, List.map_cons]
    show RepL K H ι (_ :: arr (r.map (arOf dD mD)) ds es) _
    rw [RepL]
    exact ⟨_, _, rfl, rep_getD h1 i, arr_rep h1 h2 h3 h4 r⟩
  | .kw i :: r => by
    rw [List.map_cons, List.map_cons]
    show RepL K H ι (_ :: arr (r.map (arOf dD mD)) ds es) _
    rw [RepL]
    exact ⟨_, _, rfl, rep_getD h2 i, arr_rep h1 h2 h3 h4 r⟩
  | .dfl i :: r => by
    rw [List.map_cons, List.map_cons]
    show RepL K H ι (_ :: arr (r.map (arOf dD mD)) ds es) _
    rw [RepL]
    exact ⟨_, _, rfl, rep_getD h3 i, arr_rep h1 h2 h3 h4 r⟩
  | .mis i :: r => by
    rw [List.map_cons, List.map_cons]
    show RepL K H ι (_ :: arr (r.map (arOf dD mD)) ds es) _
    rw [RepL]
    exact ⟨_, _, rfl, rep_getD h4 i, arr_rep h1 h2 h3 h4 r⟩
section
variable {K : PySem.W.Frag} {x qual : Str} {params : Arguments} {body : List Stmt} {scope : Scope} {dvs : List V} {kws : List (Str × V)} {f : Addr} {fd : FuncData} {ps : List Str}
/-- what a call's binding promises, by its sources -/
def KB (K : PySem.W.Frag) (fd : FuncData) (ps : List Str) (n : Nat) (ks : List Str) (src : List PSrc) (dvs mvs : List V) : Prop :=
  ∃ its mv : List Value, KBn K fd ps n ks (fun us ws => src.map (pick .none us its mv ws)) (fun vs zs => src.map (pick .non vs dvs mvs zs))
theorem kb00 (F : FunD K x qual params body scope [] [] f fd) (n : Nat) (ks : List Str) (src : List PSrc)
    (h : ∀ (kV doc pm : Value) (an : Option Addr) (cdv ct : Value) (us ws : List Value), us.length = n → ws.length = ks.length → bindArgs (PySem.W.fnOf x qual params body scope .none kV doc pm an cdv ct) ⟨us, ks.zip ws⟩ = pure (ps.zip (src.map (pick .none us [] [] ws)))) : KB K fd ps n ks src [] [] := by
  obtain ⟨oc, od, dV, kV, doc, pm, an, cdv, ct, osl, rfl, lk, hcd, hD, hK⟩ := F.ex
  rcases hD with ⟨_, rfl⟩ | ⟨e, _⟩
  · exact ⟨[], [], ⟨fun s us ws X l1 l2 => .of_eq (h kV doc pm an cdv ct us ws l1 l2), fun r1 r2 => pick_rel r1 .nil .nil r2 src⟩⟩
  · exact absurd rfl e
theorem kb01 (F : FunD K x qual params body scope [] kws f fd) (n : Nat) (ks : List Str) (ms : List (Str × V)) (src : List PSrc) (hk : kws ≠ []) (hms : ∀ q ∈ ms, q ∈ kws)
    (h : ∀ (D : Addr) (doc pm : Value) (an : Option Addr) (cdv ct : Value) (us mv ws : List Value), us.length = n → mv.length = ms.length → ws.length = ks.length →
      KwChain D ((ms.map (·.1)).zip mv) (bindArgs (PySem.W.fnOf x qual params body scope .none (.ref D) doc pm an cdv ct) ⟨us, ks.zip ws⟩) (ps.zip (src.map (pick .none us [] mv ws)))) : KB K fd ps n ks src [] (ms.map (·.2)) := by
  obtain ⟨oc, od, dV, kV, doc, pm, an, cdv, ct, osl, rfl, lk, hcd, hD, hK⟩ := F.ex
  rcases hD with ⟨_, rfl⟩ | ⟨e, _⟩
  · rcases hK with e | ⟨D, rfl, hq⟩
    · exact absurd e hk
    · obtain ⟨mv, hl, rk, hks⟩ := kwd_vals (ms := ms) fun q hm => hq q (hms q hm)
      exact ⟨[], mv, ⟨fun s us ws X l1 l2 => BindsTo.of_looks fun M => KwChain.looks X hks (h D doc pm an cdv ct us mv ws l1 hl l2), fun r1 r2 => pick_rel r1 .nil rk r2 src⟩⟩
  · exact absurd rfl e
theorem kb10 (F : FunD K x qual params body scope dvs [] f fd) (n : Nat) (ks : List Str) (src : List PSrc) (hd : dvs ≠ [])
    (h : ∀ (T : Addr) (kV doc pm : Value) (an : Option Addr) (cdv ct : Value) (us its ws : List Value), us.length = n → its.length = dvs.length → ws.length = ks.length →
      ∃ k, bindArgs (PySem.W.fnOf x qual params body scope (.ref T) kV doc pm an cdv ct) ⟨us, ks.zip ws⟩ = seqItems? (.ref T) >>= k ∧ k (some its.toArray) = pure (ps.zip (src.map (pick .none us its [] ws)))) : KB K fd ps n ks src dvs [] := by
  obtain ⟨oc, od, dV, kV, doc, pm, an, cdv, ct, osl, rfl, lk, hcd, hD, hK⟩ := F.ex
  rcases hD with ⟨e, _⟩ | ⟨_, T, o, its, m, rfl, lT, oT, rT⟩
  · exact absurd e hd
  · refine ⟨its, [], ⟨fun s us ws X l1 l2 => ?_, fun r1 r2 => pick_rel r1 rT .nil r2 src⟩⟩
    obtain ⟨k, e1, e2⟩ := h T kV doc pm an cdv ct us its ws l1 rT.length.symm l2
    refine BindsTo.of_looks fun M => ?_
    rw [e1]
    exact looks_items X lT oT (.of_pure e2)
theorem kb11 (F : FunD K x qual params body scope dvs kws f fd) (n : Nat) (ks : List Str) (ms : List (Str × V)) (src : List PSrc) (hd : dvs ≠ []) (hk : kws ≠ []) (hms : ∀ q ∈ ms, q ∈ kws)
    (h : ∀ (T D : Addr) (doc pm : Value) (an : Option Addr) (cdv ct : Value) (us its mv ws : List Value), us.length = n → its.length = dvs.length → mv.length = ms.length → ws.length = ks.length →
      ∃ k, bindArgs (PySem.W.fnOf x qual params body scope (.ref T) (.ref D) doc pm an cdv ct) ⟨us, ks.zip ws⟩ = seqItems? (.ref T) >>= k ∧ KwChain D ((ms.map (·.1)).zip mv) (k (some its.toArray)) (ps.zip (src.map (pick .none us its mv ws)))) : KB K fd ps n ks src dvs (ms.map (·.2)) := by
  obtain ⟨oc, od, dV, kV, doc, pm, an, cdv, ct, osl, rfl, lk, hcd, hD, hK⟩ := F.ex
  rcases hD with ⟨e, _⟩ | ⟨_, T, o, its, m, rfl, lT, oT, rT⟩
  · exact absurd e hd
  · rcases hK with e | ⟨D, rfl, hq⟩
    · exact absurd e hk
    · obtain ⟨mv, hl, rk, hks⟩ := kwd_vals (ms := ms) fun q hm => hq q (hms q hm)
      refine ⟨its, mv, ⟨fun s us ws X l1 l2 => ?_, fun r1 r2 => pick_rel r1 rT rk r2 src⟩⟩
      obtain ⟨k, e1, e2⟩ := h T D doc pm an cdv ct us its mv ws l1 rT.length.symm hl l2
      refine BindsTo.of_looks fun M => ?_
      rw [e1]
      exact looks_items X lT oT (KwChain.looks X hks e2)
end

/-! ### a text -/
structure Row where
  nm : Str
  st : Stmt
  N : List Str
  ps : List Str
structure KwE where
  nm : Str
  n : Nat
  ks : List Str
  src : List PSrc
  ps : List Str
  dD : List D
  mD : List D
  dvs : List V
  mvs : List V
def sgOf (rows : List (Str × List Str)) (es : List KwE) (con : List (Str × D)) (blt ko : List Str) : Sig where
  ps x := rows.lookup x
  po x := !(ko.contains x)
  ix x := rows.findIdx fun r => r.1 == x
  kw x n ks := (es.find? fun e => e.nm == x && e.n == n && e.ks == ks).map fun e => e.src.map (arOf e.dD e.mD)
  con x := con.lookup x
  blt x := blt.contains x
def AllQ {α : Type} (P : α → Prop) : List α → Prop
  | [] => True
  | a :: r => P a ∧ AllQ P r
theorem AllQ.mem {α : Type} {P : α → Prop} : ∀ {l : List α}, AllQ P l → ∀ a ∈ l, P a
  | b :: r, h, a, m => by
    rcases List.mem_cons.mp m with rfl | m
    · exact h.1
    · exact AllQ.mem h.2 a m
structure RowOk (T : Tab) (r : Row) : Prop where
  S : FnScope r.N r.ps (defScope r.st)
  df : ∃ b, T.df (T.sg.ix r.nm) = ⟨r.ps.length, r.N.length, b⟩ ∧ b = trB ⟨T.sg, r.N, defScope r.st, true⟩ 100 (defBody r.st)
def RowK (K : PySem.W.Frag) (ko : List Str) (r : Row) (f : Addr) : Prop := PySem.W.nsIn K mainGlobals r.nm = some (some (.ref f)) ∧ ∃ fd dvs kws, FunD K r.nm r.nm (defArgs r.st) (defBody r.st) (defScope r.st) dvs kws f fd ∧ (ko.contains r.nm = false → Binds K fd r.ps [])
def KwK (K : PySem.W.Frag) (e : KwE) : Prop := e.src.length = e.ps.length ∧ (∀ H ι, RepL K H ι e.dD e.dvs ∧ RepL K H ι e.mD e.mvs) ∧
  ∃ f fd oc od sl, PySem.W.nsIn K mainGlobals e.nm = some (some (.ref f)) ∧ K.lookup f = some ⟨oc, od, .func fd, sl⟩ ∧ KB K fd e.ps e.n e.ks e.src e.dvs e.mvs
def ConK (K : PySem.W.Frag) (c : Str × D) : Prop := ∃ u v, PySem.W.nsIn K mainGlobals c.1 = some (some u) ∧ RelV v u ∧ ∀ H ι, RepD K H ι c.2 v
theorem lookup_mem {α : Type} {x : Str} {v : α} : ∀ {l : List (Str × α)}, l.lookup x = some v → (x, v) ∈ l
  | [], h => by cases h
  | (y, w) :: r, h => by
    rw [List.lookup_cons] at h
    split at h
    · rename_i q
      have e := eq_of_beq q
      subst e
      cases h
      exact List.mem_cons_self
    · exact List.mem_cons_of_mem _ (lookup_mem h)
theorem fn_none {P : Program} {w : World} {K : PySem.W.Frag} {mg : Str → Option Value} {base : Heap} {T : Tab} {f : Addr} {fd : FuncData} {ps : List Str} {i : Nat} : FnOk P w K mg base (L2.CX P w) 0 f fd ps (spF K mg (callN T 0) i ps) := by
  have no : ∀ vs H Q E, ¬ spF K mg (callN T 0) i ps vs H Q E := fun vs H Q E ⟨_, _, _, _, _, _, h⟩ => h
  exact ⟨fun vs H Q E h => absurd h (no vs H Q E), fun A outer s H args us vs Q E _ _ _ _ h => absurd h (no vs H Q E)⟩
section
variable {P : Program} {w : World} {K : PySem.W.Frag} {h : Heap} {mg : Str → Option Value} {T : Tab} {rows : List Row} {es : List KwE} {con : List (Str × D)} {blt ko : List Str}
theorem tab_ok (hs : T.sg = sgOf (rows.map fun r => (r.nm, r.ps)) es con blt ko) (h1 : AllQ (RowOk T) rows) (X : K.In h) (G : h.Ns mainGlobals mg) (h2 : AllQ (fun r => ∃ f, RowK K ko r f) rows) (h3 : AllQ (KwK K) es) (h3' : AllQ (fun e => T.sg.ps e.nm = some e.ps) es)
    (h4 : AllQ (ConK K) con) (h5 : AllQ (fun x => PySem.W.nsIn K mainGlobals x = some none) blt) (base : Heap) : ∀ k, TabOk T k P w K mg base := by
  have hcon : ∀ x d, T.sg.con x = some d → ∃ u v, mg x = some u ∧ RelV v u ∧ ∀ H ι, RepD K H ι d v := fun x d e => by
    rw [hs] at e
    obtain ⟨u, v, a, b, c⟩ := h4.mem _ (lookup_mem e)
    exact ⟨u, v, PySem.W.mg_of X G a, b, c⟩
  have hblt : ∀ x, T.sg.blt x = true → mg x = none := fun x e => by
    rw [hs] at e
    exact PySem.W.mg_none_of X G (h5.mem x (List.contains_iff_mem.mp e))
  have hpo : ∀ {f : Str} {fd : FuncData} {ps : List Str}, (ko.contains f = false → Binds K fd ps []) → T.sg.po f = true → Binds K fd ps [] := fun h e => by
    rw [hs] at e
    refine h ?_
    have e := e
    unfold sgOf at e
    rw [Bool.not_eq_true'] at e
    exact e
  -- what does not hang on k
  have row : ∀ f ps, T.sg.ps f = some ps → ∃ r, r ∈ rows ∧ r.nm = f ∧ r.ps = ps := fun f ps e => by
    rw [hs] at e
    have m := lookup_mem e
    obtain ⟨r, hr, q⟩ := List.mem_map.mp m
    cases q
    exact ⟨r, hr, rfl, rfl⟩
  have kwOk : ∀ f ps a fd, T.sg.ps f = some ps → PySem.W.nsIn K mainGlobals f = some (some (.ref a)) → (∃ oc od sl, K.lookup a = some ⟨oc, od, .func fd, sl⟩) → ∀ n ks ar, T.sg.kw f n ks = some ar →
      ∃ g gV, KBn K fd ps n ks g gV ∧ ar.length = ps.length ∧ ∀ H ι ds es vs zs, ds.length = n → es.length = ks.length → RepL K H ι ds vs → RepL K H ι es zs → RepL K H ι (arr ar ds es) (gV vs zs) := fun f ps a fd e hn ⟨oc, od, sl, hl⟩ n ks ar q => by
    have q' := q
    rw [hs] at q
    have q : (es.find? fun e => e.nm == f && e.n == n && e.ks == ks).map (fun e => e.src.map (arOf e.dD e.mD)) = some ar := q
    cases hf : es.find? fun e => e.nm == f && e.n == n && e.ks == ks with
    | none => rw [hf] at q; cases q
    | some en =>
      rw [hf] at q
      cases q
      have hm := List.mem_of_find?_eq_some hf
      have hp := List.find?_some hf
      rw [Bool.and_eq_true, Bool.and_eq_true] at hp
      have e1 := eq_of_beq hp.1.1
      have e2 := eq_of_beq hp.1.2
      have e3 := eq_of_beq hp.2
      subst e1 e2 e3
      obtain ⟨hlen, hrep, f2, fd2, oc2, od2, sl2, n2, l2, its, mv, kb⟩ := h3.mem en hm
      have hps := h3'.mem en hm
      rw [e] at hps
      cases hps
      rw [hn] at n2
      cases n2
      rw [hl] at l2
      cases l2
      exact ⟨_, _, kb, by rw [List.length_map]; exact hlen, fun H ι ds es vs zs _ _ r1 r2 => arr_rep r1 r2 (hrep H ι).1 (hrep H ι).2 _⟩
  intro k
  induction k with
  | zero =>
    refine ⟨fun f ps e => ?_, hcon, hblt⟩
    obtain ⟨r, hr, rfl, rfl⟩ := row f ps e
    obtain ⟨b, hd, _⟩ := (h1.mem r hr).df
    obtain ⟨a, hn, fd, dvs, kws, F, B⟩ := h2.mem r hr
    have lk : ∃ oc od sl, K.lookup a = some ⟨oc, od, .func fd, sl⟩ := by
      obtain ⟨oc, od, dV, kV, doc, pm, an, cdv, ct, osl, rfl, lk, hcd, hD, hK⟩ := F.ex
      exact ⟨_, _, _, lk⟩
    exact ⟨by rw [hd], a, fd, lk, PySem.W.mg_of X G hn, F.kp, hpo B, fn_none, kwOk _ _ a fd e hn lk⟩
  | succ k ih =>
    refine ⟨fun f ps e => ?_, hcon, hblt⟩
    obtain ⟨r, hr, rfl, rfl⟩ := row f ps e
    obtain ⟨b, hd, hb⟩ := (h1.mem r hr).df
    obtain ⟨a, hn, fd, dvs, kws, F, B⟩ := h2.mem r hr
    have S := (h1.mem r hr).S
    have lk : ∃ oc od sl, K.lookup a = some ⟨oc, od, .func fd, sl⟩ := by
      obtain ⟨oc, od, dV, kV, doc, pm, an, cdv, ct, osl, rfl, lk, hcd, hD, hK⟩ := F.ex
      exact ⟨_, _, _, lk⟩
    refine ⟨by rw [hd], a, fd, lk, PySem.W.mg_of X G hn, F.kp, hpo B, fn_ok F S (by rw [hd]) (by rw [hd]) (fun cdv A outer s H E hr2 => ?_), kwOk _ _ a fd e hn lk⟩
    · rw [hd]
      show PSs _ _ (tS K mg _ (b (callN T k)))
      rw [hb]
      have g : Good ⟨T.sg, r.N, defScope r.st, true⟩ T k (fun c d _ H => E c d H) (cxOf (L2.CX P w) P w K mg base r.N r.nm (defScope r.st) a cdv A outer s H E) :=
        { sg := rfl, N := rfl, nd := S.nd, sc := rfl, calm := rfl, hp := passes_of rfl, tk := takes_of rfl rfl rfl rfl, room := hr2, top := fun _ _ => rfl, kind := S.kind, tab := ih }
      exact (trSB g 100).2 _
/-- the law's own promise -/
def spLaw (K : PySem.W.Frag) (n : Nat) : Sp := fun vs H Q _ => ∃ (a : Addr) (ns : List Int), vs = [.ref a] ∧ SqL K H a (ns.map V.int) ∧ Only H ∧ ns.length ≤ n ∧ ∀ H', Q (.bl true) H'
theorem ro_of {K : PySem.W.Frag} {H : Hp} {a : Addr} {xs : List V} (hO : Only H) (h : SqL K H a xs) : RoL K H a xs := by
  rcases h with h | h
  · left
    rcases hO a with e | ⟨o, ys, e⟩
    · rcases h with h | ⟨o, h⟩ <;> (rw [e] at h; cases h)
    · rcases h with h | ⟨o', h⟩
      · rw [e] at h; cases h
      · exact ⟨o', h⟩
  · exact .inr h
theorem rep_ints {K : PySem.W.Frag} {H : Hp} {ι : List Addr} : ∀ ns : List Int, RepL K H ι (ns.map D.int) (ns.map V.int)
  | [] => RepL.nil
  | n :: r => by
    rw [List.map_cons, List.map_cons, RepL]
    exact ⟨_, _, rfl, by rw [RepD], rep_ints r⟩
theorem law_ok {base : Heap} {k n : Nat} {ps : List Str} {x : Str} {i : Nat} (T0 : TabOk T k P w K mg base) (hi : T.sg.ps x = some ps) (hix : T.sg.ix x = i) (hl : ∀ ns : List Int, ns.length ≤ n → ∃ μ, callN T k i [.ref 0] [.rol (ns.map .int)] = .ok (.bl true) μ) (hps : ps.length = 1) :
    ∃ a fd, (∃ oc od sl, K.lookup a = some ⟨oc, od, .func fd, sl⟩) ∧ mg x = some (.ref a) ∧ FnOk P w K mg base (L2.CX P w) k a fd ps (spLaw K n) := by
  obtain ⟨har, a, fd, lk, hm, hk, hb, F, _⟩ := T0.fn x ps hi
  refine ⟨a, fd, lk, hm, F.imp fun vs H Q E hsp => ?_⟩
  obtain ⟨a, ns, rfl, hS, hO, hn, q⟩ := hsp
  obtain ⟨μ, e⟩ := hl ns hn
  refine ⟨by rw [hps]; rfl, [a], [.rol (ns.map .int)], [.ref 0], ⟨rfl, fun n m a o o' h1 h2 _ _ m1 m2 => ?_, fun n o b h1 h2 => ?_⟩, ?_, ?_⟩
  · cases n with
    | zero => cases h1; cases m1
    | succ n => cases h1
  · cases n with
    | zero =>
      cases h1; cases h2
      exact ⟨_, ro_of hO hS, rep_ints ns⟩
    | succ n => cases h1
  · rw [RepL]
    exact ⟨_, _, rfl, by rw [RepD]; exact ⟨a, rfl, rfl⟩, RepL.nil⟩
  · rw [hix, e]
    intro v H' ι' e' rm rd
    rw [RepD] at rd
    subst rd
    exact q H'
end
section
variable {K : PySem.W.Frag} {x qual : Str} {st : Stmt} {f : Addr} {oc : Value} {od an : Option Addr} {osl : Array (Option Value)} {kV dV doc pm cdv ct : Value}
theorem funD_mk {dvs : List V} {kws : List (Str × V)} (l : K.lookup f = some ⟨oc, od, .func (PySem.W.fnOf x qual (defArgs st) (defBody st) (defScope st) dV kV doc pm an cdv ct), osl⟩)
    (c : PySem.W.codeIn K cdv qual = true) (k : PySem.W.keepIn K (.ref f) = true) (hD : DflV K dV dvs) (hK : KwdV K kV kws) : FunD K x qual (defArgs st) (defBody st) (defScope st) dvs kws f (PySem.W.fnOf x qual (defArgs st) (defBody st) (defScope st) dV kV doc pm an cdv ct) :=
  ⟨⟨oc, od, dV, kV, doc, pm, an, cdv, ct, osl, rfl, l, c, hD, hK⟩, k⟩
end
theorem cx_none {P : Program} {w : World} {outer : List Env} {H : Hp} {s : Shared} {e : Value} {s' : Shared} (h : L2.CX P w outer H s (fun _ _ _ => False) e s') : False := by
  obtain ⟨_, _, _, _, _, _, _, _, _, _, _, _, z⟩ := h
  exact z
structure NoK (K : PySem.W.Frag) (x : Str) : Prop where
  ns : PySem.W.nsIn K mainGlobals x = some none
/-- law's def, as a caller finds it -/
def LawK (K : PySem.W.Frag) (f : Addr) : Prop := PySem.W.nsIn K mainGlobals "law" = some (some (.ref f)) ∧ ∃ fd oc od sl, K.lookup f = some ⟨oc, od, .func fd, sl⟩ ∧ ∀ (s : Shared) (v : Value), BindsTo s fd ⟨[v], []⟩ [("script", v)]
theorem law_end {P : Program} {w : World} {K : PySem.W.Frag} {h : Heap} {mg : Str → Option Value} {T : Tab} {rows : List Row} {es : List KwE} {con : List (Str × D)} {blt ko : List Str} {fa : Addr} {kk i n : Nat}
    (hs : T.sg = sgOf (rows.map fun r => (r.nm, r.ps)) es con blt ko) (h1 : AllQ (RowOk T) rows) (X : K.In h) (G : h.Ns mainGlobals mg) (h2 : AllQ (fun r => ∃ f, RowK K ko r f) rows) (h3 : AllQ (KwK K) es) (h3' : AllQ (fun e => T.sg.ps e.nm = some e.ps) es)
    (h4 : AllQ (ConK K) con) (h5 : AllQ (fun x => PySem.W.nsIn K mainGlobals x = some none) blt) (hps : T.sg.ps "law" = some (["script"] : List Str)) (hix : T.sg.ix "law" = i)
    (hl : ∀ ns : List Int, ns.length ≤ n → ∃ μ, callN T kk i [.ref 0] [.rol (ns.map .int)] = .ok (.bl true) μ) (hfa : mg "law" = some (.ref fa)) (hL : ∃ f, LawK K f) :
    ∃ fd : FuncData, (∀ (s : Shared) (v : Value), BindsTo s fd ⟨[v], []⟩ [("script", v)]) ∧ ∀ base : Heap, K.In base → base.Ns mainGlobals mg → FnOk P w K mg base (L2.CX P w) kk fa fd ["script"] (spLaw K n) := by
  obtain ⟨f, hn, fd, oc, od, sl, lk, hb⟩ := hL
  have e := hfa.symm.trans (PySem.W.mg_of X G hn)
  cases e
  refine ⟨fd, hb, fun base _ _ => ?_⟩
  obtain ⟨a, fd2, ⟨oc2, od2, sl2, lk2⟩, hm, F⟩ := law_ok (tab_ok (P := P) (w := w) hs h1 X G h2 h3 h3' h4 h5 base kk) hps hix hl rfl
  rw [hfa] at hm
  cases hm
  rw [lk] at lk2
  cases lk2
  exact F
/-! ### constants -/
def SeqAt (o : Obj) (l : List Value) : Prop := o.cls = .type "tuple" ∧ ∃ n, o.data = .seq l.toArray n ∧ l.length ≤ sizeLine
section
variable {K : PySem.W.Frag} {H : Hp} {ι : List Addr}
theorem rd_tupK {a : Addr} {o : Obj} {l : List Value} {xs : List V} {ds : List D} (z : K.lookup a = some o) (g : SeqAt o l) (x : Vals xs l) (r : RepL K H ι ds xs) : RepD K H ι (.tup ds) (.ref a) := by
  obtain ⟨g1, n, g2, g3⟩ := g
  rw [RepD]
  exact ⟨a, xs, rfl, .inr ⟨o, l.toArray, n, z, g1, g2, by simpa using g3, by simpa using x⟩, r⟩
theorem rl_nil' : RepL K H ι [] [] := RepL.nil
theorem rl_cons' {d : D} {v : V} {ds : List D} {vs : List V} (h : RepD K H ι d v) (t : RepL K H ι ds vs) : RepL K H ι (d :: ds) (v :: vs) := by
  rw [RepL]
  exact ⟨_, _, rfl, h, t⟩
theorem dk_non : RepD K H ι .non .non := by rw [RepD]
theorem dk_int {i : Int} : RepD K H ι (.int i) (.int i) := by rw [RepD]
theorem dk_bl {b : Bool} : RepD K H ι (.bl b) (.bl b) := by rw [RepD]
theorem dk_str {s : Str} : RepD K H ι (.str s) (.str s) := by rw [RepD]
end
/-! ### keyword defaults -/
section
variable {K : PySem.W.Frag} {D : Addr} {x y z : Str} {a b c : V}
theorem KwdV_1 (h1 : ∃ u, PySem.W.nsIn K D x = some (some u) ∧ RelV a u) : KwdV K (.ref D) [(x, a)] := .inr ⟨D, rfl, fun q hq => by
  rcases List.mem_cons.mp hq with rfl | hq
  · exact h1
  · cases hq⟩
theorem KwdV_2 (h1 : ∃ u, PySem.W.nsIn K D x = some (some u) ∧ RelV a u) (h2 : ∃ u, PySem.W.nsIn K D y = some (some u) ∧ RelV b u) : KwdV K (.ref D) [(x, a), (y, b)] := .inr ⟨D, rfl, fun q hq => by
  rcases List.mem_cons.mp hq with rfl | hq
  · exact h1
  rcases List.mem_cons.mp hq with rfl | hq
  · exact h2
  · cases hq⟩
theorem KwdV_3 (h1 : ∃ u, PySem.W.nsIn K D x = some (some u) ∧ RelV a u) (h2 : ∃ u, PySem.W.nsIn K D y = some (some u) ∧ RelV b u) (h3 : ∃ u, PySem.W.nsIn K D z = some (some u) ∧ RelV c u) : KwdV K (.ref D) [(x, a), (y, b), (z, c)] := .inr ⟨D, rfl, fun q hq => by
  rcases List.mem_cons.mp hq with rfl | hq
  · exact h1
  rcases List.mem_cons.mp hq with rfl | hq
  · exact h2
  rcases List.mem_cons.mp hq with rfl | hq
  · exact h3
  · cases hq⟩
end
end PM
set_option Elab.async false
set_option linter.all false
set_option maxRecDepth 100000
set_option maxHeartbeats 4000000
/-! PM15: the mirrors, step by step (for simp). -/
namespace PM
open PySem L2
section
variable {C : CEnv} {ρ : Loc} {μ μ' : Mem} {d e : D} {ds : List D} {x : Exn}
@[simp] theorem ob_ok {f} : (Out.ok d μ).bind f = f d μ := Eq.trans rfl rfl
@[simp] theorem ob_ex {f} : (Out.ex x μ).bind f = .ex x μ := Eq.trans rfl rfl
@[simp] theorem ob_bad {f} : Out.bad.bind f = .bad := Eq.trans rfl rfl
@[simp] theorem os_ok {f} : (Outs.ok ds μ).bind f = f ds μ := Eq.trans rfl rfl
@[simp] theorem os_ex {f} : (Outs.ex x μ).bind f = .ex x μ := Eq.trans rfl rfl
@[simp] theorem os_bad {f} : Outs.bad.bind f = .bad := Eq.trans rfl rfl
def Outs.push (d : D) (o : Outs) : Outs := match o with
  | .ok ds μ => .ok (d :: ds) μ
  | .ex x μ => .ex x μ
  | .bad => .bad
@[simp] theorem oc_ok {f} : (Out.ok d μ).cons f = (f μ).push d := Eq.trans rfl rfl
@[simp] theorem oc_ex {f} : (Out.ex x μ).cons f = .ex x μ := Eq.trans rfl rfl
@[simp] theorem op_ok : (Outs.ok ds μ).push d = .ok (d :: ds) μ := Eq.trans rfl rfl
@[simp] theorem ot_ok {f} : (Out.ok d μ).then ρ f = f d μ := Eq.trans rfl rfl
@[simp] theorem ot_ex {f} : (Out.ex x μ).then ρ f = .ex x ρ μ := Eq.trans rfl rfl
@[simp] theorem ots_ok {f} : (Outs.ok ds μ).then ρ f = f ds μ := Eq.trans rfl rfl
@[simp] theorem ots_ex {f} : (Outs.ex x μ).then ρ f = .ex x ρ μ := Eq.trans rfl rfl
@[simp] theorem oi_ok {f} : (Out.ok d μ).ito f = f d μ := Eq.trans rfl rfl
@[simp] theorem ois_ok {f} : (Outs.ok ds μ).ito f = f ds μ := Eq.trans rfl rfl
@[simp] theorem ft_nx {f} : (Fl.nx ρ μ).then f = f ρ μ := Eq.trans rfl rfl
@[simp] theorem ft_rt {f} : (Fl.rt d μ).then f = .rt d μ := Eq.trans rfl rfl
@[simp] theorem ft_bk {f} : (Fl.bk ρ μ).then f = .bk ρ μ := Eq.trans rfl rfl
@[simp] theorem ft_ct {f} : (Fl.ct ρ μ).then f = .ct ρ μ := Eq.trans rfl rfl
@[simp] theorem ft_ex {f} : (Fl.ex x ρ μ).then f = .ex x ρ μ := Eq.trans rfl rfl
@[simp] theorem ft_bad {f} : Fl.bad.then f = .bad := Eq.trans rfl rfl
@[simp] theorem fo_nx : (Fl.nx ρ μ).only = .nx ρ μ := Eq.trans rfl rfl
@[simp] theorem fo_ex : (Fl.ex x ρ μ).only = .ex x ρ μ := Eq.trans rfl rfl
@[simp] theorem fin_nx : finish (.nx ρ μ) = .ok .non μ := Eq.trans rfl rfl
@[simp] theorem fin_rt : finish (.rt d μ) = .ok d μ := Eq.trans rfl rfl
@[simp] theorem fin_ex : finish (.ex x ρ μ) = .ex x μ := Eq.trans rfl rfl
/-! expressions -/
def getV (o : Option (Option D)) (μ : Mem) : Out := match o with
  | some (some d) => .ok d μ
  | _ => .bad
@[simp] theorem getV_some : getV (some (some d)) μ = .ok d μ := Eq.trans rfl rfl
@[simp] theorem ev_var {i : Nat} : mVar i C ρ μ = getV ρ[i]? μ := Eq.trans rfl rfl
@[simp] theorem ev_c : mC d C ρ μ = .ok d μ := Eq.trans rfl rfl
@[simp] theorem ev_op {f a b} : mOp f a b C ρ μ = (a C ρ μ).bind fun x μ1 => (b C ρ μ1).bind fun y μ2 => f x y μ2 := Eq.trans rfl rfl
@[simp] theorem ev_un {f a} : mUn f a C ρ μ = (a C ρ μ).bind f := Eq.trans rfl rfl
@[simp] theorem ev_nil : mNil C ρ μ = .ok [] μ := Eq.trans rfl rfl
@[simp] theorem ev_cons {a as} : mCons a as C ρ μ = (a C ρ μ).cons fun μ1 => as C ρ μ1 := Eq.trans rfl rfl
@[simp] theorem ev_all0 : consAll [] = mNil := Eq.trans rfl rfl
@[simp] theorem ev_alls {a r} : consAll (a :: r) = mCons a (consAll r) := Eq.trans rfl rfl
@[simp] theorem ev_cb {f as} : mCB f as C ρ μ = (as C ρ μ).bind f := Eq.trans rfl rfl
@[simp] theorem ev_tup {as} : mTup as C ρ μ = (as C ρ μ).bind mkTup := Eq.trans rfl rfl
@[simp] theorem ev_lst {as} : mLst as C ρ μ = (as C ρ μ).bind mkLst := Eq.trans rfl rfl
@[simp] theorem ev_if {c a b} : mIf c a b C ρ μ = ifD (c C ρ μ) (a C ρ) (b C ρ) := Eq.trans rfl rfl
@[simp] theorem ev_tru {a} : mTru a C ρ μ = (a C ρ μ).bind truO := Eq.trans rfl rfl
@[simp] theorem ev_not {a} : mNot a C ρ μ = ifD (a C ρ μ) (fun μ => .ok (.bl false) μ) (fun μ => .ok (.bl true) μ) := Eq.trans rfl rfl
@[simp] theorem ev_andT {a b} : mAndT a b C ρ μ = ifD (a C ρ μ) (b C ρ) (fun μ => .ok (.bl false) μ) := Eq.trans rfl rfl
@[simp] theorem ev_orT {a b} : mOrT a b C ρ μ = ifD (a C ρ μ) (fun μ => .ok (.bl true) μ) (b C ρ) := Eq.trans rfl rfl
def andV (o : Option Bool) (d : D) (f : Mem → Out) (μ : Mem) : Out := match o with
  | some true => f μ
  | some false => .ok d μ
  | none => .bad
@[simp] theorem ev_andV {a b} : mAndV a b C ρ μ = (a C ρ μ).bind fun d μ1 => andV (truD d μ1) d (b C ρ) μ1 := by
  unfold mAndV andV
  cases a C ρ μ with
  | ok d μ1 => first | rfl | (simp only [ob_ok]; rcases truD d μ1 with _ | b <;> first | rfl | (cases b <;> rfl))
  | ex x μ => rfl
  | bad => rfl
@[simp] theorem ev_orV {a b} : mOrV a b C ρ μ = (a C ρ μ).bind fun d μ1 => andV ((truD d μ1).map not) d (b C ρ) μ1 := by
  unfold mOrV andV
  cases a C ρ μ with
  | ok d μ1 => first | rfl | (simp only [ob_ok]; rcases truD d μ1 with _ | b <;> first | rfl | (cases b <;> rfl))
  | ex x μ => rfl
  | bad => rfl
@[simp] theorem andV_dec {p : Prop} [Decidable p] {f : Mem → Out} : andV (some (decide p)) d f μ = if p then f μ else .ok d μ := by
  by_cases h : p <;> simp [h, andV]
@[simp] theorem andV_t {f : Mem → Out} : andV (some true) d f μ = f μ := Eq.trans rfl rfl
@[simp] theorem andV_f {f : Mem → Out} : andV (some false) d f μ = .ok d μ := Eq.trans rfl rfl
def notO (o : Option Bool) (μ : Mem) : Out := ob (o.map not) μ
@[simp] theorem ev_notV {a} : mNotV a C ρ μ = (a C ρ μ).bind fun d μ1 => ob ((truD d μ1).map not) μ1 := by
  unfold mNotV ob
  cases a C ρ μ with
  | ok d μ1 => first | rfl | (simp only [ob_ok]; cases truD d μ1 <;> rfl)
  | ex x μ => rfl
  | bad => rfl
@[simp] theorem ev_call {f as} : mCall f as C ρ μ = (as C ρ μ).bind fun ds μ1 => C f ds μ1 := Eq.trans rfl rfl
@[simp] theorem ev_callK {f ar as ks} : mCallK f ar as ks C ρ μ = (as C ρ μ).bind fun ds μ1 => (ks C ρ μ1).bind fun es μ2 => C f (arr ar ds es) μ2 := Eq.trans rfl rfl
@[simp] theorem ev_bm {ty f a as} : mBM ty f a as C ρ μ = (a C ρ μ).bind fun d μ1 => if ty d μ1 then (as C ρ μ1).bind fun ds μ2 => f d ds μ2 else .bad := Eq.trans rfl rfl
@[simp] theorem ev_sl {a lo hi} : mSl a lo hi C ρ μ = (a C ρ μ).bind fun d μ1 => optI lo C ρ μ1 fun l μ2 => optI hi C ρ μ2 fun u μ3 => fSl d l u μ3 := Eq.trans rfl rfl
@[simp] theorem ev_no {f} : optI .no C ρ μ f = f none μ := Eq.trans rfl rfl
def optD (o : Out) (f : Option Int → Mem → Out) : Out := o.bind fun d μ1 => match d with
  | .int i => f (some i) μ1
  | _ => .bad
@[simp] theorem ev_yes {m f} : optI (.yes m) C ρ μ f = optD (m C ρ μ) f := Eq.trans rfl rfl
@[simp] theorem optD_int {i : Int} {f} : optD (.ok (.int i) μ) f = f (some i) μ := Eq.trans rfl rfl
@[simp] theorem ifD_t {f g} : ifD (.ok (.bl true) μ) f g = f μ := Eq.trans rfl rfl
@[simp] theorem ifD_f {f g} : ifD (.ok (.bl false) μ) f g = g μ := Eq.trans rfl rfl
@[simp] theorem ifD_dec {p : Prop} [Decidable p] {f g} : ifD (.ok (.bl (decide p)) μ) f g = if p then f μ else g μ := by
  by_cases h : p <;> simp [h, ifD]
@[simp] theorem ifS_t {f g} : ifS (.ok (.bl true) μ) ρ f g = f μ := Eq.trans rfl rfl
@[simp] theorem ifS_f {f g} : ifS (.ok (.bl false) μ) ρ f g = g μ := Eq.trans rfl rfl
@[simp] theorem ifS_dec {p : Prop} [Decidable p] {f g} : ifS (.ok (.bl (decide p)) μ) ρ f g = if p then f μ else g μ := by
  by_cases h : p <;> simp [h, ifS]
/-! values -/
@[simp] theorem ob_some {b : Bool} : ob (some b) μ = .ok (.bl b) μ := Eq.trans rfl rfl
@[simp] theorem truO_bl {b : Bool} : truO (.bl b) μ = .ok (.bl b) μ := Eq.trans rfl rfl
@[simp] theorem truD_bl {b : Bool} : truD (.bl b) μ = some b := Eq.trans rfl rfl
@[simp] theorem truO_int {i : Int} : truO (.int i) μ = .ok (.bl (decide (i ≠ 0))) μ := by
  show Out.ok (.bl (i != 0)) μ = _
  congr 2
  by_cases h : i = 0 <;> simp [h]
section
variable {i j : Int} {n : Nat} {l : List D}
@[simp] theorem fAdd_ii : fAdd (.int i) (.int j) μ = .ok (.int (i + j)) μ := Eq.trans rfl rfl
@[simp] theorem fSub_ii : fSub (.int i) (.int j) μ = .ok (.int (i - j)) μ := Eq.trans rfl rfl
@[simp] theorem fNeg_i : fNeg (.int i) μ = .ok (.int (-i)) μ := Eq.trans rfl rfl
theorem fMul_l (h : -(2 ^ 64) < i) (h2 : i < 2 ^ 64) : fMul (.int i) (.int j) μ = .ok (.int (i * j)) μ := if_pos (.inl (.inl ⟨h, h2⟩))
theorem fMul_r (h : -(2 ^ 64) < j) (h2 : j < 2 ^ 64) : fMul (.int i) (.int j) μ = .ok (.int (i * j)) μ := if_pos (.inl (.inr ⟨h, h2⟩))
theorem fMul_m {k m : Int} (h : 0 < m) (h2 : m ≤ 2 ^ 64) : fMul (.int (k % m)) (.int j) μ = .ok (.int (k % m * j)) μ := by
  have h3 := Int.emod_nonneg k (show m ≠ 0 by omega)
  have h4 := Int.emod_lt_of_pos k h
  exact fMul_l (by omega) (by omega)
theorem fDiv_ii (h : 0 < j) (h2 : j < 2 ^ 64) : fDiv (.int i) (.int j) μ = .ok (.int (i / j)) μ := if_pos ⟨h, .inl h2⟩
theorem fMod_ii (h : 0 < j) : fMod (.int i) (.int j) μ = .ok (.int (i % j)) μ := if_pos h
theorem fPow_ii (h : 0 ≤ j) (h2 : j ≤ 1000000) (h3 : i.natAbs < 2 ^ 64) : fPow (.int i) (.int j) μ = .ok (.int (i ^ j.toNat)) μ := if_pos ⟨h, h2, h3⟩
theorem fShl_ii (h : 0 ≤ j) (h2 : j ≤ 1000000) (h3 : i.natAbs < 2 ^ 64) : fShl (.int i) (.int j) μ = .ok (.int (i * 2 ^ j.toNat)) μ := if_pos ⟨h, h2, h3⟩
theorem fShr_ii (h : 0 ≤ j) : fShr (.int i) (.int j) μ = .ok (.int (i / 2 ^ j.toNat)) μ := if_pos h
@[simp] theorem fEq_ii : fEq (.int i) (.int j) μ = .ok (.bl (decide (i = j))) μ := by
  show Out.ok (.bl (i == j)) μ = _
  congr 2
@[simp] theorem fNe_ii : fNe (.int i) (.int j) μ = .ok (.bl (decide (i ≠ j))) μ := by
  show Out.ok (.bl (!(i == j))) μ = _
  congr 2
  by_cases h : i = j <;> simp [h]
@[simp] theorem fEq_ss {s t : Str} : fEq (.str s) (.str t) μ = .ok (.bl (s == t)) μ := Eq.trans rfl rfl
@[simp] theorem fLt_ii : fLt (.int i) (.int j) μ = .ok (.bl (decide (i < j))) μ := Eq.trans rfl rfl
@[simp] theorem fLe_ii : fLe (.int i) (.int j) μ = .ok (.bl (decide (i ≤ j))) μ := Eq.trans rfl rfl
@[simp] theorem fGt_ii : fGt (.int i) (.int j) μ = .ok (.bl (decide (j < i))) μ := Eq.trans rfl rfl
@[simp] theorem fGe_ii : fGe (.int i) (.int j) μ = .ok (.bl (decide (j ≤ i))) μ := Eq.trans rfl rfl
@[simp] theorem fIs_non : fIs .non .non μ = .ok (.bl true) μ := Eq.trans rfl rfl
@[simp] theorem fIs_non_i : fIs (.int i) .non μ = .ok (.bl false) μ := Eq.trans rfl rfl
@[simp] theorem fIs_non_b {b} : fIs (.bl b) .non μ = .ok (.bl false) μ := Eq.trans rfl rfl
@[simp] theorem fIs_non_s {s} : fIs (.str s) .non μ = .ok (.bl false) μ := Eq.trans rfl rfl
@[simp] theorem fIs_non_t : fIs (.tup l) .non μ = .ok (.bl false) μ := Eq.trans rfl rfl
@[simp] theorem fIs_non_r : fIs (.ref n) .non μ = .ok (.bl false) μ := Eq.trans rfl rfl
def lstO (o : Option O) : Option (List D) := match o with
  | some (.lst l) => some l
  | some (.rol l) => some l
  | _ => none
@[simp] theorem lstO_lst : lstO (some (.lst l)) = some l := Eq.trans rfl rfl
@[simp] theorem lstO_rol : lstO (some (.rol l)) = some l := Eq.trans rfl rfl
@[simp] theorem getL_eq : getL μ n = lstO μ[n]? := Eq.trans rfl rfl
def lstW (o : Option O) : Option (List D) := match o with
  | some (.lst l) => some l
  | _ => none
@[simp] theorem lstW_lst : lstW (some (.lst l)) = some l := Eq.trans rfl rfl
@[simp] theorem getM_eq : getM μ n = lstW μ[n]? := Eq.trans rfl rfl
def outV (o : Option D) (μ : Mem) : Out := match o with
  | some v => .ok v μ
  | none => .bad
@[simp] theorem outV_some : outV (some d) μ = .ok d μ := Eq.trans rfl rfl
def ixO (o : Option (List D)) (i : Int) (μ : Mem) : Out := match o with
  | some l => outV (atI l i) μ
  | none => .bad
@[simp] theorem ixO_some : ixO (some l) i μ = outV (atI l i) μ := Eq.trans rfl rfl
@[simp] theorem fIx_ref : fIx (.ref n) (.int i) μ = ixO (getL μ n) i μ := by
  unfold fIx ixO outV
  first | (dsimp only; done) | (dsimp only; cases getL μ n <;> rfl)
@[simp] theorem fIx_tup : fIx (.tup l) (.int i) μ = outV (atI l i) μ := by
  unfold fIx outV
  rfl
theorem atI_ofNat {k : Nat} : atI l (k : Int) = l[k]? := by
  by_cases h : k < l.length
  · rw [List.getElem?_eq_getElem h]
    exact L2.atI_nat (List.getElem?_eq_getElem h)
  · rw [List.getElem?_eq_none (by omega)]
    unfold atI ixN
    rw [if_pos (by omega), if_neg (by omega)]
    rfl
@[simp] theorem atI_lit {k : Nat} : atI l (no_index (@OfNat.ofNat Int k instOfNat)) = l[@OfNat.ofNat Nat k (instOfNatNat k)]? := atI_ofNat (k := k)
@[simp] theorem atI_0 : atI l 0 = l[0]? := atI_ofNat (k := 0)
@[simp] theorem atI_1 : atI l 1 = l[1]? := atI_ofNat (k := 1)
def setO (o : Option (List D)) (n : Nat) (i : Int) (v : D) (μ : Mem) : Option Mem := match o with
  | some l => (match ixN l.length i with
    | some j => some (μ.set n (.lst (l.set j v)))
    | none => none)
  | none => none
@[simp] theorem setLO_ri {v : D} : setLO (.ref n) (.int i) v μ = setO (getM μ n) n i v μ := by
  unfold setLO setO
  rfl
def setJ (j : Option Nat) (l : List D) (n : Nat) (v : D) (μ : Mem) : Option Mem := match j with
  | some j => some (μ.set n (.lst (l.set j v)))
  | none => none
@[simp] theorem setO_some {v : D} : setO (some l) n i v μ = setJ (ixN l.length i) l n v μ := Eq.trans rfl rfl
@[simp] theorem setJ_some {j : Nat} {v : D} : setJ (some j) l n v μ = some (μ.set n (.lst (l.set j v))) := Eq.trans rfl rfl
theorem ixN_ofNat {m k : Nat} (h : k < m) : ixN m (k : Int) = some k := by
  unfold ixN
  rw [if_pos (by omega), if_pos (by omega)]
  simp
theorem ixN_lit {m k : Nat} (h : k < m) : ixN m (no_index (@OfNat.ofNat Int k instOfNat)) = some (@OfNat.ofNat Nat k (instOfNatNat k)) := ixN_ofNat (k := k) h
@[simp] theorem bInt_i : bInt [.int i] μ = .ok (.int i) μ := Eq.trans rfl rfl
@[simp] theorem bAbs_i : bAbs [.int i] μ = .ok (.int (if i < 0 then -i else i)) μ := Eq.trans rfl rfl
@[simp] theorem mkLst_ok (h : ds.length ≤ sizeLine) : mkLst ds μ = .ok (.ref μ.length) (μ ++ [.lst ds]) := if_pos h
@[simp] theorem mkTup_ok (h : ds.length ≤ sizeLine) : mkTup ds μ = .ok (.tup ds) μ := if_pos h
end
@[simp] theorem fMulS_ii {i j : Int} : fMulS (.int i) (.int j) μ = fMul (.int i) (.int j) μ := Eq.trans rfl rfl
def strO (d : D) (f : Str → Out) : Out := match d with
  | .str x => f x
  | _ => .bad
@[simp] theorem strO_str {x : Str} {f : Str → Out} : strO (.str x) f = f x := Eq.trans rfl rfl
@[simp] theorem ev_s1 {f a b} : mS1 f a b C ρ μ = (a C ρ μ).bind fun d μ1 => strO d fun x => (b C ρ μ1).bind fun e μ2 => f x e μ2 := by
  unfold mS1 strO
  rfl
@[simp] theorem ev_chain {f g a b c} : mChain f g a b c C ρ μ = (a C ρ μ).bind fun x μ1 => (b C ρ μ1).bind fun y μ2 => ifD (f x y μ2) (fun μ3 => (c C ρ μ3).bind fun z μ4 => g y z μ4) (fun μ3 => .ok (.bl false) μ3) := Eq.trans rfl rfl
/-! statements -/
@[simp] theorem es_seq {a b} : sSeq a b C ρ μ = (a C ρ μ).then (b C) := Eq.trans rfl rfl
@[simp] theorem es_nil : sNil C ρ μ = .nx ρ μ := Eq.trans rfl rfl
@[simp] theorem es_all0 : seqAll [] = sNil := Eq.trans rfl rfl
@[simp] theorem es_all1 {a} : seqAll [a] = a := Eq.trans rfl rfl
@[simp] theorem es_alls {a b r} : seqAll (a :: b :: r) = sSeq a (seqAll (b :: r)) := Eq.trans rfl rfl
@[simp] theorem es_expr {a} : sExpr a C ρ μ = (a C ρ μ).then ρ fun _ μ1 => .nx ρ μ1 := Eq.trans rfl rfl
@[simp] theorem es_ret {a} : sRet a C ρ μ = (a C ρ μ).then ρ fun d μ1 => .rt d μ1 := Eq.trans rfl rfl
@[simp] theorem es_retN : sRetN C ρ μ = .rt .non μ := Eq.trans rfl rfl
@[simp] theorem es_brk : sBrk C ρ μ = .bk ρ μ := Eq.trans rfl rfl
@[simp] theorem es_cont : sCont C ρ μ = .ct ρ μ := Eq.trans rfl rfl
@[simp] theorem es_if {c a b} : sIf c a b C ρ μ = ifS (c C ρ μ) ρ (a C ρ) (b C ρ) := Eq.trans rfl rfl
@[simp] theorem es_asg {a g} : sAsg a g C ρ μ = (a C ρ μ).then ρ fun d μ1 => (g C d ρ μ1).only := Eq.trans rfl rfl
@[simp] theorem eg_nm {i : Nat} : gNm i C d ρ μ = .nx (ρ.set i (some d)) μ := Eq.trans rfl rfl
def memO (o : Option Mem) (ρ : Loc) : Fl := match o with
  | some μ => .nx ρ μ
  | none => .bad
@[simp] theorem memO_some : memO (some μ) ρ = .nx ρ μ := Eq.trans rfl rfl
@[simp] theorem eg_sb {o i} : gSb o i C d ρ μ = (o C ρ μ).then ρ fun d1 μ1 => (i C ρ μ1).then ρ fun k μ2 => memO (setLO d1 k d μ2) ρ := by
  unfold gSb memO
  rfl
@[simp] theorem eg_tp {gs n} {l : List D} (h : l.length = n) : gTp gs n C (.tup l) ρ μ = gs C l ρ μ := if_pos h
@[simp] theorem eg_all0 : coAll [] = gNo := Eq.trans rfl rfl
@[simp] theorem eg_alls {g r} : coAll (g :: r) = gCo g (coAll r) := Eq.trans rfl rfl
@[simp] theorem eg_no : gNo C [] ρ μ = .nx ρ μ := Eq.trans rfl rfl
@[simp] theorem eg_co {g gs} : gCo g gs C (d :: ds) ρ μ = (g C d ρ μ).then (gs C ds) := Eq.trans rfl rfl
end
end PM
set_option Elab.async false
set_option linter.all false
set_option maxRecDepth 100000
set_option maxHeartbeats 4000000
/-! PM16: loops by an invariant. -/
namespace PM
open PySem L2
section
variable {C : CEnv}
/-- all items are walked -/
theorem loopG_inv {s : Src} {g : Tg} {b : Sm} {N : Nat} (I : Nat → Loc → Mem → Prop)
    (step : ∀ i ρ μ, I i ρ μ → i < N → ∃ d, s i μ = some (some d) ∧ ∃ ρ1 μ1, g C d ρ μ = .nx ρ1 μ1 ∧ ∃ ρ2 μ2, (b C ρ1 μ1 = .nx ρ2 μ2 ∨ b C ρ1 μ1 = .ct ρ2 μ2) ∧ I (i + 1) ρ2 μ2)
    (stop : ∀ ρ μ, I N ρ μ → s N μ = some none) : ∀ f i ρ μ, I i ρ μ → i ≤ N → N - i < f → ∃ ρ' μ', loopG s g b C f i ρ μ = .nx ρ' μ' ∧ I N ρ' μ'
  | 0, i, ρ, μ, hI, hi, hf => absurd hf (by omega)
  | f + 1, i, ρ, μ, hI, hi, hf => by
    unfold loopG
    by_cases hN : i = N
    · subst hN
      rw [stop ρ μ hI]
      exact ⟨ρ, μ, rfl, hI⟩
    · obtain ⟨d, h1, ρ1, μ1, h2, ρ2, μ2, h3, h4⟩ := step i ρ μ hI (by omega)
      rw [h1]
      dsimp only
      rw [h2, fo_nx, ft_nx]
      rcases h3 with h3 | h3
      · rw [h3]
        exact loopG_inv I step stop f (i + 1) ρ2 μ2 h4 (by omega) (by omega)
      · rw [h3]
        exact loopG_inv I step stop f (i + 1) ρ2 μ2 h4 (by omega) (by omega)
theorem for_inv {it : Itm} {g : Tg} {b : Sm} {ρ : Loc} {μ μ0 : Mem} {s : Src} {N : Nat} (I : Nat → Loc → Mem → Prop) (hit : it C ρ μ = .ok s N μ0) (h0 : I 0 ρ μ0)
    (step : ∀ i ρ μ, I i ρ μ → i < N → ∃ d, s i μ = some (some d) ∧ ∃ ρ1 μ1, g C d ρ μ = .nx ρ1 μ1 ∧ ∃ ρ2 μ2, (b C ρ1 μ1 = .nx ρ2 μ2 ∨ b C ρ1 μ1 = .ct ρ2 μ2) ∧ I (i + 1) ρ2 μ2)
    (stop : ∀ ρ μ, I N ρ μ → s N μ = some none) : ∃ ρ' μ', sFor it g b C ρ μ = .nx ρ' μ' ∧ I N ρ' μ' := by
  unfold sFor
  rw [hit]
  exact loopG_inv I step stop (N + 1) 0 ρ μ0 h0 (by omega) (by omega)
/-- some item ends the loop by a return -/
theorem srcV_at {l : List D} {i : Nat} {μ : Mem} (h : i < l.length) : srcV l i μ = some (some l[i]) := by
  unfold srcV
  rw [List.getElem?_eq_getElem h]
theorem srcV_end {l : List D} {μ : Mem} {n : Nat} (h : l.length = n) : srcV l n μ = some none := by
  unfold srcV
  rw [List.getElem?_eq_none (by omega)]
theorem srcL_at {l : List D} {n i : Nat} {μ : Mem} (h : getL μ n = some l) (hi : i < l.length) : srcL n i μ = some (some l[i]) := by
  unfold srcL
  rw [h, Option.map_some, List.getElem?_eq_getElem hi]
theorem srcL_end {l : List D} {n m : Nat} {μ : Mem} (h : getL μ n = some l) (hm : l.length = m) : srcL n m μ = some none := by
  unfold srcL
  rw [h, Option.map_some, List.getElem?_eq_none (by omega)]
theorem rngD_len {a b : Int} : (rngD a b).length = (b - a).toNat := by simp [rngD]
theorem rngD_at {a b : Int} {i : Nat} (h : i < (rngD a b).length) : (rngD a b)[i] = .int (a + (i : Nat)) := by simp [rngD]
theorem it_r1 {j : Int} {μ : Mem} (h : -(2 ^ 62) ≤ j) (h2 : j < 2 ^ 62) : itR1 [.int j] μ = .ok (srcV (rngD 0 j)) j.toNat μ := if_pos ⟨h, h2⟩
theorem it_r2 {i j : Int} {μ : Mem} (h : -(2 ^ 62) ≤ i) (h2 : i < 2 ^ 62) (h3 : -(2 ^ 62) ≤ j) (h4 : j < 2 ^ 62) : itR2 [.int i, .int j] μ = .ok (srcV (rngD i j)) (j - i).toNat μ := if_pos ⟨h, h2, h3, h4⟩
@[simp] theorem ei_r {f as} {ρ : Loc} {μ : Mem} : iR f as C ρ μ = (as C ρ μ).ito f := Eq.trans rfl rfl
@[simp] theorem ei_val {a} {ρ : Loc} {μ : Mem} : iVal a C ρ μ = (a C ρ μ).ito itV := Eq.trans rfl rfl
theorem itV_l {l : List D} {n : Nat} {μ : Mem} (h : getL μ n = some l) : itV (.ref n) μ = .ok (srcL n) l.length μ := by
  unfold itV
  dsimp only
  rw [h]
theorem itV_t {l : List D} {μ : Mem} : itV (.tup l) μ = .ok (srcV l) l.length μ := rfl
end
end PM
set_option Elab.async false
set_option linter.all false
set_option maxRecDepth 100000
set_option maxHeartbeats 4000000
/-! PM17: loops that may end early; comprehensions by an invariant. -/
namespace PM
open PySem L2
section
variable {C : CEnv}
/-- each item: on to the next, or out by a break (R), or out of the def by a return (E) -/
theorem loopG_inv2 {s : Src} {g : Tg} {b : Sm} {N : Nat} (I : Nat → Loc → Mem → Prop) (R : Loc → Mem → Prop)
    (step : ∀ i ρ μ, I i ρ μ → i < N → ∃ d, s i μ = some (some d) ∧ ∃ ρ1 μ1, g C d ρ μ = .nx ρ1 μ1 ∧ ∃ ρ2 μ2, ((b C ρ1 μ1 = .nx ρ2 μ2 ∨ b C ρ1 μ1 = .ct ρ2 μ2) ∧ I (i + 1) ρ2 μ2) ∨ (b C ρ1 μ1 = .bk ρ2 μ2 ∧ R ρ2 μ2))
    (stop : ∀ ρ μ, I N ρ μ → s N μ = some none ∧ R ρ μ) : ∀ f i ρ μ, I i ρ μ → i ≤ N → N - i < f → ∃ ρ' μ', loopG s g b C f i ρ μ = .nx ρ' μ' ∧ R ρ' μ'
  | 0, i, ρ, μ, hI, hi, hf => absurd hf (by omega)
  | f + 1, i, ρ, μ, hI, hi, hf => by
    unfold loopG
    by_cases hN : i = N
    · subst hN
      rw [(stop ρ μ hI).1]
      exact ⟨ρ, μ, rfl, (stop ρ μ hI).2⟩
    · obtain ⟨d, h1, ρ1, μ1, h2, ρ2, μ2, h3⟩ := step i ρ μ hI (by omega)
      rw [h1]
      dsimp only
      rw [h2, fo_nx, ft_nx]
      rcases h3 with ⟨h3 | h3, h4⟩ | ⟨h3, h4⟩
      · rw [h3]
        exact loopG_inv2 I R step stop f (i + 1) ρ2 μ2 h4 (by omega) (by omega)
      · rw [h3]
        exact loopG_inv2 I R step stop f (i + 1) ρ2 μ2 h4 (by omega) (by omega)
      · rw [h3]
        exact ⟨ρ2, μ2, rfl, h4⟩
theorem for_inv2 {it : Itm} {g : Tg} {b : Sm} {ρ : Loc} {μ μ0 : Mem} {s : Src} {N : Nat} (I : Nat → Loc → Mem → Prop) (R : Loc → Mem → Prop) (hit : it C ρ μ = .ok s N μ0) (h0 : I 0 ρ μ0)
    (step : ∀ i ρ μ, I i ρ μ → i < N → ∃ d, s i μ = some (some d) ∧ ∃ ρ1 μ1, g C d ρ μ = .nx ρ1 μ1 ∧ ∃ ρ2 μ2, ((b C ρ1 μ1 = .nx ρ2 μ2 ∨ b C ρ1 μ1 = .ct ρ2 μ2) ∧ I (i + 1) ρ2 μ2) ∨ (b C ρ1 μ1 = .bk ρ2 μ2 ∧ R ρ2 μ2))
    (stop : ∀ ρ μ, I N ρ μ → s N μ = some none ∧ R ρ μ) : ∃ ρ' μ', sFor it g b C ρ μ = .nx ρ' μ' ∧ R ρ' μ' := by
  unfold sFor
  rw [hit]
  exact loopG_inv2 I R step stop (N + 1) 0 ρ μ0 h0 (by omega) (by omega)
/-- a comprehension without a test; n: where its list lies -/
theorem lcG_inv {s : Src} {g : CTg} {elt : Ex} {n N : Nat} {ρ : Loc} (I : Nat → Mem → List D → Prop)
    (step : ∀ i μ acc, I i μ acc → i < N → acc.length < sizeLine ∧ ∃ d, s i μ = some (some d) ∧ ∃ ρ1, g.put d ρ = some ρ1 ∧ ∃ y μ3, elt C ρ1 μ = .ok y μ3 ∧ getM μ3 n = some acc ∧ I (i + 1) (μ3.set n (.lst (acc ++ [y]))) (acc ++ [y]))
    (stop : ∀ μ acc, I N μ acc → s N μ = some none) : ∀ f i μ acc, I i μ acc → i ≤ N → N - i < f → ∃ μ' acc', lcG s g none elt n C f i ρ μ = .ok (.ref n) μ' ∧ I N μ' acc'
  | 0, i, μ, acc, hI, hi, hf => absurd hf (by omega)
  | f + 1, i, μ, acc, hI, hi, hf => by
    unfold lcG
    by_cases hN : i = N
    · subst hN
      rw [stop μ acc hI]
      exact ⟨μ, acc, rfl, hI⟩
    · obtain ⟨hz, d, h1, ρ1, h2, y, μ3, h3, h4, h5⟩ := step i μ acc hI (by omega)
      rw [h1]
      dsimp only
      rw [h2]
      dsimp only
      rw [h3]
      dsimp only
      rw [h4]
      dsimp only
      rw [if_pos hz]
      exact lcG_inv I step stop f (i + 1) _ _ h5 (by omega) (by omega)
theorem lc_inv {it : Itm} {g : CTg} {elt : Ex} {vs : List Nat} {ρ : Loc} {μ μ0 : Mem} {s : Src} {N : Nat} (I : Nat → Mem → List D → Prop) (hit : it C ρ μ = .ok s N μ0) (h0 : I 0 (μ0 ++ [.lst []]) [])
    (step : ∀ i μ acc, I i μ acc → i < N → acc.length < sizeLine ∧ ∃ d, s i μ = some (some d) ∧ ∃ ρ1, g.put d (wipeD ρ vs) = some ρ1 ∧ ∃ y μ3, elt C ρ1 μ = .ok y μ3 ∧ getM μ3 μ0.length = some acc ∧ I (i + 1) (μ3.set μ0.length (.lst (acc ++ [y]))) (acc ++ [y]))
    (stop : ∀ μ acc, I N μ acc → s N μ = some none) : ∃ μ' acc', mLc it g none elt vs C ρ μ = .ok (.ref μ0.length) μ' ∧ I N μ' acc' := by
  unfold mLc
  rw [hit]
  exact lcG_inv I step stop (N + 1) 0 _ [] h0 (by omega) (by omega)
/-- .. whose parts leave the store as it was -/
theorem lc_map {it : Itm} {g : CTg} {elt : Ex} {vs : List Nat} {ρ : Loc} {μ μ0 : Mem} {l : List D} (f : D → D) (hit : it C ρ μ = .ok (srcV l) l.length μ0) (hz : l.length ≤ sizeLine)
    (step : ∀ d ∈ l, ∀ acc, ∃ ρ1, g.put d (wipeD ρ vs) = some ρ1 ∧ elt C ρ1 (μ0 ++ [.lst acc]) = .ok (f d) (μ0 ++ [.lst acc])) : mLc it g none elt vs C ρ μ = .ok (.ref μ0.length) (μ0 ++ [.lst (l.map f)]) := by
  obtain ⟨μ', acc', e, rfl, rfl⟩ := lc_inv (C := C) (g := g) (elt := elt) (vs := vs) (fun i μ acc => μ = μ0 ++ [.lst acc] ∧ acc = (l.take i).map f) hit ⟨rfl, by simp⟩ (fun i μ acc ⟨h1, h2⟩ hi => by
    subst h1
    obtain ⟨ρ1, h3, h4⟩ := step l[i] (List.getElem_mem hi) acc
    refine ⟨by rw [h2, List.length_map, List.length_take]; omega, l[i], srcV_at hi, ρ1, h3, f l[i], _, h4, by simp [getM], by simp, ?_⟩
    rw [h2, ← List.map_singleton, ← List.map_append, List.take_append_getElem hi]) (fun μ acc _ => srcV_end rfl)
  rw [e, List.take_length]
end
end PM
set_option Elab.async false
set_option linter.all false
set_option maxRecDepth 100000
set_option maxHeartbeats 4000000
/-! PM18: loops that may leave the def. -/
namespace PM
open PySem L2
section
variable {C : CEnv}
/-- each item: on to the next, or out of the def by a return (E) -/
theorem loopG_inv3 {s : Src} {g : Tg} {b : Sm} {N : Nat} (I : Nat → Loc → Mem → Prop) (E : D → Mem → Prop)
    (step : ∀ i ρ μ, I i ρ μ → i < N → ∃ d, s i μ = some (some d) ∧ ∃ ρ1 μ1, g C d ρ μ = .nx ρ1 μ1 ∧ ((∃ ρ2 μ2, (b C ρ1 μ1 = .nx ρ2 μ2 ∨ b C ρ1 μ1 = .ct ρ2 μ2) ∧ I (i + 1) ρ2 μ2) ∨ ∃ v μ2, b C ρ1 μ1 = .rt v μ2 ∧ E v μ2))
    (stop : ∀ ρ μ, I N ρ μ → s N μ = some none) : ∀ f i ρ μ, I i ρ μ → i ≤ N → N - i < f → (∃ ρ' μ', loopG s g b C f i ρ μ = .nx ρ' μ' ∧ I N ρ' μ') ∨ ∃ v μ', loopG s g b C f i ρ μ = .rt v μ' ∧ E v μ'
  | 0, i, ρ, μ, hI, hi, hf => absurd hf (by omega)
  | f + 1, i, ρ, μ, hI, hi, hf => by
    unfold loopG
    by_cases hN : i = N
    · subst hN
      rw [stop ρ μ hI]
      exact .inl ⟨ρ, μ, rfl, hI⟩
    · obtain ⟨d, h1, ρ1, μ1, h2, h3⟩ := step i ρ μ hI (by omega)
      rw [h1]
      dsimp only
      rw [h2, fo_nx, ft_nx]
      rcases h3 with ⟨ρ2, μ2, h3 | h3, h4⟩ | ⟨v, μ2, h3, h4⟩
      · rw [h3]
        exact loopG_inv3 I E step stop f (i + 1) ρ2 μ2 h4 (by omega) (by omega)
      · rw [h3]
        exact loopG_inv3 I E step stop f (i + 1) ρ2 μ2 h4 (by omega) (by omega)
      · rw [h3]
        exact .inr ⟨v, μ2, rfl, h4⟩
theorem for_inv3 {it : Itm} {g : Tg} {b : Sm} {ρ : Loc} {μ μ0 : Mem} {s : Src} {N : Nat} (I : Nat → Loc → Mem → Prop) (E : D → Mem → Prop) (hit : it C ρ μ = .ok s N μ0) (h0 : I 0 ρ μ0)
    (step : ∀ i ρ μ, I i ρ μ → i < N → ∃ d, s i μ = some (some d) ∧ ∃ ρ1 μ1, g C d ρ μ = .nx ρ1 μ1 ∧ ((∃ ρ2 μ2, (b C ρ1 μ1 = .nx ρ2 μ2 ∨ b C ρ1 μ1 = .ct ρ2 μ2) ∧ I (i + 1) ρ2 μ2) ∨ ∃ v μ2, b C ρ1 μ1 = .rt v μ2 ∧ E v μ2))
    (stop : ∀ ρ μ, I N ρ μ → s N μ = some none) : (∃ ρ' μ', sFor it g b C ρ μ = .nx ρ' μ' ∧ I N ρ' μ') ∨ ∃ v μ', sFor it g b C ρ μ = .rt v μ' ∧ E v μ' := by
  unfold sFor
  rw [hit]
  exact loopG_inv3 I E step stop (N + 1) 0 ρ μ0 h0 (by omega) (by omega)
end
end PM
set_option Elab.async false
set_option linter.all false
set_option maxRecDepth 100000
set_option maxHeartbeats 4000000
/-! PL1: the laws' own helpers: the draws out of a script. -/
namespace PL
open PySem L2 PM
def mDraw : Sm :=
  seqAll [sAsg (mOp fAdd (mOp fIx (mVar 0) (mC (.int 3))) (mC (.int 1))) (gSb (mVar 0) (mC (.int 3))),
    sIf (mOp fEq (mOp fIx (mVar 0) (mC (.int 0))) (mC (.int 0)))
    (seqAll [sRet (mC (.int 0))])
    (seqAll []),
    sIf (mAndT (mOp fEq (mOp fIx (mVar 0) (mC (.int 0))) (mC (.int 1))) (mAndT (mOp fLe (mOp fIx (mVar 0) (mC (.int 3))) (mC (.int 60))) (mOp fGt (mOp fIx (mVar 0) (mC (.int 1))) (mC (.int 0)))))
    (seqAll [sAsg (mOp fMod (mCB bInt (consAll [mOp fIx (mVar 0) (mC (.int 1))])) (mVar 1)) (gNm 2),
    sAsg (mOp fDiv (mOp fIx (mVar 0) (mC (.int 1))) (mVar 1)) (gSb (mVar 0) (mC (.int 1))),
    sRet (mVar 2)])
    (seqAll []),
    sAsg (mOp fMod (mCB bInt (consAll [mOp fAdd (mOp fAdd (mOp fIx (mVar 0) (mC (.int 2))) (mOp fMulS (mC (.int 40503)) (mOp fIx (mVar 0) (mC (.int 3))))) (mC (.int 17))])) (mC (.int 2147483647))) (gNm 3),
    sAsg (mOp fMod (mCB bInt (consAll [mOp fAdd (mOp fAdd (mOp fMulS (mVar 3) (mVar 3)) (mOp fMulS (mC (.int 69621)) (mOp fIx (mVar 0) (mC (.int 3))))) (mC (.int 5))])) (mC (.int 2147483629))) (gNm 3),
    sAsg (mOp fMod (mCB bInt (consAll [mOp fAdd (mOp fAdd (mOp fMulS (mVar 3) (mVar 3)) (mC (.int 48271))) (mOp fIx (mVar 0) (mC (.int 2)))])) (mC (.int 2147483647))) (gNm 3),
    sRet (mOp fMod (mCB bInt (consAll [mOp fDiv (mVar 3) (mC (.int 8))])) (mVar 1))]
theorem draw_spec (C : CEnv) {μ : Mem} {p : Nat} {a b c n many : Int} (h : μ[p]? = some (.lst [.int a, .int b, .int c, .int n])) (hm : 0 < many) (hm2 : many < 2 ^ 64) :
    ∃ r b' : Int, 0 ≤ r ∧ r < many ∧ finish (mDraw C [some (.ref p), some (.int many), none, none] μ) = .ok (.int r) (μ.set p (.lst [.int a, .int b', .int c, .int (n + 1)])) := by
  have hp : p < μ.length := (List.getElem?_eq_some_iff.mp h).1
  have h2 : (μ.set p (.lst [.int a, .int b, .int c, .int (n + 1)]))[p]? = some (.lst [.int a, .int b, .int c, .int (n + 1)]) := List.getElem?_set_self hp
  by_cases ha : a = 0
  · subst ha
    refine ⟨0, b, Int.le_refl _, hm, ?_⟩
    simp [mDraw, h, h2, ixN_lit]
  by_cases hc : a = 1 ∧ n + 1 ≤ 60 ∧ 0 < b
  · obtain ⟨rfl, hn, hb⟩ := hc
    refine ⟨b % many, b / many, Int.emod_nonneg _ (by omega), Int.emod_lt_of_pos _ hm, ?_⟩
    simp [mDraw, h, h2, ixN_lit, hn, hb, fMod_ii, fDiv_ii hm hm2, hm]
  · have key : ∃ X : Int, finish (mDraw C [some (.ref p), some (.int many), none, none] μ) = .ok (.int (X % many)) (μ.set p (.lst [.int a, .int b, .int c, .int (n + 1)])) := by
      apply Exists.intro
      have hc' : ∀ μ : Mem, (if a = 1 then if n + 1 ≤ 60 then Out.ok (.bl (decide (0 < b))) μ else .ok (.bl false) μ else .ok (.bl false) μ) = .ok (.bl false) μ := fun μ => by
        by_cases h1 : a = 1
        · by_cases h2 : n + 1 ≤ 60
          · rw [if_pos h1, if_pos h2, decide_eq_false (fun h3 => hc ⟨h1, h2, h3⟩)]
          · rw [if_pos h1, if_neg h2]
        · rw [if_neg h1]
      simp [mDraw, h, h2, ixN_lit, ha, fMod_ii, fMul_l, fMul_m, fDiv_ii, hm, hc']
      rfl
    obtain ⟨X, hX⟩ := key
    exact ⟨X % many, b, Int.emod_nonneg _ (by omega), Int.emod_lt_of_pos _ hm, hX⟩
def mPool : Sm :=
  seqAll [sIf (mOp fEq (mCB bLen (consAll [mVar 0])) (mC (.int 0)))
    (seqAll [sRet (mLst (consAll [mC (.int 0), mC (.int 0), mC (.int 0), mC (.int 0)]))])
    (seqAll []),
    sAsg (mCB bAbs (consAll [mOp fIx (mVar 0) (mOp fMod (mCB bInt (consAll [mVar 1])) (mCB bLen (consAll [mVar 0])))])) (gNm 2),
    sIf (mAndT (mOp fLt (mVar 1) (mCB bLen (consAll [mVar 0]))) (mOp fGe (mVar 2) (mOp fPow (mC (.int 10)) (mC (.int 18)))))
    (seqAll [sRet (mLst (consAll [mC (.int 1), mVar 2, mOp fMod (mCB bInt (consAll [mVar 2])) (mC (.int 2147483647)), mC (.int 0)]))])
    (seqAll []),
    sRet (mLst (consAll [mC (.int 2), mC (.int 0), mOp fMod (mCB bInt (consAll [mOp fAdd (mVar 2) (mOp fMulS (mC (.int 7919)) (mVar 1))])) (mC (.int 2147483647)), mC (.int 0)]))]
theorem atI_mod {ns : List Int} (h : ns ≠ []) (p : Int) : ∃ x, atI (ns.map D.int) (p % (ns.length : Int)) = some (.int x) := by
  have hl : 0 < ns.length := List.length_pos_iff.mpr h
  have h1 := Int.emod_nonneg p (show (ns.length : Int) ≠ 0 by omega)
  have h2 := Int.emod_lt_of_pos p (show (0 : Int) < (ns.length : Int) by omega)
  obtain ⟨k, hk⟩ := Int.eq_ofNat_of_zero_le h1
  rw [hk] at h2 ⊢
  have h3 : k < ns.length := by omega
  refine ⟨ns[k], ?_⟩
  rw [atI_ofNat, List.getElem?_map, List.getElem?_eq_getElem h3]
  rfl
theorem bLen_ro {μ : Mem} {s : Nat} {l : List D} (h : μ[s]? = some (.rol l)) : bLen [.ref s] μ = .ok (.int l.length) μ := by
  unfold bLen
  dsimp only
  rw [h]
  rfl
theorem bLen_l {μ : Mem} {s : Nat} {l : List D} (h : μ[s]? = some (.lst l)) : bLen [.ref s] μ = .ok (.int l.length) μ := by
  unfold bLen
  dsimp only
  rw [h]
  rfl
theorem pool_spec (C : CEnv) {μ : Mem} {s : Nat} {p : Int} {ns : List Int} (h : μ[s]? = some (.rol (ns.map .int))) :
    ∃ a b c : Int, finish (mPool C [some (.ref s), some (.int p), none] μ) = .ok (.ref μ.length) (μ ++ [.lst [.int a, .int b, .int c, .int 0]]) := by
  have hL := bLen_ro h
  by_cases h0 : ns = []
  · subst h0
    refine ⟨0, 0, 0, ?_⟩
    simp [mPool, hL, mkLst, sizeLine]
  have hl : 0 < ns.length := List.length_pos_iff.mpr h0
  obtain ⟨x, hx⟩ := atI_mod h0 p
  have hne : ¬ (ns.length : Int) = 0 := by omega
  have hlp : (0 : Int) < (ns.length : Int) := by omega
  simp only [List.length_map] at hL
  generalize hy : (if x < 0 then -x else x) = y
  by_cases h1 : p < ns.length ∧ 10 ^ 18 ≤ y
  · refine ⟨1, y, y % 2147483647, ?_⟩
    have h11 := h1.1
    have h12 : 1000000000000000000 ≤ y := h1.2
    simp [mPool, h, hL, h0, fMod_ii hlp, hx, fPow_ii, h11, hy, h12, fMod_ii, mkLst, sizeLine]
  · have hc' : ∀ μ : Mem, (if p < ns.length then Out.ok (.bl (decide (1000000000000000000 ≤ y))) μ else .ok (.bl false) μ) = .ok (.bl false) μ := fun μ => by
      by_cases h3 : p < ns.length
      · rw [if_pos h3, decide_eq_false (fun h4 : 1000000000000000000 ≤ y => h1 ⟨h3, h4⟩)]
      · rw [if_neg h3]
    refine ⟨2, 0, (y + 7919 * p) % 2147483647, ?_⟩
    simp [mPool, h, hL, h0, fMod_ii hlp, hx, fPow_ii, hy, fMod_ii, fMul_l, mkLst, sizeLine, hc']
end PL
set_option Elab.async false
set_option linter.all false
set_option maxRecDepth 100000
set_option maxHeartbeats 4000000
/-! PL2: the laws' own comparison. -/
namespace PL
open PySem L2 PM
def mSame (i : Nat) : Sm :=
  seqAll [sIf (mOp fIs (mVar 1) (mC .non))
    (seqAll [sRet (mOp fIs (mVar 0) (mC .non))])
    (seqAll []),
    sIf (mOp fIs (mVar 1) (mC (.bl true)))
    (seqAll [sRet (mOp fIs (mVar 0) (mC (.bl true)))])
    (seqAll []),
    sIf (mOp fIs (mVar 1) (mC (.bl false)))
    (seqAll [sRet (mOp fIs (mVar 0) (mC (.bl false)))])
    (seqAll []),
    sIf (mTru (mUn (fIsI "int") (mVar 1)))
    (seqAll [sRet (mAndV (mUn (fIsI "int") (mVar 0)) (mAndV (mNotV (mUn (fIsI "bool") (mVar 0))) (mOp fEq (mVar 0) (mVar 1))))])
    (seqAll []),
    sIf (mTru (mUn (fIsI "str") (mVar 1)))
    (seqAll [sRet (mAndV (mUn (fIsI "str") (mVar 0)) (mOp fEq (mVar 0) (mVar 1)))])
    (seqAll []),
    sIf (mTru (mUn (fIsI "dict") (mVar 1)))
    (seqAll [sIf (mOrT (mNot (mTru (mUn (fIsI "dict") (mVar 0)))) (mOp fNe (mCB bLen (consAll [mVar 0])) (mCB bLen (consAll [mVar 1]))))
    (seqAll [sRet (mC (.bl false))])
    (seqAll []),
    sFor (iVal (mVar 1)) (gNm 2)
    (seqAll [sIf (mOrT (mOp fNotIn (mVar 2) (mVar 0)) (mNot (mTru (mCall i (consAll [mOp fIx (mVar 0) (mVar 2), mOp fIx (mVar 1) (mVar 2)])))))
    (seqAll [sRet (mC (.bl false))])
    (seqAll [])]),
    sRet (mC (.bl true))])
    (seqAll []),
    sIf (mAndT (mTru (mUn (fIsI "list") (mVar 1))) (mNot (mTru (mUn (fIsI "list") (mVar 0)))))
    (seqAll [sRet (mC (.bl false))])
    (seqAll []),
    sIf (mAndT (mTru (mUn (fIsI "tuple") (mVar 1))) (mNot (mTru (mUn (fIsI "tuple") (mVar 0)))))
    (seqAll [sRet (mC (.bl false))])
    (seqAll []),
    sIf (mOp fNe (mCB bLen (consAll [mVar 0])) (mCB bLen (consAll [mVar 1])))
    (seqAll [sRet (mC (.bl false))])
    (seqAll []),
    sFor (iR itR1 (consAll [mCB bLen (consAll [mVar 1])])) (gNm 3)
    (seqAll [sIf (mNot (mTru (mCall i (consAll [mOp fIx (mVar 0) (mVar 3), mOp fIx (mVar 1) (mVar 3)]))))
    (seqAll [sRet (mC (.bl false))])
    (seqAll [])]),
    sRet (mC (.bl true))]
theorem kit_ii : kitB "int" "int" = some true := by decide +kernel
theorem kit_ib : kitB "int" "bool" = some false := by decide +kernel
section
variable {C : CEnv} {μ : Mem} {a b : Int}
@[simp] theorem isi_ii : fIsI "int" (.int a) μ = .ok (.bl true) μ := by
  unfold fIsI
  show ob ((some "int").bind fun t => kitB t "int") μ = _
  rw [Option.bind_some, kit_ii]
  rfl
@[simp] theorem isi_ib : fIsI "bool" (.int a) μ = .ok (.bl false) μ := by
  unfold fIsI
  show ob ((some "int").bind fun t => kitB t "bool") μ = _
  rw [Option.bind_some, kit_ib]
  rfl
@[simp] theorem is_it {k : Bool} : fIs (.int a) (.bl k) μ = .ok (.bl false) μ := Eq.trans rfl rfl
theorem same_int {i : Nat} : finish (mSame i C [some (.int a), some (.int b), none, none] μ) = .ok (.bl (decide (a = b))) μ := by
  simp [mSame]
theorem kit_li : kitB "list" "int" = some false := by decide +kernel
theorem kit_ls : kitB "list" "str" = some false := by decide +kernel
theorem kit_ld : kitB "list" "dict" = some false := by decide +kernel
theorem kit_ll : kitB "list" "list" = some true := by decide +kernel
theorem kit_lt : kitB "list" "tuple" = some false := by decide +kernel
theorem isi_l {n : Nat} {l : List D} {T : String} {r : Bool} (h : μ[n]? = some (.lst l)) (hk : kitB "list" T = some r) : fIsI T (.ref n) μ = .ok (.bl r) μ := by
  unfold fIsI
  have e : tyD μ (.ref n) = some "list" := by
    simp [tyD, h]
  rw [e, Option.bind_some, hk]
  rfl
@[simp] theorem is_rt {n : Nat} {k : Bool} : fIs (.ref n) (.bl k) μ = .ok (.bl false) μ := Eq.trans rfl rfl
def sameBody (i : Nat) : Sm := sIf (mNot (mTru (mCall i (mCons (mOp fIx (mVar 0) (mVar 3)) (mCons (mOp fIx (mVar 1) (mVar 3)) mNil))))) (sRet (mC (.bl false))) sNil
theorem same_step {i m n j : Nat} {l : List Int} (h1 : μ[m]? = some (.lst (l.map .int))) (h2 : μ[n]? = some (.lst (l.map .int))) (hC : ∀ x : Int, C i [.int x, .int x] μ = .ok (.bl true) μ) (hj : j < l.length) :
    sameBody i C [some (.ref m), some (.ref n), none, some (.int (j : Int))] μ = .nx [some (.ref m), some (.ref n), none, some (.int (j : Int))] μ := by
  simp [sameBody, h1, h2, atI_ofNat, hj, hC]
theorem same_it {n : Nat} {l : List Int} {ρ : PM.Loc} {d : Option D} (hl2 : bLen [.ref n] μ = .ok (.int (l.length : Int)) μ) (hz : l.length ≤ 1000000) (hr : ρ[1]? = some (some (.ref n))) : iR itR1 (mCons (mCB bLen (mCons (mVar 1) mNil)) mNil) C ρ μ = .ok (srcV (rngD 0 l.length)) l.length μ := by
  have e1 : itR1 [.int (l.length : Int)] μ = .ok (srcV (rngD 0 (l.length : Int))) (l.length : Int).toNat μ := it_r1 (by omega) (by omega)
  rw [Int.toNat_natCast] at e1
  rw [ei_r, ev_cons, ev_cb, ev_cons, ev_var, hr, getV_some, oc_ok, ev_nil, op_ok, os_ok, hl2, oc_ok, ev_nil, op_ok, ois_ok, e1]
theorem same_stp {i m n j : Nat} {l : List Int} {x : Option D} (h1 : μ[m]? = some (.lst (l.map .int))) (h2 : μ[n]? = some (.lst (l.map .int))) (hC : ∀ x : Int, C i [.int x, .int x] μ = .ok (.bl true) μ) (hj : j < l.length) :
   ∃ d, srcV (rngD 0 (l.length : Int)) j μ = some (some d) ∧ ∃ ρ1 μ1, gNm 3 C d [some (.ref m), some (.ref n), none, x] μ = .nx ρ1 μ1 ∧ ∃ ρ2 μ2, (sameBody i C ρ1 μ1 = .nx ρ2 μ2 ∨ sameBody i C ρ1 μ1 = .ct ρ2 μ2) ∧ ((∃ x, ρ2 = [some (.ref m), some (.ref n), none, x]) ∧ μ2 = μ) := by
  have hj' : j < (rngD 0 (l.length : Int)).length := by rw [rngD_len]; omega
  have e : srcV (rngD 0 (l.length : Int)) j μ = some (some (.int (j : Int))) := by rw [srcV_at hj', rngD_at hj', Int.zero_add]
  exact ⟨.int (j : Int), e, [some (.ref m), some (.ref n), none, some (.int (j : Int))], μ, rfl, _, _, .inl (same_step h1 h2 hC hj), ⟨_, rfl⟩, rfl⟩
theorem same_loop {i m n : Nat} {l : List Int} (h1 : μ[m]? = some (.lst (l.map .int))) (h2 : μ[n]? = some (.lst (l.map .int))) (hz : l.length ≤ 1000000) (hC : ∀ x : Int, C i [.int x, .int x] μ = .ok (.bl true) μ) :
    ∃ ρ', sFor (iR itR1 (mCons (mCB bLen (mCons (mVar 1) mNil)) mNil)) (gNm 3) (sameBody i) C [some (.ref m), some (.ref n), none, none] μ = .nx ρ' μ := by
  have hl2 := PL.bLen_l h2
  simp only [List.length_map] at hl2
  have key : ∃ ρ' μ', sFor (iR itR1 (mCons (mCB bLen (mCons (mVar 1) mNil)) mNil)) (gNm 3) (sameBody i) C [some (.ref m), some (.ref n), none, none] μ = .nx ρ' μ' ∧ ((∃ x, ρ' = [some (.ref m), some (.ref n), none, x]) ∧ μ' = μ) := by
    refine for_inv (s := srcV (rngD 0 l.length)) (N := l.length) (μ0 := μ) (fun i ρ μ' => (∃ x, ρ = [some (.ref m), some (.ref n), none, x]) ∧ μ' = μ) (same_it (d := none) hl2 hz rfl) ⟨⟨none, rfl⟩, rfl⟩ ?_ ?_
    · rintro j ρ μ' ⟨⟨x, rfl⟩, rfl⟩ hj
      exact same_stp h1 h2 hC hj
    · rintro ρ μ' _
      exact srcV_end (by rw [rngD_len]; omega)
  obtain ⟨ρ', μ', e, _, rfl⟩ := key
  exact ⟨ρ', e⟩
/-- two lists of the same ints -/
theorem same_ints {i m n : Nat} {l : List Int} (h1 : μ[m]? = some (.lst (l.map .int))) (h2 : μ[n]? = some (.lst (l.map .int))) (hz : l.length ≤ 1000000) (hC : ∀ x : Int, C i [.int x, .int x] μ = .ok (.bl true) μ) :
    finish (mSame i C [some (.ref m), some (.ref n), none, none] μ) = .ok (.bl true) μ := by
  have hl1 := PL.bLen_l h1
  have hl2 := PL.bLen_l h2
  have a1 := isi_l h2 kit_li
  have a2 := isi_l h2 kit_ls
  have a3 := isi_l h2 kit_ld
  have a4 := isi_l h2 kit_ll
  have a5 := isi_l h2 kit_lt
  have c4 := isi_l h1 kit_ll
  simp only [List.length_map] at hl1 hl2
  obtain ⟨ρ', e⟩ := same_loop h1 h2 hz hC
  unfold sameBody at e
  simp [mSame, a1, a2, a3, a4, a5, c4, hl1, hl2, e]
end
end PL
set_option Elab.async false
set_option linter.all false
set_option maxRecDepth 100000
set_option maxHeartbeats 4000000
/-! PL3: .. of texts, of none, of truth, of lists. -/
namespace PL
open PySem L2 PM
theorem kit_ss : kitB "str" "str" = some true := by decide +kernel
theorem kit_si : kitB "str" "int" = some false := by decide +kernel
theorem kit_sl : kitB "str" "list" = some false := by decide +kernel
section
variable {C : CEnv} {μ : Mem}
theorem isi_s {z : Str} {T : String} {r : Bool} (hk : kitB "str" T = some r) : fIsI T (.str z) μ = .ok (.bl r) μ := by
  unfold fIsI
  show ob ((some "str").bind fun t => kitB t T) μ = _
  rw [Option.bind_some, hk]
  rfl
theorem is_st {z : Str} {k : Bool} : fIs (.str z) (.bl k) μ = .ok (.bl false) μ := rfl
theorem same_str {i : Nat} {x y : Str} : finish (mSame i C [some (.str x), some (.str y), none, none] μ) = .ok (.bl (x == y)) μ := by
  have a1 := isi_s (μ := μ) (z := y) kit_si
  have a2 := isi_s (μ := μ) (z := y) kit_ss
  have a3 := isi_s (μ := μ) (z := x) kit_ss
  have b1 := is_st (μ := μ) (z := y) (k := true)
  have b2 := is_st (μ := μ) (z := y) (k := false)
  simp [mSame, a1, a2, a3, b1, b2]
theorem same_non {i : Nat} : finish (mSame i C [some .non, some .non, none, none] μ) = .ok (.bl true) μ := by
  simp [mSame]
theorem is_tt : fIs (.bl true) (.bl true) μ = .ok (.bl true) μ := rfl
theorem is_ff : fIs (.bl false) (.bl false) μ = .ok (.bl true) μ := rfl
theorem is_ft : fIs (.bl false) (.bl true) μ = .ok (.bl false) μ := rfl
theorem same_bl {i : Nat} {b : Bool} : finish (mSame i C [some (.bl b), some (.bl b), none, none] μ) = .ok (.bl true) μ := by
  cases b
  · simp [mSame, is_ff, is_ft]
  · simp [mSame, is_tt]
theorem sameL_step {i m n j : Nat} {l : List D} (h1 : μ[m]? = some (.lst l)) (h2 : μ[n]? = some (.lst l)) (hC : ∀ d ∈ l, C i [d, d] μ = .ok (.bl true) μ) (hj : j < l.length) :
    sameBody i C [some (.ref m), some (.ref n), none, some (.int (j : Int))] μ = .nx [some (.ref m), some (.ref n), none, some (.int (j : Int))] μ := by
  have hc := hC _ (List.getElem_mem hj)
  have i1 : fIx (.ref m) (.int (j : Int)) μ = .ok l[j] μ := by
    rw [fIx_ref, getL_eq, h1, lstO_lst, ixO_some, atI_ofNat, List.getElem?_eq_getElem hj, outV_some]
  have i2 : fIx (.ref n) (.int (j : Int)) μ = .ok l[j] μ := by
    rw [fIx_ref, getL_eq, h2, lstO_lst, ixO_some, atI_ofNat, List.getElem?_eq_getElem hj, outV_some]
  simp only [sameBody, es_if, es_nil, ev_not, ev_tru, ev_call, ev_cons, ev_nil, ev_op, ev_var, List.getElem?_cons_zero, List.getElem?_cons_succ, getV_some, ob_ok, oc_ok, op_ok, os_ok, i1, i2, hc, truO_bl, ifD_t, ifS_f]
theorem sameL_loop {i m n : Nat} {l : List D} (h1 : μ[m]? = some (.lst l)) (h2 : μ[n]? = some (.lst l)) (hz : l.length ≤ 1000000) (hC : ∀ d ∈ l, C i [d, d] μ = .ok (.bl true) μ) :
    ∃ ρ', sFor (iR itR1 (mCons (mCB bLen (mCons (mVar 1) mNil)) mNil)) (gNm 3) (sameBody i) C [some (.ref m), some (.ref n), none, none] μ = .nx ρ' μ := by
  have hl2 := PL.bLen_l h2
  have e1 : itR1 [.int (l.length : Int)] μ = .ok (srcV (rngD 0 (l.length : Int))) (l.length : Int).toNat μ := it_r1 (by omega) (by omega)
  rw [Int.toNat_natCast] at e1
  have hit : iR itR1 (mCons (mCB bLen (mCons (mVar 1) mNil)) mNil) C [some (.ref m), some (.ref n), none, none] μ = .ok (srcV (rngD 0 (l.length : Int))) l.length μ := by
    simp only [ei_r, ev_cons, ev_cb, ev_nil, ev_var, List.getElem?_cons_zero, List.getElem?_cons_succ, getV_some, oc_ok, op_ok, os_ok, ois_ok, hl2, e1]
  obtain ⟨ρ', μ', e, _, rfl⟩ := for_inv (C := C) (g := gNm 3) (b := sameBody i) (fun i ρ μ' => (∃ x, ρ = [some (.ref m), some (.ref n), none, x]) ∧ μ' = μ) hit ⟨⟨none, rfl⟩, rfl⟩ (fun j ρ μ' ⟨⟨x, e1⟩, e2⟩ hj => by
      subst e1 e2
      have hj' : j < (rngD 0 (l.length : Int)).length := by rw [rngD_len]; omega
      have e : srcV (rngD 0 (l.length : Int)) j μ' = some (some (.int (j : Int))) := by rw [srcV_at hj', rngD_at hj', Int.zero_add]
      exact ⟨.int (j : Int), e, [some (.ref m), some (.ref n), none, some (.int (j : Int))], μ', rfl, _, _, .inl (sameL_step h1 h2 hC hj), ⟨_, rfl⟩, rfl⟩)
    (fun ρ μ' _ => srcV_end (by rw [rngD_len]; omega))
  exact ⟨ρ', e⟩
/-- two lists of the same values -/
theorem same_list {i m n : Nat} {l : List D} (h1 : μ[m]? = some (.lst l)) (h2 : μ[n]? = some (.lst l)) (hz : l.length ≤ 1000000) (hC : ∀ d ∈ l, C i [d, d] μ = .ok (.bl true) μ) :
    finish (mSame i C [some (.ref m), some (.ref n), none, none] μ) = .ok (.bl true) μ := by
  have hl1 := PL.bLen_l h1
  have hl2 := PL.bLen_l h2
  have a1 := isi_l h2 kit_li
  have a2 := isi_l h2 kit_ls
  have a3 := isi_l h2 kit_ld
  have a4 := isi_l h2 kit_ll
  have a5 := isi_l h2 kit_lt
  have c4 := isi_l h1 kit_ll
  obtain ⟨ρ', e⟩ := sameL_loop h1 h2 hz hC
  unfold sameBody at e
  simp [mSame, a1, a2, a3, a4, a5, c4, hl1, hl2, e]
end
end PL
set_option Elab.async false
set_option linter.all false
set_option maxRecDepth 100000
set_option maxHeartbeats 4000000
namespace K02
open PySem PySem.Spec PyProof.Rows L2 PM
abbrev topS (i : Nat) : Stmt := PySem.Challenge.pw_onefabric_k02_words_names_numbers.main.body.getD i (.Pass ⟨0, 0, 0, 0⟩)
def c_MOST_DIGITS : D := .int 5
def c_DIGITS : D := .str "0123456789"
def c_LONGEST_NAME : D := .int 12
def c_LETTERS : D := .str "abcdefghijklmnopqrstuvwxyz"
def r0 : PM.Row := ⟨"words_of", topS 5, ["line", "word"], ["line"]⟩
def r1 : PM.Row := ⟨"number_of", topS 6, ["word", "char"], ["word"]⟩
def r2 : PM.Row := ⟨"is_name", topS 7, ["text", "char"], ["text"]⟩
def r3 : PM.Row := ⟨"_law_pool", topS 9, ["script", "place", "cell"], ["script", "place"]⟩
def r4 : PM.Row := ⟨"_law_draw", topS 10, ["pool", "many", "got", "x"], ["pool", "many"]⟩
def r5 : PM.Row := ⟨"_law_same", topS 11, ["told", "due", "name", "k"], ["told", "due"]⟩
def r6 : PM.Row := ⟨"_law_is_name", topS 12, ["text", "sign"], ["text"]⟩
def r7 : PM.Row := ⟨"_law_signs", topS 13, ["signs"], []⟩
def r8 : PM.Row := ⟨"_law_typed_line", topS 14, ["pool", "signs", "line", "k", "pick"], ["pool"]⟩
def r9 : PM.Row := ⟨"_law_typed_word", topS 15, ["pool", "most", "share", "usual", "signs", "word", "k"], ["pool", "most", "share", "usual"]⟩
def r10 : PM.Row := ⟨"_law_cut_at_spaces", topS 16, ["line", "words", "word", "sign"], ["line"]⟩
def r11 : PM.Row := ⟨"_law_number_due", topS 17, ["word", "total", "sign", "figure"], ["word"]⟩
def r12 : PM.Row := ⟨"law", topS 18, ["script", "pool", "line", "words", "told", "others", "k", "word"], ["script"]⟩
def rows : List PM.Row := [r0, r1, r2, r3, r4, r5, r6, r7, r8, r9, r10, r11, r12]
def kwe : List KwE := []
def con : List (Str × D) := [("MOST_DIGITS", c_MOST_DIGITS), ("DIGITS", c_DIGITS), ("LONGEST_NAME", c_LONGEST_NAME), ("LETTERS", c_LETTERS)]
def blt : List Str := ["len", "int", "abs", "isinstance", "bool", "str", "dict", "list", "tuple", "range"]
def sg : Sig := sgOf (rows.map fun r => (r.nm, r.ps)) kwe con blt []
/-- words_of -/
def m0 : Sm :=
  seqAll [sRet (mLc (iVal (mS1 fSplit (mVar 0) (mC (.str " ")))) (.nm 1) (some (mOp fNe (mVar 1) (mC (.str "")))) (mVar 1) [1])]
/-- number_of -/
def m1 : Sm :=
  seqAll [sIf (mNot (mChain fLe fLe (mC (.int 1)) (mCB bLen (consAll [mVar 0])) (mC c_MOST_DIGITS)))
    (seqAll [sRet (mC .non)])
    (seqAll []),
    sFor (iVal (mVar 0)) (gNm 1)
    (seqAll [sIf (mOp fNotIn (mVar 1) (mC c_DIGITS))
    (seqAll [sRet (mC .non)])
    (seqAll [])]),
    sIf (mAndT (mOp fEq (mOp fIx (mVar 0) (mC (.int 0))) (mC (.str "0"))) (mOp fGt (mCB bLen (consAll [mVar 0])) (mC (.int 1))))
    (seqAll [sRet (mC .non)])
    (seqAll []),
    sRet (mCB bInt (consAll [mVar 0]))]
/-- is_name -/
def m2 : Sm :=
  seqAll [sIf (mNot (mChain fLe fLe (mC (.int 1)) (mCB bLen (consAll [mVar 0])) (mC c_LONGEST_NAME)))
    (seqAll [sRet (mC (.bl false))])
    (seqAll []),
    sFor (iVal (mVar 0)) (gNm 1)
    (seqAll [sIf (mAndT (mOp fNotIn (mVar 1) (mC c_LETTERS)) (mOp fNotIn (mVar 1) (mC c_DIGITS)))
    (seqAll [sRet (mC (.bl false))])
    (seqAll [])]),
    sRet (mOp fIn (mOp fIx (mVar 0) (mC (.int 0))) (mC c_LETTERS))]
/-- _law_pool -/
def m3 : Sm :=
  seqAll [sIf (mOp fEq (mCB bLen (consAll [mVar 0])) (mC (.int 0)))
    (seqAll [sRet (mLst (consAll [mC (.int 0), mC (.int 0), mC (.int 0), mC (.int 0)]))])
    (seqAll []),
    sAsg (mCB bAbs (consAll [mOp fIx (mVar 0) (mOp fMod (mCB bInt (consAll [mVar 1])) (mCB bLen (consAll [mVar 0])))])) (gNm 2),
    sIf (mAndT (mOp fLt (mVar 1) (mCB bLen (consAll [mVar 0]))) (mOp fGe (mVar 2) (mOp fPow (mC (.int 10)) (mC (.int 18)))))
    (seqAll [sRet (mLst (consAll [mC (.int 1), mVar 2, mOp fMod (mCB bInt (consAll [mVar 2])) (mC (.int 2147483647)), mC (.int 0)]))])
    (seqAll []),
    sRet (mLst (consAll [mC (.int 2), mC (.int 0), mOp fMod (mCB bInt (consAll [mOp fAdd (mVar 2) (mOp fMulS (mC (.int 7919)) (mVar 1))])) (mC (.int 2147483647)), mC (.int 0)]))]
/-- _law_draw -/
def m4 : Sm :=
  seqAll [sAsg (mOp fAdd (mOp fIx (mVar 0) (mC (.int 3))) (mC (.int 1))) (gSb (mVar 0) (mC (.int 3))),
    sIf (mOp fEq (mOp fIx (mVar 0) (mC (.int 0))) (mC (.int 0)))
    (seqAll [sRet (mC (.int 0))])
    (seqAll []),
    sIf (mAndT (mOp fEq (mOp fIx (mVar 0) (mC (.int 0))) (mC (.int 1))) (mAndT (mOp fLe (mOp fIx (mVar 0) (mC (.int 3))) (mC (.int 60))) (mOp fGt (mOp fIx (mVar 0) (mC (.int 1))) (mC (.int 0)))))
    (seqAll [sAsg (mOp fMod (mCB bInt (consAll [mOp fIx (mVar 0) (mC (.int 1))])) (mVar 1)) (gNm 2),
    sAsg (mOp fDiv (mOp fIx (mVar 0) (mC (.int 1))) (mVar 1)) (gSb (mVar 0) (mC (.int 1))),
    sRet (mVar 2)])
    (seqAll []),
    sAsg (mOp fMod (mCB bInt (consAll [mOp fAdd (mOp fAdd (mOp fIx (mVar 0) (mC (.int 2))) (mOp fMulS (mC (.int 40503)) (mOp fIx (mVar 0) (mC (.int 3))))) (mC (.int 17))])) (mC (.int 2147483647))) (gNm 3),
    sAsg (mOp fMod (mCB bInt (consAll [mOp fAdd (mOp fAdd (mOp fMulS (mVar 3) (mVar 3)) (mOp fMulS (mC (.int 69621)) (mOp fIx (mVar 0) (mC (.int 3))))) (mC (.int 5))])) (mC (.int 2147483629))) (gNm 3),
    sAsg (mOp fMod (mCB bInt (consAll [mOp fAdd (mOp fAdd (mOp fMulS (mVar 3) (mVar 3)) (mC (.int 48271))) (mOp fIx (mVar 0) (mC (.int 2)))])) (mC (.int 2147483647))) (gNm 3),
    sRet (mOp fMod (mCB bInt (consAll [mOp fDiv (mVar 3) (mC (.int 8))])) (mVar 1))]
/-- _law_same -/
def m5 : Sm :=
  seqAll [sIf (mOp fIs (mVar 1) (mC .non))
    (seqAll [sRet (mOp fIs (mVar 0) (mC .non))])
    (seqAll []),
    sIf (mOp fIs (mVar 1) (mC (.bl true)))
    (seqAll [sRet (mOp fIs (mVar 0) (mC (.bl true)))])
    (seqAll []),
    sIf (mOp fIs (mVar 1) (mC (.bl false)))
    (seqAll [sRet (mOp fIs (mVar 0) (mC (.bl false)))])
    (seqAll []),
    sIf (mTru (mUn (fIsI "int") (mVar 1)))
    (seqAll [sRet (mAndV (mUn (fIsI "int") (mVar 0)) (mAndV (mNotV (mUn (fIsI "bool") (mVar 0))) (mOp fEq (mVar 0) (mVar 1))))])
    (seqAll []),
    sIf (mTru (mUn (fIsI "str") (mVar 1)))
    (seqAll [sRet (mAndV (mUn (fIsI "str") (mVar 0)) (mOp fEq (mVar 0) (mVar 1)))])
    (seqAll []),
    sIf (mTru (mUn (fIsI "dict") (mVar 1)))
    (seqAll [sIf (mOrT (mNot (mTru (mUn (fIsI "dict") (mVar 0)))) (mOp fNe (mCB bLen (consAll [mVar 0])) (mCB bLen (consAll [mVar 1]))))
    (seqAll [sRet (mC (.bl false))])
    (seqAll []),
    sFor (iVal (mVar 1)) (gNm 2)
    (seqAll [sIf (mOrT (mOp fNotIn (mVar 2) (mVar 0)) (mNot (mTru (mCall 5 (consAll [mOp fIx (mVar 0) (mVar 2), mOp fIx (mVar 1) (mVar 2)])))))
    (seqAll [sRet (mC (.bl false))])
    (seqAll [])]),
    sRet (mC (.bl true))])
    (seqAll []),
    sIf (mAndT (mTru (mUn (fIsI "list") (mVar 1))) (mNot (mTru (mUn (fIsI "list") (mVar 0)))))
    (seqAll [sRet (mC (.bl false))])
    (seqAll []),
    sIf (mAndT (mTru (mUn (fIsI "tuple") (mVar 1))) (mNot (mTru (mUn (fIsI "tuple") (mVar 0)))))
    (seqAll [sRet (mC (.bl false))])
    (seqAll []),
    sIf (mOp fNe (mCB bLen (consAll [mVar 0])) (mCB bLen (consAll [mVar 1])))
    (seqAll [sRet (mC (.bl false))])
    (seqAll []),
    sFor (iR itR1 (consAll [mCB bLen (consAll [mVar 1])])) (gNm 3)
    (seqAll [sIf (mNot (mTru (mCall 5 (consAll [mOp fIx (mVar 0) (mVar 3), mOp fIx (mVar 1) (mVar 3)]))))
    (seqAll [sRet (mC (.bl false))])
    (seqAll [])]),
    sRet (mC (.bl true))]
/-- _law_is_name -/
def m6 : Sm :=
  seqAll [sIf (mOrT (mOp fEq (mCB bLen (consAll [mVar 0])) (mC (.int 0))) (mOrT (mOp fGt (mCB bLen (consAll [mVar 0])) (mC (.int 12))) (mOp fNotIn (mOp fIx (mVar 0) (mC (.int 0))) (mC (.str "abcdefghijklmnopqrstuvwxyz")))))
    (seqAll [sRet (mC (.bl false))])
    (seqAll []),
    sFor (iVal (mVar 0)) (gNm 1)
    (seqAll [sIf (mOp fNotIn (mVar 1) (mC (.str "abcdefghijklmnopqrstuvwxyz0123456789")))
    (seqAll [sRet (mC (.bl false))])
    (seqAll [])]),
    sRet (mC (.bl true))]
/-- _law_signs -/
def m7 : Sm :=
  seqAll [sAsg (mC (.str " !\"#$&'()*+,-./0123456789:;<=>?@ABCDEFGHIJKLMNOPQRSTUVWXYZ[\\]^_`")) (gNm 0),
    sRet (mOp fAdd (mVar 0) (mC (.str "abcdefghijklmnopqrstuvwxyz{|}~\n")))]
/-- _law_typed_line -/
def m8 : Sm :=
  seqAll [sAsg (mCall 7 mNil) (gNm 1),
    sAsg (mC (.str "")) (gNm 2),
    sFor (iR itR1 (consAll [mCall 4 (consAll [mVar 0, mC (.int 41)])])) (gNm 3)
    (seqAll [sAsg (mCall 4 (consAll [mVar 0, mC (.int 141)])) (gNm 4),
    sIf (mOp fLt (mVar 4) (mC (.int 94)))
    (seqAll [sAsg (mOp fAdd (mVar 2) (mOp fIx (mVar 1) (mVar 4))) (gNm 2)])
    (seqAll [sAsg (mOp fAdd (mVar 2) (mC (.str " "))) (gNm 2)])]),
    sRet (mVar 2)]
/-- _law_typed_word -/
def m9 : Sm :=
  seqAll [sAsg (mCall 7 mNil) (gNm 4),
    sAsg (mC (.str "")) (gNm 5),
    sFor (iR itR1 (consAll [mCall 4 (consAll [mVar 0, mOp fAdd (mVar 1) (mC (.int 1))])])) (gNm 6)
    (seqAll [sIf (mOp fEq (mCall 4 (consAll [mVar 0, mVar 2])) (mC (.int 1)))
    (seqAll [sAsg (mOp fAdd (mVar 5) (mOp fIx (mVar 4) (mCall 4 (consAll [mVar 0, mC (.int 95)])))) (gNm 5)])
    (seqAll [sAsg (mOp fAdd (mVar 5) (mOp fIx (mVar 3) (mCall 4 (consAll [mVar 0, mCB bLen (consAll [mVar 3])])))) (gNm 5)])]),
    sRet (mVar 5)]
/-- _law_cut_at_spaces -/
def m10 : Sm :=
  seqAll [sAsg (mLst (consAll [])) (gNm 1),
    sAsg (mC (.str "")) (gNm 2),
    sFor (iVal (mVar 0)) (gNm 3)
    (seqAll [sIf (mOp fNe (mVar 3) (mC (.str " ")))
    (seqAll [sAsg (mOp fAdd (mVar 2) (mVar 3)) (gNm 2)])
    (seqAll [sIf (mOp fNe (mVar 2) (mC (.str "")))
    (seqAll [sExpr (mBM isLst kAppend (mVar 1) (consAll [mVar 2])),
    sAsg (mC (.str "")) (gNm 2)])
    (seqAll [])])]),
    sIf (mOp fNe (mVar 2) (mC (.str "")))
    (seqAll [sExpr (mBM isLst kAppend (mVar 1) (consAll [mVar 2]))])
    (seqAll []),
    sRet (mVar 1)]
/-- _law_number_due -/
def m11 : Sm :=
  seqAll [sIf (mOrT (mOp fLt (mCB bLen (consAll [mVar 0])) (mC (.int 1))) (mOp fGt (mCB bLen (consAll [mVar 0])) (mC (.int 5))))
    (seqAll [sRet (mC .non)])
    (seqAll []),
    sAsg (mC (.int 0)) (gNm 1),
    sFor (iVal (mVar 0)) (gNm 2)
    (seqAll [sAsg (mS1 fFind (mC (.str "0123456789")) (mVar 2)) (gNm 3),
    sIf (mOp fLt (mVar 3) (mC (.int 0)))
    (seqAll [sRet (mC .non)])
    (seqAll []),
    sAsg (mOp fAdd (mOp fMulS (mC (.int 10)) (mVar 1)) (mVar 3)) (gNm 1)]),
    sIf (mAndT (mOp fEq (mOp fIx (mVar 0) (mC (.int 0))) (mC (.str "0"))) (mOp fGt (mCB bLen (consAll [mVar 0])) (mC (.int 1))))
    (seqAll [sRet (mC .non)])
    (seqAll []),
    sRet (mVar 1)]
/-- law -/
def m12 : Sm :=
  seqAll [sAsg (mCall 3 (consAll [mVar 0, mC (.int 0)])) (gNm 1),
    sAsg (mCall 8 (consAll [mVar 1])) (gNm 2),
    sIf (mOp fEq (mCall 4 (consAll [mVar 1, mC (.int 16)])) (mC (.int 15)))
    (seqAll [sAsg (mOp fMulS (mVar 2) (mOp fAdd (mC (.int 2)) (mCall 4 (consAll [mVar 1, mC (.int 50)])))) (gNm 2)])
    (seqAll []),
    sAsg (mCall 10 (consAll [mVar 2])) (gNm 3),
    sAsg (mCall 0 (consAll [mVar 2])) (gNm 4),
    sIf (mNot (mTru (mCall 5 (consAll [mVar 4, mVar 3]))))
    (seqAll [sRet (mC (.bl false))])
    (seqAll []),
    sExpr (mBM isLst kAppend (mVar 4) (consAll [mC (.str "0")])),
    sIf (mNot (mTru (mCall 5 (consAll [mCall 0 (consAll [mVar 2]), mVar 3]))))
    (seqAll [sRet (mC (.bl false))])
    (seqAll []),
    sAsg (mLst (consAll [mC (.str "0"), mC (.str "00"), mC (.str "9"), mC (.str "99999"), mC (.str "100000"), mC (.str "")])) (gNm 5),
    sAsg (mCall 3 (consAll [mVar 0, mC (.int 1)])) (gNm 1),
    sFor (iR itR1 (consAll [mC (.int 3)])) (gNm 6)
    (seqAll [sExpr (mBM isLst kAppend (mVar 5) (consAll [mCall 9 (consAll [mVar 1, mC (.int 7), mC (.int 12), mC (.str "0123456789")])]))]),
    sAsg (mCall 3 (consAll [mVar 0, mC (.int 2)])) (gNm 1),
    sFor (iR itR1 (consAll [mC (.int 2)])) (gNm 6)
    (seqAll [sExpr (mBM isLst kAppend (mVar 5) (consAll [mCall 9 (consAll [mVar 1, mC (.int 14), mC (.int 16), mC (.str "abcdefghijklmnopqrstuvwxyz0123456789")])]))]),
    sFor (iVal (mOp fAdd (mVar 3) (mVar 5))) (gNm 7)
    (seqAll [sIf (mNot (mTru (mCall 5 (consAll [mCall 1 (consAll [mVar 7]), mCall 11 (consAll [mVar 7])]))))
    (seqAll [sRet (mC (.bl false))])
    (seqAll []),
    sIf (mNot (mTru (mCall 5 (consAll [mCall 2 (consAll [mVar 7]), mCall 6 (consAll [mVar 7])]))))
    (seqAll [sRet (mC (.bl false))])
    (seqAll [])]),
    sRet (mC (.bl true))]
theorem b0 : m0 = trB ⟨sg, r0.N, defScope r0.st, true⟩ 100 (defBody r0.st) := by kernel_rfl
theorem b1 : m1 = trB ⟨sg, r1.N, defScope r1.st, true⟩ 100 (defBody r1.st) := by kernel_rfl
theorem b2 : m2 = trB ⟨sg, r2.N, defScope r2.st, true⟩ 100 (defBody r2.st) := by kernel_rfl
theorem b3 : m3 = trB ⟨sg, r3.N, defScope r3.st, true⟩ 100 (defBody r3.st) := by kernel_rfl
theorem b4 : m4 = trB ⟨sg, r4.N, defScope r4.st, true⟩ 100 (defBody r4.st) := by kernel_rfl
theorem b5 : m5 = trB ⟨sg, r5.N, defScope r5.st, true⟩ 100 (defBody r5.st) := by kernel_rfl
theorem b6 : m6 = trB ⟨sg, r6.N, defScope r6.st, true⟩ 100 (defBody r6.st) := by kernel_rfl
theorem b7 : m7 = trB ⟨sg, r7.N, defScope r7.st, true⟩ 100 (defBody r7.st) := by kernel_rfl
theorem b8 : m8 = trB ⟨sg, r8.N, defScope r8.st, true⟩ 100 (defBody r8.st) := by kernel_rfl
theorem b9 : m9 = trB ⟨sg, r9.N, defScope r9.st, true⟩ 100 (defBody r9.st) := by kernel_rfl
theorem b10 : m10 = trB ⟨sg, r10.N, defScope r10.st, true⟩ 100 (defBody r10.st) := by kernel_rfl
theorem b11 : m11 = trB ⟨sg, r11.N, defScope r11.st, true⟩ 100 (defBody r11.st) := by kernel_rfl
theorem b12 : m12 = trB ⟨sg, r12.N, defScope r12.st, true⟩ 100 (defBody r12.st) := by kernel_rfl
def dfs : List DefM := [⟨1, 2, m0⟩, ⟨1, 2, m1⟩, ⟨1, 2, m2⟩, ⟨2, 3, m3⟩, ⟨2, 4, m4⟩, ⟨2, 4, m5⟩, ⟨1, 2, m6⟩, ⟨0, 1, m7⟩, ⟨1, 5, m8⟩, ⟨4, 7, m9⟩, ⟨1, 4, m10⟩, ⟨1, 4, m11⟩, ⟨1, 8, m12⟩]
def tab : Tab := ⟨sg, fun i => dfs.getD i ⟨0, 0, sBad⟩⟩
theorem s0 : FnScope r0.N r0.ps (defScope r0.st) := ⟨rfl, rfl, rfl, by decide +kernel, rfl, by decide +kernel, by decide +kernel⟩
theorem o0 : RowOk tab r0 := ⟨s0, m0, by kernel_rfl, b0⟩
theorem s1 : FnScope r1.N r1.ps (defScope r1.st) := ⟨rfl, rfl, rfl, by decide +kernel, rfl, by decide +kernel, by decide +kernel⟩
theorem o1 : RowOk tab r1 := ⟨s1, m1, by kernel_rfl, b1⟩
theorem s2 : FnScope r2.N r2.ps (defScope r2.st) := ⟨rfl, rfl, rfl, by decide +kernel, rfl, by decide +kernel, by decide +kernel⟩
theorem o2 : RowOk tab r2 := ⟨s2, m2, by kernel_rfl, b2⟩
theorem s3 : FnScope r3.N r3.ps (defScope r3.st) := ⟨rfl, rfl, rfl, by decide +kernel, rfl, by decide +kernel, by decide +kernel⟩
theorem o3 : RowOk tab r3 := ⟨s3, m3, by kernel_rfl, b3⟩
theorem s4 : FnScope r4.N r4.ps (defScope r4.st) := ⟨rfl, rfl, rfl, by decide +kernel, rfl, by decide +kernel, by decide +kernel⟩
theorem o4 : RowOk tab r4 := ⟨s4, m4, by kernel_rfl, b4⟩
theorem s5 : FnScope r5.N r5.ps (defScope r5.st) := ⟨rfl, rfl, rfl, by decide +kernel, rfl, by decide +kernel, by decide +kernel⟩
theorem o5 : RowOk tab r5 := ⟨s5, m5, by kernel_rfl, b5⟩
theorem s6 : FnScope r6.N r6.ps (defScope r6.st) := ⟨rfl, rfl, rfl, by decide +kernel, rfl, by decide +kernel, by decide +kernel⟩
theorem o6 : RowOk tab r6 := ⟨s6, m6, by kernel_rfl, b6⟩
theorem s7 : FnScope r7.N r7.ps (defScope r7.st) := ⟨rfl, rfl, rfl, by decide +kernel, rfl, by decide +kernel, by decide +kernel⟩
theorem o7 : RowOk tab r7 := ⟨s7, m7, by kernel_rfl, b7⟩
theorem s8 : FnScope r8.N r8.ps (defScope r8.st) := ⟨rfl, rfl, rfl, by decide +kernel, rfl, by decide +kernel, by decide +kernel⟩
theorem o8 : RowOk tab r8 := ⟨s8, m8, by kernel_rfl, b8⟩
theorem s9 : FnScope r9.N r9.ps (defScope r9.st) := ⟨rfl, rfl, rfl, by decide +kernel, rfl, by decide +kernel, by decide +kernel⟩
theorem o9 : RowOk tab r9 := ⟨s9, m9, by kernel_rfl, b9⟩
theorem s10 : FnScope r10.N r10.ps (defScope r10.st) := ⟨rfl, rfl, rfl, by decide +kernel, rfl, by decide +kernel, by decide +kernel⟩
theorem o10 : RowOk tab r10 := ⟨s10, m10, by kernel_rfl, b10⟩
theorem s11 : FnScope r11.N r11.ps (defScope r11.st) := ⟨rfl, rfl, rfl, by decide +kernel, rfl, by decide +kernel, by decide +kernel⟩
theorem o11 : RowOk tab r11 := ⟨s11, m11, by kernel_rfl, b11⟩
theorem s12 : FnScope r12.N r12.ps (defScope r12.st) := ⟨rfl, rfl, rfl, by decide +kernel, rfl, by decide +kernel, by decide +kernel⟩
theorem o12 : RowOk tab r12 := ⟨s12, m12, by kernel_rfl, b12⟩
theorem ok_rows : AllQ (RowOk tab) rows := ⟨o0, o1, o2, o3, o4, o5, o6, o7, o8, o9, o10, o11, o12, trivial⟩
theorem ok_kwp : AllQ (fun e : KwE => tab.sg.ps e.nm = some e.ps) kwe := trivial
section
theorem k0 {K : PySem.W.Frag} {f : Addr} {oc dc pm cd ct : Value} {od an : Option Addr} {osl : Array (Option Value)} {kV : Value} (a : PySem.W.nsIn K mainGlobals "words_of" = some (some (.ref f))) (l : K.lookup f = some ⟨oc, od, .func (PySem.W.fnOf "words_of" "words_of" (defArgs (topS 5)) (defBody (topS 5)) (defScope (topS 5)) .none kV dc pm an cd ct), osl⟩) (c : PySem.W.codeIn K cd "words_of" = true) (kp : PySem.W.keepIn K (.ref f) = true) : RowK K [] r0 f := by
  have F := funD_mk (st := topS 5) (dvs := []) (kws := []) l c kp (.inl ⟨rfl, rfl⟩) (.inl rfl)
  have R : RowK K [] r0 f := ⟨a, _, _, _, F, fun _ => F.bindsN (ps := ["line"]) fun _ _ _ _ _ _ us hl => match us, hl with | [_], _ => rfl⟩
  exact R
end
section
theorem k1 {K : PySem.W.Frag} {f : Addr} {oc dc pm cd ct : Value} {od an : Option Addr} {osl : Array (Option Value)} {kV : Value} (a : PySem.W.nsIn K mainGlobals "number_of" = some (some (.ref f))) (l : K.lookup f = some ⟨oc, od, .func (PySem.W.fnOf "number_of" "number_of" (defArgs (topS 6)) (defBody (topS 6)) (defScope (topS 6)) .none kV dc pm an cd ct), osl⟩) (c : PySem.W.codeIn K cd "number_of" = true) (kp : PySem.W.keepIn K (.ref f) = true) : RowK K [] r1 f := by
  have F := funD_mk (st := topS 6) (dvs := []) (kws := []) l c kp (.inl ⟨rfl, rfl⟩) (.inl rfl)
  have R : RowK K [] r1 f := ⟨a, _, _, _, F, fun _ => F.bindsN (ps := ["word"]) fun _ _ _ _ _ _ us hl => match us, hl with | [_], _ => rfl⟩
  exact R
end
section
theorem k2 {K : PySem.W.Frag} {f : Addr} {oc dc pm cd ct : Value} {od an : Option Addr} {osl : Array (Option Value)} {kV : Value} (a : PySem.W.nsIn K mainGlobals "is_name" = some (some (.ref f))) (l : K.lookup f = some ⟨oc, od, .func (PySem.W.fnOf "is_name" "is_name" (defArgs (topS 7)) (defBody (topS 7)) (defScope (topS 7)) .none kV dc pm an cd ct), osl⟩) (c : PySem.W.codeIn K cd "is_name" = true) (kp : PySem.W.keepIn K (.ref f) = true) : RowK K [] r2 f := by
  have F := funD_mk (st := topS 7) (dvs := []) (kws := []) l c kp (.inl ⟨rfl, rfl⟩) (.inl rfl)
  have R : RowK K [] r2 f := ⟨a, _, _, _, F, fun _ => F.bindsN (ps := ["text"]) fun _ _ _ _ _ _ us hl => match us, hl with | [_], _ => rfl⟩
  exact R
end
section
theorem k3 {K : PySem.W.Frag} {f : Addr} {oc dc pm cd ct : Value} {od an : Option Addr} {osl : Array (Option Value)} {kV : Value} (a : PySem.W.nsIn K mainGlobals "_law_pool" = some (some (.ref f))) (l : K.lookup f = some ⟨oc, od, .func (PySem.W.fnOf "_law_pool" "_law_pool" (defArgs (topS 9)) (defBody (topS 9)) (defScope (topS 9)) .none kV dc pm an cd ct), osl⟩) (c : PySem.W.codeIn K cd "_law_pool" = true) (kp : PySem.W.keepIn K (.ref f) = true) : RowK K [] r3 f := by
  have F := funD_mk (st := topS 9) (dvs := []) (kws := []) l c kp (.inl ⟨rfl, rfl⟩) (.inl rfl)
  have R : RowK K [] r3 f := ⟨a, _, _, _, F, fun _ => F.bindsN (ps := ["script", "place"]) fun _ _ _ _ _ _ us hl => match us, hl with | [_, _], _ => rfl⟩
  exact R
end
section
theorem k4 {K : PySem.W.Frag} {f : Addr} {oc dc pm cd ct : Value} {od an : Option Addr} {osl : Array (Option Value)} {kV : Value} (a : PySem.W.nsIn K mainGlobals "_law_draw" = some (some (.ref f))) (l : K.lookup f = some ⟨oc, od, .func (PySem.W.fnOf "_law_draw" "_law_draw" (defArgs (topS 10)) (defBody (topS 10)) (defScope (topS 10)) .none kV dc pm an cd ct), osl⟩) (c : PySem.W.codeIn K cd "_law_draw" = true) (kp : PySem.W.keepIn K (.ref f) = true) : RowK K [] r4 f := by
  have F := funD_mk (st := topS 10) (dvs := []) (kws := []) l c kp (.inl ⟨rfl, rfl⟩) (.inl rfl)
  have R : RowK K [] r4 f := ⟨a, _, _, _, F, fun _ => F.bindsN (ps := ["pool", "many"]) fun _ _ _ _ _ _ us hl => match us, hl with | [_, _], _ => rfl⟩
  exact R
end
section
theorem k5 {K : PySem.W.Frag} {f : Addr} {oc dc pm cd ct : Value} {od an : Option Addr} {osl : Array (Option Value)} {kV : Value} (a : PySem.W.nsIn K mainGlobals "_law_same" = some (some (.ref f))) (l : K.lookup f = some ⟨oc, od, .func (PySem.W.fnOf "_law_same" "_law_same" (defArgs (topS 11)) (defBody (topS 11)) (defScope (topS 11)) .none kV dc pm an cd ct), osl⟩) (c : PySem.W.codeIn K cd "_law_same" = true) (kp : PySem.W.keepIn K (.ref f) = true) : RowK K [] r5 f := by
  have F := funD_mk (st := topS 11) (dvs := []) (kws := []) l c kp (.inl ⟨rfl, rfl⟩) (.inl rfl)
  have R : RowK K [] r5 f := ⟨a, _, _, _, F, fun _ => F.bindsN (ps := ["told", "due"]) fun _ _ _ _ _ _ us hl => match us, hl with | [_, _], _ => rfl⟩
  exact R
end
section
theorem k6 {K : PySem.W.Frag} {f : Addr} {oc dc pm cd ct : Value} {od an : Option Addr} {osl : Array (Option Value)} {kV : Value} (a : PySem.W.nsIn K mainGlobals "_law_is_name" = some (some (.ref f))) (l : K.lookup f = some ⟨oc, od, .func (PySem.W.fnOf "_law_is_name" "_law_is_name" (defArgs (topS 12)) (defBody (topS 12)) (defScope (topS 12)) .none kV dc pm an cd ct), osl⟩) (c : PySem.W.codeIn K cd "_law_is_name" = true) (kp : PySem.W.keepIn K (.ref f) = true) : RowK K [] r6 f := by
  have F := funD_mk (st := topS 12) (dvs := []) (kws := []) l c kp (.inl ⟨rfl, rfl⟩) (.inl rfl)
  have R : RowK K [] r6 f := ⟨a, _, _, _, F, fun _ => F.bindsN (ps := ["text"]) fun _ _ _ _ _ _ us hl => match us, hl with | [_], _ => rfl⟩
  exact R
end
section
theorem k7 {K : PySem.W.Frag} {f : Addr} {oc dc pm cd ct : Value} {od an : Option Addr} {osl : Array (Option Value)} {kV : Value} (a : PySem.W.nsIn K mainGlobals "_law_signs" = some (some (.ref f))) (l : K.lookup f = some ⟨oc, od, .func (PySem.W.fnOf "_law_signs" "_law_signs" (defArgs (topS 13)) (defBody (topS 13)) (defScope (topS 13)) .none kV dc pm an cd ct), osl⟩) (c : PySem.W.codeIn K cd "_law_signs" = true) (kp : PySem.W.keepIn K (.ref f) = true) : RowK K [] r7 f := by
  have F := funD_mk (st := topS 13) (dvs := []) (kws := []) l c kp (.inl ⟨rfl, rfl⟩) (.inl rfl)
  have R : RowK K [] r7 f := ⟨a, _, _, _, F, fun _ => F.bindsN (ps := []) fun _ _ _ _ _ _ us hl => match us, hl with | [], _ => rfl⟩
  exact R
end
section
theorem k8 {K : PySem.W.Frag} {f : Addr} {oc dc pm cd ct : Value} {od an : Option Addr} {osl : Array (Option Value)} {kV : Value} (a : PySem.W.nsIn K mainGlobals "_law_typed_line" = some (some (.ref f))) (l : K.lookup f = some ⟨oc, od, .func (PySem.W.fnOf "_law_typed_line" "_law_typed_line" (defArgs (topS 14)) (defBody (topS 14)) (defScope (topS 14)) .none kV dc pm an cd ct), osl⟩) (c : PySem.W.codeIn K cd "_law_typed_line" = true) (kp : PySem.W.keepIn K (.ref f) = true) : RowK K [] r8 f := by
  have F := funD_mk (st := topS 14) (dvs := []) (kws := []) l c kp (.inl ⟨rfl, rfl⟩) (.inl rfl)
  have R : RowK K [] r8 f := ⟨a, _, _, _, F, fun _ => F.bindsN (ps := ["pool"]) fun _ _ _ _ _ _ us hl => match us, hl with | [_], _ => rfl⟩
  exact R
end
section
theorem k9 {K : PySem.W.Frag} {f : Addr} {oc dc pm cd ct : Value} {od an : Option Addr} {osl : Array (Option Value)} {kV : Value} (a : PySem.W.nsIn K mainGlobals "_law_typed_word" = some (some (.ref f))) (l : K.lookup f = some ⟨oc, od, .func (PySem.W.fnOf "_law_typed_word" "_law_typed_word" (defArgs (topS 15)) (defBody (topS 15)) (defScope (topS 15)) .none kV dc pm an cd ct), osl⟩) (c : PySem.W.codeIn K cd "_law_typed_word" = true) (kp : PySem.W.keepIn K (.ref f) = true) : RowK K [] r9 f := by
  have F := funD_mk (st := topS 15) (dvs := []) (kws := []) l c kp (.inl ⟨rfl, rfl⟩) (.inl rfl)
  have R : RowK K [] r9 f := ⟨a, _, _, _, F, fun _ => F.bindsN (ps := ["pool", "most", "share", "usual"]) fun _ _ _ _ _ _ us hl => match us, hl with | [_, _, _, _], _ => rfl⟩
  exact R
end
section
theorem k10 {K : PySem.W.Frag} {f : Addr} {oc dc pm cd ct : Value} {od an : Option Addr} {osl : Array (Option Value)} {kV : Value} (a : PySem.W.nsIn K mainGlobals "_law_cut_at_spaces" = some (some (.ref f))) (l : K.lookup f = some ⟨oc, od, .func (PySem.W.fnOf "_law_cut_at_spaces" "_law_cut_at_spaces" (defArgs (topS 16)) (defBody (topS 16)) (defScope (topS 16)) .none kV dc pm an cd ct), osl⟩) (c : PySem.W.codeIn K cd "_law_cut_at_spaces" = true) (kp : PySem.W.keepIn K (.ref f) = true) : RowK K [] r10 f := by
  have F := funD_mk (st := topS 16) (dvs := []) (kws := []) l c kp (.inl ⟨rfl, rfl⟩) (.inl rfl)
  have R : RowK K [] r10 f := ⟨a, _, _, _, F, fun _ => F.bindsN (ps := ["line"]) fun _ _ _ _ _ _ us hl => match us, hl with | [_], _ => rfl⟩
  exact R
end
section
theorem k11 {K : PySem.W.Frag} {f : Addr} {oc dc pm cd ct : Value} {od an : Option Addr} {osl : Array (Option Value)} {kV : Value} (a : PySem.W.nsIn K mainGlobals "_law_number_due" = some (some (.ref f))) (l : K.lookup f = some ⟨oc, od, .func (PySem.W.fnOf "_law_number_due" "_law_number_due" (defArgs (topS 17)) (defBody (topS 17)) (defScope (topS 17)) .none kV dc pm an cd ct), osl⟩) (c : PySem.W.codeIn K cd "_law_number_due" = true) (kp : PySem.W.keepIn K (.ref f) = true) : RowK K [] r11 f := by
  have F := funD_mk (st := topS 17) (dvs := []) (kws := []) l c kp (.inl ⟨rfl, rfl⟩) (.inl rfl)
  have R : RowK K [] r11 f := ⟨a, _, _, _, F, fun _ => F.bindsN (ps := ["word"]) fun _ _ _ _ _ _ us hl => match us, hl with | [_], _ => rfl⟩
  exact R
end
section
theorem k12 {K : PySem.W.Frag} {f : Addr} {oc dc pm cd ct : Value} {od an : Option Addr} {osl : Array (Option Value)} {kV : Value} (a : PySem.W.nsIn K mainGlobals "law" = some (some (.ref f))) (l : K.lookup f = some ⟨oc, od, .func (PySem.W.fnOf "law" "law" (defArgs (topS 18)) (defBody (topS 18)) (defScope (topS 18)) .none kV dc pm an cd ct), osl⟩) (c : PySem.W.codeIn K cd "law" = true) (kp : PySem.W.keepIn K (.ref f) = true) : RowK K [] r12 f ∧ LawK K f := by
  have F := funD_mk (st := topS 18) (dvs := []) (kws := []) l c kp (.inl ⟨rfl, rfl⟩) (.inl rfl)
  have R : RowK K [] r12 f := ⟨a, _, _, _, F, fun _ => F.bindsN (ps := ["script"]) fun _ _ _ _ _ _ us hl => match us, hl with | [_], _ => rfl⟩
  have L : LawK K f := ⟨a, _, _, _, _, l, fun s v => .of_eq rfl⟩
  exact ⟨R, L⟩
end
theorem kc_MOST_DIGITS {K : PySem.W.Frag} {u : Value} (a : PySem.W.nsIn K mainGlobals "MOST_DIGITS" = some (some u)) (r : RelV (.int 5) u) : ConK K ("MOST_DIGITS", c_MOST_DIGITS) := ⟨u, _, a, r, fun H ι => by simp [c_MOST_DIGITS, RepD]⟩
theorem kc_DIGITS {K : PySem.W.Frag} {u : Value} (a : PySem.W.nsIn K mainGlobals "DIGITS" = some (some u)) (r : RelV (.str "0123456789") u) : ConK K ("DIGITS", c_DIGITS) := ⟨u, _, a, r, fun H ι => by simp [c_DIGITS, RepD]⟩
theorem kc_LONGEST_NAME {K : PySem.W.Frag} {u : Value} (a : PySem.W.nsIn K mainGlobals "LONGEST_NAME" = some (some u)) (r : RelV (.int 12) u) : ConK K ("LONGEST_NAME", c_LONGEST_NAME) := ⟨u, _, a, r, fun H ι => by simp [c_LONGEST_NAME, RepD]⟩
theorem kc_LETTERS {K : PySem.W.Frag} {u : Value} (a : PySem.W.nsIn K mainGlobals "LETTERS" = some (some u)) (r : RelV (.str "abcdefghijklmnopqrstuvwxyz") u) : ConK K ("LETTERS", c_LETTERS) := ⟨u, _, a, r, fun H ι => by simp [c_LETTERS, RepD]⟩
/-! the end -/
theorem law_tab {l : PySem.W.OpenLaw} {w : World} {K : PySem.W.Frag} {h : Heap} {mg : Str → Option Value} {fa : Addr} {kk : Nat} (X : K.In h) (G : h.Ns mainGlobals mg) (hfa : mg "law" = some (.ref fa))
    (h2 : AllQ (fun r => ∃ f, RowK K [] r f) rows) (h3 : AllQ (KwK K) kwe) (h4 : AllQ (ConK K) con) (z0 : PySem.W.nsIn K mainGlobals "len" = some none) (z1 : PySem.W.nsIn K mainGlobals "int" = some none) (z2 : PySem.W.nsIn K mainGlobals "abs" = some none) (z3 : PySem.W.nsIn K mainGlobals "isinstance" = some none) (z4 : PySem.W.nsIn K mainGlobals "bool" = some none) (z5 : PySem.W.nsIn K mainGlobals "str" = some none) (z6 : PySem.W.nsIn K mainGlobals "dict" = some none) (z7 : PySem.W.nsIn K mainGlobals "list" = some none) (z8 : PySem.W.nsIn K mainGlobals "tuple" = some none) (z9 : PySem.W.nsIn K mainGlobals "range" = some none)
    (hL : ∃ f, LawK K f) (hl : ∀ ns : List Int, ns.length ≤ 63 → ∃ μ, callN tab kk 12 [.ref 0] [.rol (ns.map .int)] = .ok (.bl true) μ) :
    ∃ fd : FuncData, (∀ (s : Shared) (v : Value), BindsTo s fd ⟨[v], []⟩ [("script", v)]) ∧ ∀ base : Heap, K.In base → base.Ns mainGlobals mg → FnOk l.prog w K mg base (L2.CX l.prog w) kk fa fd ["script"] (spLaw K 63) :=
  law_end (blt := blt) rfl ok_rows X G h2 h3 ok_kwp h4 ⟨z0, z1, z2, z3, z4, z5, z6, z7, z8, z9, trivial⟩ (by kernel_rfl) (by kernel_rfl) hl hfa hL
theorem all_mk {l : PySem.W.OpenLaw} {w : World} {K : PySem.W.Frag} {h : Heap} {mg : Str → Option Value} {fa : Addr} {kk : Nat} (X : K.In h) (G : h.Ns mainGlobals mg) (hfa : mg "law" = some (.ref fa))
    {f_0 : Addr} {oc_0 dc_0 pm_0 cd_0 ct_0 : Value} {od_0 an_0 : Option Addr} {osl_0 : Array (Option Value)} {kV_0 : Value} (a_0 : PySem.W.nsIn K mainGlobals "words_of" = some (some (.ref f_0))) (l_0 : K.lookup f_0 = some ⟨oc_0, od_0, .func (PySem.W.fnOf "words_of" "words_of" (defArgs (topS 5)) (defBody (topS 5)) (defScope (topS 5)) .none kV_0 dc_0 pm_0 an_0 cd_0 ct_0), osl_0⟩) (c_0 : PySem.W.codeIn K cd_0 "words_of" = true) (kp_0 : PySem.W.keepIn K (.ref f_0) = true)
    {f_1 : Addr} {oc_1 dc_1 pm_1 cd_1 ct_1 : Value} {od_1 an_1 : Option Addr} {osl_1 : Array (Option Value)} {kV_1 : Value} (a_1 : PySem.W.nsIn K mainGlobals "number_of" = some (some (.ref f_1))) (l_1 : K.lookup f_1 = some ⟨oc_1, od_1, .func (PySem.W.fnOf "number_of" "number_of" (defArgs (topS 6)) (defBody (topS 6)) (defScope (topS 6)) .none kV_1 dc_1 pm_1 an_1 cd_1 ct_1), osl_1⟩) (c_1 : PySem.W.codeIn K cd_1 "number_of" = true) (kp_1 : PySem.W.keepIn K (.ref f_1) = true)
    {f_2 : Addr} {oc_2 dc_2 pm_2 cd_2 ct_2 : Value} {od_2 an_2 : Option Addr} {osl_2 : Array (Option Value)} {kV_2 : Value} (a_2 : PySem.W.nsIn K mainGlobals "is_name" = some (some (.ref f_2))) (l_2 : K.lookup f_2 = some ⟨oc_2, od_2, .func (PySem.W.fnOf "is_name" "is_name" (defArgs (topS 7)) (defBody (topS 7)) (defScope (topS 7)) .none kV_2 dc_2 pm_2 an_2 cd_2 ct_2), osl_2⟩) (c_2 : PySem.W.codeIn K cd_2 "is_name" = true) (kp_2 : PySem.W.keepIn K (.ref f_2) = true)
    {f_3 : Addr} {oc_3 dc_3 pm_3 cd_3 ct_3 : Value} {od_3 an_3 : Option Addr} {osl_3 : Array (Option Value)} {kV_3 : Value} (a_3 : PySem.W.nsIn K mainGlobals "_law_pool" = some (some (.ref f_3))) (l_3 : K.lookup f_3 = some ⟨oc_3, od_3, .func (PySem.W.fnOf "_law_pool" "_law_pool" (defArgs (topS 9)) (defBody (topS 9)) (defScope (topS 9)) .none kV_3 dc_3 pm_3 an_3 cd_3 ct_3), osl_3⟩) (c_3 : PySem.W.codeIn K cd_3 "_law_pool" = true) (kp_3 : PySem.W.keepIn K (.ref f_3) = true)
    {f_4 : Addr} {oc_4 dc_4 pm_4 cd_4 ct_4 : Value} {od_4 an_4 : Option Addr} {osl_4 : Array (Option Value)} {kV_4 : Value} (a_4 : PySem.W.nsIn K mainGlobals "_law_draw" = some (some (.ref f_4))) (l_4 : K.lookup f_4 = some ⟨oc_4, od_4, .func (PySem.W.fnOf "_law_draw" "_law_draw" (defArgs (topS 10)) (defBody (topS 10)) (defScope (topS 10)) .none kV_4 dc_4 pm_4 an_4 cd_4 ct_4), osl_4⟩) (c_4 : PySem.W.codeIn K cd_4 "_law_draw" = true) (kp_4 : PySem.W.keepIn K (.ref f_4) = true)
    {f_5 : Addr} {oc_5 dc_5 pm_5 cd_5 ct_5 : Value} {od_5 an_5 : Option Addr} {osl_5 : Array (Option Value)} {kV_5 : Value} (a_5 : PySem.W.nsIn K mainGlobals "_law_same" = some (some (.ref f_5))) (l_5 : K.lookup f_5 = some ⟨oc_5, od_5, .func (PySem.W.fnOf "_law_same" "_law_same" (defArgs (topS 11)) (defBody (topS 11)) (defScope (topS 11)) .none kV_5 dc_5 pm_5 an_5 cd_5 ct_5), osl_5⟩) (c_5 : PySem.W.codeIn K cd_5 "_law_same" = true) (kp_5 : PySem.W.keepIn K (.ref f_5) = true)
    {f_6 : Addr} {oc_6 dc_6 pm_6 cd_6 ct_6 : Value} {od_6 an_6 : Option Addr} {osl_6 : Array (Option Value)} {kV_6 : Value} (a_6 : PySem.W.nsIn K mainGlobals "_law_is_name" = some (some (.ref f_6))) (l_6 : K.lookup f_6 = some ⟨oc_6, od_6, .func (PySem.W.fnOf "_law_is_name" "_law_is_name" (defArgs (topS 12)) (defBody (topS 12)) (defScope (topS 12)) .none kV_6 dc_6 pm_6 an_6 cd_6 ct_6), osl_6⟩) (c_6 : PySem.W.codeIn K cd_6 "_law_is_name" = true) (kp_6 : PySem.W.keepIn K (.ref f_6) = true)
    {f_7 : Addr} {oc_7 dc_7 pm_7 cd_7 ct_7 : Value} {od_7 an_7 : Option Addr} {osl_7 : Array (Option Value)} {kV_7 : Value} (a_7 : PySem.W.nsIn K mainGlobals "_law_signs" = some (some (.ref f_7))) (l_7 : K.lookup f_7 = some ⟨oc_7, od_7, .func (PySem.W.fnOf "_law_signs" "_law_signs" (defArgs (topS 13)) (defBody (topS 13)) (defScope (topS 13)) .none kV_7 dc_7 pm_7 an_7 cd_7 ct_7), osl_7⟩) (c_7 : PySem.W.codeIn K cd_7 "_law_signs" = true) (kp_7 : PySem.W.keepIn K (.ref f_7) = true)
    {f_8 : Addr} {oc_8 dc_8 pm_8 cd_8 ct_8 : Value} {od_8 an_8 : Option Addr} {osl_8 : Array (Option Value)} {kV_8 : Value} (a_8 : PySem.W.nsIn K mainGlobals "_law_typed_line" = some (some (.ref f_8))) (l_8 : K.lookup f_8 = some ⟨oc_8, od_8, .func (PySem.W.fnOf "_law_typed_line" "_law_typed_line" (defArgs (topS 14)) (defBody (topS 14)) (defScope (topS 14)) .none kV_8 dc_8 pm_8 an_8 cd_8 ct_8), osl_8⟩) (c_8 : PySem.W.codeIn K cd_8 "_law_typed_line" = true) (kp_8 : PySem.W.keepIn K (.ref f_8) = true)
    {f_9 : Addr} {oc_9 dc_9 pm_9 cd_9 ct_9 : Value} {od_9 an_9 : Option Addr} {osl_9 : Array (Option Value)} {kV_9 : Value} (a_9 : PySem.W.nsIn K mainGlobals "_law_typed_word" = some (some (.ref f_9))) (l_9 : K.lookup f_9 = some ⟨oc_9, od_9, .func (PySem.W.fnOf "_law_typed_word" "_law_typed_word" (defArgs (topS 15)) (defBody (topS 15)) (defScope (topS 15)) .none kV_9 dc_9 pm_9 an_9 cd_9 ct_9), osl_9⟩) (c_9 : PySem.W.codeIn K cd_9 "_law_typed_word" = true) (kp_9 : PySem.W.keepIn K (.ref f_9) = true)
    {f_10 : Addr} {oc_10 dc_10 pm_10 cd_10 ct_10 : Value} {od_10 an_10 : Option Addr} {osl_10 : Array (Option Value)} {kV_10 : Value} (a_10 : PySem.W.nsIn K mainGlobals "_law_cut_at_spaces" = some (some (.ref f_10))) (l_10 : K.lookup f_10 = some ⟨oc_10, od_10, .func (PySem.W.fnOf "_law_cut_at_spaces" "_law_cut_at_spaces" (defArgs (topS 16)) (defBody (topS 16)) (defScope (topS 16)) .none kV_10 dc_10 pm_10 an_10 cd_10 ct_10), osl_10⟩) (c_10 : PySem.W.codeIn K cd_10 "_law_cut_at_spaces" = true) (kp_10 : PySem.W.keepIn K (.ref f_10) = true)
    {f_11 : Addr} {oc_11 dc_11 pm_11 cd_11 ct_11 : Value} {od_11 an_11 : Option Addr} {osl_11 : Array (Option Value)} {kV_11 : Value} (a_11 : PySem.W.nsIn K mainGlobals "_law_number_due" = some (some (.ref f_11))) (l_11 : K.lookup f_11 = some ⟨oc_11, od_11, .func (PySem.W.fnOf "_law_number_due" "_law_number_due" (defArgs (topS 17)) (defBody (topS 17)) (defScope (topS 17)) .none kV_11 dc_11 pm_11 an_11 cd_11 ct_11), osl_11⟩) (c_11 : PySem.W.codeIn K cd_11 "_law_number_due" = true) (kp_11 : PySem.W.keepIn K (.ref f_11) = true)
    {f_12 : Addr} {oc_12 dc_12 pm_12 cd_12 ct_12 : Value} {od_12 an_12 : Option Addr} {osl_12 : Array (Option Value)} {kV_12 : Value} (a_12 : PySem.W.nsIn K mainGlobals "law" = some (some (.ref f_12))) (l_12 : K.lookup f_12 = some ⟨oc_12, od_12, .func (PySem.W.fnOf "law" "law" (defArgs (topS 18)) (defBody (topS 18)) (defScope (topS 18)) .none kV_12 dc_12 pm_12 an_12 cd_12 ct_12), osl_12⟩) (c_12 : PySem.W.codeIn K cd_12 "law" = true) (kp_12 : PySem.W.keepIn K (.ref f_12) = true)
    {u_MOST_DIGITS : Value} (ca_MOST_DIGITS : PySem.W.nsIn K mainGlobals "MOST_DIGITS" = some (some u_MOST_DIGITS)) (cr_MOST_DIGITS : RelV (.int 5) u_MOST_DIGITS)
    {u_DIGITS : Value} (ca_DIGITS : PySem.W.nsIn K mainGlobals "DIGITS" = some (some u_DIGITS)) (cr_DIGITS : RelV (.str "0123456789") u_DIGITS)
    {u_LONGEST_NAME : Value} (ca_LONGEST_NAME : PySem.W.nsIn K mainGlobals "LONGEST_NAME" = some (some u_LONGEST_NAME)) (cr_LONGEST_NAME : RelV (.int 12) u_LONGEST_NAME)
    {u_LETTERS : Value} (ca_LETTERS : PySem.W.nsIn K mainGlobals "LETTERS" = some (some u_LETTERS)) (cr_LETTERS : RelV (.str "abcdefghijklmnopqrstuvwxyz") u_LETTERS)
    (z0 : PySem.W.nsIn K mainGlobals "len" = some none) (z1 : PySem.W.nsIn K mainGlobals "int" = some none) (z2 : PySem.W.nsIn K mainGlobals "abs" = some none) (z3 : PySem.W.nsIn K mainGlobals "isinstance" = some none) (z4 : PySem.W.nsIn K mainGlobals "bool" = some none) (z5 : PySem.W.nsIn K mainGlobals "str" = some none) (z6 : PySem.W.nsIn K mainGlobals "dict" = some none) (z7 : PySem.W.nsIn K mainGlobals "list" = some none) (z8 : PySem.W.nsIn K mainGlobals "tuple" = some none) (z9 : PySem.W.nsIn K mainGlobals "range" = some none)
    (hl : ∀ ns : List Int, ns.length ≤ 63 → ∃ μ, callN tab kk 12 [.ref 0] [.rol (ns.map .int)] = .ok (.bl true) μ) :
    ∃ fd : FuncData, (∀ (s : Shared) (v : Value), BindsTo s fd ⟨[v], []⟩ [("script", v)]) ∧ ∀ base : Heap, K.In base → base.Ns mainGlobals mg → FnOk l.prog w K mg base (L2.CX l.prog w) kk fa fd ["script"] (spLaw K 63) :=
  law_tab X G hfa ⟨⟨_, (k0 a_0 l_0 c_0 kp_0)⟩, ⟨_, (k1 a_1 l_1 c_1 kp_1)⟩, ⟨_, (k2 a_2 l_2 c_2 kp_2)⟩, ⟨_, (k3 a_3 l_3 c_3 kp_3)⟩, ⟨_, (k4 a_4 l_4 c_4 kp_4)⟩, ⟨_, (k5 a_5 l_5 c_5 kp_5)⟩, ⟨_, (k6 a_6 l_6 c_6 kp_6)⟩, ⟨_, (k7 a_7 l_7 c_7 kp_7)⟩, ⟨_, (k8 a_8 l_8 c_8 kp_8)⟩, ⟨_, (k9 a_9 l_9 c_9 kp_9)⟩, ⟨_, (k10 a_10 l_10 c_10 kp_10)⟩, ⟨_, (k11 a_11 l_11 c_11 kp_11)⟩, ⟨_, (k12 a_12 l_12 c_12 kp_12).1⟩, trivial⟩ trivial ⟨kc_MOST_DIGITS ca_MOST_DIGITS cr_MOST_DIGITS, kc_DIGITS ca_DIGITS cr_DIGITS, kc_LONGEST_NAME ca_LONGEST_NAME cr_LONGEST_NAME, kc_LETTERS ca_LETTERS cr_LETTERS, trivial⟩ z0 z1 z2 z3 z4 z5 z6 z7 z8 z9 ⟨_, (k12 a_12 l_12 c_12 kp_12).2⟩ hl
end K02
set_option Elab.async false
set_option linter.all false
/-! K02M: words, plainly. -/
namespace K02
open PySem PySem.Builtin PySem.Builtin.Str SX
/-- the words of a line, sign by sign -/
def cutG : List Nat → List Nat → List (List Nat)
  | w, [] => if w = [] then [] else [w]
  | w, c :: r => if c = 32 then (if w = [] then cutG [] r else w :: cutG [] r) else cutG (w ++ [c]) r
theorem spl_cut : ∀ (a w : List Nat), (TL.spl [32] 0 w a).filter (fun x => !decide (x = [])) = cutG w a
  | [], w => by
    unfold TL.spl cutG
    by_cases h : w = [] <;> simp [h]
  | c :: r, w => by
    unfold TL.spl cutG
    by_cases hc : c = 32
    · subst hc
      have hp : TL.pre [32] (32 :: r) = true := by simp [TL.pre]
      rw [if_pos hp, if_pos rfl, List.filter_cons]
      have ih := spl_cut r []
      by_cases h : w = []
      · simp only [h, decide_true, Bool.not_true, if_true]
        exact ih
      · simp only [h, decide_false, Bool.not_false, if_true, if_false]
        exact congrArg (w :: ·) ih
    · have hp : ¬ TL.pre [32] (c :: r) = true := by simp [TL.pre]; exact hc
      rw [if_neg hp, if_neg hc]
      exact spl_cut r (w ++ [c])
/-- figures -/
def dig (c : Nat) : Bool := decide (48 ≤ c) && decide (c ≤ 57)
def low (c : Nat) : Bool := decide (97 ≤ c) && decide (c ≤ 122)
def figL : List Nat := [48, 49, 50, 51, 52, 53, 54, 55, 56, 57]
def lowL : List Nat := [97, 98, 99, 100, 101, 102, 103, 104, 105, 106, 107, 108, 109, 110, 111, 112, 113, 114, 115, 116, 117, 118, 119, 120, 121, 122]
theorem mem_fig {c : Nat} : decide (c ∈ figL) = dig c := by
  by_cases h : c < 128
  · revert c
    decide
  · have h1 : ¬ c ∈ figL := fun m => h (by simp [figL] at m; omega)
    have h2 : dig c = false := by simp [dig]; omega
    rw [decide_eq_false h1, h2]
theorem mem_low {c : Nat} : decide (c ∈ lowL) = low c := by
  by_cases h : c < 128
  · revert c
    decide
  · have h1 : ¬ c ∈ lowL := fun m => h (by simp [lowL] at m; omega)
    have h2 : low c = false := by simp [low]; omega
    rw [decide_eq_false h1, h2]
theorem mem_both {c : Nat} : decide (c ∈ lowL ++ figL) = (low c || dig c) := by
  rw [← mem_fig, ← mem_low]
  by_cases h1 : c ∈ lowL <;> by_cases h2 : c ∈ figL <;> simp [h1, h2]
theorem str_fig : (Str.ofString "0123456789") = S figL := by decide +kernel
theorem str_low : (Str.ofString "abcdefghijklmnopqrstuvwxyz") = S lowL := by decide +kernel
theorem str_both : (Str.ofString "abcdefghijklmnopqrstuvwxyz0123456789") = S (lowL ++ figL) := by decide +kernel
theorem find_fig {c : Nat} : Txt.find (S figL) (S [c]) = if dig c = true then ((c - 48 : Nat) : Int) else -1 := by
  by_cases h : dig c = true
  · rw [if_pos h]
    simp [dig] at h
    obtain ⟨h1, h2⟩ := h
    have : c = 48 ∨ c = 49 ∨ c = 50 ∨ c = 51 ∨ c = 52 ∨ c = 53 ∨ c = 54 ∨ c = 55 ∨ c = 56 ∨ c = 57 := by omega
    rcases this with rfl | rfl | rfl | rfl | rfl | rfl | rfl | rfl | rfl | rfl <;> decide +kernel
  · rw [if_neg h]
    have e := in_one figL c
    rw [mem_fig] at e
    have hd : dig c = false := by simpa using h
    rw [hd] at e
    unfold Txt.find
    cases ho : occurrences (S figL) (S [c]) 0 (S figL).length 1 with
    | nil => rfl
    | cons i r => rw [ho] at e; cases e
end K02
set_option Elab.async false
set_option linter.all false
set_option maxRecDepth 100000
set_option maxHeartbeats 4000000
namespace K02
open PySem PM PL L2 SX
variable {k : Nat} {μ : Mem} {a : List Nat}
def fuel : Nat := 200
/-- the signs of a text, each a text -/
def sg1 (a : List Nat) : List D := a.map fun c => .str (S [c])
theorem it_str : itV (.str (S a)) μ = .ok (srcV (sg1 a)) a.length μ := by
  show Ito.ok (srcV ((S a).cps.toList.map fun c => D.str ⟨#[c]⟩)) (S a).cps.toList.length μ = _
  simp [sg1]
theorem sg1_len : (sg1 a).length = a.length := by simp [sg1]
theorem src_sg1 {i : Nat} (h : i < a.length) : srcV (sg1 a) i μ = some (some (.str (S [a[i]]))) := by
  rw [srcV_at (by rw [sg1_len]; exact h)]
  simp [sg1]
theorem end_sg1 : srcV (sg1 a) a.length μ = some none := srcV_end sg1_len
theorem len_S (h : a.length ≤ 10000) : bLen [.str (S a)] μ = .ok (.int a.length) μ := by
  unfold bLen
  dsimp only
  rw [S_len, if_pos (by rw [sizeLine_eq]; omega)]
  rfl
theorem notin_S {b : List Nat} {c : Nat} : fNotIn (.str (S [c])) (.str (S b)) μ = .ok (.bl (!decide (c ∈ b))) μ := by
  unfold fNotIn dIn
  show ob (some (!(!(Builtin.Str.occurrences (S b) (S [c]) 0 (S b).length 1).isEmpty))) μ = _
  rw [in_one]
  rfl
theorem in_S {b : List Nat} {c : Nat} : fIn (.str (S [c])) (.str (S b)) μ = .ok (.bl (decide (c ∈ b))) μ := by
  unfold fIn dIn
  show ob (some (!(Builtin.Str.occurrences (S b) (S [c]) 0 (S b).length 1).isEmpty)) μ = _
  rw [in_one]
  rfl
theorem ix0_S {c : Nat} (h : (c :: a).length ≤ 10000) : fIx (.str (S (c :: a))) (.int 0) μ = .ok (.str (S [c])) μ := by
  unfold fIx
  dsimp only
  rw [S_len, if_pos (by rw [sizeLine_eq]; omega)]
  rw [show atI (S (c :: a)).cps.toList 0 = some c from L2.atI_nat (j := 0) rfl]
/-- what a number word is worth -/
def numD (a : List Nat) : D := if 1 ≤ a.length ∧ a.length ≤ 5 ∧ a.all dig = true ∧ ¬ (a.head? = some 48 ∧ 1 < a.length) then .int ((PySem.NumText.digitsVal a : Nat) : Int) else .non

theorem str_0 : (Str.ofString "0") = S [48] := by decide +kernel
theorem eq_S {x y : List Nat} : fEq (.str (S x)) (.str (S y)) μ = .ok (.bl (decide (x = y))) μ := by
  rw [fEq_ss, S_beq_eq]
theorem ne_S {x y : List Nat} : fNe (.str (S x)) (.str (S y)) μ = .ok (.bl (!decide (x = y))) μ := by
  unfold fNe dEq
  show ob (some (!(S x == S y))) μ = _
  rw [S_beq_eq]
  rfl
theorem all_take {p : Nat → Bool} {i : Nat} (h : (a.take i).all p = true) (hi : i < a.length) (hp : p a[i] = true) : (a.take (i + 1)).all p = true := by
  rw [← List.take_append_getElem hi, List.all_append, h]
  simp [hp]
theorem all_not {p : Nat → Bool} {i : Nat} (hi : i < a.length) (hp : p a[i] = false) : a.all p = false := by
  rw [List.all_eq_false]
  exact ⟨a[i], List.getElem_mem hi, by simp [hp]⟩
theorem c_numof (hl : a.length ≤ 10000) : callN tab (k + 1) 1 [.str (S a)] μ = .ok (numD a) μ := by
  show finish (m1 (callN tab k) [some (.str (S a)), none] μ) = _
  have hlen := len_S (μ := μ) hl
  have c5 : c_MOST_DIGITS = .int 5 := rfl
  by_cases hr : 1 ≤ a.length ∧ a.length ≤ 5
  · obtain ⟨h1, h2⟩ := hr
    obtain ⟨c, r, rfl⟩ : ∃ c r, a = c :: r := by
      cases a with
      | nil => simp at h1
      | cons c r => exact ⟨c, r, rfl⟩
    have i1 : (1 : Int) ≤ ((c :: r).length : Int) := by omega
    have i2 : ((c :: r).length : Int) ≤ 5 := by omega
    have hd : c_DIGITS = .str (S figL) := by
      show D.str (Str.ofString "0123456789") = _
      rw [str_fig]
    have key := for_inv3 (C := callN tab k) (it := iVal (mVar 0)) (g := gNm 1) (b := sIf (mOp fNotIn (mVar 1) (mC c_DIGITS)) (sRet (mC .non)) sNil) (ρ := [some (.str (S (c :: r))), none]) (μ := μ) (μ0 := μ) (s := srcV (sg1 (c :: r))) (N := (c :: r).length)
      (fun i ρ μ' => (∃ x, ρ = [some (.str (S (c :: r))), x]) ∧ μ' = μ ∧ ((c :: r).take i).all dig = true) (fun v μ' => v = .non ∧ μ' = μ ∧ (c :: r).all dig = false)
      (by
        simp only [ei_val, ev_var, List.getElem?_cons_zero, getV_some, oi_ok]
        exact it_str) ⟨⟨_, rfl⟩, rfl, rfl⟩
      (fun i ρ μ' ⟨⟨x, e1⟩, e2, h3⟩ hi => by
        subst e1 e2
        refine ⟨_, src_sg1 hi, [some (.str (S (c :: r))), some (.str (S [(c :: r)[i]]))], μ', rfl, ?_⟩
        have hn : fNotIn (.str (S [(c :: r)[i]])) c_DIGITS μ' = .ok (.bl (!dig (c :: r)[i])) μ' := by rw [hd, notin_S, mem_fig]
        cases hdg : dig (c :: r)[i] with
        | true =>
          rw [hdg] at hn
          refine .inl ⟨[some (.str (S (c :: r))), some (.str (S [(c :: r)[i]]))], μ', .inl ?_, ⟨_, rfl⟩, rfl, all_take h3 hi hdg⟩
          simp only [es_if, es_nil, ev_op, ev_var, ev_c, List.getElem?_cons_zero, List.getElem?_cons_succ, getV_some, ob_ok, hn, Bool.not_true, ifS_f]
        | false =>
          rw [hdg] at hn
          refine .inr ⟨.non, μ', ?_, rfl, rfl, all_not hi hdg⟩
          simp only [es_if, es_ret, ev_op, ev_var, ev_c, List.getElem?_cons_zero, List.getElem?_cons_succ, getV_some, ob_ok, hn, Bool.not_false, ifS_t, ot_ok])
      (fun ρ μ' _ => end_sg1)
    rcases key with ⟨ρ', μ', e, ⟨x, rfl⟩, rfl, hall⟩ | ⟨v, μ', e, rfl, rfl, hall⟩
    · rw [List.take_length] at hall
      have hix := ix0_S (μ := μ') (a := r) (c := c) hl
      have h0 : fEq (.str (S [c])) (.str (Str.ofString "0")) μ' = .ok (.bl (decide ([c] = [48]))) μ' := by rw [str_0, eq_S]
      have hint : bInt [.str (S (c :: r))] μ' = .ok (.int ((PySem.NumText.digitsVal (c :: r) : Nat) : Int)) μ' := by
        unfold bInt
        dsimp only
        rw [int_S hall (by simp) (by omega)]
        dsimp only
        rw [S_len, if_pos (by omega)]
        rfl
      by_cases hz : [c] = [48] ∧ 1 < (c :: r).length
      · have z1 := hz.1
        have z2 : (1 : Int) < ((c :: r).length : Int) := by have := hz.2; omega
        have hnum : numD (c :: r) = .non := by
          unfold numD
          rw [if_neg]
          rintro ⟨_, _, _, h⟩
          exact h ⟨by cases z1; rfl, hz.2⟩
        rw [hnum]
        simp only [m1, c5, es_alls, es_all1, es_all0, es_seq, es_if, es_ret, es_nil, ev_chain, ev_op, ev_var, ev_c, ev_cb, ev_alls, ev_all0, ev_cons, ev_nil, ev_not, ev_andT, List.getElem?_cons_zero, getV_some, ob_ok, os_ok, oc_ok, op_ok, hlen, fLe_ii, fGt_ii, ifD_dec, if_pos i1, if_pos i2, ifS_f, ft_nx, e, hix, h0, if_pos z1, ifS_dec, if_pos z2, ot_ok, ft_rt, fin_rt]
      · have hnum : numD (c :: r) = .int ((PySem.NumText.digitsVal (c :: r) : Nat) : Int) := by
          unfold numD
          rw [if_pos ⟨h1, h2, hall, fun h => hz ⟨by have := h.1; simp at this; rw [this], h.2⟩⟩]
        have hcond : (if [c] = [48] then Out.ok (.bl (decide ((1 : Int) < ((c :: r).length : Int)))) μ' else .ok (.bl false) μ') = .ok (.bl false) μ' := by
          by_cases z : [c] = [48]
          · rw [if_pos z, decide_eq_false (fun h => hz ⟨z, by omega⟩)]
          · rw [if_neg z]
        rw [hnum]
        simp only [m1, c5, es_alls, es_all1, es_all0, es_seq, es_if, es_ret, es_nil, ev_chain, ev_op, ev_var, ev_c, ev_cb, ev_alls, ev_all0, ev_cons, ev_nil, ev_not, ev_andT, List.getElem?_cons_zero, getV_some, ob_ok, os_ok, oc_ok, op_ok, hlen, fLe_ii, fGt_ii, ifD_dec, if_pos i1, if_pos i2, ifS_f, ft_nx, e, hix, h0, hcond, hint, ot_ok, ft_rt, fin_rt]
    · have hnum : numD (c :: r) = .non := by
        unfold numD
        rw [if_neg]
        rintro ⟨_, _, h, _⟩
        rw [hall] at h
        cases h
      rw [hnum]
      simp only [m1, c5, es_alls, es_all1, es_all0, es_seq, es_if, es_nil, ev_chain, ev_op, ev_var, ev_c, ev_cb, ev_alls, ev_all0, ev_cons, ev_nil, ev_not, List.getElem?_cons_zero, getV_some, ob_ok, os_ok, oc_ok, op_ok, hlen, fLe_ii, ifD_dec, if_pos i1, if_pos i2, ifS_f, ft_nx, e, ft_rt, fin_rt]
  · have hnum : numD a = .non := by
      unfold numD
      rw [if_neg]
      rintro ⟨x1, x2, _⟩
      exact hr ⟨x1, x2⟩
    have hcond : (if (1 : Int) ≤ (a.length : Int) then Out.ok (.bl (decide ((a.length : Int) ≤ 5))) μ else .ok (.bl false) μ) = .ok (.bl false) μ := by
      by_cases z : (1 : Int) ≤ (a.length : Int)
      · rw [if_pos z, decide_eq_false (fun h => hr ⟨by omega, by omega⟩)]
      · rw [if_neg z]
    rw [hnum]
    simp only [m1, c5, es_alls, es_all1, es_all0, es_seq, es_if, es_ret, es_nil, ev_chain, ev_op, ev_var, ev_c, ev_cb, ev_alls, ev_all0, ev_cons, ev_nil, ev_not, List.getElem?_cons_zero, getV_some, ob_ok, os_ok, oc_ok, op_ok, hlen, fLe_ii, ifD_dec, hcond, ifD_f, ifS_t, ft_rt, ot_ok, fin_rt]
end K02
set_option Elab.async false
set_option linter.all false
set_option maxRecDepth 100000
set_option maxHeartbeats 4000000
namespace K02
open PySem PM PL L2 SX
variable {k : Nat} {μ : Mem} {a : List Nat}
theorem find_S {c : Nat} : fFind (S figL) (.str (S [c])) μ = .ok (.int (if dig c = true then ((c - 48 : Nat) : Int) else -1)) μ := by
  show oI (Txt.find (S figL) (S [c])) μ = _
  rw [find_fig]
  rfl
theorem dv_take {i : Nat} (hi : i < a.length) : PySem.NumText.digitsVal (a.take (i + 1)) = PySem.NumText.digitsVal (a.take i) * 10 + (a[i] - 48) := by
  unfold PySem.NumText.digitsVal
  rw [← List.take_append_getElem hi, List.foldl_append]
  rfl
theorem c_numdue (hl : a.length ≤ 10000) : callN tab (k + 1) 11 [.str (S a)] μ = .ok (numD a) μ := by
  show finish (m11 (callN tab k) [some (.str (S a)), none, none, none] μ) = _
  have hlen := len_S (μ := μ) hl
  by_cases hr : 1 ≤ a.length ∧ a.length ≤ 5
  · obtain ⟨h1, h2⟩ := hr
    obtain ⟨c, r, rfl⟩ : ∃ c r, a = c :: r := by
      cases a with
      | nil => simp at h1
      | cons c r => exact ⟨c, r, rfl⟩
    have i1 : ¬ ((c :: r).length : Int) < 1 := by omega
    have i2 : ¬ (5 : Int) < ((c :: r).length : Int) := by omega
    have hd : Str.ofString "0123456789" = S figL := str_fig
    have key := for_inv3 (C := callN tab k) (it := iVal (mVar 0)) (g := gNm 2) (b := sSeq (sAsg (mS1 fFind (mC (.str (Str.ofString "0123456789"))) (mVar 2)) (gNm 3)) (sSeq (sIf (mOp fLt (mVar 3) (mC (.int 0))) (sRet (mC .non)) sNil) (sAsg (mOp fAdd (mOp fMulS (mC (.int 10)) (mVar 1)) (mVar 3)) (gNm 1))))
      (ρ := [some (.str (S (c :: r))), some (.int 0), none, none]) (μ := μ) (μ0 := μ) (s := srcV (sg1 (c :: r))) (N := (c :: r).length)
      (fun i ρ μ' => (∃ x y, ρ = [some (.str (S (c :: r))), some (.int ((PySem.NumText.digitsVal ((c :: r).take i) : Nat) : Int)), x, y]) ∧ μ' = μ ∧ ((c :: r).take i).all dig = true) (fun v μ' => v = .non ∧ μ' = μ ∧ (c :: r).all dig = false)
      (by
        simp only [ei_val, ev_var, List.getElem?_cons_zero, getV_some, oi_ok]
        exact it_str) ⟨⟨_, _, rfl⟩, rfl, rfl⟩
      (fun i ρ μ' ⟨⟨x, y, e1⟩, e2, h3⟩ hi => by
        subst e1 e2
        refine ⟨_, src_sg1 hi, [some (.str (S (c :: r))), some (.int ((PySem.NumText.digitsVal ((c :: r).take i) : Nat) : Int)), some (.str (S [(c :: r)[i]])), y], μ', rfl, ?_⟩
        have hn := find_S (μ := μ') (c := (c :: r)[i])
        have hm : ∀ j : Int, fMul (.int 10) (.int j) μ' = .ok (.int (10 * j)) μ' := fun j => fMul_l (by decide) (by decide)
        cases hdg : dig (c :: r)[i] with
        | true =>
          rw [hdg, if_pos rfl] at hn
          have hneg : ¬ (((c :: r)[i] - 48 : Nat) : Int) < 0 := by omega
          have hv : (10 : Int) * ((PySem.NumText.digitsVal ((c :: r).take i) : Nat) : Int) + (((c :: r)[i] - 48 : Nat) : Int) = ((PySem.NumText.digitsVal ((c :: r).take (i + 1)) : Nat) : Int) := by
            rw [dv_take hi]
            omega
          refine .inl ⟨[some (.str (S (c :: r))), some (.int ((PySem.NumText.digitsVal ((c :: r).take (i + 1)) : Nat) : Int)), some (.str (S [(c :: r)[i]])), some (.int (((c :: r)[i] - 48 : Nat) : Int))], μ', .inl ?_, ⟨_, _, rfl⟩, rfl, all_take h3 hi hdg⟩
          simp only [es_seq, es_asg, eg_nm, fo_nx, es_if, es_nil, ev_s1, strO_str, ev_op, ev_var, ev_c, List.getElem?_cons_zero, List.getElem?_cons_succ, List.set_cons_zero, List.set_cons_succ, getV_some, ob_ok, ot_ok, hd, hn, fLt_ii, ifS_dec, if_neg hneg, ft_nx, fMulS_ii, hm, fAdd_ii, hv]
        | false =>
          rw [hdg, if_neg Bool.false_ne_true] at hn
          have hneg : (-1 : Int) < 0 := by decide
          refine .inr ⟨.non, μ', ?_, rfl, rfl, all_not hi hdg⟩
          simp only [es_seq, es_asg, eg_nm, fo_nx, es_if, es_ret, ev_s1, strO_str, ev_op, ev_var, ev_c, List.getElem?_cons_zero, List.getElem?_cons_succ, List.set_cons_zero, List.set_cons_succ, getV_some, ob_ok, ot_ok, hd, hn, fLt_ii, ifS_dec, if_pos hneg, ft_nx, ft_rt])
      (fun ρ μ' _ => end_sg1)
    rcases key with ⟨ρ', μ', e, ⟨x, y, rfl⟩, rfl, hall⟩ | ⟨v, μ', e, rfl, rfl, hall⟩
    · rw [List.take_length] at hall e
      have hix := ix0_S (μ := μ') (a := r) (c := c) hl
      have h0 : fEq (.str (S [c])) (.str (Str.ofString "0")) μ' = .ok (.bl (decide ([c] = [48]))) μ' := by rw [str_0, eq_S]
      by_cases hz : [c] = [48] ∧ 1 < (c :: r).length
      · have z1 := hz.1
        have z2 : (1 : Int) < ((c :: r).length : Int) := by have := hz.2; omega
        have hnum : numD (c :: r) = .non := by
          unfold numD
          rw [if_neg]
          rintro ⟨_, _, _, h⟩
          exact h ⟨by cases z1; rfl, hz.2⟩
        rw [hnum]
        simp only [m11, es_alls, es_all1, es_all0, es_seq, es_if, es_ret, es_nil, es_asg, eg_nm, fo_nx, ev_op, ev_var, ev_c, ev_cb, ev_alls, ev_all0, ev_cons, ev_nil, ev_orT, ev_andT, List.getElem?_cons_zero, List.getElem?_cons_succ, List.set_cons_zero, List.set_cons_succ, getV_some, ob_ok, os_ok, oc_ok, op_ok, hlen, fLt_ii, fGt_ii, ifD_dec, if_neg i1, if_neg i2, ifS_f, ifS_dec, ft_nx, e, hix, h0, if_pos z1, if_pos z2, ot_ok, ft_rt, fin_rt]
      · have hnum : numD (c :: r) = .int ((PySem.NumText.digitsVal (c :: r) : Nat) : Int) := by
          unfold numD
          rw [if_pos ⟨h1, h2, hall, fun h => hz ⟨by have := h.1; simp at this; rw [this], h.2⟩⟩]
        have hcond : (if [c] = [48] then Out.ok (.bl (decide ((1 : Int) < ((c :: r).length : Int)))) μ' else .ok (.bl false) μ') = .ok (.bl false) μ' := by
          by_cases z : [c] = [48]
          · rw [if_pos z, decide_eq_false (fun h => hz ⟨z, by omega⟩)]
          · rw [if_neg z]
        rw [hnum]
        simp only [m11, es_alls, es_all1, es_all0, es_seq, es_if, es_ret, es_nil, es_asg, eg_nm, fo_nx, ev_op, ev_var, ev_c, ev_cb, ev_alls, ev_all0, ev_cons, ev_nil, ev_orT, ev_andT, List.getElem?_cons_zero, List.getElem?_cons_succ, List.set_cons_zero, List.set_cons_succ, getV_some, ob_ok, os_ok, oc_ok, op_ok, hlen, fLt_ii, fGt_ii, ifD_dec, if_neg i1, if_neg i2, ifS_f, ifS_dec, ft_nx, e, hix, h0, hcond, ot_ok, ft_rt, fin_rt]
    · have hnum : numD (c :: r) = .non := by
        unfold numD
        rw [if_neg]
        rintro ⟨_, _, h, _⟩
        rw [hall] at h
        cases h
      rw [hnum]
      simp only [m11, es_alls, es_all1, es_all0, es_seq, es_if, es_nil, es_asg, eg_nm, fo_nx, ev_op, ev_var, ev_c, ev_cb, ev_alls, ev_all0, ev_cons, ev_nil, ev_orT, List.getElem?_cons_zero, List.getElem?_cons_succ, List.set_cons_zero, List.set_cons_succ, getV_some, ob_ok, os_ok, oc_ok, op_ok, hlen, fLt_ii, fGt_ii, ifD_dec, if_neg i1, if_neg i2, ifS_f, ifS_dec, ft_nx, ot_ok, e, ft_rt, fin_rt]
  · have hnum : numD a = .non := by
      unfold numD
      rw [if_neg]
      rintro ⟨x1, x2, _⟩
      exact hr ⟨x1, x2⟩
    have hcond : (if (a.length : Int) < 1 then Out.ok (.bl true) μ else .ok (.bl (decide ((5 : Int) < (a.length : Int)))) μ) = .ok (.bl true) μ := by
      by_cases z : (a.length : Int) < 1
      · rw [if_pos z]
      · rw [if_neg z, decide_eq_true (by omega)]
    rw [hnum]
    simp only [m11, es_alls, es_all1, es_all0, es_seq, es_if, es_ret, es_nil, ev_op, ev_var, ev_c, ev_cb, ev_alls, ev_all0, ev_cons, ev_nil, ev_orT, List.getElem?_cons_zero, getV_some, ob_ok, os_ok, oc_ok, op_ok, hlen, fLt_ii, fGt_ii, ifD_dec, hcond, ifS_t, ft_rt, ot_ok, fin_rt]
end K02
set_option Elab.async false
set_option linter.all false
set_option maxRecDepth 100000
set_option maxHeartbeats 4000000
namespace K02
open PySem PM PL L2 SX
variable {k : Nat} {μ : Mem} {a : List Nat}
/-- is it a name -/
def nameB (a : List Nat) : Bool := decide (1 ≤ a.length ∧ a.length ≤ 12) && a.all (fun c => low c || dig c) && (match a with | c :: _ => low c | [] => false)
def headLow (a : List Nat) : Bool := match a with
  | c :: _ => low c
  | [] => false
theorem nameB_eq : nameB a = (decide (1 ≤ a.length ∧ a.length ≤ 12) && a.all (fun c => low c || dig c) && headLow a) := by
  unfold nameB headLow
  cases a <;> rfl
theorem c_isname (hl : a.length ≤ 10000) : callN tab (k + 1) 2 [.str (S a)] μ = .ok (.bl (nameB a)) μ := by
  show finish (m2 (callN tab k) [some (.str (S a)), none] μ) = _
  have hlen := len_S (μ := μ) hl
  have c5 : c_LONGEST_NAME = .int 12 := rfl
  have hd : c_DIGITS = .str (S figL) := by
    show D.str (Str.ofString "0123456789") = _
    rw [str_fig]
  have hlo : c_LETTERS = .str (S lowL) := by
    show D.str (Str.ofString "abcdefghijklmnopqrstuvwxyz") = _
    rw [str_low]
  rw [nameB_eq]
  by_cases hr : 1 ≤ a.length ∧ a.length ≤ 12
  · rw [decide_eq_true hr, Bool.true_and]
    obtain ⟨h1, h2⟩ := hr
    obtain ⟨c, r, rfl⟩ : ∃ c r, a = c :: r := by
      cases a with
      | nil => simp at h1
      | cons c r => exact ⟨c, r, rfl⟩
    have i1 : (1 : Int) ≤ ((c :: r).length : Int) := by omega
    have i2 : ((c :: r).length : Int) ≤ 12 := by omega
    have key := for_inv3 (C := callN tab k) (it := iVal (mVar 0)) (g := gNm 1) (b := sIf (mAndT (mOp fNotIn (mVar 1) (mC c_LETTERS)) (mOp fNotIn (mVar 1) (mC c_DIGITS))) (sRet (mC (.bl false))) sNil) (ρ := [some (.str (S (c :: r))), none]) (μ := μ) (μ0 := μ) (s := srcV (sg1 (c :: r))) (N := (c :: r).length)
      (fun i ρ μ' => (∃ x, ρ = [some (.str (S (c :: r))), x]) ∧ μ' = μ ∧ ((c :: r).take i).all (fun c => low c || dig c) = true) (fun v μ' => v = .bl false ∧ μ' = μ ∧ (c :: r).all (fun c => low c || dig c) = false)
      (by
        simp only [ei_val, ev_var, List.getElem?_cons_zero, getV_some, oi_ok]
        exact it_str) ⟨⟨_, rfl⟩, rfl, rfl⟩
      (fun i ρ μ' ⟨⟨x, e1⟩, e2, h3⟩ hi => by
        subst e1 e2
        refine ⟨_, src_sg1 hi, [some (.str (S (c :: r))), some (.str (S [(c :: r)[i]]))], μ', rfl, ?_⟩
        have hn : fNotIn (.str (S [(c :: r)[i]])) c_DIGITS μ' = .ok (.bl (!dig (c :: r)[i])) μ' := by rw [hd, notin_S, mem_fig]
        have hn2 : fNotIn (.str (S [(c :: r)[i]])) c_LETTERS μ' = .ok (.bl (!low (c :: r)[i])) μ' := by rw [hlo, notin_S, mem_low]
        cases hlw : low (c :: r)[i] with
        | true =>
          rw [hlw] at hn2
          refine .inl ⟨[some (.str (S (c :: r))), some (.str (S [(c :: r)[i]]))], μ', .inl ?_, ⟨_, rfl⟩, rfl, all_take h3 hi (by rw [hlw]; rfl)⟩
          simp only [es_if, es_nil, ev_andT, ev_op, ev_var, ev_c, List.getElem?_cons_zero, List.getElem?_cons_succ, getV_some, ob_ok, hn2, Bool.not_true, ifD_f, ifS_f]
        | false =>
          rw [hlw] at hn2
          cases hdg : dig (c :: r)[i] with
          | true =>
            rw [hdg] at hn
            refine .inl ⟨[some (.str (S (c :: r))), some (.str (S [(c :: r)[i]]))], μ', .inl ?_, ⟨_, rfl⟩, rfl, all_take h3 hi (by rw [hlw, hdg]; rfl)⟩
            simp only [es_if, es_nil, ev_andT, ev_op, ev_var, ev_c, List.getElem?_cons_zero, List.getElem?_cons_succ, getV_some, ob_ok, hn2, hn, Bool.not_false, Bool.not_true, ifD_t, ifS_f]
          | false =>
            rw [hdg] at hn
            refine .inr ⟨.bl false, μ', ?_, rfl, rfl, all_not hi (by rw [hlw, hdg]; rfl)⟩
            simp only [es_if, es_ret, ev_andT, ev_op, ev_var, ev_c, List.getElem?_cons_zero, List.getElem?_cons_succ, getV_some, ob_ok, hn2, hn, Bool.not_false, ifD_t, ifS_t, ot_ok])
      (fun ρ μ' _ => end_sg1)
    rcases key with ⟨ρ', μ', e, ⟨x, rfl⟩, rfl, hall⟩ | ⟨v, μ', e, rfl, rfl, hall⟩
    · rw [List.take_length] at hall
      rw [hall, Bool.true_and]
      have hix := ix0_S (μ := μ') (a := r) (c := c) hl
      have hin : fIn (.str (S [c])) c_LETTERS μ' = .ok (.bl (low c)) μ' := by rw [hlo, in_S, mem_low]
      simp only [m2, c5, es_alls, es_all1, es_all0, es_seq, es_if, es_ret, es_nil, ev_chain, ev_op, ev_var, ev_c, ev_cb, ev_alls, ev_all0, ev_cons, ev_nil, ev_not, List.getElem?_cons_zero, getV_some, ob_ok, os_ok, oc_ok, op_ok, hlen, fLe_ii, ifD_dec, if_pos i1, if_pos i2, ifS_f, ft_nx, e, hix, hin, ot_ok, fin_rt]
      rfl
    · rw [hall, Bool.false_and]
      simp only [m2, c5, es_alls, es_all1, es_all0, es_seq, es_if, es_ret, es_nil, ev_chain, ev_op, ev_var, ev_c, ev_cb, ev_alls, ev_all0, ev_cons, ev_nil, ev_not, List.getElem?_cons_zero, getV_some, ob_ok, os_ok, oc_ok, op_ok, hlen, fLe_ii, ifD_dec, if_pos i1, if_pos i2, ifS_f, ft_nx, e, ft_rt, fin_rt]
  · rw [decide_eq_false hr, Bool.false_and, Bool.false_and]
    have hcond : (if (1 : Int) ≤ (a.length : Int) then Out.ok (.bl (decide ((a.length : Int) ≤ 12))) μ else .ok (.bl false) μ) = .ok (.bl false) μ := by
      by_cases z : (1 : Int) ≤ (a.length : Int)
      · rw [if_pos z, decide_eq_false (fun h => hr ⟨by omega, by omega⟩)]
      · rw [if_neg z]
    simp only [m2, c5, es_alls, es_all1, es_all0, es_seq, es_if, es_ret, es_nil, ev_chain, ev_op, ev_var, ev_c, ev_cb, ev_alls, ev_all0, ev_cons, ev_nil, ev_not, List.getElem?_cons_zero, getV_some, ob_ok, os_ok, oc_ok, op_ok, hlen, fLe_ii, ifD_dec, hcond, ifD_f, ifS_t, ft_rt, ot_ok, fin_rt]
theorem c_lawname (hl : a.length ≤ 10000) : callN tab (k + 1) 6 [.str (S a)] μ = .ok (.bl (nameB a)) μ := by
  show finish (m6 (callN tab k) [some (.str (S a)), none] μ) = _
  have hlen := len_S (μ := μ) hl
  rw [nameB_eq]
  cases a with
  | nil =>
    have i0 : (([] : List Nat).length : Int) = 0 := rfl
    rw [show (decide (1 ≤ ([] : List Nat).length ∧ ([] : List Nat).length ≤ 12)) = false from rfl, Bool.false_and, Bool.false_and]
    simp only [m6, es_alls, es_all1, es_all0, es_seq, es_if, es_ret, es_nil, ev_op, ev_var, ev_c, ev_cb, ev_alls, ev_all0, ev_cons, ev_nil, ev_orT, List.getElem?_cons_zero, getV_some, ob_ok, os_ok, oc_ok, op_ok, hlen, fEq_ii, ifD_dec, if_pos i0, ifS_t, ft_rt, ot_ok, fin_rt]
  | cons c r =>
    have i0 : ¬ ((c :: r).length : Int) = 0 := by rw [List.length_cons]; omega
    by_cases h2 : (c :: r).length ≤ 12
    · have i2 : ¬ (12 : Int) < ((c :: r).length : Int) := by omega
      have h1 : 1 ≤ (c :: r).length := by rw [List.length_cons]; omega
      rw [decide_eq_true ⟨h1, h2⟩, Bool.true_and]
      have hix := ix0_S (μ := μ) (a := r) (c := c) hl
      have hn2 : fNotIn (.str (S [c])) (.str (Str.ofString "abcdefghijklmnopqrstuvwxyz")) μ = .ok (.bl (!low c)) μ := by rw [str_low, notin_S, mem_low]
      have hh : headLow (c :: r) = low c := rfl
      rw [hh]
      cases hlw : low c with
      | false =>
        rw [hlw] at hn2
        rw [Bool.and_false]
        simp only [m6, es_alls, es_all1, es_all0, es_seq, es_if, es_ret, es_nil, ev_op, ev_var, ev_c, ev_cb, ev_alls, ev_all0, ev_cons, ev_nil, ev_orT, List.getElem?_cons_zero, getV_some, ob_ok, os_ok, oc_ok, op_ok, hlen, fEq_ii, fGt_ii, ifD_dec, if_neg i0, if_neg i2, hix, hn2, Bool.not_false, ifS_t, ft_rt, ot_ok, fin_rt]
      | true =>
        rw [hlw] at hn2
        rw [Bool.and_true]
        have key := for_inv3 (C := callN tab k) (it := iVal (mVar 0)) (g := gNm 1) (b := sIf (mOp fNotIn (mVar 1) (mC (.str (Str.ofString "abcdefghijklmnopqrstuvwxyz0123456789")))) (sRet (mC (.bl false))) sNil) (ρ := [some (.str (S (c :: r))), none]) (μ := μ) (μ0 := μ) (s := srcV (sg1 (c :: r))) (N := (c :: r).length)
          (fun i ρ μ' => (∃ x, ρ = [some (.str (S (c :: r))), x]) ∧ μ' = μ ∧ ((c :: r).take i).all (fun c => low c || dig c) = true) (fun v μ' => v = .bl false ∧ μ' = μ ∧ (c :: r).all (fun c => low c || dig c) = false)
          (by
            simp only [ei_val, ev_var, List.getElem?_cons_zero, getV_some, oi_ok]
            exact it_str) ⟨⟨_, rfl⟩, rfl, rfl⟩
          (fun i ρ μ' ⟨⟨x, e1⟩, e2, h3⟩ hi => by
            subst e1 e2
            refine ⟨_, src_sg1 hi, [some (.str (S (c :: r))), some (.str (S [(c :: r)[i]]))], μ', rfl, ?_⟩
            have hn : fNotIn (.str (S [(c :: r)[i]])) (.str (Str.ofString "abcdefghijklmnopqrstuvwxyz0123456789")) μ' = .ok (.bl (!(low (c :: r)[i] || dig (c :: r)[i]))) μ' := by rw [str_both, notin_S, mem_both]
            cases hb : (low (c :: r)[i] || dig (c :: r)[i]) with
            | true =>
              rw [hb] at hn
              refine .inl ⟨[some (.str (S (c :: r))), some (.str (S [(c :: r)[i]]))], μ', .inl ?_, ⟨_, rfl⟩, rfl, all_take h3 hi hb⟩
              simp only [es_if, es_nil, ev_op, ev_var, ev_c, List.getElem?_cons_zero, List.getElem?_cons_succ, getV_some, ob_ok, hn, Bool.not_true, ifS_f]
            | false =>
              rw [hb] at hn
              refine .inr ⟨.bl false, μ', ?_, rfl, rfl, all_not hi hb⟩
              simp only [es_if, es_ret, ev_op, ev_var, ev_c, List.getElem?_cons_zero, List.getElem?_cons_succ, getV_some, ob_ok, hn, Bool.not_false, ifS_t, ot_ok])
          (fun ρ μ' _ => end_sg1)
        rcases key with ⟨ρ', μ', e, ⟨x, rfl⟩, rfl, hall⟩ | ⟨v, μ', e, rfl, rfl, hall⟩
        · rw [List.take_length] at hall
          rw [hall]
          simp only [m6, es_alls, es_all1, es_all0, es_seq, es_if, es_ret, es_nil, ev_op, ev_var, ev_c, ev_cb, ev_alls, ev_all0, ev_cons, ev_nil, ev_orT, List.getElem?_cons_zero, getV_some, ob_ok, os_ok, oc_ok, op_ok, hlen, fEq_ii, fGt_ii, ifD_dec, if_neg i0, if_neg i2, hix, hn2, Bool.not_true, ifS_f, ft_nx, e, ft_rt, ot_ok, fin_rt]
        · rw [hall]
          simp only [m6, es_alls, es_all1, es_all0, es_seq, es_if, es_ret, es_nil, ev_op, ev_var, ev_c, ev_cb, ev_alls, ev_all0, ev_cons, ev_nil, ev_orT, List.getElem?_cons_zero, getV_some, ob_ok, os_ok, oc_ok, op_ok, hlen, fEq_ii, fGt_ii, ifD_dec, if_neg i0, if_neg i2, hix, hn2, Bool.not_true, ifS_f, ft_nx, e, ft_rt, ot_ok, fin_rt]
    · have i2 : (12 : Int) < ((c :: r).length : Int) := by omega
      rw [decide_eq_false (fun h => h2 h.2), Bool.false_and, Bool.false_and]
      simp only [m6, es_alls, es_all1, es_all0, es_seq, es_if, es_ret, es_nil, ev_op, ev_var, ev_c, ev_cb, ev_alls, ev_all0, ev_cons, ev_nil, ev_orT, List.getElem?_cons_zero, getV_some, ob_ok, os_ok, oc_ok, op_ok, hlen, fEq_ii, fGt_ii, ifD_dec, if_neg i0, if_pos i2, ifD_t, decide_true, ifS_t, ifS_dec, ft_rt, ot_ok, fin_rt]
end K02
set_option Elab.async false
set_option linter.all false
set_option maxRecDepth 100000
set_option maxHeartbeats 4000000
namespace PM
open PySem L2
theorem lcG_filter {C : CEnv} {g : CTg} {c elt : Ex} {ρ : Loc} {μ0 : Mem} {s : Src} {l : List D} (p : D → Bool) (hz : l.length ≤ sizeLine)
    (src : ∀ i (h : i < l.length) acc, s i (μ0 ++ [.lst acc]) = some (some l[i])) (stop : ∀ acc, s l.length (μ0 ++ [.lst acc]) = some none)
    (step : ∀ d ∈ l, ∀ acc, ∃ ρ1, g.put d ρ = some ρ1 ∧ c C ρ1 (μ0 ++ [.lst acc]) = .ok (.bl (p d)) (μ0 ++ [.lst acc]) ∧ elt C ρ1 (μ0 ++ [.lst acc]) = .ok d (μ0 ++ [.lst acc])) :
    ∀ f i acc, acc = (l.take i).filter p → i ≤ l.length → l.length - i < f → lcG s g (some c) elt μ0.length C f i ρ (μ0 ++ [.lst acc]) = .ok (.ref μ0.length) (μ0 ++ [.lst (l.filter p)])
  | 0, i, acc, ha, hi, hf => absurd hf (by omega)
  | f + 1, i, acc, ha, hi, hf => by
    unfold lcG
    by_cases hN : i = l.length
    · subst hN
      rw [stop acc, ha, List.take_length]
    · have hi' : i < l.length := by omega
      obtain ⟨ρ1, h1, h2, h3⟩ := step l[i] (List.getElem_mem hi') acc
      rw [src i hi' acc]
      dsimp only
      rw [h1]
      dsimp only
      rw [h2]
      have hal : acc.length < sizeLine := by
        have : acc.length ≤ (l.take i).length := by rw [ha]; exact List.length_filter_le _ _
        rw [List.length_take] at this
        omega
      have hg : getM (μ0 ++ [.lst acc]) μ0.length = some acc := by simp [getM]
      have hset : (μ0 ++ [O.lst acc]).set μ0.length (.lst (acc ++ [l[i]])) = μ0 ++ [.lst (acc ++ [l[i]])] := by simp
      have htk : l.take (i + 1) = l.take i ++ [l[i]] := (List.take_append_getElem hi').symm
      cases hp : p l[i] with
      | true =>
        dsimp only
        rw [h3]
        dsimp only
        rw [hg]
        dsimp only
        rw [if_pos hal, hset]
        exact lcG_filter p hz src stop step f (i + 1) _ (by rw [htk, List.filter_append, ← ha]; simp [hp]) (by omega) (by omega)
      | false =>
        dsimp only
        exact lcG_filter p hz src stop step f (i + 1) _ (by rw [htk, List.filter_append, ← ha]; simp [hp]) (by omega) (by omega)
end PM
namespace K02
open PySem PM PL L2 SX
variable {k : Nat} {μ : Mem} {a : List Nat}
theorem str_sp : (Str.ofString " ") = S [32] := by decide +kernel
theorem str_e : (Str.ofString "") = S [] := by decide +kernel
def txs (l : List (List Nat)) : List D := l.map fun w => .str (S w)
theorem spl_len : ∀ (a w : List Nat), (TL.spl [32] 0 w a).length ≤ a.length + 1
  | [], w => by simp [TL.spl]
  | c :: r, w => by
    unfold TL.spl
    split
    · have := spl_len r []
      simp only [List.length_cons]
      simp at this ⊢
      exact this
    · have := spl_len r (w ++ [c])
      simp only [List.length_cons]
      omega
theorem c_words (hl : a.length ≤ 10000) : callN tab (k + 1) 0 [.str (S a)] μ = .ok (.ref (μ.length + 1)) (μ ++ [.lst (txs (TL.spl [32] 0 [] a))] ++ [.lst (txs (cutG [] a))]) := by
  show finish (m0 (callN tab k) [some (.str (S a)), none] μ) = _
  have hsp : fSplit (S a) (.str (Str.ofString " ")) μ = .ok (.ref μ.length) (μ ++ [.lst (txs (TL.spl [32] 0 [] a))]) := by
    rw [str_sp]
    unfold fSplit
    dsimp only
    rw [if_pos ⟨by decide, by rw [S_len, sizeLine_eq]; omega⟩, split_S (by simp) (by decide)]
    unfold newL txs
    rw [List.map_map]
    rfl
  have hlc : mLc (iVal (mS1 fSplit (mVar 0) (mC (.str (Str.ofString " "))))) (.nm 1) (some (mOp fNe (mVar 1) (mC (.str (Str.ofString ""))))) (mVar 1) [1] (callN tab k) [some (.str (S a)), none] μ = .ok (.ref (μ.length + 1)) (μ ++ [.lst (txs (TL.spl [32] 0 [] a))] ++ [.lst (txs (cutG [] a))]) := by
    have hit : iVal (mS1 fSplit (mVar 0) (mC (.str (Str.ofString " ")))) (callN tab k) [some (.str (S a)), none] μ = .ok (srcL μ.length) (txs (TL.spl [32] 0 [] a)).length (μ ++ [.lst (txs (TL.spl [32] 0 [] a))]) := by
      simp only [ei_val, ev_s1, ev_var, ev_c, List.getElem?_cons_zero, getV_some, ob_ok, strO_str, hsp, oi_ok]
      exact itV_l (by simp)
    unfold mLc
    rw [hit]
    dsimp only
    have z := lcG_filter (C := callN tab k) (g := .nm 1) (c := mOp fNe (mVar 1) (mC (.str (Str.ofString "")))) (elt := mVar 1) (ρ := wipeD [some (.str (S a)), none] [1]) (μ0 := μ ++ [.lst (txs (TL.spl [32] 0 [] a))]) (s := srcL μ.length) (l := txs (TL.spl [32] 0 [] a))
      (fun d => match d with | .str x => !(x == S []) | _ => true) (by
        have := spl_len a []
        rw [sizeLine_eq]
        simp only [txs, List.length_map]
        omega)
      (fun i h acc => srcL_at (by simp) h) (fun acc => srcL_end (by simp) rfl)
      (fun d hd acc => by
        obtain ⟨w, _, rfl⟩ := List.mem_map.mp hd
        refine ⟨_, rfl, ?_, ?_⟩
        · show (mOp fNe (mVar 1) (mC (.str (Str.ofString "")))) (callN tab k) [some (.str (S a)), some (.str (S w))] _ = _
          rw [str_e]
          simp only [ev_op, ev_var, ev_c, List.getElem?_cons_zero, List.getElem?_cons_succ, getV_some, ob_ok]
          rfl
        · show (mVar 1) (callN tab k) [some (.str (S a)), some (.str (S w))] _ = _
          simp only [ev_var, List.getElem?_cons_zero, List.getElem?_cons_succ, getV_some])
      ((txs (TL.spl [32] 0 [] a)).length + 1) 0 [] (by simp) (Nat.zero_le _) (by omega)
    rw [z]
    congr 1
    · simp
    · congr 3
      unfold txs
      rw [List.filter_map, ← spl_cut]
      congr 1
      refine List.filter_congr fun w _ => ?_
      show (!(S w == S [])) = _
      rw [S_beq_eq]
  simp only [m0, es_all1, es_ret, hlc, ot_ok, fin_rt]
end K02
set_option Elab.async false
set_option linter.all false
set_option maxRecDepth 100000
set_option maxHeartbeats 4000000
namespace K02
open PySem PM PL L2 SX
variable {k : Nat} {μ : Mem} {a : List Nat}
theorem cut_nil {w : List Nat} : cutG w [] = if w = [] then [] else [w] := by rw [cutG]
theorem cut_cons {w r : List Nat} {c : Nat} : cutG w (c :: r) = if c = 32 then (if w = [] then cutG [] r else w :: cutG [] r) else cutG (w ++ [c]) r := by rw [cutG]
theorem cat_S {x y : List Nat} (h : x.length + y.length ≤ 1000000) : fAdd (.str (S x)) (.str (S y)) μ = .ok (.str (S (x ++ y))) μ := by
  unfold fAdd
  dsimp only
  rw [S_len, S_len, if_pos (by rw [sizeLine_eq]; omega), S_cat]
  rfl
theorem app_l {l : List D} {d : D} (h : l.length ≤ 100000) : kAppend (.ref μ.length) [d] (μ ++ [.lst l]) = .ok .non (μ ++ [.lst (l ++ [d])]) := by
  unfold kAppend
  dsimp only
  rw [show getM (μ ++ [O.lst l]) μ.length = some l by simp [getM]]
  dsimp only
  rw [if_pos (by rw [sizeLine_eq]; omega)]
  congr 1
  simp
theorem isl_l {l : List D} : isLst (.ref μ.length) (μ ++ [.lst l]) = true := by
  simp [isLst, getL]
theorem c_cut (hl : a.length ≤ 10000) : callN tab (k + 1) 10 [.str (S a)] μ = .ok (.ref μ.length) (μ ++ [.lst (txs (cutG [] a))]) := by
  show finish (m10 (callN tab k) [some (.str (S a)), none, none, none] μ) = _
  have key := for_inv (C := callN tab k) (it := iVal (mVar 0)) (g := gNm 3) (b := sIf (mOp fNe (mVar 3) (mC (.str (Str.ofString " ")))) (sAsg (mOp fAdd (mVar 2) (mVar 3)) (gNm 2)) (sIf (mOp fNe (mVar 2) (mC (.str (Str.ofString "")))) (sSeq (sExpr (mBM isLst kAppend (mVar 1) (mCons (mVar 2) mNil))) (sAsg (mC (.str (Str.ofString ""))) (gNm 2))) sNil))
    (ρ := [some (.str (S a)), some (.ref μ.length), some (.str (S [])), none]) (μ := μ ++ [.lst []]) (μ0 := μ ++ [.lst []]) (s := srcV (sg1 a)) (N := a.length)
    (fun i ρ μ' => ∃ (w : List Nat) (ws : List (List Nat)) (x : Option D), ρ = [some (.str (S a)), some (.ref μ.length), some (.str (S w)), x] ∧ μ' = μ ++ [.lst (txs ws)] ∧ ws ++ cutG w (a.drop i) = cutG [] a ∧ w.length ≤ i ∧ ws.length ≤ i)
    (by
      simp only [ei_val, ev_var, List.getElem?_cons_zero, getV_some, oi_ok]
      exact it_str) ⟨[], [], none, rfl, rfl, rfl, Nat.le_refl _, Nat.le_refl _⟩
    (fun i ρ μ' ⟨w, ws, x, e1, e2, h3, h4, h5⟩ hi => by
      subst e1 e2
      refine ⟨_, src_sg1 hi, [some (.str (S a)), some (.ref μ.length), some (.str (S w)), some (.str (S [a[i]]))], μ ++ [.lst (txs ws)], rfl, ?_⟩
      have hdr : a.drop i = a[i] :: a.drop (i + 1) := List.drop_eq_getElem_cons hi
      rw [hdr] at h3
      generalize a[i] = c at *
      have hn : ∀ μ, fNe (.str (S [c])) (.str (Str.ofString " ")) μ = .ok (.bl (!decide ([c] = [32]))) μ := fun μ => by rw [str_sp, ne_S]
      have hn2 : ∀ μ, fNe (.str (S w)) (.str (Str.ofString "")) μ = .ok (.bl (!decide (w = []))) μ := fun μ => by rw [str_e, ne_S]
      by_cases hc : c = 32
      · subst hc
        have hd : decide ([32] = [32]) = true := rfl
        rw [cut_cons, if_pos rfl] at h3
        by_cases hw : w = []
        · rw [if_pos hw] at h3
          refine ⟨[some (.str (S a)), some (.ref μ.length), some (.str (S w)), some (.str (S [32]))], μ ++ [.lst (txs ws)], .inl ?_, w, ws, _, rfl, rfl, by rw [hw]; exact h3, by omega, by omega⟩
          simp only [es_if, es_nil, ev_op, ev_var, ev_c, List.getElem?_cons_zero, List.getElem?_cons_succ, getV_some, ob_ok, hn, hn2, decide_eq_true hw, hd, decide_true, Bool.not_true, ifS_f]
        · rw [if_neg hw] at h3
          refine ⟨[some (.str (S a)), some (.ref μ.length), some (.str (S [])), some (.str (S [32]))], μ ++ [.lst (txs (ws ++ [w]))], .inl ?_, [], ws ++ [w], _, rfl, rfl, by rw [List.append_assoc]; exact h3, Nat.zero_le _, by rw [List.length_append]; simp; omega⟩
          have ha := app_l (μ := μ) (l := txs ws) (d := .str (S w)) (by simp [txs]; omega)
          have hx : txs ws ++ [.str (S w)] = txs (ws ++ [w]) := by simp [txs]
          rw [hx] at ha
          have hil := isl_l (μ := μ) (l := txs ws)
          simp only [es_if, es_nil, es_seq, es_expr, es_asg, eg_nm, fo_nx, ev_bm, ev_cons, ev_nil, ev_op, ev_var, ev_c, List.getElem?_cons_zero, List.getElem?_cons_succ, List.set_cons_zero, List.set_cons_succ, getV_some, ob_ok, oc_ok, op_ok, os_ok, hn, hn2, decide_eq_false hw, hd, decide_true, Bool.not_true, Bool.not_false, ifS_f, ifS_t, hil, if_true, ha, ot_ok, ft_nx]
          rw [str_e]
      · have hd : decide ([c] = [32]) = false := decide_eq_false (by simpa using hc)
        rw [cut_cons, if_neg hc] at h3
        have hcat := cat_S (μ := μ ++ [.lst (txs ws)]) (x := w) (y := [c]) (by simp; omega)
        refine ⟨[some (.str (S a)), some (.ref μ.length), some (.str (S (w ++ [c]))), some (.str (S [c]))], μ ++ [.lst (txs ws)], .inl ?_, w ++ [c], ws, _, rfl, rfl, h3, by rw [List.length_append]; simp; omega, by omega⟩
        simp only [es_if, es_asg, eg_nm, fo_nx, ev_op, ev_var, ev_c, List.getElem?_cons_zero, List.getElem?_cons_succ, List.set_cons_zero, List.set_cons_succ, getV_some, ob_ok, hn, hd, Bool.not_false, ifS_t, hcat, ot_ok])
    (fun ρ μ' _ => end_sg1)
  obtain ⟨ρ', μ', e, w, ws, x, rfl, rfl, h3, h4, h5⟩ := key
  rw [List.drop_length] at h3
  rw [cut_nil] at h3
  have hk0 : mkLst [] μ = .ok (.ref μ.length) (μ ++ [.lst []]) := mkLst_ok (Nat.zero_le _)
  have hn2 : ∀ μ, fNe (.str (S w)) (.str (Str.ofString "")) μ = .ok (.bl (!decide (w = []))) μ := fun μ => by rw [str_e, ne_S]
  by_cases hw : w = []
  · rw [if_pos hw, List.append_nil] at h3
    rw [← h3]
    simp only [m10, es_alls, es_all1, es_all0, es_seq, es_if, es_nil, es_ret, es_asg, eg_nm, fo_nx, ev_lst, ev_op, ev_bm, ev_alls, ev_all0, ev_cons, ev_nil, ev_var, ev_c, List.getElem?_cons_zero, List.getElem?_cons_succ, List.set_cons_zero, List.set_cons_succ, getV_some, ob_ok, os_ok, hk0, ot_ok, ft_nx, ← str_e] at e ⊢
    simp only [e, ft_nx, es_seq, es_if, es_nil, es_expr, es_ret, ev_bm, ev_op, ev_cons, ev_nil, ev_var, ev_c, List.getElem?_cons_zero, List.getElem?_cons_succ, getV_some, ob_ok, hn2, decide_eq_true hw, Bool.not_true, ifS_f, ft_nx, ot_ok, fin_rt]
  · rw [if_neg hw] at h3
    have ha := app_l (μ := μ) (l := txs ws) (d := .str (S w)) (by simp [txs]; omega)
    have hx : txs ws ++ [.str (S w)] = txs (ws ++ [w]) := by simp [txs]
    rw [hx, h3] at ha
    have hil := isl_l (μ := μ) (l := txs ws)
    simp only [m10, es_alls, es_all1, es_all0, es_seq, es_if, es_nil, es_expr, es_ret, es_asg, eg_nm, fo_nx, ev_lst, ev_op, ev_bm, ev_alls, ev_all0, ev_cons, ev_nil, ev_var, ev_c, List.getElem?_cons_zero, List.getElem?_cons_succ, List.set_cons_zero, List.set_cons_succ, getV_some, ob_ok, os_ok, hk0, ot_ok, ft_nx, ← str_e] at e ⊢
    simp only [e, ft_nx, es_seq, es_if, es_nil, es_expr, es_ret, ev_bm, ev_op, ev_cons, ev_nil, ev_var, ev_c, List.getElem?_cons_zero, List.getElem?_cons_succ, getV_some, ob_ok, oc_ok, op_ok, os_ok, hn2, decide_eq_false hw, Bool.not_false, ifS_t, ft_nx, hil, if_true, ha, ot_ok, fin_rt]
end K02
set_option Elab.async false
set_option linter.all false
set_option maxRecDepth 100000
set_option maxHeartbeats 4000000
namespace K02
open PySem PM PL L2 SX
theorem c_pool {k : Nat} {μ : Mem} {x y : D} : callN tab (k + 1) 3 [x, y] μ = finish (mPool (callN tab k) [some x, some y, none] μ) := rfl
theorem c_draw {k : Nat} {μ : Mem} {x y : D} : callN tab (k + 1) 4 [x, y] μ = finish (mDraw (callN tab k) [some x, some y, none, none] μ) := rfl
theorem c_same {k : Nat} {μ : Mem} {x y : D} : callN tab (k + 1) 5 [x, y] μ = finish (mSame 5 (callN tab k) [some x, some y, none, none] μ) := rfl
def Pool (μ : Mem) (p : Nat) : Prop := ∃ a b c n : Int, μ[p]? = some (.lst [.int a, .int b, .int c, .int n])
theorem Pool.lt {μ : Mem} {p : Nat} (h : Pool μ p) : p < μ.length := by
  obtain ⟨a, b, c, n, h⟩ := h
  exact (List.getElem?_eq_some_iff.mp h).1
/-- only the object at p may have changed -/
def Upd (p : Nat) (μ μ' : Mem) : Prop := ∃ o, μ' = μ.set p o
theorem Upd.refl {p : Nat} {μ : Mem} (h : p < μ.length) : Upd p μ μ := ⟨μ[p], by rw [List.set_getElem_self]⟩
theorem Upd.trans {p : Nat} {μ μ1 μ2 : Mem} (h : Upd p μ μ1) (k : Upd p μ1 μ2) : Upd p μ μ2 := by
  obtain ⟨o, rfl⟩ := h
  obtain ⟨o2, rfl⟩ := k
  exact ⟨o2, by rw [List.set_set]⟩
theorem draw {k p : Nat} {μ : Mem} {many : Int} (hP : Pool μ p) (h1 : 0 < many) (h2 : many < 2 ^ 64) : ∃ (r : Nat) (μ' : Mem), (r : Int) < many ∧ callN tab (k + 1) 4 [.ref p, .int many] μ = .ok (.int r) μ' ∧ Pool μ' p ∧ Upd p μ μ' := by
  have hl := hP.lt
  obtain ⟨a, b, c, n, h⟩ := hP
  obtain ⟨r, b', r1, r2, e⟩ := draw_spec (callN tab k) h h1 h2
  obtain ⟨r', rfl⟩ := Int.eq_ofNat_of_zero_le r1
  exact ⟨r', _, r2, c_draw.trans e, ⟨a, b', c, n + 1, List.getElem?_set_self hl⟩, _, rfl⟩
theorem ix_S {l : List Nat} {i : Nat} {μ : Mem} (h : i < l.length) (hz : l.length ≤ 10000) : fIx (.str (S l)) (.int (i : Int)) μ = .ok (.str (S [l[i]])) μ := by
  unfold fIx
  dsimp only
  rw [S_len, if_pos (by rw [sizeLine_eq]; omega)]
  rw [show atI (S l).cps.toList (i : Int) = some l[i] from L2.atI_nat (List.getElem?_eq_getElem h)]
/-- the signs -/
def SG : List Nat := (Str.ofString " !\"#$&'()*+,-./0123456789:;<=>?@ABCDEFGHIJKLMNOPQRSTUVWXYZ[\\]^_`").cps.toList ++ (Str.ofString "abcdefghijklmnopqrstuvwxyz{|}~\n").cps.toList
theorem SG_len : SG.length = 95 := by decide +kernel
theorem c_signs {k : Nat} {μ : Mem} : callN tab (k + 1) 7 [] μ = .ok (.str (S SG)) μ := by
  show finish (m7 (callN tab k) [none] μ) = _
  have h := cat_S (μ := μ) (x := (Str.ofString " !\"#$&'()*+,-./0123456789:;<=>?@ABCDEFGHIJKLMNOPQRSTUVWXYZ[\\]^_`").cps.toList) (y := (Str.ofString "abcdefghijklmnopqrstuvwxyz{|}~\n").cps.toList) (by decide +kernel)
  rw [S_tl, S_tl] at h
  simp only [m7, es_alls, es_all1, es_seq, es_asg, es_ret, eg_nm, fo_nx, ev_op, ev_var, ev_c, List.set_cons_zero, List.getElem?_cons_zero, getV_some, ob_ok, ot_ok, ft_nx, h, fin_rt]
  rfl
theorem c_line {p : Nat} {μ : Mem} (hP : Pool μ p) : ∃ (w : List Nat) (μ' : Mem), callN tab 199 8 [.ref p] μ = .ok (.str (S w)) μ' ∧ w.length ≤ 40 ∧ Pool μ' p ∧ Upd p μ μ' := by
  obtain ⟨r, μ1, hr, e1, P1, U1⟩ := draw (k := 197) hP (many := 41) (by decide) (by decide)
  have hit : itR1 [.int (r : Int)] μ1 = .ok (srcV (rngD 0 (r : Int))) (r : Int).toNat μ1 := it_r1 (by omega) (by omega)
  rw [Int.toNat_natCast] at hit
  have key := for_inv (C := callN tab 198) (it := iR itR1 (mCons (mCall 4 (mCons (mVar 0) (mCons (mC (.int 41)) mNil))) mNil)) (g := gNm 3) (b := sSeq (sAsg (mCall 4 (mCons (mVar 0) (mCons (mC (.int 141)) mNil))) (gNm 4)) (sIf (mOp fLt (mVar 4) (mC (.int 94))) (sAsg (mOp fAdd (mVar 2) (mOp fIx (mVar 1) (mVar 4))) (gNm 2)) (sAsg (mOp fAdd (mVar 2) (mC (.str (Str.ofString " ")))) (gNm 2))))
    (ρ := [some (.ref p), some (.str (S SG)), some (.str (S [])), none, none]) (μ := μ) (μ0 := μ1) (s := srcV (rngD 0 (r : Int))) (N := r)
    (fun i ρ μ' => ∃ (w : List Nat) (x y : Option D), ρ = [some (.ref p), some (.str (S SG)), some (.str (S w)), x, y] ∧ w.length = i ∧ Pool μ' p ∧ Upd p μ μ')
    (by
      have hi2 : itR1 [.int (r : Int)] μ1 = .ok (srcV (rngD 0 (r : Int))) r μ1 := hit
      simp only [ei_r, ev_call, ev_cons, ev_nil, ev_var, ev_c, List.getElem?_cons_zero, getV_some, oc_ok, op_ok, os_ok, e1, ois_ok, hi2]) ⟨[], _, _, rfl, rfl, P1, U1⟩
    (fun i ρ μ' ⟨w, x, y, e2, hw, P2, U2⟩ hi => by
      subst e2
      have hi' : i < (rngD 0 (r : Int)).length := by rw [rngD_len]; omega
      obtain ⟨q, μ2, hq, e3, P3, U3⟩ := draw (k := 197) P2 (many := 141) (by decide) (by decide)
      refine ⟨_, srcV_at hi', [some (.ref p), some (.str (S SG)), some (.str (S w)), some (rngD 0 (r : Int))[i], y], μ', rfl, ?_⟩
      generalize (rngD 0 (r : Int))[i] = d
      have hsl := SG_len
      by_cases hc : (q : Int) < 94
      · have hix := ix_S (l := SG) (i := q) (μ := μ2) (by omega) (by omega)
        have hcat := cat_S (μ := μ2) (x := w) (y := [SG[q]'(by omega)]) (by simp; omega)
        refine ⟨[some (.ref p), some (.str (S SG)), some (.str (S (w ++ [SG[q]'(by omega)]))), some d, some (.int q)], μ2, .inl ?_, _, _, _, rfl, by simp [hw], P3, U2.trans U3⟩
        simp only [es_seq, es_if, es_asg, eg_nm, fo_nx, ev_call, ev_op, ev_cons, ev_nil, ev_var, ev_c, List.getElem?_cons_zero, List.getElem?_cons_succ, List.set_cons_zero, List.set_cons_succ, getV_some, oc_ok, op_ok, os_ok, ob_ok, e3, ot_ok, ft_nx, fLt_ii, ifS_dec, if_pos hc, hix, hcat]
      · have hcat := cat_S (μ := μ2) (x := w) (y := [32]) (by simp; omega)
        refine ⟨[some (.ref p), some (.str (S SG)), some (.str (S (w ++ [32]))), some d, some (.int q)], μ2, .inl ?_, _, _, _, rfl, by simp [hw], P3, U2.trans U3⟩
        simp only [es_seq, es_if, es_asg, eg_nm, fo_nx, ev_call, ev_op, ev_cons, ev_nil, ev_var, ev_c, List.getElem?_cons_zero, List.getElem?_cons_succ, List.set_cons_zero, List.set_cons_succ, getV_some, oc_ok, op_ok, os_ok, ob_ok, e3, ot_ok, ft_nx, fLt_ii, ifS_dec, if_neg hc, str_sp, hcat])
    (fun ρ μ' _ => srcV_end (by rw [rngD_len]; omega))
  obtain ⟨ρ', μ', e, w, x, y, rfl, hw, P2, U2⟩ := key
  refine ⟨w, μ', ?_, by omega, P2, U2⟩
  show finish (m8 (callN tab 198) [some (.ref p), none, none, none, none] μ) = _
  have e0 : callN tab 198 7 [] μ = .ok (.str (S SG)) μ := c_signs
  rw [← str_e] at e
  simp only [m8, es_alls, es_all1, es_all0, es_seq, es_asg, es_ret, eg_nm, fo_nx, ev_call, ev_alls, ev_all0, ev_nil, ev_var, ev_c, List.getElem?_cons_zero, List.getElem?_cons_succ, List.set_cons_zero, List.set_cons_succ, getV_some, os_ok, ot_ok, ft_nx, e0, e, fin_rt]
end K02
set_option Elab.async false
set_option linter.all false
set_option maxRecDepth 100000
set_option maxHeartbeats 4000000
namespace K02
open PySem PM PL L2 SX
theorem c_word {p : Nat} {μ : Mem} {most share : Nat} {us : List Nat} (hP : Pool μ p) (hm : most ≤ 100) (hs1 : 0 < share) (hs2 : share ≤ 100) (hu1 : 0 < us.length) (hu2 : us.length ≤ 100) :
    ∃ (w : List Nat) (μ' : Mem), callN tab 199 9 [.ref p, .int most, .int share, .str (S us)] μ = .ok (.str (S w)) μ' ∧ w.length ≤ 100 ∧ Pool μ' p ∧ Upd p μ μ' := by
  obtain ⟨r, μ1, hr, e1, P1, U1⟩ := draw (k := 197) hP (many := (most : Int) + 1) (by omega) (by omega)
  have hit : itR1 [.int (r : Int)] μ1 = .ok (srcV (rngD 0 (r : Int))) (r : Int).toNat μ1 := it_r1 (by omega) (by omega)
  rw [Int.toNat_natCast] at hit
  have key := for_inv (C := callN tab 198) (it := iR itR1 (mCons (mCall 4 (mCons (mVar 0) (mCons (mOp fAdd (mVar 1) (mC (.int 1))) mNil))) mNil)) (g := gNm 6) (b := sIf (mOp fEq (mCall 4 (mCons (mVar 0) (mCons (mVar 2) mNil))) (mC (.int 1))) (sAsg (mOp fAdd (mVar 5) (mOp fIx (mVar 4) (mCall 4 (mCons (mVar 0) (mCons (mC (.int 95)) mNil))))) (gNm 5)) (sAsg (mOp fAdd (mVar 5) (mOp fIx (mVar 3) (mCall 4 (mCons (mVar 0) (mCons (mCB bLen (mCons (mVar 3) mNil)) mNil))))) (gNm 5)))
    (ρ := [some (.ref p), some (.int most), some (.int share), some (.str (S us)), some (.str (S SG)), some (.str (S [])), none]) (μ := μ) (μ0 := μ1) (s := srcV (rngD 0 (r : Int))) (N := r)
    (fun i ρ μ' => ∃ (w : List Nat) (x : Option D), ρ = [some (.ref p), some (.int most), some (.int share), some (.str (S us)), some (.str (S SG)), some (.str (S w)), x] ∧ w.length = i ∧ Pool μ' p ∧ Upd p μ μ')
    (by
      have hi2 : itR1 [.int (r : Int)] μ1 = .ok (srcV (rngD 0 (r : Int))) r μ1 := hit
      simp only [ei_r, ev_call, ev_cons, ev_nil, ev_op, ev_var, ev_c, List.getElem?_cons_zero, List.getElem?_cons_succ, getV_some, ob_ok, fAdd_ii, oc_ok, op_ok, os_ok, e1, ois_ok, hi2]) ⟨[], _, rfl, rfl, P1, U1⟩
    (fun i ρ μ' ⟨w, x, e2, hw, P2, U2⟩ hi => by
      subst e2
      have hi' : i < (rngD 0 (r : Int)).length := by rw [rngD_len]; omega
      obtain ⟨q, μ2, hq, e3, P3, U3⟩ := draw (k := 197) P2 (many := (share : Int)) (by omega) (by omega)
      refine ⟨_, srcV_at hi', [some (.ref p), some (.int most), some (.int share), some (.str (S us)), some (.str (S SG)), some (.str (S w)), some (rngD 0 (r : Int))[i]], μ', rfl, ?_⟩
      generalize (rngD 0 (r : Int))[i] = d
      have hsl := SG_len
      by_cases hc : (q : Int) = 1
      · obtain ⟨z, μ3, hz, e4, P4, U4⟩ := draw (k := 197) P3 (many := 95) (by decide) (by decide)
        have hix := ix_S (l := SG) (i := z) (μ := μ3) (by omega) (by omega)
        have hcat := cat_S (μ := μ3) (x := w) (y := [SG[z]'(by omega)]) (by simp; omega)
        refine ⟨[some (.ref p), some (.int most), some (.int share), some (.str (S us)), some (.str (S SG)), some (.str (S (w ++ [SG[z]'(by omega)]))), some d], μ3, .inl ?_, _, _, rfl, by simp [hw], P4, U2.trans (U3.trans U4)⟩
        simp only [es_if, es_asg, eg_nm, fo_nx, ev_call, ev_op, ev_cons, ev_nil, ev_var, ev_c, List.getElem?_cons_zero, List.getElem?_cons_succ, List.set_cons_zero, List.set_cons_succ, getV_some, oc_ok, op_ok, os_ok, ob_ok, e3, e4, ot_ok, fEq_ii, ifS_dec, if_pos hc, hix, hcat]
      · have hlen := len_S (a := us) (μ := μ2) (by omega)
        obtain ⟨z, μ3, hz, e4, P4, U4⟩ := draw (k := 197) P3 (many := (us.length : Int)) (by omega) (by omega)
        have hix := ix_S (l := us) (i := z) (μ := μ3) (by omega) (by omega)
        have hcat := cat_S (μ := μ3) (x := w) (y := [us[z]'(by omega)]) (by simp; omega)
        refine ⟨[some (.ref p), some (.int most), some (.int share), some (.str (S us)), some (.str (S SG)), some (.str (S (w ++ [us[z]'(by omega)]))), some d], μ3, .inl ?_, _, _, rfl, by simp [hw], P4, U2.trans (U3.trans U4)⟩
        simp only [es_if, es_asg, eg_nm, fo_nx, ev_call, ev_cb, ev_op, ev_cons, ev_nil, ev_var, ev_c, List.getElem?_cons_zero, List.getElem?_cons_succ, List.set_cons_zero, List.set_cons_succ, getV_some, oc_ok, op_ok, os_ok, ob_ok, e3, hlen, e4, ot_ok, fEq_ii, ifS_dec, if_neg hc, hix, hcat])
    (fun ρ μ' _ => srcV_end (by rw [rngD_len]; omega))
  obtain ⟨ρ', μ', e, w, x, rfl, hw, P2, U2⟩ := key
  refine ⟨w, μ', ?_, by omega, P2, U2⟩
  show finish (m9 (callN tab 198) [some (.ref p), some (.int most), some (.int share), some (.str (S us)), none, none, none] μ) = _
  have e0 : callN tab 198 7 [] μ = .ok (.str (S SG)) μ := c_signs
  rw [← str_e] at e
  simp only [m9, es_alls, es_all1, es_all0, es_seq, es_asg, es_ret, eg_nm, fo_nx, ev_call, ev_alls, ev_all0, ev_nil, ev_var, ev_c, List.getElem?_cons_zero, List.getElem?_cons_succ, List.set_cons_zero, List.set_cons_succ, getV_some, os_ok, ot_ok, ft_nx, e0, e, fin_rt]
/-- a text repeated -/
theorem mul_len (x : Array Nat) : ∀ (m : Nat) (acc : Array Nat), ((List.replicate m x).foldl (· ++ ·) acc).size = acc.size + m * x.size
  | 0, acc => by simp
  | m + 1, acc => by
    rw [List.replicate_succ, List.foldl_cons, mul_len x m, Array.size_append, Nat.succ_mul]
    omega
theorem mul_S {μ : Mem} {a : List Nat} {n : Int} (h : a.length ≤ 40) (h1 : 0 ≤ n) (h2 : n ≤ 60) : ∃ b : List Nat, fMulS (.str (S a)) (.int n) μ = .ok (.str (S b)) μ ∧ b.length ≤ 3000 := by
  refine ⟨(Txt.mul (S a) n).cps.toList, ?_, ?_⟩
  · show (if _ then oS (Txt.mul (S a) n) μ else .bad) = _
    rw [if_pos ⟨h1, by omega, by rw [S_len]; omega⟩, S_tl]
    rfl
  · unfold Txt.mul
    by_cases c1 : n < 1
    · rw [if_pos c1]
      show (0 : Nat) ≤ 3000
      omega
    · rw [if_neg c1]
      by_cases c2 : (n == 1 || (S a).length == 0) = true
      · rw [if_pos c2]
        show a.toArray.toList.length ≤ 3000
        simp
        omega
      · rw [if_neg c2]
        rw [Array.length_toList, mul_len]
        show 0 + n.toNat * a.toArray.size ≤ 3000
        rw [List.size_toArray]
        have : n.toNat * a.length ≤ 60 * 40 := Nat.mul_le_mul (by omega) h
        omega
end K02
set_option Elab.async false
set_option linter.all false
set_option maxRecDepth 100000
set_option maxHeartbeats 4000000
namespace K02
open PySem PM PL L2 SX
/-- texts -/
def Txs (l : List D) : Prop := ∀ d ∈ l, ∃ w : List Nat, d = .str (S w) ∧ w.length ≤ 10000
theorem Txs.app {l m : List D} (h : Txs l) (k : Txs m) : Txs (l ++ m) := fun d hd => (List.mem_append.mp hd).elim (h d) (k d)
theorem Txs.one {w : List Nat} (h : w.length ≤ 10000) : Txs [.str (S w)] := fun d hd => by
  rcases List.mem_cons.mp hd with rfl | hd
  · exact ⟨w, rfl, h⟩
  · cases hd
theorem cut_in : ∀ (a w : List Nat), ∀ v ∈ cutG w a, v.length ≤ w.length + a.length
  | [], w, v, hv => by
    rw [cut_nil] at hv
    split at hv
    · cases hv
    · rcases List.mem_cons.mp hv with rfl | hv
      · simp
      · cases hv
  | c :: r, w, v, hv => by
    rw [cut_cons] at hv
    split at hv
    · split at hv
      · have := cut_in r [] v hv
        simp at this ⊢
        omega
      · rcases List.mem_cons.mp hv with rfl | hv
        · simp
        · have := cut_in r [] v hv
          simp at this ⊢
          omega
    · have := cut_in r (w ++ [c]) v hv
      simp at this ⊢
      omega
theorem cut_len (a : List Nat) : (cutG [] a).length ≤ a.length + 1 := by
  rw [← spl_cut]
  exact Nat.le_trans (List.length_filter_le _ _) (spl_len a [])
theorem txs_Txs {b : List Nat} (h : b.length ≤ 3000) : Txs (txs (cutG [] b)) := fun d hd => by
  obtain ⟨w, hw, rfl⟩ := List.mem_map.mp hd
  have := cut_in b [] w hw
  exact ⟨w, rfl, by simp at this; omega⟩
theorem same_txs {μ : Mem} {l : List (List Nat)} {m n : Nat} (h1 : μ[m]? = some (.lst (txs l))) (h2 : μ[n]? = some (.lst (txs l))) (hz : l.length ≤ 10000) : callN tab 199 5 [.ref m, .ref n] μ = .ok (.bl true) μ := by
  refine c_same.trans (same_list h1 h2 (by simp [txs]; omega) fun d hd => ?_)
  obtain ⟨w, _, rfl⟩ := List.mem_map.mp hd
  refine (c_same (k := 197)).trans (same_str.trans ?_)
  rw [beq_self_eq_true]
/-- more words are typed -/
theorem c_more {m0 m1 m2 m3 m4 m5 m6 : O} {g : Mem} {l : List D} {po : O} {p most share N : Nat} {us : List Nat} {lit : Str} (hlit : lit = S us) (gp : p = 8 + g.length)
    (hP : Pool ([m0, m1, m2, m3, m4, m5, m6, .lst l] ++ g ++ [po]) p) (hT : Txs l) (hl : l.length ≤ 100) (hN : N ≤ 10) (hm : most ≤ 100) (hs1 : 0 < share) (hs2 : share ≤ 100) (hu1 : 0 < us.length) (hu2 : us.length ≤ 100) {x0 x2 x3 x4 x6 x7 : Option D} :
    ∃ x6' l' po', sFor (iR itR1 (mCons (mC (.int N)) mNil)) (gNm 6) (sExpr (mBM isLst kAppend (mVar 5) (mCons (mCall 9 (mCons (mVar 1) (mCons (mC (.int most)) (mCons (mC (.int share)) (mCons (mC (.str lit)) mNil))))) mNil))) (callN tab 199) [x0, some (.ref p), x2, x3, x4, some (.ref 7), x6, x7] ([m0, m1, m2, m3, m4, m5, m6, .lst l] ++ g ++ [po]) =
      .nx [x0, some (.ref p), x2, x3, x4, some (.ref 7), x6', x7] ([m0, m1, m2, m3, m4, m5, m6, .lst l'] ++ g ++ [po']) ∧ Txs l' ∧ l'.length ≤ l.length + N := by
  subst hlit gp
  have hi0 : itR1 [.int (N : Int)] ([m0, m1, m2, m3, m4, m5, m6, .lst l] ++ g ++ [po]) = .ok (srcV (rngD 0 (N : Int))) (N : Int).toNat ([m0, m1, m2, m3, m4, m5, m6, .lst l] ++ g ++ [po]) := it_r1 (by omega) (by omega)
  rw [Int.toNat_natCast] at hi0
  have key := for_inv (C := callN tab 199) (it := iR itR1 (mCons (mC (.int N)) mNil)) (g := gNm 6) (b := sExpr (mBM isLst kAppend (mVar 5) (mCons (mCall 9 (mCons (mVar 1) (mCons (mC (.int most)) (mCons (mC (.int share)) (mCons (mC (.str (S us))) mNil))))) mNil)))
    (ρ := [x0, some (.ref (8 + g.length)), x2, x3, x4, some (.ref 7), x6, x7]) (μ := [m0, m1, m2, m3, m4, m5, m6, .lst l] ++ g ++ [po]) (μ0 := [m0, m1, m2, m3, m4, m5, m6, .lst l] ++ g ++ [po]) (s := srcV (rngD 0 (N : Int))) (N := N)
    (fun i ρ μ' => ∃ x6' l' po', ρ = [x0, some (.ref (8 + g.length)), x2, x3, x4, some (.ref 7), x6', x7] ∧ μ' = [m0, m1, m2, m3, m4, m5, m6, .lst l'] ++ g ++ [po'] ∧ Pool μ' (8 + g.length) ∧ Txs l' ∧ l'.length = l.length + i)
    (by simp only [ei_r, ev_cons, ev_nil, ev_c, oc_ok, op_ok, ois_ok, hi0]) ⟨_, _, _, rfl, rfl, hP, hT, rfl⟩
    (fun i ρ μ' ⟨y, l', po', e1, e2, P2, T2, hl2⟩ hi => by
      subst e1 e2
      have hi' : i < (rngD 0 (N : Int)).length := by rw [rngD_len]; omega
      obtain ⟨w, μ2, e3, hw, P3, o, rfl⟩ := c_word P2 hm hs1 hs2 hu1 hu2
      have hset : ([m0, m1, m2, m3, m4, m5, m6, .lst l'] ++ g ++ [po']).set (8 + g.length) o = [m0, m1, m2, m3, m4, m5, m6, .lst l'] ++ g ++ [o] := by
        have hlen : ([m0, m1, m2, m3, m4, m5, m6, .lst l'] ++ g).length = 8 + g.length := by rw [List.length_append]; rfl
        rw [List.set_append_right _ _ (by rw [hlen]; exact Nat.le_refl _), hlen, Nat.sub_self]
        rfl
      rw [hset] at e3 P3
      have hgm : getM ([m0, m1, m2, m3, m4, m5, m6, .lst l'] ++ g ++ [o]) 7 = some l' := rfl
      have happ : kAppend (.ref 7) [.str (S w)] ([m0, m1, m2, m3, m4, m5, m6, .lst l'] ++ g ++ [o]) = .ok .non ([m0, m1, m2, m3, m4, m5, m6, .lst (l' ++ [.str (S w)])] ++ g ++ [o]) := by
        unfold kAppend
        dsimp only
        rw [hgm]
        dsimp only
        rw [if_pos (by rw [sizeLine_eq]; omega)]
        rfl
      have hil : isLst (.ref 7) ([m0, m1, m2, m3, m4, m5, m6, .lst l'] ++ g ++ [po']) = true := rfl
      refine ⟨_, srcV_at hi', [x0, some (.ref (8 + g.length)), x2, x3, x4, some (.ref 7), some (rngD 0 (N : Int))[i], x7], _, rfl, [x0, some (.ref (8 + g.length)), x2, x3, x4, some (.ref 7), some (rngD 0 (N : Int))[i], x7], [m0, m1, m2, m3, m4, m5, m6, .lst (l' ++ [.str (S w)])] ++ g ++ [o], .inl ?_, _, _, _, rfl, rfl, ?_, T2.app (Txs.one (by omega)), by rw [List.length_append, hl2]; rfl⟩
      · generalize (rngD 0 (N : Int))[i] = d
        simp only [es_expr, ev_bm, ev_call, ev_cons, ev_nil, ev_var, ev_c, List.getElem?_cons_zero, List.getElem?_cons_succ, getV_some, oc_ok, op_ok, os_ok, ob_ok, hil, if_true, e3, happ, ot_ok]
      · obtain ⟨a, b, c, n, h⟩ := P3
        refine ⟨a, b, c, n, ?_⟩
        have hlen : ([m0, m1, m2, m3, m4, m5, m6, .lst l'] ++ g).length = 8 + g.length := by rw [List.length_append]; rfl
        have hlen2 : ([m0, m1, m2, m3, m4, m5, m6, .lst (l' ++ [.str (S w)])] ++ g).length = 8 + g.length := by rw [List.length_append]; rfl
        rw [List.getElem?_append_right (by rw [hlen]; exact Nat.le_refl _), hlen] at h
        rw [List.getElem?_append_right (by rw [hlen2]; exact Nat.le_refl _), hlen2]
        exact h)
    (fun ρ μ' _ => srcV_end (by rw [rngD_len]; omega))
  obtain ⟨ρ', μ', e, y, l', po', rfl, rfl, _, T2, hl2⟩ := key
  exact ⟨y, l', po', e, T2, by omega⟩
end K02
set_option Elab.async false
set_option linter.all false
set_option maxRecDepth 100000
set_option maxHeartbeats 4000000
namespace K02
open PySem PM PL L2 SX
theorem fAdd_rr {μ : Mem} {n m : Nat} {l k : List D} (h1 : μ[n]? = some (.lst l)) (h2 : μ[m]? = some (.lst k)) (hz : l.length + k.length ≤ sizeLine) : fAdd (.ref n) (.ref m) μ = .ok (.ref μ.length) (μ ++ [.lst (l ++ k)]) := by
  unfold fAdd
  dsimp only
  rw [show getM μ n = some l by unfold getM; rw [h1], show getM μ m = some k by unfold getM; rw [h2]]
  dsimp only
  rw [if_pos hz]
  rfl
/-- each word is told right -/
theorem c_all {l : List D} (hN : Txs l) {μ : Mem} {n : Nat} {it : Ex} {ρ0 : PM.Loc} {μ0 : Mem} {x0 x1 x2 x3 x4 x5 x6 x7 : Option D} (hit : it (callN tab 199) [x0, x1, x2, x3, x4, x5, x6, x7] μ0 = .ok (.ref n) μ) (hm : μ[n]? = some (.lst l)) :
    ∃ y, sFor (iVal it) (gNm 7) (sSeq (sIf (mNot (mTru (mCall 5 (mCons (mCall 1 (mCons (mVar 7) mNil)) (mCons (mCall 11 (mCons (mVar 7) mNil)) mNil))))) (sRet (mC (.bl false))) sNil) (sIf (mNot (mTru (mCall 5 (mCons (mCall 2 (mCons (mVar 7) mNil)) (mCons (mCall 6 (mCons (mVar 7) mNil)) mNil))))) (sRet (mC (.bl false))) sNil)) (callN tab 199) [x0, x1, x2, x3, x4, x5, x6, x7] μ0 =
      .nx [x0, x1, x2, x3, x4, x5, x6, y] μ := by
  have hg : getL μ n = some l := by rw [getL_eq, hm, lstO_lst]
  obtain ⟨ρ', μ', e, y, rfl, rfl⟩ := for_inv (C := callN tab 199) (it := iVal it) (g := gNm 7) (b := sSeq (sIf (mNot (mTru (mCall 5 (mCons (mCall 1 (mCons (mVar 7) mNil)) (mCons (mCall 11 (mCons (mVar 7) mNil)) mNil))))) (sRet (mC (.bl false))) sNil) (sIf (mNot (mTru (mCall 5 (mCons (mCall 2 (mCons (mVar 7) mNil)) (mCons (mCall 6 (mCons (mVar 7) mNil)) mNil))))) (sRet (mC (.bl false))) sNil))
    (ρ := [x0, x1, x2, x3, x4, x5, x6, x7]) (μ := μ0) (μ0 := μ) (s := srcL n) (N := l.length)
    (fun i ρ μ' => ∃ y, ρ = [x0, x1, x2, x3, x4, x5, x6, y] ∧ μ' = μ)
    (by
      rw [ei_val, hit, oi_ok]
      exact itV_l hg) ⟨x7, rfl, rfl⟩
    (fun i ρ μ' ⟨y, e1, e2⟩ hi => by
      subst e1 e2
      obtain ⟨w, hv, hw⟩ := hN _ (List.getElem_mem hi)
      have h1 : callN tab 199 1 [.str (S w)] μ' = .ok (numD w) μ' := c_numof hw
      have h2 : callN tab 199 11 [.str (S w)] μ' = .ok (numD w) μ' := c_numdue hw
      have h3 : callN tab 199 2 [.str (S w)] μ' = .ok (.bl (nameB w)) μ' := c_isname hw
      have h4 : callN tab 199 6 [.str (S w)] μ' = .ok (.bl (nameB w)) μ' := c_lawname hw
      have s1 : callN tab 199 5 [numD w, numD w] μ' = .ok (.bl true) μ' := by
        unfold numD
        split
        · refine c_same.trans (same_int.trans ?_)
          rw [decide_eq_true rfl]
        · exact c_same.trans same_non
      have s2 : callN tab 199 5 [.bl (nameB w), .bl (nameB w)] μ' = .ok (.bl true) μ' := c_same.trans same_bl
      refine ⟨.str (S w), by rw [srcL_at hg hi, hv], _, _, rfl, [x0, x1, x2, x3, x4, x5, x6, some (.str (S w))], μ', .inl ?_, _, rfl, rfl⟩
      show (sSeq (sIf (mNot (mTru (mCall 5 (mCons (mCall 1 (mCons (mVar 7) mNil)) (mCons (mCall 11 (mCons (mVar 7) mNil)) mNil))))) (sRet (mC (.bl false))) sNil) (sIf (mNot (mTru (mCall 5 (mCons (mCall 2 (mCons (mVar 7) mNil)) (mCons (mCall 6 (mCons (mVar 7) mNil)) mNil))))) (sRet (mC (.bl false))) sNil)) (callN tab 199) [x0, x1, x2, x3, x4, x5, x6, some (.str (S w))] μ' = _
      simp only [es_seq, es_if, es_nil, ev_not, ev_tru, ev_call, ev_cons, ev_nil, ev_var, List.getElem?_cons_zero, List.getElem?_cons_succ, getV_some, oc_ok, op_ok, os_ok, h1, h2, h3, h4, s1, s2, ob_ok, truO_bl, ifD_t, ifS_f, ft_nx])
    (fun ρ μ' ⟨y, _, e2⟩ => by subst e2; exact srcL_end hg rfl)
  exact ⟨y, e⟩
theorem lit_Txs {z : Str} (h : z.length ≤ 100) : Txs [.str z] := by
  rw [← S_tl z]
  refine Txs.one ?_
  rw [Array.length_toList]
  show z.length ≤ 10000
  omega
theorem law_true (ns : List Int) (h : ns.length ≤ 63) : ∃ μ, callN tab fuel 12 [.ref 0] [.rol (ns.map .int)] = .ok (.bl true) μ := by
  have hpool := fun (μ : Mem) (p : Int) (h : μ[0]? = some (.rol (ns.map .int))) => pool_spec (callN tab 198) (s := 0) (p := p) (ns := ns) (μ := μ) h
  generalize hL : ns.map D.int = L at *
  obtain ⟨a, b, c, hp⟩ := hpool [.rol L] 0 rfl
  have e1 : callN tab 199 3 [.ref 0, .int 0] [.rol L] = .ok (.ref 1) [.rol L, .lst [.int a, .int b, .int c, .int 0]] := c_pool.trans hp
  have P0 : Pool [.rol L, .lst [.int a, .int b, .int c, .int 0]] 1 := ⟨a, b, c, 0, rfl⟩
  obtain ⟨w, _, e2', hw, P1', o1, rfl⟩ := c_line P0
  have e2 : callN tab 199 8 [.ref 1] [.rol L, .lst [.int a, .int b, .int c, .int 0]] = .ok (.str (S w)) [.rol L, o1] := e2'
  have P1 : Pool [.rol L, o1] 1 := P1'
  obtain ⟨r, _, hr, e3', P2', o2, rfl⟩ := draw (k := 198) P1 (many := 16) (by decide) (by decide)
  have e3 : callN tab 199 4 [.ref 1, .int 16] [.rol L, o1] = .ok (.int r) [.rol L, o2] := e3'
  have P2 : Pool [.rol L, o2] 1 := P2'
  have hif : ∃ (bb : List Nat) (o3 : O), sIf (mOp fEq (mCall 4 (mCons (mVar 1) (mCons (mC (.int 16)) mNil))) (mC (.int 15))) (sAsg (mOp fMulS (mVar 2) (mOp fAdd (mC (.int 2)) (mCall 4 (mCons (mVar 1) (mCons (mC (.int 50)) mNil))))) (gNm 2)) sNil (callN tab 199) [some (.ref 0), some (.ref 1), some (.str (S w)), none, none, none, none, none] [.rol L, o1] =
      .nx [some (.ref 0), some (.ref 1), some (.str (S bb)), none, none, none, none, none] [.rol L, o3] ∧ bb.length ≤ 3000 := by
    by_cases hc : (r : Int) = 15
    · obtain ⟨q, _, hq, e4', P3', o3, rfl⟩ := draw (k := 198) P2 (many := 50) (by decide) (by decide)
      have e4 : callN tab 199 4 [.ref 1, .int 50] [.rol L, o2] = .ok (.int q) [.rol L, o3] := e4'
      obtain ⟨bb, hm, hb⟩ := mul_S (μ := [.rol L, o3]) (a := w) (n := 2 + (q : Int)) hw (by omega) (by omega)
      refine ⟨bb, o3, ?_, hb⟩
      simp only [es_if, es_asg, eg_nm, fo_nx, ev_op, ev_call, ev_cons, ev_nil, ev_var, ev_c, List.getElem?_cons_zero, List.getElem?_cons_succ, List.set_cons_zero, List.set_cons_succ, getV_some, oc_ok, op_ok, os_ok, ob_ok, e3, fEq_ii, ifS_dec, if_pos hc, e4, fAdd_ii, hm, ot_ok]
    · refine ⟨w, o2, ?_, by omega⟩
      simp only [es_if, es_nil, ev_op, ev_call, ev_cons, ev_nil, ev_var, ev_c, List.getElem?_cons_zero, List.getElem?_cons_succ, getV_some, oc_ok, op_ok, os_ok, ob_ok, e3, fEq_ii, ifS_dec, if_neg hc]
  obtain ⟨bb, o3, e5, hbb⟩ := hif
  have e6 : callN tab 199 10 [.str (S bb)] [.rol L, o3] = .ok (.ref 2) [.rol L, o3, .lst (txs (cutG [] bb))] := c_cut (k := 198) (by omega)
  have hwl : (cutG [] bb).length ≤ 10000 := by have := cut_len bb; omega
  have hwt : Txs (txs (cutG [] bb)) := txs_Txs hbb
  have hsame := fun (μ : Mem) (m n : Nat) (h1 : μ[m]? = some (.lst (txs (cutG [] bb)))) (h2 : μ[n]? = some (.lst (txs (cutG [] bb)))) => same_txs h1 h2 hwl
  have hwords := fun (μ : Mem) => c_words (k := 198) (a := bb) (μ := μ) (by omega)
  have hle : (txs (cutG [] bb)).length ≤ 10000 := by simp [txs]; exact hwl
  generalize TL.spl [32] 0 [] bb = sp at hwords
  generalize txs (cutG [] bb) = W at *
  have e7 : callN tab 199 0 [.str (S bb)] [.rol L, o3, .lst W] = .ok (.ref 4) [.rol L, o3, .lst W, .lst (txs sp), .lst W] := hwords _
  have s1 : callN tab 199 5 [.ref 4, .ref 2] [.rol L, o3, .lst W, .lst (txs sp), .lst W] = .ok (.bl true) [.rol L, o3, .lst W, .lst (txs sp), .lst W] := hsame _ 4 2 rfl rfl
  have a1 : kAppend (.ref 4) [.str (Str.ofString "0")] [.rol L, o3, .lst W, .lst (txs sp), .lst W] = .ok .non [.rol L, o3, .lst W, .lst (txs sp), .lst (W ++ [.str (Str.ofString "0")])] := by
    show (if W.length < sizeLine then _ else _) = _
    rw [if_pos (by rw [sizeLine_eq]; omega)]
    rfl
  have i1 : isLst (.ref 4) [.rol L, o3, .lst W, .lst (txs sp), .lst W] = true := rfl
  generalize W ++ [.str (Str.ofString "0")] = W0 at a1
  have e8 : callN tab 199 0 [.str (S bb)] [.rol L, o3, .lst W, .lst (txs sp), .lst W0] = .ok (.ref 6) [.rol L, o3, .lst W, .lst (txs sp), .lst W0, .lst (txs sp), .lst W] := hwords _
  have s2 : callN tab 199 5 [.ref 6, .ref 2] [.rol L, o3, .lst W, .lst (txs sp), .lst W0, .lst (txs sp), .lst W] = .ok (.bl true) [.rol L, o3, .lst W, .lst (txs sp), .lst W0, .lst (txs sp), .lst W] := hsame _ 6 2 rfl rfl
  generalize hl0 : ([.str (Str.ofString "0"), .str (Str.ofString "00"), .str (Str.ofString "9"), .str (Str.ofString "99999"), .str (Str.ofString "100000"), .str (Str.ofString "")] : List D) = l0
  have n0 : l0.length = 6 := by rw [← hl0]; rfl
  have t0 : Txs l0 := by
    rw [← hl0]
    exact (lit_Txs (by decide +kernel)).app ((lit_Txs (by decide +kernel)).app ((lit_Txs (by decide +kernel)).app ((lit_Txs (by decide +kernel)).app ((lit_Txs (by decide +kernel)).app (lit_Txs (by decide +kernel))))))
  have k1 : mkLst l0 [.rol L, o3, .lst W, .lst (txs sp), .lst W0, .lst (txs sp), .lst W] = .ok (.ref 7) [.rol L, o3, .lst W, .lst (txs sp), .lst W0, .lst (txs sp), .lst W, .lst l0] := mkLst_ok (by rw [n0, sizeLine_eq]; omega)
  obtain ⟨a2, b2, c2, hp2⟩ := hpool [.rol L, o3, .lst W, .lst (txs sp), .lst W0, .lst (txs sp), .lst W, .lst l0] 1 rfl
  have e9 : callN tab 199 3 [.ref 0, .int 1] [.rol L, o3, .lst W, .lst (txs sp), .lst W0, .lst (txs sp), .lst W, .lst l0] = .ok (.ref 8) ([.rol L, o3, .lst W, .lst (txs sp), .lst W0, .lst (txs sp), .lst W, .lst l0] ++ [] ++ [.lst [.int a2, .int b2, .int c2, .int 0]]) := c_pool.trans hp2
  obtain ⟨y6, l1, po1, e10, t1, n1⟩ := c_more (m0 := .rol L) (m1 := o3) (m2 := .lst W) (m3 := .lst (txs sp)) (m4 := .lst W0) (m5 := .lst (txs sp)) (m6 := .lst W) (g := []) (l := l0) (po := .lst [.int a2, .int b2, .int c2, .int 0]) (p := 8) (most := 7) (share := 12) (N := 3) (us := figL) str_fig rfl ⟨a2, b2, c2, 0, rfl⟩ t0 (by omega) (by decide) (by decide) (by decide) (by decide) (by decide) (by decide)
    (x0 := some (.ref 0)) (x2 := some (.str (S bb))) (x3 := some (.ref 2)) (x4 := some (.ref 4)) (x6 := none) (x7 := none)
  rw [show ((7 : Nat) : Int) = 7 from rfl, show ((12 : Nat) : Int) = 12 from rfl, show ((3 : Nat) : Int) = 3 from rfl] at e10
  obtain ⟨a3, b3, c3, hp3⟩ := hpool ([.rol L, o3, .lst W, .lst (txs sp), .lst W0, .lst (txs sp), .lst W, .lst l1] ++ [] ++ [po1]) 2 rfl
  have e11 : callN tab 199 3 [.ref 0, .int 2] ([.rol L, o3, .lst W, .lst (txs sp), .lst W0, .lst (txs sp), .lst W, .lst l1] ++ [] ++ [po1]) = .ok (.ref 9) ([.rol L, o3, .lst W, .lst (txs sp), .lst W0, .lst (txs sp), .lst W, .lst l1] ++ [po1] ++ [.lst [.int a3, .int b3, .int c3, .int 0]]) := c_pool.trans hp3
  obtain ⟨z6, l2, po2, e12, t2, n2⟩ := c_more (m0 := .rol L) (m1 := o3) (m2 := .lst W) (m3 := .lst (txs sp)) (m4 := .lst W0) (m5 := .lst (txs sp)) (m6 := .lst W) (g := [po1]) (l := l1) (po := .lst [.int a3, .int b3, .int c3, .int 0]) (p := 9) (most := 14) (share := 16) (N := 2) (us := lowL ++ figL) str_both rfl ⟨a3, b3, c3, 0, rfl⟩ t1 (by omega) (by decide) (by decide) (by decide) (by decide) (by decide) (by decide)
    (x0 := some (.ref 0)) (x2 := some (.str (S bb))) (x3 := some (.ref 2)) (x4 := some (.ref 4)) (x6 := y6) (x7 := none)
  rw [show ((14 : Nat) : Int) = 14 from rfl, show ((16 : Nat) : Int) = 16 from rfl, show ((2 : Nat) : Int) = 2 from rfl] at e12
  have k2 : fAdd (.ref 2) (.ref 7) ([.rol L, o3, .lst W, .lst (txs sp), .lst W0, .lst (txs sp), .lst W, .lst l2] ++ [po1] ++ [po2]) = .ok (.ref 10) ([.rol L, o3, .lst W, .lst (txs sp), .lst W0, .lst (txs sp), .lst W, .lst l2] ++ [po1] ++ [po2] ++ [.lst (W ++ l2)]) := fAdd_rr rfl rfl (by rw [sizeLine_eq]; omega)
  obtain ⟨y7, e13⟩ := c_all (hwt.app t2) (μ := [.rol L, o3, .lst W, .lst (txs sp), .lst W0, .lst (txs sp), .lst W, .lst l2] ++ [po1] ++ [po2] ++ [.lst (W ++ l2)]) (n := 10) (it := mOp fAdd (mVar 3) (mVar 5)) (ρ0 := []) (μ0 := [.rol L, o3, .lst W, .lst (txs sp), .lst W0, .lst (txs sp), .lst W, .lst l2] ++ [po1] ++ [po2]) (x0 := some (.ref 0)) (x1 := some (.ref 9)) (x2 := some (.str (S bb))) (x3 := some (.ref 2)) (x4 := some (.ref 4)) (x5 := some (.ref 7)) (x6 := z6) (x7 := none)
    (by simp only [ev_op, ev_var, List.getElem?_cons_zero, List.getElem?_cons_succ, getV_some, ob_ok, k2]) rfl
  refine ⟨[.rol L, o3, .lst W, .lst (txs sp), .lst W0, .lst (txs sp), .lst W, .lst l2] ++ [po1] ++ [po2] ++ [.lst (W ++ l2)], ?_⟩
  · show finish (m12 (callN tab 199) [some (.ref 0), none, none, none, none, none, none, none] [.rol L]) = _
    simp only [m12, es_alls, es_all1, es_all0, es_seq, es_nil, es_ret, es_expr, es_asg, eg_nm, fo_nx, ev_call, ev_alls, ev_all0, ev_cons, ev_nil, ev_var, ev_c, ev_lst, ev_bm, List.getElem?_cons_zero, List.getElem?_cons_succ, List.set_cons_zero, List.set_cons_succ, getV_some, oc_ok, op_ok, os_ok, ob_ok, ot_ok, ft_nx, e1, e2, e5, e6, e7]
    rw [es_if]
    simp only [es_nil, es_seq, es_if, es_ret, es_expr, es_asg, eg_nm, fo_nx, ev_not, ev_tru, ev_call, ev_alls, ev_all0, ev_cons, ev_nil, ev_var, ev_c, ev_lst, ev_bm, List.getElem?_cons_zero, List.getElem?_cons_succ, List.set_cons_zero, List.set_cons_succ, getV_some, oc_ok, op_ok, os_ok, ob_ok, ot_ok, ft_nx, truO_bl, ifD_t, ifS_f, s1, i1, if_true, a1, e8, s2, hl0, k1, e9, e10, e11, e12, e13, fin_rt]
end K02
set_option Elab.async false
set_option linter.all false
set_option maxRecDepth 100000
set_option maxHeartbeats 4000000
open PySem PySem.W PyProof.Rows
set_option maxHeartbeats 0 in
theorem PySem.Challenge.cw_onefabric_k02_words_names_numbers_holds : PySem.Challenge.rw_onefabric_k02_words_names_numbers.Holds := by
  w_on; o_law; k_head; (case hw => w_witness2)
  k_fill
  refine L2.walk_of (l := PySem.Challenge.rw_onefabric_k02_words_names_numbers) (n := 63) (k := K02.fuel) (x := "script") (CX := fun w => L2.CX PySem.Challenge.rw_onefabric_k02_words_names_numbers.prog w) (sp := fun w => PM.spLaw _ 63) rfl (by decide) rfl ⟨rfl, by decide, by decide⟩ (fun w h Y => PySem.W.kIn_of Y) ?F (fun _ H a ns hl hO hS => ⟨a, ns, rfl, hS, hO, hl, fun _ => rfl⟩) (fun _ _ _ _ _ h => PM.cx_none h)
  case F =>
    intro w mg fa h KX G hmg
    refine' K02.all_mk KX G hmg ?a_0 ?l_0 ?c_0 ?kp_0 ?a_1 ?l_1 ?c_1 ?kp_1 ?a_2 ?l_2 ?c_2 ?kp_2 ?a_3 ?l_3 ?c_3 ?kp_3 ?a_4 ?l_4 ?c_4 ?kp_4 ?a_5 ?l_5 ?c_5 ?kp_5 ?a_6 ?l_6 ?c_6 ?kp_6 ?a_7 ?l_7 ?c_7 ?kp_7 ?a_8 ?l_8 ?c_8 ?kp_8 ?a_9 ?l_9 ?c_9 ?kp_9 ?a_10 ?l_10 ?c_10 ?kp_10 ?a_11 ?l_11 ?c_11 ?kp_11 ?a_12 ?l_12 ?c_12 ?kp_12 ?ca_MOST_DIGITS ?cr_MOST_DIGITS ?ca_DIGITS ?cr_DIGITS ?ca_LONGEST_NAME ?cr_LONGEST_NAME ?ca_LETTERS ?cr_LETTERS ?z0 ?z1 ?z2 ?z3 ?z4 ?z5 ?z6 ?z7 ?z8 ?z9 K02.law_true
    (case a_0 => k_is)
    (case l_0 => k_is)
    (case c_0 => k_is)
    (case kp_0 => k_is)
    (case a_1 => k_is)
    (case l_1 => k_is)
    (case c_1 => k_is)
    (case kp_1 => k_is)
    (case a_2 => k_is)
    (case l_2 => k_is)
    (case c_2 => k_is)
    (case kp_2 => k_is)
    (case a_3 => k_is)
    (case l_3 => k_is)
    (case c_3 => k_is)
    (case kp_3 => k_is)
    (case a_4 => k_is)
    (case l_4 => k_is)
    (case c_4 => k_is)
    (case kp_4 => k_is)
    (case a_5 => k_is)
    (case l_5 => k_is)
    (case c_5 => k_is)
    (case kp_5 => k_is)
    (case a_6 => k_is)
    (case l_6 => k_is)
    (case c_6 => k_is)
    (case kp_6 => k_is)
    (case a_7 => k_is)
    (case l_7 => k_is)
    (case c_7 => k_is)
    (case kp_7 => k_is)
    (case a_8 => k_is)
    (case l_8 => k_is)
    (case c_8 => k_is)
    (case kp_8 => k_is)
    (case a_9 => k_is)
    (case l_9 => k_is)
    (case c_9 => k_is)
    (case kp_9 => k_is)
    (case a_10 => k_is)
    (case l_10 => k_is)
    (case c_10 => k_is)
    (case kp_10 => k_is)
    (case a_11 => k_is)
    (case l_11 => k_is)
    (case c_11 => k_is)
    (case kp_11 => k_is)
    (case a_12 => k_is)
    (case l_12 => k_is)
    (case c_12 => k_is)
    (case kp_12 => k_is)
    (case ca_MOST_DIGITS => k_is)
    (case cr_MOST_DIGITS => exact ⟨_, rfl⟩)
    (case ca_DIGITS => k_is)
    (case cr_DIGITS => exact ⟨_, rfl⟩)
    (case ca_LONGEST_NAME => k_is)
    (case cr_LONGEST_NAME => exact ⟨_, rfl⟩)
    (case ca_LETTERS => k_is)
    (case cr_LETTERS => exact ⟨_, rfl⟩)
    (case z0 => k_is)
    (case z1 => k_is)
    (case z2 => k_is)
    (case z3 => k_is)
    (case z4 => k_is)
    (case z5 => k_is)
    (case z6 => k_is)
    (case z7 => k_is)
    (case z8 => k_is)
    (case z9 => k_is)
