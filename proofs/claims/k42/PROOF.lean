import PyProof.Rows.All
import Wide.All
import OpenK.AllK
import Wide.FinOn
import HandS.Deep
import HandS.Dict
import HandS.ForMost
import HandS.IsInst
import HandS.NoneIn
import HandS.ReCall
import HandS.SortInts
import HandS.Style
import HandS.TupAny
import HandS.TupLe
import HandS.Wide
import HandS.WideBits
import HandS.Zip
import KE.KDictKeyed
import KE.KDictPairs
import KE.LtData
import KE.SortData
import PySem.Challenge.RW_firetogether_k42_whole_windows_of_seen
set_option Elab.async false
set_option linter.all false
set_option maxRecDepth 100000
set_option maxHeartbeats 4000000
set_option exponentiation.threshold 2000
/-! The D-layer, part 1: data as trees, cells of a store, what stands for them in an abstract heap. -/
namespace DL
open PySem L2

/-- the written part, the program, the world -/
structure KW where
  k : PySem.W.Frag
  prog : Program
  w : World
abbrev kw (X : Cx) : KW := ⟨X.K, X.prog, X.w⟩

/-- data that never changes (any more) -/
inductive D where
  | non
  | bl (b : Bool)
  | int (i : Int)
  | str (x : Str)
  | tup (ds : List D)
  | lst (ds : List D)
  /-- a list that is only read: the script -/
  | ro (ds : List D)
  /-- a dict with keys ints and texts -/
  | dk (kvs : List (Key × D))
  /-- a dict with keys that are tuples -/
  | dn (kvs : List (NestedKey × D))
  /-- an object of a class of the text -/
  | obj (cls : Str) (fs : List (Str × D))
  /-- a def of the text -/
  | fn (x : Str)
  /-- a thing that the program only hands on -/
  | ty (n : String)

/-- what a name holds: data, or the i-th cell of the store -/
inductive Lv where
  | d (x : D)
  | c (i : Nat)

/-- a thing that may change -/
inductive Cell where
  | lst (ds : List D)
  | dk (kvs : List (Key × D))
  | dn (kvs : List (NestedKey × D))
  | dead

abbrev Loc := List (Option Lv)
abbrev Sto := List Cell

variable (K : KW)

mutual
/-- v is the key -/
def RepKy (K : KW) (F : Hp) : NestedKey → V → Prop
  | .none, v => v = .non
  | .num i, v => v = .int i
  | .text x, v => v = .str x
  | .tup ks, v => ∃ a xs, v = .ref a ∧ SqT K.k F a xs ∧ RepKys K F ks xs
def RepKys (K : KW) (F : Hp) : List NestedKey → List V → Prop
  | [], vs => vs = []
  | k :: ks, vs => ∃ v r, vs = v :: r ∧ RepKy K F k v ∧ RepKys K F ks r
end
/-- a dict with keys that are tuples, at d, as an object -/
def DnAt (K : KW) (d : Addr) (xs : List (NestedKey × Addr × Value)) (h : Heap) : Prop := (d == sysModules) = false ∧ xs.length ≤ sizeLine ∧ (xs.map (·.1)).Nodup ∧
  ∃ o es ep, h.get? d = some o ∧ o.ExactDict ∧ o.data = .dict es ep ∧ es.toList = xs.map (entryOfKey (nestedKind K.prog K.w))
def dnO (K : KW) (d : Addr) (xs : List (NestedKey × Addr × Value)) : HO := .ext (DnAt K d xs)
mutual
/-- v stands for the data, by what the heap F holds -/
def Rep (K : KW) (F : Hp) : D → V → Prop
  | .non, v => v = .non
  | .bl b, v => v = .bl b
  | .int i, v => v = .int i
  | .str x, v => v = .str x
  | .tup ds, v => ∃ a xs, v = .ref a ∧ SqT K.k F a xs ∧ Reps K F ds xs
  | .lst ds, v => ∃ a xs, v = .ref a ∧ F a = some (.lst xs) ∧ Reps K F ds xs
  | .ro ds, v => ∃ a xs, v = .ref a ∧ SqL K.k F a xs ∧ Reps K F ds xs
  | .dk kvs, v => ∃ a ws, v = .ref a ∧ Rd F a (.dK ws) ∧ RepK K F kvs ws
  | .dn kvs, v => ∃ a xs, v = .ref a ∧ F a = some (dnO K a xs) ∧ RepN K F kvs xs
  | .obj cls fs, v => ∃ a C dx ws, v = .ref a ∧ F a = some (.ins C dx ws) ∧ F dx = some (.own a) ∧ PySem.W.nsIn K.k mainGlobals cls = some (some (.ref C)) ∧ RepF K F fs ws
  | .fn x, v => ∃ f, v = .ref f ∧ PySem.W.nsIn K.k mainGlobals x = some (some (.ref f))
  | .ty n, v => v = .ty n
def Reps (K : KW) (F : Hp) : List D → List V → Prop
  | [], vs => vs = []
  | d :: ds, vs => ∃ v r, vs = v :: r ∧ Rep K F d v ∧ Reps K F ds r
def RepK (K : KW) (F : Hp) : List (Key × D) → List (Key × V) → Prop
  | [], vs => vs = []
  | p :: ds, vs => ∃ v r, vs = (p.1, v) :: r ∧ Rep K F p.2 v ∧ RepK K F ds r
def RepN (K : KW) (F : Hp) : List (NestedKey × D) → List (NestedKey × Addr × Value) → Prop
  | [], xs => xs = []
  | p :: ds, xs => ∃ a u v r, xs = (p.1, a, u) :: r ∧ RepKy K F p.1 (.ref a) ∧ p.1.depth ≤ 8 ∧ RelV v u ∧ Rep K F p.2 v ∧ RepN K F ds r
def RepF (K : KW) (F : Hp) : List (Str × D) → List (Str × V) → Prop
  | [], vs => vs = []
  | p :: ds, vs => ∃ v r, vs = (p.1, v) :: r ∧ Rep K F p.2 v ∧ RepF K F ds r
end

section
variable {K : KW} {F F' : Hp}
theorem same_sqT (e : Same F F') {a : Addr} {xs : List V} (h : SqT K.k F a xs) : SqT K.k F' a xs := by
  rcases h with (h | ⟨o, h⟩) | h
  · exact .inl (.inl (e _ _ h))
  · exact .inl (.inr ⟨o, e _ _ h⟩)
  · exact .inr h
theorem same_rd (e : Same F F') {a : Addr} {u : HO} (h : Rd F a u) : Rd F' a u := by
  rcases h with h | ⟨o, h⟩
  · exact .inl (e _ _ h)
  · exact .inr ⟨o, e _ _ h⟩
mutual
theorem RepKy.mono (e : Same F F') : ∀ (k : NestedKey) (v : V), RepKy K F k v → RepKy K F' k v
  | .none, _, h => by simpa only [RepKy] using h
  | .num _, _, h => by simpa only [RepKy] using h
  | .text _, _, h => by simpa only [RepKy] using h
  | .tup ks, v, h => by
    rw [RepKy] at h ⊢
    obtain ⟨a, xs, h1, h2, h3⟩ := h
    exact ⟨a, xs, h1, same_sqT e h2, RepKys.mono e ks xs h3⟩
theorem RepKys.mono (e : Same F F') : ∀ (ks : List NestedKey) (vs : List V), RepKys K F ks vs → RepKys K F' ks vs
  | [], _, h => by simpa only [RepKys] using h
  | k :: ks, vs, h => by
    rw [RepKys] at h ⊢
    obtain ⟨v, r, h1, h2, h3⟩ := h
    exact ⟨v, r, h1, RepKy.mono e k v h2, RepKys.mono e ks r h3⟩
end
mutual
theorem Rep.mono (e : Same F F') : ∀ (d : D) (v : V), Rep K F d v → Rep K F' d v
  | .non, _, h => by simpa only [Rep] using h
  | .bl _, _, h => by simpa only [Rep] using h
  | .int _, _, h => by simpa only [Rep] using h
  | .str _, _, h => by simpa only [Rep] using h
  | .tup ds, v, h => by
    rw [Rep] at h ⊢
    obtain ⟨a, xs, h1, h2, h3⟩ := h
    exact ⟨a, xs, h1, same_sqT e h2, Reps.mono e ds xs h3⟩
  | .lst ds, v, h => by
    rw [Rep] at h ⊢
    obtain ⟨a, xs, h1, h2, h3⟩ := h
    exact ⟨a, xs, h1, e _ _ h2, Reps.mono e ds xs h3⟩
  | .ro ds, v, h => by
    rw [Rep] at h ⊢
    obtain ⟨a, xs, h1, h2, h3⟩ := h
    exact ⟨a, xs, h1, e.seq h2, Reps.mono e ds xs h3⟩
  | .dk kvs, v, h => by
    rw [Rep] at h ⊢
    obtain ⟨a, xs, h1, h2, h3⟩ := h
    exact ⟨a, xs, h1, same_rd e h2, RepK.mono e kvs xs h3⟩
  | .dn kvs, v, h => by
    rw [Rep] at h ⊢
    obtain ⟨a, xs, h1, h2, h3⟩ := h
    exact ⟨a, xs, h1, e _ _ h2, RepN.mono e kvs xs h3⟩
  | .obj cls fs, v, h => by
    rw [Rep] at h ⊢
    obtain ⟨a, C, dx, ws, h1, h2, h3, h4, h5⟩ := h
    exact ⟨a, C, dx, ws, h1, e _ _ h2, e _ _ h3, h4, RepF.mono e fs ws h5⟩
  | .fn _, _, h => by simpa only [Rep] using h
  | .ty _, _, h => by simpa only [Rep] using h
theorem Reps.mono (e : Same F F') : ∀ (ds : List D) (vs : List V), Reps K F ds vs → Reps K F' ds vs
  | [], _, h => by simpa only [Reps] using h
  | d :: ds, vs, h => by
    rw [Reps] at h ⊢
    obtain ⟨v, r, h1, h2, h3⟩ := h
    exact ⟨v, r, h1, Rep.mono e d v h2, Reps.mono e ds r h3⟩
theorem RepK.mono (e : Same F F') : ∀ (ds : List (Key × D)) (vs : List (Key × V)), RepK K F ds vs → RepK K F' ds vs
  | [], _, h => by simpa only [RepK] using h
  | p :: ds, vs, h => by
    rw [RepK] at h ⊢
    obtain ⟨v, r, h1, h2, h3⟩ := h
    exact ⟨v, r, h1, Rep.mono e p.2 v h2, RepK.mono e ds r h3⟩
theorem RepN.mono (e : Same F F') : ∀ (ds : List (NestedKey × D)) (vs : List (NestedKey × Addr × Value)), RepN K F ds vs → RepN K F' ds vs
  | [], _, h => by simpa only [RepN] using h
  | p :: ds, vs, h => by
    rw [RepN] at h ⊢
    obtain ⟨a, u, v, r, h1, h2, h3, h4, h5, h6⟩ := h
    exact ⟨a, u, v, r, h1, RepKy.mono e _ _ h2, h3, h4, Rep.mono e p.2 v h5, RepN.mono e ds r h6⟩
theorem RepF.mono (e : Same F F') : ∀ (ds : List (Str × D)) (vs : List (Str × V)), RepF K F ds vs → RepF K F' ds vs
  | [], _, h => by simpa only [RepF] using h
  | p :: ds, vs, h => by
    rw [RepF] at h ⊢
    obtain ⟨v, r, h1, h2, h3⟩ := h
    exact ⟨v, r, h1, Rep.mono e p.2 v h2, RepF.mono e ds r h3⟩
end
theorem Reps.length : ∀ {ds : List D} {vs : List V}, Reps K F ds vs → vs.length = ds.length
  | [], _, h => by rw [Reps] at h; rw [h]; rfl
  | d :: ds, vs, h => by
    rw [Reps] at h
    obtain ⟨v, r, h1, h2, h3⟩ := h
    rw [h1, List.length_cons, List.length_cons, Reps.length h3]
theorem Reps.get : ∀ {ds : List D} {vs : List V} {i : Nat} {d : D}, Reps K F ds vs → ds[i]? = some d → ∃ v, vs[i]? = some v ∧ Rep K F d v
  | [], _, _, _, _, e => by simp at e
  | d :: ds, vs, 0, x, h, e => by
    rw [Reps] at h
    obtain ⟨v, r, h1, h2, h3⟩ := h
    simp only [List.getElem?_cons_zero, Option.some.injEq] at e
    subst e h1
    exact ⟨v, rfl, h2⟩
  | d :: ds, vs, i + 1, x, h, e => by
    rw [Reps] at h
    obtain ⟨v, r, h1, h2, h3⟩ := h
    subst h1
    simpa using Reps.get h3 (by simpa using e)
theorem Reps.getv : ∀ {ds : List D} {vs : List V} {i : Nat} {v : V}, Reps K F ds vs → vs[i]? = some v → ∃ d, ds[i]? = some d ∧ Rep K F d v := fun {ds vs i v} h e => by
  have hl := h.length
  have hi : i < ds.length := by
    have := (List.getElem?_eq_some_iff.mp e).1
    omega
  obtain ⟨v', e', r⟩ := h.get (List.getElem?_eq_getElem hi)
  rw [e] at e'
  cases e'
  exact ⟨_, List.getElem?_eq_getElem hi, r⟩
theorem Reps.append : ∀ {ds es : List D} {vs us : List V}, Reps K F ds vs → Reps K F es us → Reps K F (ds ++ es) (vs ++ us)
  | [], _, _, _, h, h' => by rw [Reps] at h; subst h; exact h'
  | d :: ds, _, _, _, h, h' => by
    rw [Reps] at h
    obtain ⟨v, r, h1, h2, h3⟩ := h
    subst h1
    rw [List.cons_append, Reps]
    exact ⟨v, r ++ _, rfl, h2, Reps.append h3 h'⟩
theorem Reps.one {d : D} {v : V} (h : Rep K F d v) : Reps K F [d] [v] := by
  rw [Reps]
  exact ⟨v, [], rfl, h, by rw [Reps]⟩
theorem Reps.nil : Reps K F [] [] := by rw [Reps]
theorem Reps.cons {d : D} {ds : List D} {v : V} {vs : List V} (h : Rep K F d v) (h' : Reps K F ds vs) : Reps K F (d :: ds) (v :: vs) := by
  rw [Reps]
  exact ⟨v, vs, rfl, h, h'⟩
theorem Reps.take : ∀ {ds : List D} {vs : List V} (n : Nat), Reps K F ds vs → Reps K F (ds.take n) (vs.take n)
  | [], _, n, h => by rw [Reps] at h; subst h; simpa using Reps.nil
  | d :: ds, _, 0, h => by simpa using Reps.nil
  | d :: ds, _, n + 1, h => by
    rw [Reps] at h
    obtain ⟨v, r, h1, h2, h3⟩ := h
    subst h1
    exact Reps.cons h2 (Reps.take n h3)
theorem Reps.drop : ∀ {ds : List D} {vs : List V} (n : Nat), Reps K F ds vs → Reps K F (ds.drop n) (vs.drop n)
  | [], _, n, h => by rw [Reps] at h; subst h; simpa using Reps.nil
  | d :: ds, _, 0, h => h
  | d :: ds, _, n + 1, h => by
    rw [Reps] at h
    obtain ⟨v, r, h1, h2, h3⟩ := h
    subst h1
    exact Reps.drop n h3
theorem Reps.set : ∀ {ds : List D} {vs : List V} (n : Nat) {d : D} {v : V}, Reps K F ds vs → Rep K F d v → Reps K F (ds.set n d) (vs.set n v)
  | [], _, n, _, _, h, _ => by rw [Reps] at h; subst h; simpa using Reps.nil
  | d :: ds, _, 0, _, _, h, q => by
    rw [Reps] at h
    obtain ⟨v, r, h1, h2, h3⟩ := h
    subst h1
    exact Reps.cons q h3
  | d :: ds, _, n + 1, _, _, h, q => by
    rw [Reps] at h
    obtain ⟨v, r, h1, h2, h3⟩ := h
    subst h1
    exact Reps.cons h2 (Reps.set n h3 q)
theorem Rep.tup_of {a : Addr} {xs : List V} {ds : List D} (h : SqT K.k F a xs) (r : Reps K F ds xs) : Rep K F (.tup ds) (.ref a) := by
  rw [Rep]
  exact ⟨a, xs, rfl, h, r⟩
theorem Rep.lst_of {a : Addr} {xs : List V} {ds : List D} (h : F a = some (.lst xs)) (r : Reps K F ds xs) : Rep K F (.lst ds) (.ref a) := by
  rw [Rep]
  exact ⟨a, xs, rfl, h, r⟩
end

/-- what object a cell of the store is, at the address a -/
def CellO (K : KW) (F : Hp) (a : Addr) : Cell → HO → Prop
  | .lst ds, o => ∃ xs, o = .lst xs ∧ Reps K F ds xs
  | .dk kvs, o => ∃ ws, o = .dK ws ∧ RepK K F kvs ws
  | .dn kvs, o => ∃ xs, o = dnO K a xs ∧ RepN K F kvs xs
  | .dead, _ => True
theorem CellO.mono {K : KW} {F F' : Hp} (e : Same F F') {a : Addr} : ∀ {c : Cell} {o : HO}, CellO K F a c o → CellO K F' a c o
  | .lst ds, o, ⟨xs, h1, h2⟩ => ⟨xs, h1, Reps.mono e ds xs h2⟩
  | .dk ds, o, ⟨xs, h1, h2⟩ => ⟨xs, h1, RepK.mono e ds xs h2⟩
  | .dn ds, o, ⟨xs, h1, h2⟩ => ⟨xs, h1, RepN.mono e ds xs h2⟩
  | .dead, o, _ => trivial
/-- .. and that it stands there, beside what is frozen -/
def CellAt (K : KW) (F : Hp) (H : Hp) (a : Addr) (c : Cell) : Prop := c = .dead ∨ ∃ o, H a = some o ∧ F a = none ∧ CellO K F a c o
theorem CellAt.to {K : KW} {F F' H H' : Hp} {a : Addr} {c : Cell} (h : CellAt K F H a c) (hH : H' a = H a) (hF : F a = none → F' a = none) (e : Same F F') : CellAt K F' H' a c := by
  rcases h with h | ⟨o, h1, h2, h3⟩
  · exact .inl h
  · exact .inr ⟨o, by rw [hH]; exact h1, hF h2, h3.mono e⟩

/-- cells that live stand at unlike addresses -/
def alive : Cell → Bool
  | .dead => false
  | _ => true

/-- the store st, its cells at the addresses al, over the frozen part F of the heap H -/
structure StR (K : KW) (F : Hp) (al : List Addr) (st : Sto) (H : Hp) : Prop where
  sub : Same F H
  len : al.length = st.length
  cell : ∀ (i : Nat) (c : Cell) (a : Addr), st[i]? = some c → al[i]? = some a → CellAt K F H a c
  inj : ∀ (i j : Nat) (a : Addr), al[i]? = some a → al[j]? = some a → i = j
  there : ∀ a ∈ al, H a ≠ none

/-- how the heap and its frozen part go on: new addresses, what is no cell stays, what freezes is new or was a cell -/
structure Go (al : List Addr) (H F : Hp) (al' : List Addr) (H' F' : Hp) : Prop where
  pre : ∀ (i : Nat) (a : Addr), al[i]? = some a → al'[i]? = some a
  new : ∀ a ∈ al', a ∈ al ∨ H a = none
  keep : ∀ b o, H b = some o → b ∉ al → H' b = some o
  fz : ∀ b o, F' b = some o → F b = some o ∨ H b = none ∨ b ∈ al
theorem Go.refl (al : List Addr) (H F : Hp) : Go al H F al H F := ⟨fun _ _ h => h, fun _ h => .inl h, fun _ _ h _ => h, fun _ _ h => .inl h⟩
theorem Go.trans {al al1 al2 : List Addr} {H H1 H2 F F1 F2 : Hp} (g : Go al H F al1 H1 F1) (g' : Go al1 H1 F1 al2 H2 F2) : Go al H F al2 H2 F2 := by
  have back : ∀ b, H1 b = none → b ∈ al ∨ H b = none := fun b h1 => by
    by_cases ha : b ∈ al
    · exact .inl ha
    · cases q : H b with
      | none => exact .inr rfl
      | some o =>
        rw [g.keep b o q ha] at h1
        cases h1
  refine ⟨fun i a h => g'.pre i a (g.pre i a h), fun a h => ?_, fun b o h hn => ?_, fun b o h => ?_⟩
  · rcases g'.new a h with h1 | h1
    · exact g.new a h1
    · exact back a h1
  · refine g'.keep b o (g.keep b o h hn) fun h1 => ?_
    rcases g.new b h1 with h2 | h2
    · exact hn h2
    · rw [h] at h2
      cases h2
  · rcases g'.fz b o h with h1 | h1 | h1
    · exact g.fz b o h1
    · rcases back b h1 with h2 | h2
      · exact .inr (.inr h2)
      · exact .inr (.inl h2)
    · rcases g.new b h1 with h2 | h2
      · exact .inr (.inr h2)
      · exact .inr (.inl h2)
theorem Go.freeze {al al1 : List Addr} {H H1 F F1 : Hp} (g : Go al H F al1 H1 F1) {p : Addr} {o : HO} (h : H p = none ∨ p ∈ al) : Go al H F al1 H1 (upd F1 p o) := by
  refine ⟨g.pre, g.new, g.keep, fun b u e => ?_⟩
  by_cases hb : b = p
  · subst hb
    exact .inr h
  · rw [upd_ne hb] at e
    exact g.fz b u e

/-- a value for what a name holds -/
def LvR (K : KW) (F : Hp) (al : List Addr) : Lv → V → Prop
  | .d x, v => Rep K F x v
  | .c i, v => ∃ a, al[i]? = some a ∧ v = .ref a

theorem LvR.mono {F F' : Hp} {al al' : List Addr} {H H' F0 F1 : Hp} (e : Same F F') (g : Go al H F0 al' H' F1) {r : Lv} {v : V} (h : LvR K F al r v) : LvR K F' al' r v := by
  cases r with
  | d x => exact Rep.mono e x v h
  | c i =>
    obtain ⟨a, h1, h2⟩ := h
    exact ⟨a, g.pre i a h1, h2⟩

/-- the names of a frame -/
structure LocR (K : KW) (F : Hp) (al : List Addr) (L : Loc) (σ : St) : Prop where
  len : L.length = σ.length
  at_ : ∀ (i : Nat) (r : Lv), L[i]? = some (some r) → ∃ v, σ[i]? = some (some v) ∧ LvR K F al r v
theorem LocR.mono {K : KW} {F F' : Hp} {al al' : List Addr} {H H' F0 F1 : Hp} {L : Loc} {σ : St} (h : LocR K F al L σ) (e : Same F F') (g : Go al H F0 al' H' F1) : LocR K F' al' L σ :=
  ⟨h.len, fun i r hi => by
    obtain ⟨v, h1, h2⟩ := h.at_ i r hi
    exact ⟨v, h1, h2.mono K e g⟩⟩
theorem LocR.set {K : KW} {F : Hp} {al : List Addr} {L : Loc} {σ : St} {r : Lv} {v : V} (h : LocR K F al L σ) (i : Nat) (q : LvR K F al r v) : LocR K F al (L.set i (some r)) (σ.set i (some v)) := by
  refine ⟨by rw [List.length_set, List.length_set, h.len], fun j u hj => ?_⟩
  by_cases e : i = j
  · subst e
    have hi : i < L.length := by
      have := (List.getElem?_eq_some_iff.mp hj).1
      rwa [List.length_set] at this
    rw [List.getElem?_set_self hi] at hj
    cases hj
    exact ⟨v, List.getElem?_set_self (by rw [← h.len]; exact hi), q⟩
  · rw [List.getElem?_set_ne e] at hj
    obtain ⟨w, h1, h2⟩ := h.at_ j u hj
    exact ⟨w, by rw [List.getElem?_set_ne e]; exact h1, h2⟩

/-! ### shallow functions and the readings that they stand for -/
abbrev SE := Loc → Sto → Option (Lv × Sto)
abbrev SB := Loc → Sto → Option (Bool × Sto)
abbrev SA := Loc → Sto → Option (List Lv × Sto)
inductive Fl where
  | nx | rt (r : Lv) | bk | ct
abbrev SS := Loc → Sto → Option (Fl × Loc × Sto)

def tD (K : KW) (f : SE) : TE := fun σ H Q => ∃ (L : Loc) (st : Sto) (F : Hp) (al : List Addr) (r : Lv) (st' : Sto), LocR K F al L σ ∧ StR K F al st H ∧ f L st = some (r, st') ∧
  ∀ v H' F' al', Go al H F al' H' F' → Same F F' → StR K F' al' st' H' → LvR K F' al' r v → Q v H'
def tDB (K : KW) (f : SB) : TT := fun σ H Q => ∃ (L : Loc) (st : Sto) (F : Hp) (al : List Addr) (r : Bool) (st' : Sto), LocR K F al L σ ∧ StR K F al st H ∧ f L st = some (r, st') ∧
  ∀ H' F' al', Go al H F al' H' F' → Same F F' → StR K F' al' st' H' → Q r H'
inductive LvsR (K : KW) (F : Hp) (al : List Addr) : List Lv → List V → Prop
  | nil : LvsR K F al [] []
  | cons {r : Lv} {rs : List Lv} {v : V} {vs : List V} : LvR K F al r v → LvsR K F al rs vs → LvsR K F al (r :: rs) (v :: vs)
theorem LvsR.mono {K : KW} {F F' : Hp} {al al' : List Addr} {H H' F0 F1 : Hp} (e : Same F F') (g : Go al H F0 al' H' F1) : ∀ {rs : List Lv} {vs : List V}, LvsR K F al rs vs → LvsR K F' al' rs vs
  | _, _, .nil => .nil
  | _, _, .cons h t => .cons (h.mono K e g) (LvsR.mono e g t)
def tDA (K : KW) (f : SA) : TA := fun σ H Q => ∃ (L : Loc) (st : Sto) (F : Hp) (al : List Addr) (rs : List Lv) (st' : Sto), LocR K F al L σ ∧ StR K F al st H ∧ f L st = some (rs, st') ∧
  ∀ vs H' F' al', Go al H F al' H' F' → Same F F' → StR K F' al' st' H' → LvsR K F' al' rs vs → Q vs H'
def flQ (K : KW) (F : Hp) (al : List Addr) (E : Ends) (σ : St) (H : Hp) : Fl → Prop
  | .nx => E.nx σ H
  | .rt r => ∀ v, LvR K F al r v → E.rt v H
  | .bk => E.bk σ H
  | .ct => E.ct σ H
def tDS (K : KW) (f : SS) : TS := fun E σ H => ∃ (L : Loc) (st : Sto) (F : Hp) (al : List Addr) (fl : Fl) (L' : Loc) (st' : Sto), LocR K F al L σ ∧ StR K F al st H ∧ f L st = some (fl, L', st') ∧
  ∀ σ' H' F' al', Go al H F al' H' F' → Same F F' → StR K F' al' st' H' → LocR K F' al' L' σ' → flQ K F' al' E σ' H' fl
end DL
/-! The D-layer, part 2: expressions. -/
namespace DL
open PySem L2

section
variable {X : Cx}
theorem pe_imp {e : Expr} {t t' : TE} (h : PE X e t) (i : ∀ σ H Q, t' σ H Q → t σ H Q) : PE X e t' := ⟨fun pins s σ H Q I q => h.run pins s σ H Q I (i σ H Q q)⟩
theorem pt_imp {e : Expr} {t t' : TT} (h : PT X e t) (i : ∀ σ H Q, t' σ H Q → t σ H Q) : PT X e t' := ⟨fun pins s σ H Q I q => h.run pins s σ H Q I (i σ H Q q)⟩
theorem pw_imp {e : Expr} {t t' : TT} (h : PW X e t) (i : ∀ σ H Q, t' σ H Q → t σ H Q) : PW X e t' := ⟨fun wh pins s σ H Q I q => h.run wh pins s σ H Q I (i σ H Q q)⟩
theorem pa_imp {es : List Expr} {t t' : TA} (h : PA X es t) (i : ∀ σ H Q, t' σ H Q → t σ H Q) : PA X es t' := ⟨fun pos pins s σ H Q I q => h.run pos pins s σ H Q I (i σ H Q q)⟩
theorem ps_imp {e : Stmt} {t t' : TS} (h : PS X e t) (i : ∀ E σ H, t' E σ H → t E σ H) : PS X e t' := ⟨fun pins s σ H E I q => h.run pins s σ H E I (i E σ H q)⟩
theorem pss_imp {e : List Stmt} {t t' : TS} (h : PSs X e t) (i : ∀ E σ H, t' E σ H → t E σ H) : PSs X e t' := ⟨fun pins s σ H E I q => h.run pins s σ H E I (i E σ H q)⟩
end

section
variable {K : KW} {F : Hp} {al : List Addr} {st : Sto} {H : Hp} {σ : St} {L : Loc}
theorem tD_run {fa : SE} (hL : LocR K F al L σ) (hS : StR K F al st H) {x : Lv} {s1 : Sto} (ha : fa L st = some (x, s1)) {Q : VK}
    (k : ∀ v H1 F1 al1, Go al H F al1 H1 F1 → Same F F1 → StR K F1 al1 s1 H1 → LvR K F1 al1 x v → LocR K F1 al1 L σ → Q v H1) : tD K fa σ H Q :=
  ⟨L, st, F, al, x, s1, hL, hS, ha, fun v H1 F1 al1 g e S r => k v H1 F1 al1 g e S r (hL.mono e g)⟩
theorem tDB_run {fa : SB} (hL : LocR K F al L σ) (hS : StR K F al st H) {x : Bool} {s1 : Sto} (ha : fa L st = some (x, s1)) {Q : Bool → Hp → Prop}
    (k : ∀ H1 F1 al1, Go al H F al1 H1 F1 → Same F F1 → StR K F1 al1 s1 H1 → LocR K F1 al1 L σ → Q x H1) : tDB K fa σ H Q :=
  ⟨L, st, F, al, x, s1, hL, hS, ha, fun H1 F1 al1 g e S => k H1 F1 al1 g e S (hL.mono e g)⟩
theorem tDA_run {fa : SA} (hL : LocR K F al L σ) (hS : StR K F al st H) {x : List Lv} {s1 : Sto} (ha : fa L st = some (x, s1)) {Q : List V → Hp → Prop}
    (k : ∀ v H1 F1 al1, Go al H F al1 H1 F1 → Same F F1 → StR K F1 al1 s1 H1 → LvsR K F1 al1 x v → LocR K F1 al1 L σ → Q v H1) : tDA K fa σ H Q :=
  ⟨L, st, F, al, x, s1, hL, hS, ha, fun v H1 F1 al1 g e S r => k v H1 F1 al1 g e S r (hL.mono e g)⟩

/-- a new frozen thing -/
theorem StR.alloc (S : StR K F al st H) {p : Addr} (hp : H p = none) (o : HO) : StR K (upd F p o) al st (upd H p o) ∧ Go al H F al (upd H p o) (upd F p o) ∧ Same F (upd F p o) := by
  have hF : F p = none := S.sub.free hp
  have hsF : Same F (upd F p o) := fun b x e => by
    rw [upd_ne (ne_of_none e hF)]
    exact e
  have hne : ∀ a ∈ al, a ≠ p := fun a ha e => S.there a ha (by rw [e]; exact hp)
  refine ⟨⟨fun b x e => ?_, S.len, fun i c a h1 h2 => ?_, S.inj, fun a ha => ?_⟩, ⟨fun _ _ h => h, fun _ h => .inl h, fun b x e _ => ?_, fun b x e => ?_⟩, hsF⟩
  · by_cases hb : b = p
    · subst hb
      rw [upd_same] at e ⊢
      exact e
    · rw [upd_ne hb] at e ⊢
      exact S.sub b x e
  · have ha : a ≠ p := hne a (List.mem_of_getElem? h2)
    exact (S.cell i c a h1 h2).to (upd_ne ha) (fun z => by rw [upd_ne ha]; exact z) hsF
  · rw [upd_ne (hne a ha)]
    exact S.there a ha
  · rw [upd_ne (ne_of_none e hp)]
    exact e
  · by_cases hb : b = p
    · subst hb
      exact .inr (.inl hp)
    · rw [upd_ne hb] at e
      exact .inl e
end

/-! ### names, constants -/
def lget (L : Loc) (i : Nat) : Option Lv := match L[i]? with
  | some (some r) => some r
  | _ => none
def sVar (i : Nat) : SE := fun L st => (lget L i).map fun r => (r, st)
def sC (x : D) : SE := fun _ st => some (.d x, st)
theorem lget_some {L : Loc} {i : Nat} {r : Lv} (h : lget L i = some r) : L[i]? = some (some r) := by
  unfold lget at h
  split at h
  · cases h; assumption
  · cases h
section
variable {X : Cx}
theorem de_var {e : Expr} {i : Nat} (h : PE X e (tVar i)) : PE X e (tD (kw X) (sVar i)) := pe_imp h fun σ H Q q => by
  obtain ⟨L, st, F, al, r, st', hL, hS, hf, q⟩ := q
  obtain ⟨r', h1, h2⟩ := Option.map_eq_some_iff.mp hf
  cases h2
  obtain ⟨v, h3, h4⟩ := hL.at_ i r (lget_some h1)
  exact ⟨v, h3, q v H F al (Go.refl _ _ _) (Same.refl _) hS h4⟩
/-- a constant whose value stands for the data everywhere -/
theorem de_c {e : Expr} {v : V} {x : D} (h : PE X e (tC v)) (r : ∀ F, Rep (kw X) F x v) : PE X e (tD (kw X) (sC x)) := pe_imp h fun σ H Q q => by
  obtain ⟨L, st, F, al, r', st', hL, hS, hf, q⟩ := q
  cases hf
  exact q v H F al (Go.refl _ _ _) (Same.refl _) hS (r F)
theorem de_int {i : Int} {j : Nat} {pos : Pos} : PE X (.Constant (.int i) j pos) (tD (kw X) (sC (.int i))) := de_c pe_int fun _ => by rw [Rep]
theorem de_bl {b : Bool} {j : Nat} {pos : Pos} : PE X (.Constant (.bool b) j pos) (tD (kw X) (sC (.bl b))) := de_c pe_bl fun _ => by rw [Rep]
theorem de_non {j : Nat} {pos : Pos} : PE X (.Constant .none j pos) (tD (kw X) (sC .non)) := de_c pe_non fun _ => by rw [Rep]
theorem de_str {x : Str} {j : Nat} {pos : Pos} : PE X (.Constant (.str x) j pos) (tD (kw X) (sC (.str x))) := de_c pe_str fun _ => by rw [Rep]
end

/-! ### operations of two values -/
/-- of what the value stands for, its top perhaps a cell -/
def RepT (K : KW) (F H : Hp) : D → V → Prop
  | .lst ds, v => ∃ a xs, v = .ref a ∧ H a = some (.lst xs) ∧ Reps K F ds xs
  | .dk kvs, v => ∃ a ws, v = .ref a ∧ Rd H a (.dK ws) ∧ RepK K F kvs ws
  | .dn kvs, v => ∃ a xs, v = .ref a ∧ H a = some (dnO K a xs) ∧ RepN K F kvs xs
  | d, v => Rep K F d v
def lvD (st : Sto) : Lv → Option D
  | .d x => some x
  | .c i => match st[i]? with
    | some (.lst ds) => some (.lst ds)
    | some (.dk kvs) => some (.dk kvs)
    | some (.dn kvs) => some (.dn kvs)
    | _ => none
section
variable {K : KW} {F : Hp} {al : List Addr} {st : Sto} {H : Hp}
theorem Rep.top (e : Same F H) : ∀ {x : D} {v : V}, Rep K F x v → RepT K F H x v
  | .lst ds, v, h => by
    rw [Rep] at h
    obtain ⟨a, xs, h1, h2, h3⟩ := h
    exact ⟨a, xs, h1, e _ _ h2, h3⟩
  | .dk ds, v, h => by
    rw [Rep] at h
    obtain ⟨a, xs, h1, h2, h3⟩ := h
    exact ⟨a, xs, h1, same_rd e h2, h3⟩
  | .dn ds, v, h => by
    rw [Rep] at h
    obtain ⟨a, xs, h1, h2, h3⟩ := h
    exact ⟨a, xs, h1, e _ _ h2, h3⟩
  | .non, _, h => h
  | .bl _, _, h => h
  | .int _, _, h => h
  | .str _, _, h => h
  | .tup _, _, h => h
  | .ro _, _, h => h
  | .obj _ _, _, h => h
  | .fn _, _, h => h
  | .ty _, _, h => h
theorem LvR.top (S : StR K F al st H) {r : Lv} {v : V} {x : D} (h : LvR K F al r v) (e : lvD st r = some x) : RepT K F H x v := by
  cases r with
  | d y =>
    cases e
    exact Rep.top S.sub h
  | c i =>
    obtain ⟨a, h1, rfl⟩ := h
    unfold lvD at e
    simp only at e
    split at e
    · rename_i ds h2
      cases e
      rcases S.cell i _ a h2 h1 with z | ⟨o, q1, q2, xs, rfl, q3⟩
      · cases z
      · exact ⟨a, xs, rfl, q1, q3⟩
    · rename_i ds h2
      cases e
      rcases S.cell i _ a h2 h1 with z | ⟨o, q1, q2, xs, rfl, q3⟩
      · cases z
      · exact ⟨a, xs, rfl, .inl q1, q3⟩
    · rename_i ds h2
      cases e
      rcases S.cell i _ a h2 h1 with z | ⟨o, q1, q2, xs, rfl, q3⟩
      · cases z
      · exact ⟨a, xs, rfl, q1, q3⟩
    · cases e
end
abbrev K2 := Lv → Lv → Sto → Option (Lv × Sto)
def rD2 (K : KW) (k : K2) : R2 := fun x y H Q => ∃ (a b : Lv) (st : Sto) (F : Hp) (al : List Addr) (r : Lv) (st' : Sto), StR K F al st H ∧ LvR K F al a x ∧ LvR K F al b y ∧ k a b st = some (r, st') ∧
  ∀ v H' F' al', Go al H F al' H' F' → Same F F' → StR K F' al' st' H' → LvR K F' al' r v → Q v H'
def rP2 (K : KW) (p : D → D → Option D) : R2 := fun v w H Q => ∃ (F : Hp) (al : List Addr) (st : Sto) (x y r : D), StR K F al st H ∧ RepT K F H x v ∧ RepT K F H y w ∧ p x y = some r ∧
  ∀ u H' F', Go al H F al H' F' → Same F F' → StR K F' al st H' → Rep K F' r u → Q u H'
def kP2 (p : D → D → Option D) : K2 := fun a b st => (lvD st a).bind fun x => (lvD st b).bind fun y => (p x y).map fun r => (.d r, st)
def sBin (k : K2) (fa fb : SE) : SE := fun L st => (fa L st).bind fun x => (fb L x.2).bind fun y => k x.1 y.1 y.2
section
variable {K : KW}
theorem kP2_of {p : D → D → Option D} {x y : V} {H : Hp} {Q : VK} (q : rD2 K (kP2 p) x y H Q) : rP2 K p x y H Q := by
  obtain ⟨a, b, st, F, al, r, st', S, h1, h2, h3, q⟩ := q
  obtain ⟨u, e1, h3⟩ := Option.bind_eq_some_iff.mp h3
  obtain ⟨w, e2, h3⟩ := Option.bind_eq_some_iff.mp h3
  obtain ⟨z, e3, h3⟩ := Option.map_eq_some_iff.mp h3
  cases h3
  exact ⟨F, al, st, u, w, z, S, h1.top S e1, h2.top S e2, e3, fun v H' F' g e S' R => q v H' F' al g e S' R⟩
theorem bin_of {k : K2} {fa fb : SE} {σ : St} {H : Hp} {Q : VK} (h : tD K (sBin k fa fb) σ H Q) : tOp (rD2 K k) (tD K fa) (tD K fb) σ H Q := by
  obtain ⟨L, st, F, al, r, st', hL, hS, hf, q⟩ := h
  obtain ⟨x, h1, hf⟩ := Option.bind_eq_some_iff.mp hf
  obtain ⟨y, h2, hf⟩ := Option.bind_eq_some_iff.mp hf
  exact tD_run hL hS h1 fun v H1 F1 al1 g1 e1 S1 R1 L1 => tD_run L1 S1 h2 fun w H2 F2 al2 g2 e2 S2 R2 L2 =>
    ⟨x.1, y.1, y.2, F2, al2, r, st', S2, R1.mono K e2 g2, R2, hf, fun v H' F' al' g e S R => q v H' F' al' ((g1.trans g2).trans g) ((e1.trans e2).trans e) S R⟩
end
section
variable {X : Cx} {a b : Expr} {fa fb : SE} {pos : Pos} {k : K2} {p : D → D → Option D}
theorem opr_pure {f : Value → Value → Sem Value} (h : OpR X f (rP2 (kw X) p)) : OpR X f (rD2 (kw X) (kP2 p)) := fun pins s σ H x y v u Q I r1 r2 q => h pins s σ H x y v u Q I r1 r2 (kP2_of q)
theorem de_op {op : Operator} (ho : OpR X (binaryOp op) (rD2 (kw X) k)) (ha : PE X a (tD (kw X) fa)) (hb : PE X b (tD (kw X) fb)) : PE X (.BinOp a op b pos) (tD (kw X) (sBin k fa fb)) :=
  pe_imp (pe_op ho ha hb) fun _ _ _ q => bin_of q
theorem de_cmp {op : CmpOp} (ho : OpR X (compareOp op) (rD2 (kw X) k)) (ha : PE X a (tD (kw X) fa)) (hb : PE X b (tD (kw X) fb)) (hm : behindInMarks op b = false) : PE X (.Compare a [op] [b] pos) (tD (kw X) (sBin k fa fb)) :=
  pe_imp (pe_cmpR ho ha hb hm) fun _ _ _ q => bin_of q
theorem de_ix (ho : IxR X (rD2 (kw X) k)) (ha : PE X a (tD (kw X) fa)) (hb : PE X b (tD (kw X) fb)) (hs : PlainIx b) : PE X (.Subscript a b pos) (tD (kw X) (sBin k fa fb)) :=
  pe_imp (pe_ix ho ha hb hs) fun _ _ _ q => bin_of q
/-- .. as a test -/
def bOf (f : SE) : SB := fun L st => (f L st).bind fun p => match p.1 with
  | .d (.bl b) => some (b, p.2)
  | _ => none
theorem bOf_of {K : KW} {f : SE} {t : TE} {σ : St} {H : Hp} {Q : Bool → Hp → Prop} (h : tDB K (bOf f) σ H Q) (i : ∀ Q', tD K f σ H Q' → t σ H Q') : tTest t σ H Q := by
  obtain ⟨L, st, F, al, r, st', hL, hS, hf, q⟩ := h
  obtain ⟨p, h1, hf⟩ := Option.bind_eq_some_iff.mp hf
  obtain ⟨p1, p2⟩ := p
  refine i _ (tD_run hL hS h1 fun v H1 F1 al1 g1 e1 S1 R1 _ => ?_)
  cases p1 with
  | d x =>
    cases x with
    | bl b =>
      cases hf
      have R1 : Rep K F1 (.bl r) v := R1
      rw [Rep] at R1
      exact ⟨r, R1, q H1 F1 al1 g1 e1 S1⟩
    | _ => cases hf
  | c i => cases hf
theorem db_cmp {op : CmpOp} (ho : OpR X (compareOp op) (rD2 (kw X) k)) (ha : PE X a (tD (kw X) fa)) (hb : PE X b (tD (kw X) fb)) (hm : behindInMarks op b = false) : PT X (.Compare a [op] [b] pos) (tDB (kw X) (bOf (sBin k fa fb))) :=
  pt_imp (pt_cmpR ho ha hb hm) fun _ _ _ q => bOf_of q fun _ q => bin_of q
end

/-! ### tests -/
def tru : D → Option Bool
  | .non => some false
  | .bl b => some b
  | .int i => some (i != 0)
  | .str y => if y.length ≤ sizeLine then some ((y.length : Int) != 0) else none
  | .tup ds => some (!ds.isEmpty)
  | .lst ds => some (!ds.isEmpty)
  | .ro ds => some (!ds.isEmpty)
  | .dk kvs => none
  | _ => none
def bTru (f : SE) : SB := fun L st => (f L st).bind fun p => (lvD p.2 p.1).bind fun x => (tru x).map fun b => (b, p.2)
theorem isEmpty_reps {K : KW} {F : Hp} {ds : List D} {vs : List V} (h : Reps K F ds vs) : vs.isEmpty = ds.isEmpty := by
  have := h.length
  cases ds <;> cases vs <;> simp_all
theorem tru_of {K : KW} {F H : Hp} {x : D} {v : V} {b : Bool} (r : RepT K F H x v) (s : Same F H) (h : tru x = some b) : TruV K.k v H b := by
  cases x with
  | non => cases h; have r : Rep K F .non v := r; rw [Rep] at r; subst r; rfl
  | bl c => cases h; have r : Rep K F (.bl b) v := r; rw [Rep] at r; subst r; rfl
  | int i => cases h; have r : Rep K F (.int i) v := r; rw [Rep] at r; subst r; rfl
  | str y =>
    have r : Rep K F (.str y) v := r
    rw [Rep] at r
    subst r
    have h : (if y.length ≤ sizeLine then some ((y.length : Int) != 0) else none) = some b := h
    by_cases hz : y.length ≤ sizeLine
    · rw [if_pos hz] at h
      cases h
      exact ⟨hz, rfl⟩
    · rw [if_neg hz] at h
      cases h
  | tup ds =>
    have r : Rep K F (.tup ds) v := r
    rw [Rep] at r
    obtain ⟨a, xs, rfl, h2, h3⟩ := r
    cases h
    exact .inr (.inl ⟨xs, same_sqT s h2, by rw [isEmpty_reps h3]⟩)
  | lst ds =>
    obtain ⟨a, xs, rfl, h2, h3⟩ := r
    cases h
    exact .inl ⟨xs, SqL.of h2, by rw [isEmpty_reps h3]⟩
  | ro ds =>
    have r : Rep K F (.ro ds) v := r
    rw [Rep] at r
    obtain ⟨a, xs, rfl, h2, h3⟩ := r
    cases h
    exact .inl ⟨xs, s.seq h2, by rw [isEmpty_reps h3]⟩
  | dk kvs => cases h
  | dn kvs => cases h
  | obj c f => cases h
  | fn f => cases h
  | ty n => cases h
def bAnd (f g : SB) : SB := fun L st => (f L st).bind fun p => if p.1 = true then g L p.2 else some (false, p.2)
def bOr (f g : SB) : SB := fun L st => (f L st).bind fun p => if p.1 = true then some (true, p.2) else g L p.2
def bNot (f : SB) : SB := fun L st => (f L st).map fun p => (!p.1, p.2)
section
variable {X : Cx} {a b e : Expr} {f g : SB} {fe : SE} {pos : Pos} {rest : List Expr}
theorem db_tru (h : PE X e (tD (kw X) fe)) (he : ∀ whole, isTrue e X.env whole = (do let v ← whole; standAt e.pos; holding [v] (truthy v)) := by intro _; rfl) : PT X e (tDB (kw X) (bTru fe)) :=
  pt_imp (pt_truth h he) fun σ H Q q => by
    obtain ⟨L, st, F, al, r, st', hL, hS, hf, q⟩ := q
    obtain ⟨p, h1, hf⟩ := Option.bind_eq_some_iff.mp hf
    obtain ⟨x, h2, hf⟩ := Option.bind_eq_some_iff.mp hf
    obtain ⟨c, h3, h4⟩ := Option.map_eq_some_iff.mp hf
    cases h4
    exact tD_run hL hS h1 fun v H1 F1 al1 g1 e1 S1 R1 _ => ⟨r, tru_of (R1.top S1 h2) S1.sub h3, q H1 F1 al1 g1 e1 S1⟩
/-- .. of one that gives a truth -/
theorem db_val (h : PE X e (tD (kw X) fe)) (he : ∀ whole, isTrue e X.env whole = (do let v ← whole; standAt e.pos; holding [v] (truthy v)) := by intro _; rfl) : PT X e (tDB (kw X) (bOf fe)) :=
  pt_imp (pt_val h he) fun _ _ _ q => bOf_of q fun _ q => q
theorem and_of {K : KW} {σ : St} {H : Hp} {Q : Bool → Hp → Prop} (h : tDB K (bAnd f g) σ H Q) : tAnd (tDB K f) (tDB K g) σ H Q := by
  obtain ⟨L, st, F, al, r, st', hL, hS, hf, q⟩ := h
  obtain ⟨⟨c, s1⟩, h1, hf⟩ := Option.bind_eq_some_iff.mp hf
  refine tDB_run hL hS h1 fun H1 F1 al1 g1 e1 S1 L1 => ?_
  cases c with
  | true =>
    rw [if_pos rfl] at hf ⊢
    exact tDB_run L1 S1 hf fun H2 F2 al2 g2 e2 S2 _ => q H2 F2 al2 (g1.trans g2) (e1.trans e2) S2
  | false =>
    rw [if_neg Bool.false_ne_true] at hf ⊢
    cases hf
    exact q H1 F1 al1 g1 e1 S1
theorem or_of {K : KW} {σ : St} {H : Hp} {Q : Bool → Hp → Prop} (h : tDB K (bOr f g) σ H Q) : tOr (tDB K f) (tDB K g) σ H Q := by
  obtain ⟨L, st, F, al, r, st', hL, hS, hf, q⟩ := h
  obtain ⟨⟨c, s1⟩, h1, hf⟩ := Option.bind_eq_some_iff.mp hf
  refine tDB_run hL hS h1 fun H1 F1 al1 g1 e1 S1 L1 => ?_
  cases c with
  | true =>
    rw [if_pos rfl] at hf ⊢
    cases hf
    exact q H1 F1 al1 g1 e1 S1
  | false =>
    rw [if_neg Bool.false_ne_true] at hf ⊢
    exact tDB_run L1 S1 hf fun H2 F2 al2 g2 e2 S2 _ => q H2 F2 al2 (g1.trans g2) (e1.trans e2) S2
theorem dw_and1 (h : PT X a (tDB (kw X) f)) : PW X (.BoolOp .And [a] pos) (tDB (kw X) f) := pw_and1 h
theorem dw_or1 (h : PT X a (tDB (kw X) f)) : PW X (.BoolOp .Or [a] pos) (tDB (kw X) f) := pw_or1 h
theorem dw_and (ha : PT X a (tDB (kw X) f)) (hb : PW X (.BoolOp .And (b :: rest) pos) (tDB (kw X) g)) : PW X (.BoolOp .And (a :: b :: rest) pos) (tDB (kw X) (bAnd f g)) := pw_imp (pw_and ha hb) fun _ _ _ q => and_of q
theorem dw_or (ha : PT X a (tDB (kw X) f)) (hb : PW X (.BoolOp .Or (b :: rest) pos) (tDB (kw X) g)) : PW X (.BoolOp .Or (a :: b :: rest) pos) (tDB (kw X) (bOr f g)) := pw_imp (pw_or ha hb) fun _ _ _ q => or_of q
theorem db_not (ha : PT X a (tDB (kw X) f)) : PT X (.UnaryOp .Not a pos) (tDB (kw X) (bNot f)) := pt_imp (pt_not ha) fun σ H Q q => by
  obtain ⟨L, st, F, al, r, st', hL, hS, hf, q⟩ := q
  obtain ⟨p, h1, h2⟩ := Option.map_eq_some_iff.mp hf
  obtain ⟨p1, p2⟩ := p
  cases h2
  exact tDB_run hL hS h1 fun H1 F1 al1 g1 e1 S1 _ => q H1 F1 al1 g1 e1 S1
end
/-! ### and, or, not as values: truths -/
def lvB : Lv → Option Bool
  | .d (.bl b) => some b
  | _ => none
theorem lvB_some {r : Lv} {b : Bool} (h : lvB r = some b) : r = .d (.bl b) := by
  unfold lvB at h
  split at h
  · cases h; rfl
  · cases h
theorem lvB_rep {K : KW} {F : Hp} {al : List Addr} {r : Lv} {b : Bool} {v : V} (h : lvB r = some b) (R : LvR K F al r v) : v = .bl b := by
  rw [lvB_some h] at R
  have R : Rep K F (.bl b) v := R
  rwa [Rep] at R
def sAnd (f g : SE) : SE := fun L st => (f L st).bind fun p => (lvB p.1).bind fun c => if c = true then g L p.2 else some (.d (.bl false), p.2)
def sOr (f g : SE) : SE := fun L st => (f L st).bind fun p => (lvB p.1).bind fun c => if c = true then some (.d (.bl true), p.2) else g L p.2
def sNot (f : SE) : SE := fun L st => (f L st).bind fun p => (lvB p.1).map fun c => (.d (.bl (!c)), p.2)
def sIf (c : SB) (f g : SE) : SE := fun L st => (c L st).bind fun p => if p.1 = true then f L p.2 else g L p.2
theorem rep_bl {K : KW} {F : Hp} {al : List Addr} {b : Bool} : LvR K F al (.d (.bl b)) (.bl b) := by
  show Rep K F (.bl b) (.bl b)
  rw [Rep]
section
variable {X : Cx} {a b c : Expr} {f g : SE} {pos : Pos} {rest : List Expr} {fc : SB} {op : BoolOp}
theorem de_one {op : BoolOp} (h : PE X a (tD (kw X) f)) : PE X (.BoolOp op [a] pos) (tD (kw X) f) := pe_one h
theorem de_and (ha : PE X a (tD (kw X) f)) (hb : PE X (.BoolOp .And (b :: rest) pos) (tD (kw X) g)) : PE X (.BoolOp .And (a :: b :: rest) pos) (tD (kw X) (sAnd f g)) := pe_imp (pe_and ha hb) fun σ H Q q => by
  obtain ⟨L, st, F, al, r, st', hL, hS, hf, q⟩ := q
  obtain ⟨⟨p1, s1⟩, h1, hf⟩ := Option.bind_eq_some_iff.mp hf
  obtain ⟨c, h2, hf⟩ := Option.bind_eq_some_iff.mp hf
  refine tD_run hL hS h1 fun v H1 F1 al1 g1 e1 S1 R1 L1 => ?_
  have R1 := lvB_rep h2 R1
  refine ⟨c, R1, ?_⟩
  cases c with
  | true =>
    rw [if_pos rfl] at hf ⊢
    exact tD_run L1 S1 hf fun v H2 F2 al2 g2 e2 S2 R2 _ => q v H2 F2 al2 (g1.trans g2) (e1.trans e2) S2 R2
  | false =>
    rw [if_neg Bool.false_ne_true] at hf ⊢
    cases hf
    exact q _ H1 F1 al1 g1 e1 S1 rep_bl
theorem de_or (ha : PE X a (tD (kw X) f)) (hb : PE X (.BoolOp .Or (b :: rest) pos) (tD (kw X) g)) : PE X (.BoolOp .Or (a :: b :: rest) pos) (tD (kw X) (sOr f g)) := pe_imp (pe_or ha hb) fun σ H Q q => by
  obtain ⟨L, st, F, al, r, st', hL, hS, hf, q⟩ := q
  obtain ⟨⟨p1, s1⟩, h1, hf⟩ := Option.bind_eq_some_iff.mp hf
  obtain ⟨c, h2, hf⟩ := Option.bind_eq_some_iff.mp hf
  refine tD_run hL hS h1 fun v H1 F1 al1 g1 e1 S1 R1 L1 => ?_
  have R1 := lvB_rep h2 R1
  refine ⟨c, R1, ?_⟩
  cases c with
  | true =>
    rw [if_pos rfl] at hf ⊢
    cases hf
    exact q _ H1 F1 al1 g1 e1 S1 rep_bl
  | false =>
    rw [if_neg Bool.false_ne_true] at hf ⊢
    exact tD_run L1 S1 hf fun v H2 F2 al2 g2 e2 S2 R2 _ => q v H2 F2 al2 (g1.trans g2) (e1.trans e2) S2 R2
theorem de_not (ha : PE X a (tD (kw X) f)) : PE X (.UnaryOp .Not a pos) (tD (kw X) (sNot f)) := pe_imp (pe_not ha) fun σ H Q q => by
  obtain ⟨L, st, F, al, r, st', hL, hS, hf, q⟩ := q
  obtain ⟨⟨p1, s1⟩, h1, hf⟩ := Option.bind_eq_some_iff.mp hf
  obtain ⟨c, h2, hf⟩ := Option.map_eq_some_iff.mp hf
  cases hf
  refine tD_run hL hS h1 fun v H1 F1 al1 g1 e1 S1 R1 L1 => ?_
  have R1 := lvB_rep h2 R1
  exact ⟨c, R1, q _ H1 F1 al1 g1 e1 S1 rep_bl⟩
theorem de_if (hc : PT X c (tDB (kw X) fc)) (ha : PE X a (tD (kw X) f)) (hb : PE X b (tD (kw X) g)) : PE X (.IfExp c a b pos) (tD (kw X) (sIf fc f g)) := pe_imp (pe_ifExp hc ha hb) fun σ H Q q => by
  obtain ⟨L, st, F, al, r, st', hL, hS, hf, q⟩ := q
  obtain ⟨⟨c, s1⟩, h1, hf⟩ := Option.bind_eq_some_iff.mp hf
  refine tDB_run hL hS h1 fun H1 F1 al1 g1 e1 S1 L1 => ?_
  cases c with
  | true =>
    rw [if_pos rfl] at hf ⊢
    exact tD_run L1 S1 hf fun v H2 F2 al2 g2 e2 S2 R2 _ => q v H2 F2 al2 (g1.trans g2) (e1.trans e2) S2 R2
  | false =>
    rw [if_neg Bool.false_ne_true] at hf ⊢
    exact tD_run L1 S1 hf fun v H2 F2 al2 g2 e2 S2 R2 _ => q v H2 F2 al2 (g1.trans g2) (e1.trans e2) S2 R2
end

/-! ### arguments, displays -/
def aNil : SA := fun _ st => some ([], st)
def aCons (f : SE) (g : SA) : SA := fun L st => (f L st).bind fun p => (g L p.2).map fun q => (p.1 :: q.1, q.2)
section
variable {X : Cx} {e : Expr} {es : List Expr} {f : SE} {g : SA} {pos : Pos}
theorem da_nil : PA X [] (tDA (kw X) aNil) := pa_imp pa_nil fun σ H Q q => by
  obtain ⟨L, st, F, al, r, st', hL, hS, hf, q⟩ := q
  cases hf
  exact q [] H F al (Go.refl _ _ _) (Same.refl _) hS .nil
theorem da_cons (he : PE X e (tD (kw X) f)) (hr : PA X es (tDA (kw X) g)) (hs : starEach (e :: es) X.env = (false, eval e X.env) :: starEach es X.env := by rfl) : PA X (e :: es) (tDA (kw X) (aCons f g)) := pa_imp (pa_cons he hr hs) fun σ H Q q => by
  obtain ⟨L, st, F, al, r, st', hL, hS, hf, q⟩ := q
  obtain ⟨p, h1, hf⟩ := Option.bind_eq_some_iff.mp hf
  obtain ⟨p', h2, hf⟩ := Option.map_eq_some_iff.mp hf
  cases hf
  exact tD_run hL hS h1 fun v H1 F1 al1 g1 e1 S1 R1 L1 => tDA_run L1 S1 h2 fun vs H2 F2 al2 g2 e2 S2 R2 _ =>
    q (v :: vs) H2 F2 al2 (g1.trans g2) (e1.trans e2) S2 (.cons (R1.mono (kw X) e2 g2) R2)
end
/-- all of them data -/
def lvDs (st : Sto) : List Lv → Option (List D)
  | [] => some []
  | .d x :: r => (lvDs st r).map (x :: ·)
  | .c _ :: _ => none
theorem LvsR.reps {K : KW} {F : Hp} {al : List Addr} {st : Sto} : ∀ {rs : List Lv} {vs : List V} {ds : List D}, LvsR K F al rs vs → lvDs st rs = some ds → Reps K F ds vs
  | [], _, _, h, e => by
    cases h
    cases e
    exact Reps.nil
  | .d x :: rs, _, ds, h, e => by
    cases h with
    | cons h1 h2 =>
      obtain ⟨ds', e1, e2⟩ := Option.map_eq_some_iff.mp e
      subst e2
      exact Reps.cons h1 (h2.reps e1)
  | .c _ :: _, _, _, _, e => by cases e
def sTup (g : SA) : SE := fun L st => (g L st).bind fun p => (lvDs p.2 p.1).bind fun ds => if ds.length ≤ sizeLine then some (.d (.tup ds), p.2) else none
/-- a list that never changes -/
def sLst (g : SA) : SE := fun L st => (g L st).bind fun p => (lvDs p.2 p.1).bind fun ds => if ds.length ≤ sizeLine then some (.d (.lst ds), p.2) else none
/-- a list that may change -/
def sLstC (g : SA) : SE := fun L st => (g L st).bind fun p => (lvDs p.2 p.1).bind fun ds => if ds.length ≤ sizeLine then some (.c p.2.length, p.2 ++ [.lst ds]) else none
/-- an object beside the cells becomes one -/
theorem StR.cell_old {K : KW} {F : Hp} {al : List Addr} {st : Sto} {H : Hp} (S : StR K F al st H) {p : Addr} {o : HO} {c : Cell} (ho : H p = some o) (hn : p ∉ al) (hc : CellAt K F H p c) :
    StR K F (al ++ [p]) (st ++ [c]) H ∧ LvR K F (al ++ [p]) (.c st.length) (.ref p) := by
  have hne : ∀ a ∈ al, a ≠ p := fun a ha e => hn (by rw [← e]; exact ha)
  have split : ∀ (i : Nat) (a : Addr), (al ++ [p])[i]? = some a → (al[i]? = some a) ∨ (i = al.length ∧ a = p) := fun i a h => by
    by_cases hi : i < al.length
    · rw [List.getElem?_append_left hi] at h
      exact .inl h
    · rw [List.getElem?_append_right (by omega)] at h
      have := (List.getElem?_eq_some_iff.mp h).1
      simp only [List.length_cons, List.length_nil] at this
      have e : i - al.length = 0 := by omega
      rw [e] at h
      simp only [List.getElem?_cons_zero, Option.some.injEq] at h
      exact .inr ⟨by omega, h.symm⟩
  refine ⟨⟨S.sub, by simp [S.len], fun i d a h1 h2 => ?_, fun i j a h1 h2 => ?_, fun a ha => ?_⟩, p, ?_, rfl⟩
  · rcases split i a h2 with z2 | ⟨z2, w2⟩
    · have hi : i < st.length := by
        rw [← S.len]
        exact (List.getElem?_eq_some_iff.mp z2).1
      rw [List.getElem?_append_left hi] at h1
      exact S.cell i d a h1 z2
    · rw [z2, S.len, List.getElem?_append_right (Nat.le_refl _)] at h1
      simp at h1
      subst h1
      rw [w2]
      exact hc
  · rcases split i a h1 with z1 | ⟨z1, w1⟩
    · rcases split j a h2 with z2 | ⟨z2, w2⟩
      · exact S.inj i j a z1 z2
      · exact absurd w2 (hne a (List.mem_of_getElem? z1))
    · rcases split j a h2 with z2 | ⟨z2, w2⟩
      · exact absurd w1 (hne a (List.mem_of_getElem? z2))
      · rw [z1, z2]
  · rcases List.mem_append.mp ha with ha | ha
    · exact S.there a ha
    · simp at ha
      subst ha
      rw [ho]
      simp
  · rw [← S.len, List.getElem?_append_right (Nat.le_refl _)]
    simp
/-- a new cell -/
theorem StR.cell_new {K : KW} {F : Hp} {al : List Addr} {st : Sto} {H : Hp} (S : StR K F al st H) {p : Addr} (hp : H p = none) {o : HO} {c : Cell} (hc : CellAt K F (upd H p o) p c) :
    StR K F (al ++ [p]) (st ++ [c]) (upd H p o) ∧ Go al H F (al ++ [p]) (upd H p o) F ∧ LvR K F (al ++ [p]) (.c st.length) (.ref p) := by
  have hna : p ∉ al := fun hm => S.there p hm hp
  have S1 : StR K F al st (upd H p o) := by
    refine ⟨fun b x e => ?_, S.len, fun i d a h1 h2 => ?_, S.inj, fun a ha => ?_⟩
    · rw [upd_ne (ne_of_none (S.sub b x e) hp)]
      exact S.sub b x e
    · have ha : a ≠ p := fun e => hna (by rw [← e]; exact List.mem_of_getElem? h2)
      exact (S.cell i d a h1 h2).to (upd_ne ha) id (Same.refl _)
    · rw [upd_ne fun e => hna (by rw [← e]; exact ha)]
      exact S.there a ha
  obtain ⟨S2, R2⟩ := S1.cell_old (c := c) upd_same hna hc
  refine ⟨S2, ⟨fun i a h => ?_, fun a ha => ?_, fun b x e _ => ?_, fun _ _ h => .inl h⟩, R2⟩
  · rw [List.getElem?_append_left (List.getElem?_eq_some_iff.mp h).1]
    exact h
  · rcases List.mem_append.mp ha with ha | ha
    · exact .inl ha
    · simp at ha
      subst ha
      exact .inr hp
  · rw [upd_ne (ne_of_none e hp)]
    exact e
section
variable {X : Cx} {es : List Expr} {g : SA} {pos : Pos} {x1 : Nat}
theorem de_tup (h : PA X es (tDA (kw X) g)) : PE X (.Tuple es x1 pos) (tD (kw X) (sTup g)) := pe_imp (pe_tup h) fun σ H Q q => by
  obtain ⟨L, st, F, al, r, st', hL, hS, hf, q⟩ := q
  obtain ⟨p, h1, hf⟩ := Option.bind_eq_some_iff.mp hf
  obtain ⟨ds, h2, hf⟩ := Option.bind_eq_some_iff.mp hf
  split at hf
  · rename_i hz
    cases hf
    refine tDA_run hL hS h1 fun vs H1 F1 al1 g1 e1 S1 R1 _ => ?_
    have rr := R1.reps h2
    refine ⟨by rw [rr.length]; exact hz, fun a ha => ?_⟩
    obtain ⟨S2, g2, e2⟩ := S1.alloc ha (.tup vs)
    exact q _ _ _ al1 (g1.trans g2) (e1.trans e2) S2 (Rep.tup_of (SqT.of upd_same) (Reps.mono e2 ds vs rr))
  · cases hf
theorem de_lst (h : PA X es (tDA (kw X) g)) : PE X (.List es pos) (tD (kw X) (sLst g)) := pe_imp (pe_lst h) fun σ H Q q => by
  obtain ⟨L, st, F, al, r, st', hL, hS, hf, q⟩ := q
  obtain ⟨p, h1, hf⟩ := Option.bind_eq_some_iff.mp hf
  obtain ⟨ds, h2, hf⟩ := Option.bind_eq_some_iff.mp hf
  split at hf
  · rename_i hz
    cases hf
    refine tDA_run hL hS h1 fun vs H1 F1 al1 g1 e1 S1 R1 _ => ?_
    have rr := R1.reps h2
    refine ⟨by rw [rr.length]; exact hz, fun a ha => ?_⟩
    obtain ⟨S2, g2, e2⟩ := S1.alloc ha (.lst vs)
    exact q _ _ _ al1 (g1.trans g2) (e1.trans e2) S2 (Rep.lst_of upd_same (Reps.mono e2 ds vs rr))
  · cases hf
theorem de_lstC (h : PA X es (tDA (kw X) g)) : PE X (.List es pos) (tD (kw X) (sLstC g)) := pe_imp (pe_lst h) fun σ H Q q => by
  obtain ⟨L, st, F, al, r, st', hL, hS, hf, q⟩ := q
  obtain ⟨p, h1, hf⟩ := Option.bind_eq_some_iff.mp hf
  obtain ⟨ds, h2, hf⟩ := Option.bind_eq_some_iff.mp hf
  split at hf
  · rename_i hz
    cases hf
    refine tDA_run hL hS h1 fun vs H1 F1 al1 g1 e1 S1 R1 _ => ?_
    have rr := R1.reps h2
    refine ⟨by rw [rr.length]; exact hz, fun a ha => ?_⟩
    obtain ⟨S2, g2, r2⟩ := S1.cell_new (c := .lst ds) ha (.inr ⟨_, upd_same, S1.sub.free ha, vs, rfl, rr⟩)
    exact q _ _ _ _ (g1.trans g2) e1 S2 r2
  · cases hf
end
end DL
/-! The D-layer, part 3: statements, loops, comprehensions, defs. -/
namespace DL
open PySem L2

section
variable {K : KW} {F : Hp} {al : List Addr} {st : Sto} {H : Hp} {σ : St} {L : Loc}
theorem tDS_run {f : SS} {E : Ends} (hL : LocR K F al L σ) (hS : StR K F al st H) {fl : Fl} {L1 : Loc} {s1 : Sto} (ha : f L st = some (fl, L1, s1))
    (k : ∀ σ1 H1 F1 al1, Go al H F al1 H1 F1 → Same F F1 → StR K F1 al1 s1 H1 → LocR K F1 al1 L1 σ1 → flQ K F1 al1 E σ1 H1 fl) : tDS K f E σ H :=
  ⟨L, st, F, al, fl, L1, s1, hL, hS, ha, k⟩
/-- the heap elsewhere -/
theorem StR.heap (S : StR K F al st H) {H' : Hp} (h : ∀ a ∈ al, H' a = H a) (e : Same F H') : StR K F al st H' := by
  refine ⟨e, S.len, fun i c a h1 h2 => ?_, S.inj, fun a ha => by rw [h a ha]; exact S.there a ha⟩
  exact (S.cell i c a h1 h2).to (h a (List.mem_of_getElem? h2)) id (Same.refl _)
/-- a new object that is neither frozen nor a cell -/
theorem StR.beside (S : StR K F al st H) {p : Addr} (hp : H p = none) (o : HO) : StR K F al st (upd H p o) ∧ Go al H F al (upd H p o) F := by
  have hne : ∀ a ∈ al, a ≠ p := fun a ha e => S.there a ha (by rw [e]; exact hp)
  refine ⟨S.heap (fun a ha => upd_ne (hne a ha)) fun b x e => ?_, ⟨fun _ _ h => h, fun _ h => .inl h, fun b x e _ => ?_, fun _ _ h => .inl h⟩⟩
  · rw [upd_ne (ne_of_none (S.sub b x e) hp)]
    exact S.sub b x e
  · rw [upd_ne (ne_of_none e hp)]
    exact e
/-- an object beside the cells is written -/
theorem StR.aside (S : StR K F al st H) {p : Addr} (hp : F p = none) (hn : p ∉ al) (o : HO) : StR K F al st (upd H p o) := by
  refine S.heap (fun a ha => upd_ne fun e => hn (by rw [← e]; exact ha)) fun b x e => ?_
  rw [upd_ne (ne_of_none e hp)]
  exact S.sub b x e
/-- .. and freezes -/
theorem StR.freeze (S : StR K F al st H) {p : Addr} {o : HO} (hp : F p = none) (hn : p ∉ al) (ho : H p = some o) : StR K (upd F p o) al st H ∧ Same F (upd F p o) := by
  have hsF : Same F (upd F p o) := fun b x e => by
    rw [upd_ne (ne_of_none e hp)]
    exact e
  refine ⟨⟨fun b x e => ?_, S.len, fun i c a h1 h2 => ?_, S.inj, S.there⟩, hsF⟩
  · by_cases hb : b = p
    · subst hb
      rw [upd_same] at e
      rw [← e]
      exact ho
    · rw [upd_ne hb] at e
      exact S.sub b x e
  · have ha : a ≠ p := fun e => hn (by rw [← e]; exact List.mem_of_getElem? h2)
    exact (S.cell i c a h1 h2).to rfl (fun z => by rw [upd_ne ha]; exact z) hsF
/-- a cell is written -/
theorem StR.put (S : StR K F al st H) {i : Nat} {a : Addr} {c : Cell} {o : HO} (ha : al[i]? = some a) (hF : F a = none) (hc : CellAt K F (upd H a o) a c) : StR K F al (st.set i c) (upd H a o) ∧ Go al H F al (upd H a o) F := by
  have hi : i < st.length := by
    rw [← S.len]
    exact (List.getElem?_eq_some_iff.mp ha).1
  refine ⟨⟨fun b x e => ?_, by rw [List.length_set]; exact S.len, fun j d b h1 h2 => ?_, S.inj, fun b hb => ?_⟩, ⟨fun _ _ h => h, fun _ h => .inl h, fun b x e hn => ?_, fun _ _ h => .inl h⟩⟩
  · rw [upd_ne (ne_of_none e hF)]
    exact S.sub b x e
  · by_cases hj : i = j
    · subst hj
      rw [List.getElem?_set_self hi] at h1
      cases h1
      rw [ha] at h2
      cases h2
      exact hc
    · rw [List.getElem?_set_ne hj] at h1
      have hb : b ≠ a := fun e => hj (S.inj i j a ha (by rw [h2, e]))
      exact (S.cell j d b h1 h2).to (upd_ne hb) id (Same.refl _)
  · by_cases hba : b = a
    · rw [hba, upd_same]
      simp
    · rw [upd_ne hba]
      exact S.there b hb
  · rw [upd_ne fun e' => hn (by rw [e']; exact List.mem_of_getElem? ha)]
    exact e
end

/-! ### blocks -/
def xNil : SS := fun L st => some (.nx, L, st)
def xSeq (a b : SS) : SS := fun L st => (a L st).bind fun p => match p.1 with
  | .nx => b p.2.1 p.2.2
  | _ => some p
def xNever : SS := fun _ _ => none
def xBreak : SS := fun L st => some (.bk, L, st)
def xCont : SS := fun L st => some (.ct, L, st)
def xExpr (f : SE) : SS := fun L st => (f L st).map fun p => (.nx, L, p.2)
def xRet (f : SE) : SS := fun L st => (f L st).map fun p => (.rt p.1, L, p.2)
def xRetN : SS := fun L st => some (.rt (.d .non), L, st)
def xIf (c : SB) (a b : SS) : SS := fun L st => (c L st).bind fun p => if p.1 = true then a L p.2 else b L p.2
def xSet (i : Nat) (f : SE) : SS := fun L st => (f L st).map fun p => (.nx, L.set i (some p.1), p.2)
section
variable {X : Cx} {s : Stmt} {ss : List Stmt} {a b : SS} {e c : Expr} {f : SE} {fc : SB} {pos : Pos}
theorem dss_nil : PSs X [] (tDS (kw X) xNil) := pss_imp pss_nil fun E σ H q => by
  obtain ⟨L, st, F, al, fl, L', st', hL, hS, hf, q⟩ := q
  cases hf
  exact q σ H F al (Go.refl _ _ _) (Same.refl _) hS hL
theorem dss_cons (h1 : PS X s (tDS (kw X) a)) (h2 : PSs X ss (tDS (kw X) b)) : PSs X (s :: ss) (tDS (kw X) (xSeq a b)) := pss_imp (pss_cons h1 h2) fun E σ H q => by
  obtain ⟨L, st, F, al, fl, L', st', hL, hS, hf, q⟩ := q
  obtain ⟨⟨fl1, L1, s1⟩, h1, hf⟩ := Option.bind_eq_some_iff.mp hf
  refine tDS_run hL hS h1 fun σ1 H1 F1 al1 g1 e1 S1 R1 => ?_
  cases fl1 with
  | nx => exact tDS_run R1 S1 hf fun σ2 H2 F2 al2 g2 e2 S2 R2 => q σ2 H2 F2 al2 (g1.trans g2) (e1.trans e2) S2 R2
  | rt r =>
    cases hf
    exact q σ1 H1 F1 al1 g1 e1 S1 R1
  | bk =>
    cases hf
    exact q σ1 H1 F1 al1 g1 e1 S1 R1
  | ct =>
    cases hf
    exact q σ1 H1 F1 al1 g1 e1 S1 R1
theorem dss_one (h1 : PS X s (tDS (kw X) a)) : PSs X [s] (tDS (kw X) a) := pss_one h1
theorem ds_never : PS X s (tDS (kw X) xNever) := ps_imp ps_never fun E σ H q => by
  obtain ⟨L, st, F, al, fl, L', st', hL, hS, hf, q⟩ := q
  cases hf
theorem ds_pass : PS X (.Pass pos) (tDS (kw X) xNil) := ps_imp ps_pass fun E σ H q => by
  obtain ⟨L, st, F, al, fl, L', st', hL, hS, hf, q⟩ := q
  cases hf
  exact q σ H F al (Go.refl _ _ _) (Same.refl _) hS hL
theorem ds_break : PS X (.Break pos) (tDS (kw X) xBreak) := ps_imp ps_break fun E σ H q => by
  obtain ⟨L, st, F, al, fl, L', st', hL, hS, hf, q⟩ := q
  cases hf
  exact q σ H F al (Go.refl _ _ _) (Same.refl _) hS hL
theorem ds_continue : PS X (.Continue pos) (tDS (kw X) xCont) := ps_imp ps_continue fun E σ H q => by
  obtain ⟨L, st, F, al, fl, L', st', hL, hS, hf, q⟩ := q
  cases hf
  exact q σ H F al (Go.refl _ _ _) (Same.refl _) hS hL
theorem ds_doc {x : Str} {j : Nat} {pos pos' : Pos} : PS X (.Expr (.Constant (.str x) j pos) pos') (tDS (kw X) xNil) := ps_imp ps_doc fun E σ H q => by
  obtain ⟨L, st, F, al, fl, L', st', hL, hS, hf, q⟩ := q
  cases hf
  exact q σ H F al (Go.refl _ _ _) (Same.refl _) hS hL
theorem ds_expr (he : PE X e (tD (kw X) f)) (hs : swapsWith e none pos.line X.env = pure false := by rfl) : PS X (.Expr e pos) (tDS (kw X) (xExpr f)) := ps_imp (ps_expr he hs) fun E σ H q => by
  obtain ⟨L, st, F, al, fl, L', st', hL, hS, hf, q⟩ := q
  obtain ⟨p, h1, h2⟩ := Option.map_eq_some_iff.mp hf
  cases h2
  exact tD_run hL hS h1 fun v H1 F1 al1 g1 e1 S1 R1 L1 => q σ H1 F1 al1 g1 e1 S1 L1
theorem ds_ret (he : PE X e (tD (kw X) f)) : PS X (.Return (some e) pos) (tDS (kw X) (xRet f)) := ps_imp (ps_ret he) fun E σ H q => by
  obtain ⟨L, st, F, al, fl, L', st', hL, hS, hf, q⟩ := q
  obtain ⟨p, h1, h2⟩ := Option.map_eq_some_iff.mp hf
  cases h2
  exact tD_run hL hS h1 fun v H1 F1 al1 g1 e1 S1 R1 L1 => q σ H1 F1 al1 g1 e1 S1 L1 v R1
theorem ds_retN : PS X (.Return none pos) (tDS (kw X) xRetN) := ps_imp ps_retN fun E σ H q => by
  obtain ⟨L, st, F, al, fl, L', st', hL, hS, hf, q⟩ := q
  cases hf
  exact q σ H F al (Go.refl _ _ _) (Same.refl _) hS hL .non (show Rep (kw X) F .non .non by rw [Rep])
theorem ds_if {ba bb : List Stmt} (hc : PT X c (tDB (kw X) fc)) (ha : PSs X ba (tDS (kw X) a)) (hb : PSs X bb (tDS (kw X) b)) : PS X (.If c ba bb pos) (tDS (kw X) (xIf fc a b)) := ps_imp (ps_if hc ha hb) fun E σ H q => by
  obtain ⟨L, st, F, al, fl, L', st', hL, hS, hf, q⟩ := q
  obtain ⟨⟨d, s1⟩, h1, hf⟩ := Option.bind_eq_some_iff.mp hf
  refine tDB_run hL hS h1 fun H1 F1 al1 g1 e1 S1 L1 => ?_
  cases d with
  | true =>
    rw [if_pos rfl] at hf ⊢
    exact tDS_run L1 S1 hf fun σ2 H2 F2 al2 g2 e2 S2 R2 => q σ2 H2 F2 al2 (g1.trans g2) (e1.trans e2) S2 R2
  | false =>
    rw [if_neg Bool.false_ne_true] at hf ⊢
    exact tDS_run L1 S1 hf fun σ2 H2 F2 al2 g2 e2 S2 R2 => q σ2 H2 F2 al2 (g1.trans g2) (e1.trans e2) S2 R2
theorem ds_set {i : Nat} {x : Str} {pos' : Pos} (hN : X.N.Nodup) (hi : X.N[i]? = some x) (hx : L2.Loc X.env.scope x) (he : PE X e (tD (kw X) f)) (hs : swapsWith e (some (.Name x pos')) pos.line X.env = pure false := by rfl)
    (hf : X.fn x = true ∨ X.env.scope.names.lookup x = some .local := by first | exact .inl rfl | exact .inr rfl | assumption) : PS X (.Assign [.Name x pos'] e pos) (tDS (kw X) (xSet i f)) := ps_imp (ps_set hN hi hx he hs hf) fun E σ H q => by
  obtain ⟨L, st, F, al, fl, L', st', hL, hS, hf, q⟩ := q
  obtain ⟨p, h1, h2⟩ := Option.map_eq_some_iff.mp hf
  cases h2
  exact tD_run hL hS h1 fun v H1 F1 al1 g1 e1 S1 R1 L1 => q _ H1 F1 al1 g1 e1 S1 (L1.set i R1)
end

/-! ### targets -/
abbrev SG := Lv → Loc → Sto → Option (Loc × Sto)
def tDG (K : KW) (f : SG) : TG := fun v σ H Q => ∃ (lv : Lv) (L : Loc) (st : Sto) (F : Hp) (al : List Addr) (L' : Loc) (st' : Sto), LvR K F al lv v ∧ LocR K F al L σ ∧ StR K F al st H ∧ f lv L st = some (L', st') ∧
  ∀ σ' H' F' al', Go al H F al' H' F' → Same F F' → StR K F' al' st' H' → LocR K F' al' L' σ' → Q σ' H'
abbrev SGs := List D → Loc → Sto → Option (Loc × Sto)
def tDGs (K : KW) (f : SGs) : TGs := fun vs σ H Q => ∃ (ds : List D) (L : Loc) (st : Sto) (F : Hp) (al : List Addr) (L' : Loc) (st' : Sto), Reps K F ds vs ∧ LocR K F al L σ ∧ StR K F al st H ∧ f ds L st = some (L', st') ∧
  ∀ σ' H' F' al', Go al H F al' H' F' → Same F F' → StR K F' al' st' H' → LocR K F' al' L' σ' → Q σ' H'
def gN (i : Nat) : SG := fun lv L st => some (L.set i (some lv), st)
def gsNil : SGs := fun ds L st => match ds with
  | [] => some (L, st)
  | _ => none
def gsCons (g : SG) (gs : SGs) : SGs := fun ds L st => match ds with
  | d :: r => (g (.d d) L st).bind fun p => gs r p.1 p.2
  | [] => none
def gTu (n : Nat) (gs : SGs) : SG := fun lv L st => match lv with
  | .d (.tup ds) => if ds.length = n then gs ds L st else none
  | _ => none
def xAsg (f : SE) (g : SG) : SS := fun L st => (f L st).bind fun p => (g p.1 L p.2).map fun q => (.nx, q.1, q.2)
theorem pg_imp {X : Cx} {e : Expr} {t t' : TG} (h : PG X e t) (i : ∀ v σ H Q, t' v σ H Q → t v σ H Q) : PG X e t' := ⟨fun pins s σ H v u Q I r q => h.run pins s σ H v u Q I r (i v σ H Q q)⟩
theorem pgs_imp {X : Cx} {e : List Expr} {t t' : TGs} (h : PGs X e t) (i : ∀ v σ H Q, t' v σ H Q → t v σ H Q) : PGs X e t' := ⟨fun pins s σ H v u Q I r q => h.run pins s σ H v u Q I r (i v σ H Q q)⟩
section
variable {X : Cx} {e tg : Expr} {es : List Expr} {g : SG} {gs : SGs} {pos : Pos} {f : SE}
theorem dg_name {i : Nat} {x : Str} (h : PG X (.Name x pos) (gName i)) : PG X (.Name x pos) (tDG (kw X) (gN i)) := pg_imp h fun v σ H Q q => by
  obtain ⟨lv, L, st, F, al, L', st', hv, hL, hS, hf, q⟩ := q
  cases hf
  exact q _ H F al (Go.refl _ _ _) (Same.refl _) hS (hL.set i hv)
theorem dgs_nil : PGs X [] (tDGs (kw X) gsNil) := pgs_imp pgs_nil fun v σ H Q q => by
  obtain ⟨ds, L, st, F, al, L', st', hv, hL, hS, hf, q⟩ := q
  cases ds with
  | nil =>
    rw [Reps] at hv
    cases hf
    exact ⟨hv, q _ H F al (Go.refl _ _ _) (Same.refl _) hS hL⟩
  | cons d r => cases hf
theorem dgs_cons (h1 : PG X e (tDG (kw X) g)) (h2 : PGs X es (tDGs (kw X) gs)) (hs : (assignEach (e :: es) X.env).map (·.2) = assign e X.env :: (assignEach es X.env).map (·.2) := by rfl) : PGs X (e :: es) (tDGs (kw X) (gsCons g gs)) := pgs_imp (pgs_cons h1 h2 hs) fun v σ H Q q => by
  obtain ⟨ds, L, st, F, al, L', st', hv, hL, hS, hf, q⟩ := q
  cases ds with
  | nil => cases hf
  | cons d r =>
    rw [Reps] at hv
    obtain ⟨v0, r0, rfl, hv1, hv2⟩ := hv
    obtain ⟨p, h1, hf⟩ := Option.bind_eq_some_iff.mp hf
    exact ⟨v0, r0, rfl, .d d, L, st, F, al, p.1, p.2, hv1, hL, hS, h1, fun σ1 H1 F1 al1 g1 e1 S1 L1 =>
      ⟨r, p.1, p.2, F1, al1, L', st', Reps.mono e1 r r0 hv2, L1, S1, hf, fun σ2 H2 F2 al2 g2 e2 S2 L2 => q σ2 H2 F2 al2 (g1.trans g2) (e1.trans e2) S2 L2⟩⟩
theorem dg_tup {k n : Nat} (hc : X.calm = true) (h : PGs X es (tDGs (kw X) gs)) (hn : (assignEach es X.env).length = n := by rfl) (hst : (assignEach es X.env).findIdx? (·.1) = none := by rfl) : PG X (.Tuple es k pos) (tDG (kw X) (gTu n gs)) :=
  pg_imp (pg_tup hc h hn hst) fun v σ H Q q => by
  obtain ⟨lv, L, st, F, al, L', st', hv, hL, hS, hf, q⟩ := q
  cases lv with
  | c i => cases hf
  | d x =>
    cases x with
    | tup ds =>
      have hf : (if ds.length = n then gs ds L st else none) = some (L', st') := hf
      by_cases hz : ds.length = n
      · rw [if_pos hz] at hf
        have hv : Rep (kw X) F (.tup ds) v := hv
        rw [Rep] at hv
        obtain ⟨a, xs, rfl, h2, h3⟩ := hv
        exact ⟨a, xs, rfl, same_sqT hS.sub h2, by rw [h3.length]; exact hz, ds, L, st, F, al, L', st', h3, hL, hS, hf, q⟩
      · rw [if_neg hz] at hf
        cases hf
    | _ => cases hf
theorem ds_asg (he : PE X e (tD (kw X) f)) (hg : PG X tg (tDG (kw X) g)) (hs : swapsWithSole [tg] e pos.line X.env = pure false := by rfl) (hw : swappedStores [tg] e X.env = pure none := by rfl)
    (h1 : (assignEach [tg] X.env).map (·.2) = [assign tg X.env] := by rfl) : PS X (.Assign [tg] e pos) (tDS (kw X) (xAsg f g)) := ps_imp (ps_asg he hg hs hw h1) fun E σ H q => by
  obtain ⟨L, st, F, al, fl, L', st', hL, hS, hf, q⟩ := q
  obtain ⟨p, h1, hf⟩ := Option.bind_eq_some_iff.mp hf
  obtain ⟨p2, h2, h3⟩ := Option.map_eq_some_iff.mp hf
  cases h3
  exact tD_run hL hS h1 fun v H1 F1 al1 g1 e1 S1 R1 L1 => ⟨p.1, L, p.2, F1, al1, p2.1, p2.2, R1, L1, S1, h2, fun σ2 H2 F2 al2 g2 e2 S2 L2 => q σ2 H2 F2 al2 (g1.trans g2) (e1.trans e2) S2 L2⟩
end
/-! o[i] = v -/
abbrev KSet := Lv → Lv → Lv → Sto → Option Sto
def rDSet (K : KW) (k : KSet) : TSet := fun o i v H Q => ∃ (a b c : Lv) (st : Sto) (F : Hp) (al : List Addr) (st' : Sto), StR K F al st H ∧ LvR K F al a o ∧ LvR K F al b i ∧ LvR K F al c v ∧ k a b c st = some st' ∧
  ∀ H' F' al', Go al H F al' H' F' → Same F F' → StR K F' al' st' H' → Q H'
def gSb (fo fi : SE) (k : KSet) : SG := fun lv L st => (fo L st).bind fun p => (fi L p.2).bind fun q => (k p.1 q.1 lv q.2).map fun s => (L, s)
section
variable {X : Cx} {o i : Expr} {fo fi : SE} {k : KSet} {pos : Pos}
theorem dg_sub (ho : PE X o (tD (kw X) fo)) (hi : PE X i (tD (kw X) fi)) (hs : PSet X (rDSet (kw X) k))
    (ha : ∀ v, assign (.Subscript o i pos) X.env v = (do
      let ov ← holding [v] (eval o X.env)
      let iv ← holding [v, ov] (eval i X.env)
      standAt pos
      holding [v, ov, iv] (setItem ov iv v)
      release [v, ov, iv] []) := by intro _; rfl) : PG X (.Subscript o i pos) (tDG (kw X) (gSb fo fi k)) := pg_imp (pg_sub ho hi hs ha) fun v σ H Q q => by
  obtain ⟨lv, L, st, F, al, L', st', hv, hL, hS, hf, q⟩ := q
  obtain ⟨p, h1, hf⟩ := Option.bind_eq_some_iff.mp hf
  obtain ⟨p2, h2, hf⟩ := Option.bind_eq_some_iff.mp hf
  obtain ⟨s3, h3, hf⟩ := Option.map_eq_some_iff.mp hf
  obtain ⟨rfl, rfl⟩ : L = L' ∧ s3 = st' := by simpa using hf
  exact tD_run hL hS h1 fun w H1 F1 al1 g1 e1 S1 R1 L1 => tD_run L1 S1 h2 fun w2 H2 F2 al2 g2 e2 S2 R2 L2 =>
    ⟨p.1, p2.1, lv, p2.2, F2, al2, s3, S2, R1.mono (kw X) e2 g2, R2, (hv.mono (kw X) e1 g1).mono (kw X) e2 g2, h3, fun H' F' al' g e S => q σ H' F' al' ((g1.trans g2).trans g) ((e1.trans e2).trans e) S (L2.mono e g)⟩
end

/-! ### while -/
def whGo (c : SB) (b : SS) : Nat → SS
  | 0 => fun _ _ => none
  | n + 1 => fun L st => (c L st).bind fun p => if p.1 = true then (b L p.2).bind fun q => match q.1 with
      | .nx => whGo c b n q.2.1 q.2.2
      | .ct => whGo c b n q.2.1 q.2.2
      | .bk => some (.nx, q.2)
      | .rt r => some (.rt r, q.2)
    else some (.nx, L, p.2)
def xWhile (fuel : Loc → Sto → Nat) (c : SB) (b : SS) : SS := fun L st => whGo c b (fuel L st) L st
section
variable {X : Cx} {c : Expr} {body : List Stmt} {fc : SB} {b : SS} {fuel : Loc → Sto → Nat} {pos : Pos}
theorem ds_while (hp : PassesOwn (model X.prog X.w) X.A X.env X.xe) (hc : PT X c (tDB (kw X) fc)) (hb : PSs X body (tDS (kw X) b)) : PS X (.While c body [] pos) (tDS (kw X) (xWhile fuel fc b)) := ps_imp (ps_while hp hc hb) fun E σ H q => by
  obtain ⟨L, st, F, al, fl, L', st', hL, hS, hf, q⟩ := q
  refine ⟨fun m σ1 H1 => ∃ L1 st1 F1 al1, Go al H F al1 H1 F1 ∧ Same F F1 ∧ LocR (kw X) F1 al1 L1 σ1 ∧ StR (kw X) F1 al1 st1 H1 ∧ whGo fc b m L1 st1 = some (fl, L', st'), ⟨_, L, st, F, al, Go.refl _ _ _, Same.refl _, hL, hS, hf⟩, ?_⟩
  rintro m σ1 H1 ⟨L1, st1, F1, al1, g1, e1, hL1, hS1, hf1⟩
  cases m with
  | zero => cases hf1
  | succ m =>
    obtain ⟨⟨d, s2⟩, h2, hf2⟩ := Option.bind_eq_some_iff.mp hf1
    refine tDB_run hL1 hS1 h2 fun H2 F2 al2 g2 e2 S2 L2 => ?_
    cases d with
    | false =>
      rw [if_neg Bool.false_ne_true] at hf2 ⊢
      cases hf2
      exact q σ1 H2 F2 al2 (g1.trans g2) (e1.trans e2) S2 L2
    | true =>
      rw [if_pos rfl] at hf2 ⊢
      obtain ⟨⟨fl3, L3, s3⟩, h3, hf3⟩ := Option.bind_eq_some_iff.mp hf2
      refine ⟨fun σ4 H4 => ∃ L1 st1 F1 al1, Go al H F al1 H4 F1 ∧ Same F F1 ∧ LocR (kw X) F1 al1 L1 σ4 ∧ StR (kw X) F1 al1 st1 H4 ∧ whGo fc b m L1 st1 = some (fl, L', st'), fun σ' H' n => ⟨m, Nat.lt_succ_self m, n⟩, ?_⟩
      refine tDS_run L2 S2 h3 fun σ4 H4 F4 al4 g4 e4 S4 L4 => ?_
      have g := (g1.trans g2).trans g4
      have e := (e1.trans e2).trans e4
      cases fl3 with
      | nx => exact ⟨L3, s3, F4, al4, g, e, L4, S4, hf3⟩
      | ct => exact ⟨L3, s3, F4, al4, g, e, L4, S4, hf3⟩
      | bk =>
        cases hf3
        exact q σ4 H4 F4 al4 g e S4 L4
      | rt r =>
        cases hf3
        exact q σ4 H4 F4 al4 g e S4 L4
end

/-! ### what is walked -/
abbrev SI := Loc → Sto → Option (List D × Sto)
structure ItD (K : KW) (F : Hp) (J : It) (ds : List D) : Prop where
  go : ∀ i H, i < ds.length → Same F H → J.go i H
  stop : ∀ H, Same F H → J.stop ds.length H
  yld : ∀ i d H x H' F1 al st, ds[i]? = some d → Same F F1 → StR K F1 al st H → J.yld i H x H' → ∃ F2, Go al H F1 al H' F2 ∧ Same F1 F2 ∧ StR K F2 al st H' ∧ Rep K F2 d x
def tDI (K : KW) (f : SI) : TI := fun σ H R => ∃ (L : Loc) (st : Sto) (F : Hp) (al : List Addr) (ds : List D) (st' : Sto), LocR K F al L σ ∧ StR K F al st H ∧ f L st = some (ds, st') ∧
  ∀ J H' F' al', Go al H F al' H' F' → Same F F' → StR K F' al' st' H' → ItD K F' J ds → R J H'
def forGo (g : SG) (b : SS) : List D → SS
  | [] => fun L st => some (.nx, L, st)
  | x :: xs => fun L st => (g (.d x) L st).bind fun p => (b p.1 p.2).bind fun q => match q.1 with
      | .nx => forGo g b xs q.2.1 q.2.2
      | .ct => forGo g b xs q.2.1 q.2.2
      | .bk => some (.nx, q.2)
      | .rt r => some (.rt r, q.2)
def xFor (i : SI) (g : SG) (b : SS) : SS := fun L st => (i L st).bind fun p => forGo g b p.1 L p.2
theorem pi_imp {X : Cx} {tg e : Expr} {t t' : TI} (h : PI X tg e t) (i : ∀ σ H R, t' σ H R → t σ H R) : PI X tg e t' := ⟨fun pins s σ H R I q => h.run pins s σ H R I (i σ H R q)⟩
section
variable {X : Cx} {tg iter : Expr} {body : List Stmt} {fi : SI} {g : SG} {b : SS} {pos : Pos}
theorem ds_for (hp : PassesOwn (model X.prog X.w) X.A X.env X.xe) (hc : X.calm = true) (hi : PI X tg iter (tDI (kw X) fi)) (hg : PG X tg (tDG (kw X) g)) (hb : PSs X body (tDS (kw X) b))
    (hs : ∀ x, foldedSetIterable iter X.env x = pure x := by intro _; rfl) : PS X (.For tg iter body [] pos) (tDS (kw X) (xFor fi g b)) := ps_imp (ps_for hp hc hi hg hb hs) fun E σ H q => by
  obtain ⟨L, st, F, al, fl, L', st', hL, hS, hf, q⟩ := q
  obtain ⟨⟨ds, s0⟩, h0, hf⟩ := Option.bind_eq_some_iff.mp hf
  refine ⟨L, st, F, al, ds, s0, hL, hS, h0, fun J H0 F0 al0 g0 e0 S0 T => ?_⟩
  refine ⟨fun i m σ1 H1 => m = ds.length - i ∧ i ≤ ds.length ∧ ∃ L1 st1 F1 al1, Go al H F al1 H1 F1 ∧ Same F F1 ∧ Same F0 F1 ∧ LocR (kw X) F1 al1 L1 σ1 ∧ StR (kw X) F1 al1 st1 H1 ∧ forGo g b (ds.drop i) L1 st1 = some (fl, L', st'),
    ⟨_, rfl, Nat.zero_le _, L, s0, F0, al0, g0, e0, Same.refl _, hL.mono e0 g0, S0, hf⟩, ?_⟩
  rintro i m σ1 H1 ⟨rfl, hi, L1, st1, F1, al1, g1, e1, f1, hL1, hS1, hf1⟩
  by_cases hlt : i < ds.length
  · rw [List.drop_eq_getElem_cons hlt] at hf1
    refine .inr ⟨T.go i H1 hlt (f1.trans hS1.sub), fun σ4 H4 => ∃ L1 st1 F1 al1, Go al H F al1 H4 F1 ∧ Same F F1 ∧ Same F0 F1 ∧ LocR (kw X) F1 al1 L1 σ4 ∧ StR (kw X) F1 al1 st1 H4 ∧ forGo g b (ds.drop (i + 1)) L1 st1 = some (fl, L', st'), fun σ' H' n => ⟨ds.length - (i + 1), by omega, rfl, hlt, n⟩, fun x H' hy => ?_⟩
    obtain ⟨F2, g2, e2, S2, R2⟩ := T.yld i _ H1 x H' F1 al1 st1 (List.getElem?_eq_getElem hlt) f1 hS1 hy
    obtain ⟨⟨L3, s3⟩, h3, hf3⟩ := Option.bind_eq_some_iff.mp hf1
    obtain ⟨⟨fl4, L4, s4⟩, h4, hf4⟩ := Option.bind_eq_some_iff.mp hf3
    refine ⟨.d ds[i], L1, st1, F2, al1, L3, s3, R2, hL1.mono e2 g2, S2, h3, fun σ3 H3 F3 al3 g3 e3 S3 hL3 => ?_⟩
    refine tDS_run hL3 S3 h4 fun σ5 H5 F5 al5 g5 e5 S5 hL5 => ?_
    have gg := ((g1.trans g2).trans g3).trans g5
    have ee := ((e1.trans e2).trans e3).trans e5
    have ff := ((f1.trans e2).trans e3).trans e5
    cases fl4 with
    | nx => exact ⟨L4, s4, F5, al5, gg, ee, ff, hL5, S5, hf4⟩
    | ct => exact ⟨L4, s4, F5, al5, gg, ee, ff, hL5, S5, hf4⟩
    | bk =>
      cases hf4
      exact q σ5 H5 F5 al5 gg ee S5 hL5
    | rt r =>
      cases hf4
      exact q σ5 H5 F5 al5 gg ee S5 hL5
  · have ei : i = ds.length := by omega
    subst ei
    rw [List.drop_length] at hf1
    cases hf1
    exact .inl ⟨T.stop H1 (f1.trans hS1.sub), q σ1 H1 F1 al1 g1 e1 hS1 hL1⟩
end

/-! ### list comprehensions -/
def wipeL (L : Loc) : List Nat → Loc
  | [] => L
  | v :: vs => (wipeL L vs).set v none
theorem LocR.wiped {K : KW} {F : Hp} {al : List Addr} {L : Loc} {σ : St} (h : LocR K F al L σ) : ∀ vs : List Nat, LocR K F al (wipeL L vs) (wipe σ vs)
  | [] => h
  | v :: vs => by
    have ih := LocR.wiped h vs
    refine ⟨by rw [wipeL, wipe, List.length_set, List.length_set, ih.len], fun i r hi => ?_⟩
    rw [wipeL] at hi
    rw [wipe]
    by_cases e : v = i
    · subst e
      by_cases hv : v < (wipeL L vs).length
      · rw [List.getElem?_set_self hv] at hi
        cases hi
      · rw [List.getElem?_eq_none (by simpa using hv)] at hi
        cases hi
    · rw [List.getElem?_set_ne e] at hi ⊢
      exact ih.at_ i r hi
def lcGo (g : SG) (c : SB) (e : SE) (L : Loc) : List D → Sto → Option (List D × Sto)
  | [], st => some ([], st)
  | x :: xs, st => (g (.d x) L st).bind fun p => (c p.1 p.2).bind fun q => if q.1 = true then (e p.1 q.2).bind fun r => match r.1 with
      | .d y => (lcGo g c e L xs r.2).map fun z => (y :: z.1, z.2)
      | .c _ => none
    else lcGo g c e L xs q.2
def bYes : SB := fun _ st => some (true, st)
def sLc (i : SI) (g : SG) (c : SB) (e : SE) (vs : List Nat) : SE := fun L st => (i L st).bind fun p => (lcGo g c e (wipeL L vs) p.1 p.2).bind fun q => if q.1.length ≤ sizeLine then some (.d (.lst q.1), q.2) else none
def sLcC (i : SI) (g : SG) (c : SB) (e : SE) (vs : List Nat) : SE := fun L st => (i L st).bind fun p => (lcGo g c e (wipeL L vs) p.1 p.2).bind fun q => if q.1.length ≤ sizeLine then some (.c q.2.length, q.2 ++ [.lst q.1]) else none
/-- the target of a comprehension touches its own names alone -/
def KeepsOwn (g : SG) (vs : List Nat) : Prop := True
theorem pts_imp {X : Cx} {es : List Expr} {t t' : TT} (h : PTs X es t) (i : ∀ σ H Q, t' σ H Q → t σ H Q) : PTs X es t' := ⟨fun pins s σ H Q I q => h.run pins s σ H Q I (i σ H Q q)⟩
theorem dts_nil {X : Cx} : PTs X [] (tDB (kw X) bYes) := pts_imp pts_nil fun σ H Q q => by
  obtain ⟨L, st, F, al, r, st', hL, hS, hf, q⟩ := q
  cases hf
  exact q H F al (Go.refl _ _ _) (Same.refl _) hS
theorem dts_one {X : Cx} {c : Expr} {f : SB} (h : PT X c (tDB (kw X) f)) : PTs X [c] (tDB (kw X) f) := pts_one h
/-- what the target does to the slots -/
def GOwn (K : KW) (g : SG) (tg : TG) (vs : List Nat) : Prop :=
  ∀ v σ H Q, tDG K g v (wipe σ vs) H Q → tg v (wipe σ vs) H fun σ' H' => wipe σ' vs = wipe σ vs ∧ Q σ' H'
section
variable {K : KW} {wi : TI} {fi : SI} {g : SG} {gt : TG} {fc : SB} {fe : SE} {vs : List Nat}
/-- the loop of a comprehension: its end holds a list beside all else -/
theorem lc_of {σ : St} {H : Hp} {Q : VK} {L : Loc} {st : Sto} {F : Hp} {al : List Addr} {ds : List D} {s0 : Sto} {ys : List D} {s1 : Sto} (own : GOwn K g gt vs) (hL : LocR K F al L σ) (hS : StR K F al st H) (h0 : fi L st = some (ds, s0))
    (h1 : lcGo g fc fe (wipeL L vs) ds s0 = some (ys, s1)) (hz : ys.length ≤ sizeLine)
    (q : ∀ D xs H' F' al', Go al H F al' H' F' → Same F F' → StR K F' al' s1 H' → H' D = some (.lst xs) → F' D = none → D ∉ al' → H D = none → Reps K F' ys xs → Q (.ref D) H') :
    tLc (tDI K fi) gt (tDB K fc) (tD K fe) vs σ H Q := by
  refine ⟨L, st, F, al, ds, s0, hL, hS, h0, fun J H0 F0 al0 g0 e0 S0 T D hD => ?_⟩
  have hDH : H D = none := by
    cases z : H D with
    | none => rfl
    | some o =>
      by_cases hm : D ∈ al
      · obtain ⟨i, hi⟩ := List.getElem?_of_mem hm
        exact absurd hD (S0.there D (List.mem_of_getElem? (g0.pre i D hi)))
      · rw [g0.keep D o z hm] at hD
        cases hD
  have hDF : F0 D = none := S0.sub.free hD
  have hDa : D ∉ al0 := fun hm => S0.there D hm hD
  obtain ⟨S0', g0'⟩ := S0.beside hD (.lst [])
  refine ⟨fun i m H1 => m = ds.length - i ∧ i ≤ ds.length ∧ ∃ st1 F1 al1 acc zs, Go al H F al1 H1 F1 ∧ Same F F1 ∧ Same F0 F1 ∧ StR K F1 al1 st1 H1 ∧ H1 D = some (.lst acc) ∧ F1 D = none ∧ D ∉ al1 ∧ ∃ pre, ys = pre ++ zs ∧ Reps K F1 pre acc ∧ lcGo g fc fe (wipeL L vs) (ds.drop i) st1 = some (zs, s1),
    ⟨_, rfl, Nat.zero_le _, s0, F0, al0, [], ys, g0.trans g0', e0, Same.refl _, S0', upd_same, hDF, hDa, [], rfl, Reps.nil, h1⟩, ?_⟩
  rintro i m H1 ⟨rfl, hi, st1, F1, al1, acc, zs, g1, e1, f1, hS1, hD1, hDF1, hDa1, pre, hys, hacc, hf1⟩
  by_cases hlt : i < ds.length
  · rw [List.drop_eq_getElem_cons hlt] at hf1
    refine .inr ⟨T.go i H1 hlt (f1.trans hS1.sub), fun H4 => ∃ st1 F1 al1 acc zs, Go al H F al1 H4 F1 ∧ Same F F1 ∧ Same F0 F1 ∧ StR K F1 al1 st1 H4 ∧ H4 D = some (.lst acc) ∧ F1 D = none ∧ D ∉ al1 ∧ ∃ pre, ys = pre ++ zs ∧ Reps K F1 pre acc ∧ lcGo g fc fe (wipeL L vs) (ds.drop (i + 1)) st1 = some (zs, s1),
      fun H' n => ⟨ds.length - (i + 1), by omega, rfl, hlt, n⟩, fun x H' hy => ?_⟩
    obtain ⟨F2, g2, e2, S2, R2⟩ := T.yld i _ H1 x H' F1 al1 st1 (List.getElem?_eq_getElem hlt) f1 hS1 hy
    have hD2 : H' D = some (.lst acc) := g2.keep D _ hD1 hDa1
    have hLw : LocR K F2 al1 (wipeL L vs) (wipe σ vs) := ((hL.wiped vs).mono e1 g1).mono e2 g2
    obtain ⟨⟨L3, s3⟩, h3, hf3⟩ := Option.bind_eq_some_iff.mp hf1
    obtain ⟨⟨b, s4⟩, h4, hf4⟩ := Option.bind_eq_some_iff.mp hf3
    -- D stays beside: no new cell, and not frozen
    have stays : ∀ {F' : Hp} {al' : List Addr} {H'' : Hp}, Go al1 H' F2 al' H'' F' → H'' D = some (.lst acc) ∧ F' D = none ∧ D ∉ al' := fun {F' al' H''} gg => by
      refine ⟨gg.keep D _ hD2 hDa1, ?_, fun hm => ?_⟩
      · cases z : F' D with
        | none => rfl
        | some o =>
          exfalso
          rcases (g2.trans gg).fz D o z with w | w | w
          · rw [hDF1] at w
            cases w
          · rw [hD1] at w
            cases w
          · exact hDa1 w
      · rcases gg.new D hm with z | z
        · exact hDa1 z
        · rw [hD2] at z
          cases z
    refine own x σ H' _ ⟨.d ds[i], wipeL L vs, st1, F2, al1, L3, s3, R2, hLw, S2, h3, fun σ3 H3 F3 al3 g3 e3 S3 hL3 => ?_⟩
    refine tDB_run hL3 S3 h4 fun H4 F4 al4 g4 e4 S4 hL4 => ?_
    cases b with
    | false =>
      have hf4 : lcGo g fc fe (wipeL L vs) (ds.drop (i + 1)) s4 = some (zs, s1) := hf4
      rw [if_neg Bool.false_ne_true]
      obtain ⟨z1, z2, z3⟩ := stays (g3.trans g4)
      exact ⟨s4, F4, al4, acc, zs, ((g1.trans g2).trans g3).trans g4, ((e1.trans e2).trans e3).trans e4, ((f1.trans e2).trans e3).trans e4, S4, z1, z2, z3, pre, hys, Reps.mono ((e2.trans e3).trans e4) pre acc hacc, hf4⟩
    | true =>
      obtain ⟨⟨y5, s5⟩, h5, hf5⟩ := Option.bind_eq_some_iff.mp hf4
      rw [if_pos rfl]
      refine tD_run hL4 S4 h5 fun v5 H5 F5 al5 g5 e5 S5 R5 _ => ?_
      cases y5 with
      | c k => cases hf5
      | d y =>
        obtain ⟨⟨zs', s6⟩, h6, hf6⟩ := Option.map_eq_some_iff.mp hf5
        cases hf6
        obtain ⟨z1, z2, z3⟩ := stays ((g3.trans g4).trans g5)
        have e25 := ((e2.trans e3).trans e4).trans e5
        have hlen : acc.length < sizeLine := by
          have q1 := hacc.length
          have q2 : (pre ++ y :: zs').length ≤ sizeLine := by rw [← hys]; exact hz
          rw [List.length_append, List.length_cons] at q2
          omega
        refine ⟨acc, z1, hlen, s5, F5, al5, acc ++ [v5], zs', ?_, e1.trans e25, f1.trans e25, S5.aside z2 z3 _, upd_same, z2, z3, pre ++ [y], by rw [hys, List.append_assoc]; rfl, (Reps.mono e25 pre acc hacc).append (Reps.one R5), h6⟩
        have gg := (((g1.trans g2).trans g3).trans g4).trans g5
        refine ⟨gg.pre, gg.new, fun b o hb hn => ?_, gg.fz⟩
        rw [upd_ne (ne_of_none hb hDH)]
        exact gg.keep b o hb hn
  · have ei : i = ds.length := by omega
    subst ei
    rw [List.drop_length] at hf1
    cases hf1
    rw [List.append_nil] at hys
    subst hys
    exact .inl ⟨T.stop H1 (f1.trans hS1.sub), q D acc H1 F1 al1 g1 e1 hS1 hD1 hDF1 hDa1 hDH hacc⟩
end
end DL
/-! The D-layer, part 4: comprehensions as rules, what is walked, defs and their calls, freezing. -/
namespace DL
open PySem L2

/-! ### the own names of a comprehension -/
theorem wipe_get (σ : St) (j : Nat) : ∀ vs : List Nat, (wipe σ vs)[j]? = if j ∈ vs then (σ[j]?).map (fun _ => none) else σ[j]?
  | [] => by simp [wipe]
  | v :: vs => by
    rw [wipe]
    by_cases e : v = j
    · subst e
      rw [if_pos List.mem_cons_self]
      by_cases h : v < σ.length
      · rw [List.getElem?_set_self (by rw [wipe_length]; exact h), List.getElem?_eq_getElem h]
        rfl
      · rw [List.getElem?_eq_none (by rw [List.length_set, wipe_length]; omega), List.getElem?_eq_none (by omega)]
        rfl
    · rw [List.getElem?_set_ne e, wipe_get σ j vs]
      have : (j ∈ v :: vs) ↔ j ∈ vs := by
        rw [List.mem_cons]
        exact ⟨fun h => h.elim (fun z => absurd z.symm e) id, .inr⟩
      by_cases h : j ∈ vs
      · rw [if_pos h, if_pos (this.mpr h)]
      · rw [if_neg h, if_neg fun z => h (this.mp z)]
theorem wipe_set {σ : St} {vs : List Nat} {i : Nat} (h : i ∈ vs) (x : Option V) : wipe (σ.set i x) vs = wipe σ vs := by
  refine List.ext_getElem? fun j => ?_
  rw [wipe_get, wipe_get]
  by_cases hj : j ∈ vs
  · rw [if_pos hj, if_pos hj]
    by_cases e : i = j
    · subst e
      by_cases hl : i < σ.length
      · rw [List.getElem?_set_self hl, List.getElem?_eq_getElem hl]
        rfl
      · rw [List.getElem?_eq_none (by rw [List.length_set]; omega), List.getElem?_eq_none (by omega)]
    · rw [List.getElem?_set_ne e]
  · rw [if_neg hj, if_neg hj]
    have e : i ≠ j := fun z => hj (z ▸ h)
    rw [List.getElem?_set_ne e]
theorem wipe_wipe (σ : St) (vs : List Nat) : wipe (wipe σ vs) vs = wipe σ vs := by
  refine List.ext_getElem? fun j => ?_
  rw [wipe_get, wipe_get]
  by_cases hj : j ∈ vs
  · rw [if_pos hj, if_pos hj]
    cases σ[j]? <;> rfl
  · rw [if_neg hj, if_neg hj]
section
variable {K : KW}
theorem own_name {i : Nat} {vs : List Nat} (h : i ∈ vs) : GOwn K (gN i) (gName i) vs := fun v σ H Q q => by
  obtain ⟨lv, L, st, F, al, L', st', hv, hL, hS, hf, q⟩ := q
  cases hf
  refine ⟨?_, q _ H F al (Go.refl _ _ _) (Same.refl _) hS (hL.set i hv)⟩
  rw [wipe_set h, wipe_wipe]
def gsN : List Nat → SGs
  | [] => gsNil
  | i :: r => gsCons (gN i) (gsN r)
def gNames : List Nat → TGs
  | [] => gNil
  | i :: r => gCons (gName i) (gNames r)
theorem own_names : ∀ {is : List Nat} {vs : List Nat} {ds : List D} {xs : List V} {σ σ0 : St} {H : Hp} {Q : St → Hp → Prop} {L : Loc} {st : Sto} {F : Hp} {al : List Addr} {L' : Loc} {st' : Sto}, (∀ i ∈ is, i ∈ vs) → Reps K F ds xs → wipe σ vs = σ0 → LocR K F al L σ → gsN is ds L st = some (L', st') →
    (∀ σ', LocR K F al L' σ' → wipe σ' vs = σ0 → st' = st → Q σ' H) → gNames is xs σ H fun σ' H' => Q σ' H'
  | [], vs, ds, xs, σ, σ0, H, Q, L, st, F, al, L', st', hi, hr, hw, hL, hf, q => by
    cases ds with
    | nil =>
      rw [Reps] at hr
      cases hf
      exact ⟨hr, q σ hL hw rfl⟩
    | cons d r => cases hf
  | i :: is, vs, ds, xs, σ, σ0, H, Q, L, st, F, al, L', st', hi, hr, hw, hL, hf, q => by
    cases ds with
    | nil => cases hf
    | cons d r =>
      rw [Reps] at hr
      obtain ⟨v0, r0, rfl, h1, h2⟩ := hr
      have hf : gsN is r (L.set i (some (.d d))) st = some (L', st') := hf
      exact ⟨v0, r0, rfl, own_names (fun j hj => hi j (List.mem_cons_of_mem _ hj)) h2 (by rw [wipe_set (hi i List.mem_cons_self)]; exact hw) (hL.set i (r := .d d) h1) hf q⟩
theorem own_tup {is : List Nat} {n : Nat} {vs : List Nat} (h : ∀ i ∈ is, i ∈ vs) : GOwn K (gTu n (gsN is)) (gTup K.k n (gNames is)) vs := fun v σ H Q q => by
  obtain ⟨lv, L, st, F, al, L', st', hv, hL, hS, hf, q⟩ := q
  cases lv with
  | c i => cases hf
  | d x =>
    cases x with
    | tup ds =>
      have hf : (if ds.length = n then gsN is ds L st else none) = some (L', st') := hf
      by_cases hz : ds.length = n
      · rw [if_pos hz] at hf
        have hv : Rep K F (.tup ds) v := hv
        rw [Rep] at hv
        obtain ⟨a, xs, rfl, h2, h3⟩ := hv
        refine ⟨a, xs, rfl, same_sqT hS.sub h2, by rw [h3.length]; exact hz, own_names h h3 (wipe_wipe σ vs) hL hf fun σ' hL' hw e => ⟨hw, ?_⟩⟩
        subst e
        exact q _ H F al (Go.refl _ _ _) (Same.refl _) hS hL'
      · rw [if_neg hz] at hf
        cases hf
    | _ => cases hf
end

/-! ### the rules of a comprehension -/
section
variable {X : Cx} {elt tg iter : Expr} {ifs : List Expr} {scope : Scope} {own : List (Str × Nat)} {pos : Pos} {fi : SI} {g : SG} {gt : TG} {fc : SB} {fe : SE}
theorem lc_frz {K : KW} {vs : List Nat} (ow : GOwn K g gt vs) {σ : St} {H : Hp} {Q : VK} (h : tD K (sLc fi g fc fe vs) σ H Q) : tLc (tDI K fi) gt (tDB K fc) (tD K fe) vs σ H Q := by
  obtain ⟨L, st, F, al, r, st', hL, hS, hf, q⟩ := h
  obtain ⟨⟨ds, s0⟩, h0, hf⟩ := Option.bind_eq_some_iff.mp hf
  obtain ⟨⟨ys, s1⟩, h1, hf⟩ := Option.bind_eq_some_iff.mp hf
  by_cases hz : ys.length ≤ sizeLine
  · rw [if_pos hz] at hf
    cases hf
    refine lc_of ow hL hS h0 h1 hz fun D xs H' F' al' gg e S hD hF hn hH rr => ?_
    obtain ⟨S2, e2⟩ := S.freeze hF hn hD
    exact q _ H' _ al' (gg.freeze (.inl hH)) (e.trans e2) S2 (Rep.lst_of upd_same (Reps.mono e2 ys xs rr))
  · rw [if_neg hz] at hf
    cases hf
theorem lc_cell {K : KW} {vs : List Nat} (ow : GOwn K g gt vs) {σ : St} {H : Hp} {Q : VK} (h : tD K (sLcC fi g fc fe vs) σ H Q) : tLc (tDI K fi) gt (tDB K fc) (tD K fe) vs σ H Q := by
  obtain ⟨L, st, F, al, r, st', hL, hS, hf, q⟩ := h
  obtain ⟨⟨ds, s0⟩, h0, hf⟩ := Option.bind_eq_some_iff.mp hf
  obtain ⟨⟨ys, s1⟩, h1, hf⟩ := Option.bind_eq_some_iff.mp hf
  by_cases hz : ys.length ≤ sizeLine
  · rw [if_pos hz] at hf
    cases hf
    refine lc_of ow hL hS h0 h1 hz fun D xs H' F' al' gg e S hD hF hn hH rr => ?_
    obtain ⟨S2, R2⟩ := S.cell_old (c := .lst ys) hD hn (.inr ⟨_, hD, hF, xs, rfl, rr⟩)
    refine q _ H' F' (al' ++ [D]) ⟨fun i a z => ?_, fun a ha => ?_, gg.keep, gg.fz⟩ e S2 R2
    · have z' := gg.pre i a z
      rw [List.getElem?_append_left (List.getElem?_eq_some_iff.mp z').1]
      exact z'
    · rcases List.mem_append.mp ha with ha | ha
      · exact gg.new a ha
      · simp at ha
        subst ha
        exact .inr hH
  · rw [if_neg hz] at hf
    cases hf
theorem de_lc (hc : X.calm = true) (hN : X.N.Nodup) (hi : PI X tg iter (tDI (kw X) fi)) (ok : BlkOk X.N X.env.scope scope own)
    (hg : ∀ (s : Shared) (H : Hp) (C : Addr) (cl : List (Str × Addr)) (fp : List Addr), PG (X.blk s H scope (compEnvC scope cl C X.env) fp) tg gt) (ow : GOwn (kw X) g gt (own.map (·.2))) (ht : ∀ (s : Shared) (H : Hp) (C : Addr) (cl : List (Str × Addr)) (fp : List Addr), PTs (X.blk s H scope (compEnvC scope cl C X.env) fp) ifs (tDB (kw X) fc))
    (he : ∀ (s : Shared) (H : Hp) (C : Addr) (cl : List (Str × Addr)) (fp : List Addr), PE (X.blk s H scope (compEnvC scope cl C X.env) fp) elt (tD (kw X) fe)) (hs : ∀ x, foldedSetIterable iter X.env x = pure x := by intro _; rfl) :
    PE X (.ListComp elt [⟨tg, iter, ifs, 0⟩] scope pos) (tD (kw X) (sLc fi g fc fe (own.map (·.2)))) := pe_imp (pe_lc hc hN hi ok hg ht he hs) fun _ _ _ q => lc_frz ow q
theorem de_lcC (hc : X.calm = true) (hN : X.N.Nodup) (hi : PI X tg iter (tDI (kw X) fi)) (ok : BlkOk X.N X.env.scope scope own)
    (hg : ∀ (s : Shared) (H : Hp) (C : Addr) (cl : List (Str × Addr)) (fp : List Addr), PG (X.blk s H scope (compEnvC scope cl C X.env) fp) tg gt) (ow : GOwn (kw X) g gt (own.map (·.2))) (ht : ∀ (s : Shared) (H : Hp) (C : Addr) (cl : List (Str × Addr)) (fp : List Addr), PTs (X.blk s H scope (compEnvC scope cl C X.env) fp) ifs (tDB (kw X) fc))
    (he : ∀ (s : Shared) (H : Hp) (C : Addr) (cl : List (Str × Addr)) (fp : List Addr), PE (X.blk s H scope (compEnvC scope cl C X.env) fp) elt (tD (kw X) fe)) (hs : ∀ x, foldedSetIterable iter X.env x = pure x := by intro _; rfl) :
    PE X (.ListComp elt [⟨tg, iter, ifs, 0⟩] scope pos) (tD (kw X) (sLcC fi g fc fe (own.map (·.2)))) := pe_imp (pe_lc hc hN hi ok hg ht he hs) fun _ _ _ q => lc_cell ow q
theorem set_lc {i : Nat} {f : SE} {wi : TI} {tt : TT} {te : TE} {vs : List Nat} (h : ∀ σ H Q, tD (kw X) f σ H Q → tLc wi gt tt te vs σ H Q) {E : Ends} {σ : St} {H : Hp} (q : tDS (kw X) (xSet i f) E σ H) : tAsg (tLc wi gt tt te vs) (gName i) E σ H := by
  obtain ⟨L, st, F, al, fl, L', st', hL, hS, hf, q⟩ := q
  obtain ⟨p, h1, h2⟩ := Option.map_eq_some_iff.mp hf
  cases h2
  exact h _ _ _ (tD_run hL hS h1 fun v H1 F1 al1 g1 e1 S1 R1 L1 => q _ H1 F1 al1 g1 e1 S1 (L1.set i R1))
theorem ds_setLc {i : Nat} {y : Str} {py spos : Pos} (hc : X.calm = true) (hN : X.N.Nodup) (hy : X.N[i]? = some y) (hyl : X.env.scope.names.lookup y = some .local)
    (hsw : swapsWith (.ListComp elt [⟨tg, iter, ifs, 0⟩] scope pos) (some (.Name y py)) spos.line X.env = pure true) (hi : PI X tg iter (tDI (kw X) fi)) (ok : BlkOk X.N X.env.scope scope own)
    (hg : ∀ (s : Shared) (H : Hp) (C : Addr) (cl : List (Str × Addr)) (fp : List Addr), PG (X.blk s H scope (compEnvC scope cl C X.env) fp) tg gt) (ow : GOwn (kw X) g gt (own.map (·.2))) (ht : ∀ (s : Shared) (H : Hp) (C : Addr) (cl : List (Str × Addr)) (fp : List Addr), PTs (X.blk s H scope (compEnvC scope cl C X.env) fp) ifs (tDB (kw X) fc))
    (he : ∀ (s : Shared) (H : Hp) (C : Addr) (cl : List (Str × Addr)) (fp : List Addr), PE (X.blk s H scope (compEnvC scope cl C X.env) fp) elt (tD (kw X) fe)) (hs : ∀ x, foldedSetIterable iter X.env x = pure x := by intro _; rfl) :
    PS X (.Assign [.Name y py] (.ListComp elt [⟨tg, iter, ifs, 0⟩] scope pos) spos) (tDS (kw X) (xSet i (sLc fi g fc fe (own.map (·.2))))) := ps_imp (ps_setLc hc hN hy hyl hsw hi ok hg ht he hs) fun _ _ _ q => set_lc (fun _ _ _ q => lc_frz ow q) q
theorem ds_setLcC {i : Nat} {y : Str} {py spos : Pos} (hc : X.calm = true) (hN : X.N.Nodup) (hy : X.N[i]? = some y) (hyl : X.env.scope.names.lookup y = some .local)
    (hsw : swapsWith (.ListComp elt [⟨tg, iter, ifs, 0⟩] scope pos) (some (.Name y py)) spos.line X.env = pure true) (hi : PI X tg iter (tDI (kw X) fi)) (ok : BlkOk X.N X.env.scope scope own)
    (hg : ∀ (s : Shared) (H : Hp) (C : Addr) (cl : List (Str × Addr)) (fp : List Addr), PG (X.blk s H scope (compEnvC scope cl C X.env) fp) tg gt) (ow : GOwn (kw X) g gt (own.map (·.2))) (ht : ∀ (s : Shared) (H : Hp) (C : Addr) (cl : List (Str × Addr)) (fp : List Addr), PTs (X.blk s H scope (compEnvC scope cl C X.env) fp) ifs (tDB (kw X) fc))
    (he : ∀ (s : Shared) (H : Hp) (C : Addr) (cl : List (Str × Addr)) (fp : List Addr), PE (X.blk s H scope (compEnvC scope cl C X.env) fp) elt (tD (kw X) fe)) (hs : ∀ x, foldedSetIterable iter X.env x = pure x := by intro _; rfl) :
    PS X (.Assign [.Name y py] (.ListComp elt [⟨tg, iter, ifs, 0⟩] scope pos) spos) (tDS (kw X) (xSet i (sLcC fi g fc fe (own.map (·.2))))) := ps_imp (ps_setLc hc hN hy hyl hsw hi ok hg ht he hs) fun _ _ _ q => set_lc (fun _ _ _ q => lc_cell ow q) q
end

/-! ### what is walked -/
/-- a frozen list, tuple, text -/
def walkD : D → Option (List D)
  | .lst ds => some ds
  | .tup ds => some ds
  | .str x => some (x.cps.toList.map fun c => .str ⟨#[c]⟩)
  | _ => none
def dOf (r : Lv) : Option D := match r with
  | .d x => some x
  | .c _ => none
def iLst (f : SE) : SI := fun L st => (f L st).bind fun p => match p.1 with
  | .d (.lst ds) => some (ds, p.2)
  | _ => none
def iTupD (f : SE) : SI := fun L st => (f L st).bind fun p => match p.1 with
  | .d (.tup ds) => some (ds, p.2)
  | _ => none
def iStrD (f : SE) : SI := fun L st => (f L st).bind fun p => match p.1 with
  | .d (.str x) => some (x.cps.toList.map fun c => .str ⟨#[c]⟩, p.2)
  | _ => none
def intsFrom (lo : Int) : Nat → List D
  | 0 => []
  | n + 1 => .int lo :: intsFrom (lo + 1) n
theorem intsFrom_length (lo : Int) : ∀ n, (intsFrom lo n).length = n
  | 0 => rfl
  | n + 1 => by rw [intsFrom, List.length_cons, intsFrom_length (lo + 1) n]
theorem intsFrom_get : ∀ (n : Nat) (lo : Int) (i : Nat) (d : D), (intsFrom lo n)[i]? = some d → d = .int (lo + i)
  | 0, _, _, _, h => by simp [intsFrom] at h
  | n + 1, lo, 0, d, h => by
    simp only [intsFrom, List.getElem?_cons_zero, Option.some.injEq] at h
    rw [← h]
    congr 1
    omega
  | n + 1, lo, i + 1, d, h => by
    simp only [intsFrom, List.getElem?_cons_succ] at h
    rw [intsFrom_get n (lo + 1) i d h]
    congr 1
    omega
def rgOk (i : Int) : Bool := decide (-(2 ^ 62) ≤ i ∧ i < 2 ^ 62)
def iRg1 (g : SA) : SI := fun L st => (g L st).bind fun p => match p.1 with
  | [.d (.int j)] => if rgOk j = true then some (intsFrom 0 j.toNat, p.2) else none
  | _ => none
def iRg2 (g : SA) : SI := fun L st => (g L st).bind fun p => match p.1 with
  | [.d (.int i), .d (.int j)] => if (rgOk i && rgOk j) = true then some (intsFrom i (j - i).toNat, p.2) else none
  | _ => none
def zipD : List D → List D → List D
  | x :: xs, y :: ys => .tup [x, y] :: zipD xs ys
  | _, _ => []
theorem zipD_length : ∀ xs ys : List D, (zipD xs ys).length = min xs.length ys.length
  | [], ys => by simp [zipD]
  | _ :: _, [] => by simp [zipD]
  | x :: xs, y :: ys => by
    rw [zipD, List.length_cons, zipD_length xs ys, List.length_cons, List.length_cons]
    omega
theorem zipD_get : ∀ {xs ys : List D} {i : Nat} {d : D}, (zipD xs ys)[i]? = some d → ∃ x y, xs[i]? = some x ∧ ys[i]? = some y ∧ d = .tup [x, y]
  | [], ys, i, d, h => by simp [zipD] at h
  | _ :: _, [], i, d, h => by simp [zipD] at h
  | x :: xs, y :: ys, 0, d, h => by
    simp only [zipD, List.getElem?_cons_zero, Option.some.injEq] at h
    exact ⟨x, y, rfl, rfl, h.symm⟩
  | x :: xs, y :: ys, i + 1, d, h => by
    simp only [zipD, List.getElem?_cons_succ] at h
    simpa using zipD_get h
def iZipD (g : SA) : SI := fun L st => (g L st).bind fun p => match p.1 with
  | [.d (.lst xs), .d (.lst ys)] => some (zipD xs ys, p.2)
  | [.d (.tup xs), .d (.tup ys)] => some (zipD xs ys, p.2)
  | _ => none
def enumD (k : Nat) : List D → List D
  | [] => []
  | x :: xs => .tup [.int k, x] :: enumD (k + 1) xs
theorem enumD_length : ∀ (xs : List D) (k : Nat), (enumD k xs).length = xs.length
  | [], _ => rfl
  | x :: xs, k => by rw [enumD, List.length_cons, List.length_cons, enumD_length xs (k + 1)]
theorem enumD_get : ∀ {xs : List D} {k i : Nat} {d : D}, (enumD k xs)[i]? = some d → ∃ x, xs[i]? = some x ∧ d = .tup [.int (k + i : Nat), x]
  | [], k, i, d, h => by simp [enumD] at h
  | x :: xs, k, 0, d, h => by
    simp only [enumD, List.getElem?_cons_zero, Option.some.injEq] at h
    exact ⟨x, rfl, h.symm⟩
  | x :: xs, k, i + 1, d, h => by
    simp only [enumD, List.getElem?_cons_succ] at h
    obtain ⟨y, h1, h2⟩ := enumD_get h
    refine ⟨y, by simpa using h1, ?_⟩
    rw [h2, show k + 1 + i = k + (i + 1) by omega]
def iEnumD (g : SA) : SI := fun L st => (g L st).bind fun p => match p.1 with
  | [.d (.lst xs)] => some (enumD 0 xs, p.2)
  | _ => none
/-- a new pair -/
theorem pair_new {K : KW} {F : Hp} {al : List Addr} {st : Sto} {H : Hp} (S : StR K F al st H) {T : Addr} (hT : H T = none) {x y : D} {v w : V} (hx : Rep K F x v) (hy : Rep K F y w) :
    ∃ F2, Go al H F al (upd H T (.tup [v, w])) F2 ∧ Same F F2 ∧ StR K F2 al st (upd H T (.tup [v, w])) ∧ Rep K F2 (.tup [x, y]) (.ref T) := by
  obtain ⟨S2, g2, e2⟩ := S.alloc hT (.tup [v, w])
  exact ⟨_, g2, e2, S2, Rep.tup_of (SqT.of upd_same) (Reps.cons (Rep.mono e2 _ _ hx) (Reps.cons (Rep.mono e2 _ _ hy) Reps.nil))⟩
section
variable {X : Cx} {tg e e2 : Expr} {f : SE} {g : SA} {p pos tpos : Pos} {elts : List Expr} {kk : Nat}
theorem di_lst (h : PE X e (tD (kw X) f)) : PI X tg e (tDI (kw X) (iLst f)) := pi_imp (pi_list h) fun σ H R q => by
  obtain ⟨L, st, F, al, ds, st', hL, hS, hf, q⟩ := q
  obtain ⟨⟨r, s1⟩, h1, hf⟩ := Option.bind_eq_some_iff.mp hf
  refine tD_run hL hS h1 fun v H1 F1 al1 g1 e1 S1 R1 L1 => ?_
  cases r with
  | c i => cases hf
  | d x =>
    cases x with
    | lst ds' =>
      cases hf
      have R1 : Rep (kw X) F1 (.lst ds) v := R1
      rw [Rep] at R1
      obtain ⟨a, xs, rfl, ha0, hr⟩ := R1
      have ha : SqL X.K F1 a xs := SqL.of ha0
      refine ⟨a, rfl, ⟨xs, S1.sub.seq ha⟩, q _ H1 F1 al1 g1 e1 S1 ⟨fun i H hi s => ?_, fun H s => ⟨xs, s.seq ha, by rw [hr.length]; exact Nat.le_refl _⟩, fun i d H x H' F2 al2 st2 hd s S2 y => ?_⟩⟩
      · exact ⟨xs, xs[i]'(by rw [hr.length]; exact hi), s.seq ha, List.getElem?_eq_getElem _⟩
      · obtain ⟨rfl, y⟩ := y
        obtain ⟨w, hw, rw'⟩ := hr.get hd
        have ex := y xs ((s.trans S2.sub).seq ha)
        rw [hw] at ex
        cases ex
        exact ⟨F2, Go.refl _ _ _, Same.refl _, S2, Rep.mono s _ _ rw'⟩
    | _ => cases hf
theorem di_tup (h : PE X e (tD (kw X) f)) : PI X tg e (tDI (kw X) (iTupD f)) := pi_imp (pi_tup h) fun σ H R q => by
  obtain ⟨L, st, F, al, ds, st', hL, hS, hf, q⟩ := q
  obtain ⟨⟨r, s1⟩, h1, hf⟩ := Option.bind_eq_some_iff.mp hf
  refine tD_run hL hS h1 fun v H1 F1 al1 g1 e1 S1 R1 L1 => ?_
  cases r with
  | c i => cases hf
  | d x =>
    cases x with
    | tup ds' =>
      cases hf
      have R1 : Rep (kw X) F1 (.tup ds) v := R1
      rw [Rep] at R1
      obtain ⟨a, xs, rfl, ha, hr⟩ := R1
      refine ⟨a, rfl, ⟨xs, same_sqT S1.sub ha⟩, q _ H1 F1 al1 g1 e1 S1 ⟨fun i H hi s => ?_, fun H s => ⟨xs, same_sqT s ha, by rw [hr.length]; exact Nat.le_refl _⟩, fun i d H x H' F2 al2 st2 hd s S2 y => ?_⟩⟩
      · exact ⟨xs, xs[i]'(by rw [hr.length]; exact hi), same_sqT s ha, List.getElem?_eq_getElem _⟩
      · obtain ⟨rfl, y⟩ := y
        obtain ⟨w, hw, rw'⟩ := hr.get hd
        have ex := y xs (same_sqT (s.trans S2.sub) ha)
        rw [hw] at ex
        cases ex
        exact ⟨F2, Go.refl _ _ _, Same.refl _, S2, Rep.mono s _ _ rw'⟩
    | _ => cases hf
theorem di_str (h : PE X e (tD (kw X) f)) : PI X tg e (tDI (kw X) (iStrD f)) := pi_imp (pi_str h) fun σ H R q => by
  obtain ⟨L, st, F, al, ds, st', hL, hS, hf, q⟩ := q
  obtain ⟨⟨r, s1⟩, h1, hf⟩ := Option.bind_eq_some_iff.mp hf
  refine tD_run hL hS h1 fun v H1 F1 al1 g1 e1 S1 R1 L1 => ?_
  cases r with
  | c i => cases hf
  | d x =>
    cases x with
    | str y =>
      cases hf
      have R1 : Rep (kw X) F1 (.str y) v := R1
      rw [Rep] at R1
      refine ⟨y, R1, q _ H1 F1 al1 g1 e1 S1 ⟨fun i H hi s => ?_, fun H s => ?_, fun i d H x H' F2 al2 st2 hd s S2 z => ?_⟩⟩
      · show i < y.cps.size
        simpa using hi
      · show y.cps.size ≤ _
        simp
      · obtain ⟨rfl, c, hc, rfl⟩ := z
        refine ⟨F2, Go.refl _ _ _, Same.refl _, S2, ?_⟩
        rw [List.getElem?_map, Array.getElem?_toList, hc] at hd
        cases hd
        show Rep (kw X) F2 (.str ⟨#[c]⟩) (.str ⟨#[c]⟩)
        rw [Rep]
    | _ => cases hf
theorem itr_ok {K : KW} {F : Hp} (lo : Int) (n : Nat) : ItD K F (Itr lo n) (intsFrom lo n) :=
  ⟨fun i H hi _ => by rw [intsFrom_length] at hi; exact hi, fun H _ => by rw [intsFrom_length]; exact Nat.le_refl _, fun i d H x H' F2 al2 st2 hd s S2 y => by
    obtain ⟨rfl, rfl⟩ := y
    rw [intsFrom_get _ _ _ _ hd]
    exact ⟨F2, Go.refl _ _ _, Same.refl _, S2, by rw [Rep]⟩⟩
theorem lvs1 {K : KW} {F : Hp} {al : List Addr} {x : D} {vs : List V} (h : LvsR K F al [.d x] vs) : ∃ v, vs = [v] ∧ Rep K F x v := by
  cases h with
  | cons h1 h2 =>
    cases h2
    exact ⟨_, rfl, h1⟩
theorem lvs2 {K : KW} {F : Hp} {al : List Addr} {x y : D} {vs : List V} (h : LvsR K F al [.d x, .d y] vs) : ∃ v w, vs = [v, w] ∧ Rep K F x v ∧ Rep K F y w := by
  cases h with
  | cons h1 h2 =>
    obtain ⟨w, rfl, h3⟩ := lvs1 h2
    exact ⟨_, _, rfl, h1, h3⟩
theorem rgOk_iff {i : Int} (h : rgOk i = true) : -(2 ^ 62) ≤ i ∧ i < 2 ^ 62 := of_decide_eq_true h
theorem di_rg1 (hg : Gl X "range") (hm : X.mg "range" = none) (ha : PA X [e] (tDA (kw X) g)) (hs : starEach [e] X.env = [(false, eval e X.env)] := by rfl) : PI X tg (.Call (.Name "range" p) [e] [] pos) (tDI (kw X) (iRg1 g)) := pi_imp (pi_range1 hg hm ha hs) fun σ H R q => by
  obtain ⟨L, st, F, al, ds, st', hL, hS, hf, q⟩ := q
  obtain ⟨⟨r, s1⟩, h1, hf⟩ := Option.bind_eq_some_iff.mp hf
  refine tDA_run hL hS h1 fun v H1 F1 al1 g1 e1 S1 R1 L1 => ?_
  simp only at hf
  split at hf
  · rename_i j
    split at hf
    · rename_i hj
      cases hf
      obtain ⟨w, rfl, hw⟩ := lvs1 R1
      rw [Rep] at hw
      obtain ⟨b1, b2⟩ := rgOk_iff hj
      exact ⟨j, by rw [hw], b1, b2, q _ H1 F1 al1 g1 e1 S1 (itr_ok 0 _)⟩
    · cases hf
  · cases hf
theorem di_rg2 (hg : Gl X "range") (hm : X.mg "range" = none) (ha : PA X [e, e2] (tDA (kw X) g)) (hs : starEach [e, e2] X.env = [(false, eval e X.env), (false, eval e2 X.env)] := by rfl) (hs2 : starEach [e2] X.env = [(false, eval e2 X.env)] := by rfl) : PI X tg (.Call (.Name "range" p) [e, e2] [] pos) (tDI (kw X) (iRg2 g)) := pi_imp (pi_range2 hg hm ha hs hs2) fun σ H R q => by
  obtain ⟨L, st, F, al, ds, st', hL, hS, hf, q⟩ := q
  obtain ⟨⟨r, s1⟩, h1, hf⟩ := Option.bind_eq_some_iff.mp hf
  refine tDA_run hL hS h1 fun v H1 F1 al1 g1 e1 S1 R1 L1 => ?_
  simp only at hf
  split at hf
  · rename_i i j
    split at hf
    · rename_i hj
      cases hf
      obtain ⟨w, w2, rfl, hw, hw2⟩ := lvs2 R1
      rw [Rep] at hw hw2
      obtain ⟨k1, k2⟩ := Bool.and_eq_true_iff.mp hj
      obtain ⟨b1, b2⟩ := rgOk_iff k1
      obtain ⟨b3, b4⟩ := rgOk_iff k2
      exact ⟨i, j, by rw [hw, hw2], ⟨b1, b2, b3, b4⟩, q _ H1 F1 al1 g1 e1 S1 (itr_ok i _)⟩
    · cases hf
  · cases hf
theorem di_zip (hg : Gl X "zip") (hm : X.mg "zip" = none) (ha : PA X [e, e2] (tDA (kw X) g)) (hs : starEach [e, e2] X.env = (false, eval e X.env) :: starEach [e2] X.env := by rfl) (hpl : (backTo pos (starEach [e2] X.env)).any (·.1) = false := by rfl) :
    PI X (.Tuple elts kk tpos) (.Call (.Name "zip" p) [e, e2] [] pos) (tDI (kw X) (iZipD g)) := pi_imp (RZ.pi_zipA hg hm ha hs hpl) fun σ H R q => by
  obtain ⟨L, st, F, al, ds, st', hL, hS, hf, q⟩ := q
  obtain ⟨⟨r, s1⟩, h1, hf⟩ := Option.bind_eq_some_iff.mp hf
  refine tDA_run hL hS h1 fun v H1 F1 al1 g1 e1 S1 R1 L1 => ?_
  simp only at hf
  split at hf
  · rename_i xs ys
    cases hf
    obtain ⟨w, w2, rfl, hw, hw2⟩ := lvs2 R1
    rw [Rep] at hw hw2
    obtain ⟨a, us, rfl, ha0, hr1⟩ := hw
    obtain ⟨b, ws, rfl, hb0, hr2⟩ := hw2
    have ha1 : SqL X.K F1 a us := SqL.of ha0
    have hb1 : SqL X.K F1 b ws := SqL.of hb0
    refine ⟨a, b, us, ws, rfl, .inl ⟨S1.sub.seq ha1, S1.sub.seq hb1, q _ H1 F1 al1 g1 e1 S1 ⟨fun i H hi s => ?_, fun H s => ?_, fun i d H x H' F2 al2 st2 hd s S2 y => ?_⟩⟩⟩
    · rw [zipD_length, ← hr1.length, ← hr2.length] at hi
      exact ⟨us, ws, us[i]'(by omega), ws[i]'(by omega), s.seq ha1, s.seq hb1, List.getElem?_eq_getElem _, List.getElem?_eq_getElem _⟩
    · refine ⟨us, ws, s.seq ha1, s.seq hb1, ?_⟩
      rw [zipD_length, ← hr1.length, ← hr2.length]
      omega
    · obtain ⟨T, u1, u2, rfl, hT, rfl, y1, y2⟩ := y
      obtain ⟨x1, x2, k1, k2, rfl⟩ := zipD_get hd
      obtain ⟨w1, hw1, rw1⟩ := hr1.get k1
      obtain ⟨w2, hw2, rw2⟩ := hr2.get k2
      have z1 := y1 us ((s.trans S2.sub).seq ha1)
      have z2 := y2 ws ((s.trans S2.sub).seq hb1)
      rw [hw1] at z1
      rw [hw2] at z2
      cases z1
      cases z2
      exact pair_new S2 hT (Rep.mono s _ _ rw1) (Rep.mono s _ _ rw2)
  · rename_i xs ys
    cases hf
    obtain ⟨w, w2, rfl, hw, hw2⟩ := lvs2 R1
    rw [Rep] at hw hw2
    obtain ⟨a, us, rfl, ha1, hr1⟩ := hw
    obtain ⟨b, ws, rfl, hb1, hr2⟩ := hw2
    refine ⟨a, b, us, ws, rfl, .inr ⟨same_sqT S1.sub ha1, same_sqT S1.sub hb1, q _ H1 F1 al1 g1 e1 S1 ⟨fun i H hi s => ?_, fun H s => ?_, fun i d H x H' F2 al2 st2 hd s S2 y => ?_⟩⟩⟩
    · rw [zipD_length, ← hr1.length, ← hr2.length] at hi
      exact ⟨us, ws, us[i]'(by omega), ws[i]'(by omega), same_sqT s ha1, same_sqT s hb1, List.getElem?_eq_getElem _, List.getElem?_eq_getElem _⟩
    · refine ⟨us, ws, same_sqT s ha1, same_sqT s hb1, ?_⟩
      rw [zipD_length, ← hr1.length, ← hr2.length]
      omega
    · obtain ⟨T, u1, u2, rfl, hT, rfl, y1, y2⟩ := y
      obtain ⟨x1, x2, k1, k2, rfl⟩ := zipD_get hd
      obtain ⟨w1, hw1, rw1⟩ := hr1.get k1
      obtain ⟨w2, hw2, rw2⟩ := hr2.get k2
      have z1 := y1 us (same_sqT (s.trans S2.sub) ha1)
      have z2 := y2 ws (same_sqT (s.trans S2.sub) hb1)
      rw [hw1] at z1
      rw [hw2] at z2
      cases z1
      cases z2
      exact pair_new S2 hT (Rep.mono s _ _ rw1) (Rep.mono s _ _ rw2)
  · cases hf
theorem di_enum (hg : Gl X "enumerate") (hm : X.mg "enumerate" = none) (ha : PA X [e] (tDA (kw X) g)) (hs : starEach [e] X.env = [(false, eval e X.env)] := by rfl) :
    PI X (.Tuple elts kk tpos) (.Call (.Name "enumerate" p) [e] [] pos) (tDI (kw X) (iEnumD g)) := pi_imp (pi_enum hg hm ha hs) fun σ H R q => by
  obtain ⟨L, st, F, al, ds, st', hL, hS, hf, q⟩ := q
  obtain ⟨⟨r, s1⟩, h1, hf⟩ := Option.bind_eq_some_iff.mp hf
  refine tDA_run hL hS h1 fun v H1 F1 al1 g1 e1 S1 R1 L1 => ?_
  simp only at hf
  split at hf
  · rename_i xs
    cases hf
    obtain ⟨w, rfl, hw⟩ := lvs1 R1
    rw [Rep] at hw
    obtain ⟨a, us, rfl, ha0, hr1⟩ := hw
    have ha1 : SqL X.K F1 a us := SqL.of ha0
    refine ⟨a, us, rfl, S1.sub.seq ha1, q _ H1 F1 al1 g1 e1 S1 ⟨fun i H hi s => ?_, fun H s => ?_, fun i d H x H' F2 al2 st2 hd s S2 y => ?_⟩⟩
    · rw [enumD_length, ← hr1.length] at hi
      exact ⟨us, us[i], s.seq ha1, List.getElem?_eq_getElem _⟩
    · exact ⟨us, s.seq ha1, by rw [enumD_length, ← hr1.length]; exact Nat.le_refl _⟩
    · obtain ⟨T, u1, rfl, hT, rfl, y1⟩ := y
      obtain ⟨x1, k1, rfl⟩ := enumD_get hd
      obtain ⟨w1, hw1, rw1⟩ := hr1.get k1
      have z1 := y1 us ((s.trans S2.sub).seq ha1)
      rw [hw1] at z1
      cases z1
      refine pair_new S2 hT ?_ (Rep.mono s _ _ rw1)
      rw [Rep, Nat.zero_add]
  · cases hf
end

/-! ### defs -/
abbrev SF := List Lv → Sto → Option (Lv × Sto)
/-- what a def hands back: its own cells are dropped, but for one that is handed back -/
def fin (n : Nat) (r : Lv) (st : Sto) : Option (Lv × Sto) := match r with
  | .d x => some (.d x, st.take n)
  | .c i => if i < n then some (.c i, st.take n) else (st[i]?).map fun c => (.c n, st.take n ++ [c])
def fnD (np nl : Nat) (body : SS) : SF := fun rs st => if rs.length = np then (body (rs.map some ++ List.replicate (nl - np) none) st).bind fun p => match p.1 with
    | .rt r => fin st.length r p.2.2
    | .nx => fin st.length (.d .non) p.2.2
    | _ => none
  else none
def spF (K : KW) (f : SF) : Sp := fun vs H Q _ => ∃ (rs : List Lv) (st : Sto) (F : Hp) (al : List Addr) (r : Lv) (st' : Sto), LvsR K F al rs vs ∧ StR K F al st H ∧ f rs st = some (r, st') ∧
  ∀ v H' F' al', Go al H F al' H' F' → Same F F' → StR K F' al' st' H' → LvR K F' al' r v → Q v H'
theorem LvsR.length {K : KW} {F : Hp} {al : List Addr} : ∀ {rs : List Lv} {vs : List V}, LvsR K F al rs vs → vs.length = rs.length
  | _, _, .nil => rfl
  | _, _, .cons _ t => by rw [List.length_cons, List.length_cons, LvsR.length t]
theorem LvsR.get {K : KW} {F : Hp} {al : List Addr} : ∀ {rs : List Lv} {vs : List V} {i : Nat} {r : Lv}, LvsR K F al rs vs → rs[i]? = some r → ∃ v, vs[i]? = some v ∧ LvR K F al r v
  | _, _, _, _, .nil, e => by simp at e
  | _, _, 0, _, .cons h _, e => by
    simp only [List.getElem?_cons_zero, Option.some.injEq] at e
    subst e
    exact ⟨_, rfl, h⟩
  | _, _, i + 1, _, .cons _ t, e => by simpa using LvsR.get t (by simpa using e)
theorem start_locR {K : KW} {F : Hp} {al : List Addr} {rs : List Lv} {vs : List V} {N : List Str} (h : LvsR K F al rs vs) {nl np : Nat} (hn : N.length = nl) (hp : rs.length = np) : LocR K F al (rs.map some ++ List.replicate (nl - np) none) (L2.start N vs) := by
  have hl := h.length
  refine ⟨by simp [L2.start, hn, hl, hp], fun i r hi => ?_⟩
  by_cases hlt : i < rs.length
  · rw [List.getElem?_append_left (by simpa using hlt), List.getElem?_map] at hi
    obtain ⟨r', h1, h2⟩ := Option.map_eq_some_iff.mp hi
    cases h2
    obtain ⟨v, h3, h4⟩ := h.get h1
    refine ⟨v, ?_, h4⟩
    rw [L2.start, List.getElem?_append_left (by rw [List.length_map, hl]; exact hlt), List.getElem?_map, h3]
    rfl
  · rw [List.getElem?_append_right (by simpa using hlt), List.getElem?_replicate] at hi
    split at hi <;> cases hi
theorem StR.cut {K : KW} {F : Hp} {al : List Addr} {st : Sto} {H : Hp} (S : StR K F al st H) (n : Nat) : StR K F (al.take n) (st.take n) H := by
  have sub : ∀ (i : Nat) (a : Addr), (al.take n)[i]? = some a → al[i]? = some a := fun i a h => by
    rw [List.getElem?_take] at h
    split at h
    · exact h
    · cases h
  refine ⟨S.sub, by rw [List.length_take, List.length_take, S.len], fun i c a h1 h2 => S.cell i c a ?_ (sub i a h2), fun i j a h1 h2 => S.inj i j a (sub i a h1) (sub j a h2), fun a ha => S.there a (List.mem_of_mem_take ha)⟩
  rw [List.getElem?_take] at h1
  split at h1
  · exact h1
  · cases h1
theorem fin_ok {K : KW} {F F1 : Hp} {al al1 : List Addr} {H H1 : Hp} {r r' : Lv} {st1 st' : Sto} {n : Nat} {v : V} (hn : n = al.length) (g : Go al H F al1 H1 F1) (S : StR K F1 al1 st1 H1) (R : LvR K F1 al1 r v) (h : fin n r st1 = some (r', st')) :
    ∃ al', Go al H F al' H1 F1 ∧ StR K F1 al' st' H1 ∧ LvR K F1 al' r' v := by
  have pre : ∀ (i : Nat) (a : Addr), al[i]? = some a → (al1.take n)[i]? = some a := fun i a h => by
    have hi := (List.getElem?_eq_some_iff.mp h).1
    rw [List.getElem?_take, if_pos (by omega)]
    exact g.pre i a h
  have gt : Go al H F (al1.take n) H1 F1 := ⟨pre, fun a ha => g.new a (List.mem_of_mem_take ha), g.keep, g.fz⟩
  cases r with
  | d x =>
    cases h
    exact ⟨al1.take n, gt, S.cut n, R⟩
  | c i =>
    obtain ⟨a, ha, rfl⟩ := R
    have h : (if i < n then some (Lv.c i, st1.take n) else (st1[i]?).map fun c => (Lv.c n, st1.take n ++ [c])) = some (r', st') := h
    by_cases hi : i < n
    · rw [if_pos hi] at h
      cases h
      exact ⟨al1.take n, gt, S.cut n, a, by rw [List.getElem?_take, if_pos hi]; exact ha, rfl⟩
    · rw [if_neg hi] at h
      obtain ⟨c, hc, h2⟩ := Option.map_eq_some_iff.mp h
      cases h2
      have hil := (List.getElem?_eq_some_iff.mp ha).1
      have hlen : (al1.take n).length = n := by rw [List.length_take]; omega
      have hna : a ∉ al1.take n := fun hm => by
        obtain ⟨j, hj⟩ := List.getElem?_of_mem hm
        have hjn := (List.getElem?_eq_some_iff.mp hj).1
        rw [hlen] at hjn
        rw [List.getElem?_take, if_pos hjn] at hj
        exact absurd (S.inj i j a ha hj) (by omega)
      have S0 := S.cut n
      obtain ⟨S2, R2⟩ := S0.cell_old (c := c) (o := (H1 a).getD (.lst [])) (by
        cases q : H1 a with
        | none => exact absurd q (S.there a (List.mem_of_getElem? ha))
        | some o => rfl) hna (S.cell i c a hc ha)
      have hl : (st1.take n).length = n := by rw [← S0.len]; exact hlen
      rw [hl] at R2
      refine ⟨al1.take n ++ [a], ⟨fun j b z => ?_, fun b hb => ?_, g.keep, g.fz⟩, S2, R2⟩
      · have z' := pre j b z
        rw [List.getElem?_append_left (List.getElem?_eq_some_iff.mp z').1]
        exact z'
      · rcases List.mem_append.mp hb with hb | hb
        · exact gt.new b hb
        · simp at hb
          subst hb
          exact g.new b (List.mem_of_getElem? ha)
section
variable {P : Program} {w : World} {K : PySem.W.Frag} {mg : Str → Option Value} {base : Heap}
theorem spF_len {K : KW} {f : SF} {n : Nat} (hl : ∀ rs st r, f rs st = some r → rs.length = n) : ∀ vs H Q E, spF K f vs H Q E → vs.length = n := fun vs H Q E h => by
  obtain ⟨rs, st, F, al, r, st', h1, h2, h3, _⟩ := h
  rw [h1.length]
  exact hl rs st _ h3
theorem fnD_len {np nl : Nat} {b : SS} : ∀ rs st r, fnD np nl b rs st = some r → rs.length = np := fun rs st r h => by
  unfold fnD at h
  split at h
  · assumption
  · cases h
/-- THE RULE for a def -/
theorem fn_ok {x qual : Str} {s : Stmt} {f : Addr} {fd : FuncData} {N ps : List Str} {k : Nat} {body : SS} (F : Fun K x qual s f fd) (S : FnScope N ps (defScope s))
    (hb : ∀ (cdv : Value) (A : Around) (outer : List Env) (s0 : Shared) (H : Hp) (E : XK), Room k (A.deeper (PyProof.Rows.envOfC qual (defScope s) s0.heap.objs.size f cdv)) →
      PSs (cxOf CX0 P w K mg base N qual (defScope s) f cdv A outer s0 H E).nox (defBody s) (tDS ⟨K, P, w⟩ body)) : FnOk P w K mg base CX0 (k + 1) f fd ps (spF ⟨K, P, w⟩ (fnD ps.length N.length body)) := by
  refine F.ok S (spF_len fnD_len) fun cdv A outer s0 H vs Q E hr h => ⟨_, hb cdv A outer s0 H E hr, ?_⟩
  obtain ⟨rs, st, F0, al, r, st', h1, h2, h3, q⟩ := h
  unfold fnD at h3
  split at h3
  · rename_i hn
    obtain ⟨⟨fl, L1, s1⟩, h4, h5⟩ := Option.bind_eq_some_iff.mp h3
    refine tDS_run (start_locR h1 rfl hn) h2 h4 fun σ1 H1 F1 al1 g1 e1 S1 L1' => ?_
    cases fl with
    | nx =>
      obtain ⟨al', g', S', R'⟩ := fin_ok (r := .d .non) (v := .non) h2.len.symm g1 S1 (show Rep ⟨K, P, w⟩ F1 .non .non by rw [Rep]) h5
      exact q .non H1 F1 al' g' e1 S' R'
    | rt r0 =>
      intro v R
      obtain ⟨al', g', S', R'⟩ := fin_ok h2.len.symm g1 S1 R h5
      exact q v H1 F1 al' g' e1 S' R'
    | bk => cases h5
    | ct => cases h5
  · cases h3
end

/-! ### calls -/
def sCall (f : SF) (g : SA) : SE := fun L st => (g L st).bind fun p => f p.1 p.2
section
variable {X : Cx} {e : Expr} {es : List Expr} {fd : FuncData} {f : Addr} {ps : List Str} {k : Nat} {sf : SF} {g : SA} {x : Str} {p pos : Pos}
theorem call_of {K : KW} {σ : St} {H : Hp} {Q : VK} (h : tD K (sCall sf g) σ H Q) : tCall (spF K sf) [] E0 (tDA K g) σ H Q := by
  obtain ⟨L, st, F, al, r, st', hL, hS, hf, q⟩ := h
  obtain ⟨⟨rs, s1⟩, h1, hf⟩ := Option.bind_eq_some_iff.mp hf
  refine tDA_run hL hS h1 fun vs H1 F1 al1 g1 e1 S1 R1 _ => ?_
  rw [List.append_nil]
  exact ⟨rs, s1, F1, al1, r, st', R1, S1, hf, fun v H' F' al' g e S R => q v H' F' al' (g1.trans g) (e1.trans e) S R⟩
theorem de_call (F : FnOk X.prog X.w X.K X.mg X.base CX0 k f fd ps (spF (kw X) sf)) (hr : Room k X.A) (hg : Gl X x) (hm : X.mg x = some (.ref f)) (hk : PySem.W.keepIn X.K (.ref f) = true) (hb : Binds X.K fd ps [])
    (ha : PA X (e :: es) (tDA (kw X) g)) (hdb : (x == ("__debug__" : Str)) = false := by decide) (hs : starEach (e :: es) X.env = (false, eval e X.env) :: starEach es X.env := by rfl) (hpl : (backTo pos (starEach es X.env)).any (·.1) = false := by rfl) :
    PE X (.Call (.Name x p) (e :: es) [] pos) (tD (kw X) (sCall sf g)) := pe_imp (pe_call F hr hg hm hk hb .nil pass0 ha hdb hs hpl) fun _ _ _ q => call_of q
theorem de_call0 (F : FnOk X.prog X.w X.K X.mg X.base CX0 k f fd ps (spF (kw X) sf)) (hr : Room k X.A) (hg : Gl X x) (hm : X.mg x = some (.ref f)) (hk : PySem.W.keepIn X.K (.ref f) = true) (hb : Binds X.K fd ps []) (hdb : (x == ("__debug__" : Str)) = false := by decide) :
    PE X (.Call (.Name x p) [] [] pos) (tD (kw X) (sCall sf aNil)) := pe_imp (pe_call0 F hr hg hm hk hb .nil pass0 hdb) fun σ H Q q => by
  have q := call_of q
  exact (show tCall (spF (kw X) sf) [] E0 tNil σ H Q from by
    obtain ⟨L, st, F, al, r, st', hL, hS, hf, q⟩ := q
    cases hf
    exact q [] H F al (Go.refl _ _ _) (Same.refl _) hS .nil)
end
end DL
/-! The D-layer, part 5: operations. -/
namespace DL
open PySem L2

/-! ### numbers, texts, sequences -/
def pAdd : D → D → Option D
  | .int i, .int j => some (.int (i + j))
  | .str a, .str b => if a.length + b.length ≤ sizeLine then some (.str (a ++ b)) else none
  | .tup a, .tup b => if a.length + b.length ≤ sizeLine then some (.tup (a ++ b)) else none
  | .lst a, .lst b => if a.length + b.length ≤ sizeLine then some (.lst (a ++ b)) else none
  | _, _ => none
def pInt (c : Int → Int → Bool) (f : Int → Int → Int) : D → D → Option D
  | .int i, .int j => if c i j = true then some (.int (f i j)) else none
  | _, _ => none
def mulOk (i j : Int) : Bool := decide (-(2 ^ 64) < i ∧ i < 2 ^ 64) || decide (-(2 ^ 64) < j ∧ j < 2 ^ 64) || decide (i.natAbs.log2 + j.natAbs.log2 < 1000000)
def pSub : D → D → Option D := pInt (fun _ _ => true) fun i j => i - j
def pMul : D → D → Option D := pInt mulOk fun i j => i * j
def pDiv : D → D → Option D := pInt (fun _ j => decide (0 < j ∧ j.natAbs.log2 < 9000)) fun i j => i / j
def pMod : D → D → Option D := pInt (fun _ j => decide (0 < j)) fun i j => i % j
def pPow : D → D → Option D := pInt (fun i j => decide (0 ≤ j ∧ (Builtin.Int.intBits i : Int) * j ≤ 2 ^ 27)) fun i j => i ^ j.toNat
def pShl : D → D → Option D := pInt (fun i j => decide (0 ≤ j ∧ j ≤ 1000000 ∧ i.natAbs < 2 ^ 64)) fun i j => i * 2 ^ j.toNat
def pShr : D → D → Option D := pInt (fun _ j => decide (0 ≤ j)) fun i j => i / 2 ^ j.toNat
def pAnd : D → D → Option D := pInt (fun _ _ => true) fun i j => Builtin.bitAnd i j
theorem rep_int {K : KW} {F : Hp} {i : Int} : Rep K F (.int i) (.int i) := by rw [Rep]
theorem rep_str {K : KW} {F : Hp} {i : Str} : Rep K F (.str i) (.str i) := by rw [Rep]
theorem rep_bool {K : KW} {F : Hp} {i : Bool} : Rep K F (.bl i) (.bl i) := by rw [Rep]
theorem rep_none {K : KW} {F : Hp} : Rep K F .non .non := by rw [Rep]
section
variable {X : Cx}
theorem opr_int {f : Value → Value → Sem Value} {c : Int → Int → Bool} {g : Int → Int → Int} {C : Int → Int → Prop} (h : OpR X f (rI C fun i j => .int (g i j))) (hc : ∀ i j, c i j = true → C i j) : OpR X f (rD2 (kw X) (kP2 (pInt c g))) := opr_pure fun pins s σ H v w a b Q I r1 r2 q => by
  obtain ⟨F, al, st, x, y, r, S, hx, hy, hp, q⟩ := q
  unfold pInt at hp
  split at hp
  · rename_i i j
    split at hp
    · rename_i hcc
      cases hp
      have hx : Rep (kw X) F (.int i) v := hx
      have hy : Rep (kw X) F (.int j) w := hy
      rw [Rep] at hx hy
      exact h pins s σ H v w a b Q I r1 r2 ⟨i, j, hx, hy, hc i j hcc, q _ H F (Go.refl _ _ _) (Same.refl _) S rep_int⟩
    · cases hp
  · cases hp
theorem opr_int0 {f : Value → Value → Sem Value} {g : Int → Int → Int} (h : OpR X f (rI0 fun i j => .int (g i j))) : OpR X f (rD2 (kw X) (kP2 (pInt (fun _ _ => true) g))) := opr_int (C := fun _ _ => True) (fun pins s σ H v w a b Q I r1 r2 ⟨i, j, e1, e2, _, q⟩ => h pins s σ H v w a b Q I r1 r2 ⟨i, j, e1, e2, q⟩) fun _ _ _ => trivial
theorem o_sub : OpR X (binaryOp .Sub) (rD2 (kw X) (kP2 pSub)) := opr_int0 op_sub
theorem mulOk_ok {i j : Int} (h : mulOk i j = true) : IntMulOk i j := by
  unfold mulOk at h
  simp only [Bool.or_eq_true, decide_eq_true_eq] at h
  rcases h with (h | h) | h
  · exact CMul.ok (.inl h)
  · exact CMul.ok (.inr h)
  · exact CMulW.ok h
theorem o_mul : OpR X (binaryOp .Mult) (rD2 (kw X) (kP2 pMul)) := opr_int (C := IntMulOk) (opI fun _ _ _ _ _ _ _ hc q => PyProof.Rows.mul_int q hc) fun _ _ h => mulOk_ok h
theorem o_div : OpR X (binaryOp .FloorDiv) (rD2 (kw X) (kP2 pDiv)) := opr_int op_fdivW fun i j h => (of_decide_eq_true h : 0 < j ∧ j.natAbs.log2 < 9000)
theorem o_mod : OpR X (binaryOp .Mod) (rD2 (kw X) (kP2 pMod)) := opr_int op_mod fun _ _ h => of_decide_eq_true h
theorem o_pow : OpR X (binaryOp .Pow) (rD2 (kw X) (kP2 pPow)) := opr_int (C := fun i j => 0 ≤ j ∧ (Builtin.Int.intBits i : Int) * j ≤ 2 ^ 27) (opI fun _ _ _ _ _ _ _ hc q => PyProof.Rows.pow_int hc.1 hc.2 q) fun _ _ h => of_decide_eq_true h
theorem o_shl : OpR X (binaryOp .LShift) (rD2 (kw X) (kP2 pShl)) := opr_int op_shl fun i j h => (of_decide_eq_true h : 0 ≤ j ∧ j ≤ 1000000 ∧ i.natAbs < 2 ^ 64)
theorem o_shr : OpR X (binaryOp .RShift) (rD2 (kw X) (kP2 pShr)) := opr_int op_shr fun _ _ h => of_decide_eq_true h
theorem o_and : OpR X (binaryOp .BitAnd) (rD2 (kw X) (kP2 pAnd)) := opr_int0 op_and
theorem o_add : OpR X (binaryOp .Add) (rD2 (kw X) (kP2 pAdd)) := opr_pure fun pins s σ H v w a b Q I r1 r2 q => by
  obtain ⟨F, al, st, x, y, r, S, hx, hy, hp, q⟩ := q
  unfold pAdd at hp
  split at hp
  · rename_i i j
    cases hp
    have hx : Rep (kw X) F (.int i) v := hx
    have hy : Rep (kw X) F (.int j) w := hy
    rw [Rep] at hx hy
    exact op_add pins s σ H v w a b Q I r1 r2 ⟨i, j, hx, hy, q _ H F (Go.refl _ _ _) (Same.refl _) S rep_int⟩
  · rename_i i j
    split at hp
    · rename_i hz
      cases hp
      have hx : Rep (kw X) F (.str i) v := hx
      have hy : Rep (kw X) F (.str j) w := hy
      rw [Rep] at hx hy
      exact op_add_str pins s σ H v w a b Q I r1 r2 ⟨i, j, hx, hy, hz, q _ H F (Go.refl _ _ _) (Same.refl _) S rep_str⟩
    · cases hp
  · rename_i i j
    split at hp
    · rename_i hz
      cases hp
      have hx : Rep (kw X) F (.tup i) v := hx
      have hy : Rep (kw X) F (.tup j) w := hy
      rw [Rep] at hx hy
      obtain ⟨p1, xs, rfl, h1, h2⟩ := hx
      obtain ⟨p2, ys, rfl, h3, h4⟩ := hy
      refine op_catA pins s σ H _ _ a b Q I r1 r2 ⟨p1, p2, xs, ys, rfl, rfl, same_sqT S.sub h1, same_sqT S.sub h3, by rw [h2.length, h4.length]; exact hz, fun e => ?_, fun _ e => ?_, fun _ _ p np => ?_⟩
      · have : i = [] := List.length_eq_zero_iff.mp (by rw [← h2.length, e]; rfl)
        rw [this, List.nil_append] at q
        exact q _ H F (Go.refl _ _ _) (Same.refl _) S (Rep.tup_of h3 h4)
      · have : j = [] := List.length_eq_zero_iff.mp (by rw [← h4.length, e]; rfl)
        rw [this, List.append_nil] at q
        exact q _ H F (Go.refl _ _ _) (Same.refl _) S (Rep.tup_of h1 h2)
      · obtain ⟨S2, g2, e2⟩ := S.alloc np (.tup (xs ++ ys))
        exact q _ _ _ g2 e2 S2 (Rep.tup_of (SqT.of upd_same) (Reps.mono e2 _ _ (h2.append h4)))
    · cases hp
  · rename_i i j
    split at hp
    · rename_i hz
      cases hp
      obtain ⟨p1, xs, rfl, h1, h2⟩ := hx
      obtain ⟨p2, ys, rfl, h3, h4⟩ := hy
      refine op_cat pins s σ H _ _ a b Q I r1 r2 ⟨p1, p2, xs, ys, rfl, rfl, h1, h3, by rw [h2.length, h4.length]; exact hz, fun p np => ?_⟩
      obtain ⟨S2, g2, e2⟩ := S.alloc np (.lst (xs ++ ys))
      exact q _ _ _ g2 e2 S2 (Rep.lst_of upd_same (Reps.mono e2 _ _ (h2.append h4)))
    · cases hp
  · cases hp
/-! one operand -/
def sUn (p : D → Option D) (f : SE) : SE := fun L st => (f L st).bind fun r => (lvD r.2 r.1).bind fun x => (p x).map fun y => (.d y, r.2)
def pNeg : D → Option D
  | .int i => some (.int (-i))
  | _ => none
theorem de_neg {a : Expr} {pos : Pos} {f : SE} (ha : PE X a (tD (kw X) f)) : PE X (.UnaryOp .USub a pos) (tD (kw X) (sUn pNeg f)) := pe_imp (pe_un un_neg ha) fun σ H Q q => by
  obtain ⟨L, st, F, al, r, st', hL, hS, hf, q⟩ := q
  obtain ⟨⟨r0, s0⟩, h1, hf⟩ := Option.bind_eq_some_iff.mp hf
  obtain ⟨x, h2, hf⟩ := Option.bind_eq_some_iff.mp hf
  obtain ⟨y, h3, hf⟩ := Option.map_eq_some_iff.mp hf
  cases hf
  refine tD_run hL hS h1 fun v H1 F1 al1 g1 e1 S1 R1 _ => ?_
  have T := R1.top S1 h2
  unfold pNeg at h3
  split at h3
  · rename_i i
    cases h3
    have T : Rep (kw X) F1 (.int i) v := T
    rw [Rep] at T
    exact ⟨i, T, q _ H1 F1 al1 g1 e1 S1 (show Rep (kw X) F1 (.int (-i)) _ from rep_int)⟩
  · cases h3
end

/-! ### data for ==, in, < -/
mutual
def toPy : D → Option PyData
  | .non => some .none
  | .bl b => some (.bool b)
  | .int i => some (.int i)
  | .str x => some (.str x)
  | .tup ds => (toPys ds).map .tuple
  | .lst ds => (toPys ds).map .list
  | .ro ds => (toPys ds).map .list
  | .dk _ => none
  | .dn _ => none
  | .obj _ _ => none
  | .fn _ => none
  | .ty _ => none
def toPys : List D → Option (List PyData)
  | [] => some []
  | d :: ds => (toPy d).bind fun x => (toPys ds).map fun r => x :: r
end
section
variable {K : KW} {F H : Hp}
mutual
theorem Rep.dp : ∀ {x : D} {v : V} {d : PyData}, Rep K F x v → toPy x = some d → Dp K.k F v d
  | .non, v, d, h, e => by rw [Rep] at h; rw [toPy] at e; cases e; subst h; exact .non
  | .bl b, v, d, h, e => by rw [Rep] at h; rw [toPy] at e; cases e; subst h; exact .bl b
  | .int b, v, d, h, e => by rw [Rep] at h; rw [toPy] at e; cases e; subst h; exact .int b
  | .str b, v, d, h, e => by rw [Rep] at h; rw [toPy] at e; cases e; subst h; exact .str b
  | .tup ds, v, d, h, e => by
    rw [Rep] at h
    rw [toPy] at e
    obtain ⟨ps, e1, e2⟩ := Option.map_eq_some_iff.mp e
    obtain ⟨a, xs, rfl, h2, h3⟩ := h
    subst e2
    exact .tup h2 (Reps.dp h3 e1)
  | .lst ds, v, d, h, e => by
    rw [Rep] at h
    rw [toPy] at e
    obtain ⟨ps, e1, e2⟩ := Option.map_eq_some_iff.mp e
    obtain ⟨a, xs, rfl, h2, h3⟩ := h
    subst e2
    exact .lst (SqL.of h2) (Reps.dp h3 e1)
  | .ro ds, v, d, h, e => by
    rw [Rep] at h
    rw [toPy] at e
    obtain ⟨ps, e1, e2⟩ := Option.map_eq_some_iff.mp e
    obtain ⟨a, xs, rfl, h2, h3⟩ := h
    subst e2
    exact .lst h2 (Reps.dp h3 e1)
  | .dk _, v, d, h, e => by rw [toPy] at e; cases e
  | .dn _, v, d, h, e => by rw [toPy] at e; cases e
  | .obj _ _, v, d, h, e => by rw [toPy] at e; cases e
  | .fn _, v, d, h, e => by rw [toPy] at e; cases e
  | .ty _, v, d, h, e => by rw [toPy] at e; cases e
theorem Reps.dp : ∀ {xs : List D} {vs : List V} {ds : List PyData}, Reps K F xs vs → toPys xs = some ds → DpAll K.k F vs ds
  | [], vs, ds, h, e => by rw [Reps] at h; rw [toPys] at e; cases e; subst h; exact .nil
  | x :: xs, vs, ds, h, e => by
    rw [Reps] at h
    rw [toPys] at e
    obtain ⟨v, r, rfl, h1, h2⟩ := h
    obtain ⟨p, e1, e2⟩ := Option.bind_eq_some_iff.mp e
    obtain ⟨ps, e3, e4⟩ := Option.map_eq_some_iff.mp e2
    subst e4
    exact .cons (Rep.dp h1 e1) (Reps.dp h2 e3)
end
theorem RepT.dp (s : Same F H) {x : D} {v : V} {d : PyData} (h : RepT K F H x v) (e : toPy x = some d) : Dp K.k H v d := by
  cases x with
  | lst ds =>
    obtain ⟨a, xs, rfl, h2, h3⟩ := h
    rw [toPy] at e
    obtain ⟨ps, e1, e2⟩ := Option.map_eq_some_iff.mp e
    subst e2
    exact .lst (SqL.of h2) (Reps.dp (Reps.mono s _ _ h3) e1)
  | dk _ => rw [toPy] at e; cases e
  | dn _ => rw [toPy] at e; cases e
  | non => exact Rep.dp (Rep.mono s .non _ h) e
  | bl b => exact Rep.dp (Rep.mono s (.bl b) _ h) e
  | int b => exact Rep.dp (Rep.mono s (.int b) _ h) e
  | str b => exact Rep.dp (Rep.mono s (.str b) _ h) e
  | tup b => exact Rep.dp (Rep.mono s (.tup b) _ h) e
  | ro b => exact Rep.dp (Rep.mono s (.ro b) _ h) e
  | obj _ _ => rw [toPy] at e; cases e
  | fn _ => rw [toPy] at e; cases e
  | ty _ => rw [toPy] at e; cases e
end
/-- data that may be compared: its texts are texts, it is not too deep -/
def pyOk (x : D) : Option PyData := (toPy x).bind fun d => if SeqAt.shaped d = true then some d else none
def pEq (n : Bool) : D → D → Option D := fun x y => (pyOk x).bind fun d => (pyOk y).map fun e => .bl (if n then !PyData.eqv d e else PyData.eqv d e)
/-- in a tuple or a list -/
def pIn (n : Bool) : D → D → Option D := fun x y => match y with
  | .tup ds => (pyOk x).bind fun d => (toPys ds).bind fun es => if PyData.canLayAll0 es = true then some (.bl (if n then !(es.any fun z => PyData.eqv z d) else es.any fun z => PyData.eqv z d)) else none
  | .lst ds => (pyOk x).bind fun d => (toPys ds).bind fun es => if PyData.canLayAll0 es = true then some (.bl (if n then !(es.any fun z => PyData.eqv z d) else es.any fun z => PyData.eqv z d)) else none
  | .str z => match x with
    | .str c => if c.length = 1 then some (.bl (if n then !decide (c.cps.getD 0 0 ∈ z.cps.toList) else decide (c.cps.getD 0 0 ∈ z.cps.toList))) else none
    | _ => none
  | _ => none
def pLt : D → D → Option D
  | .int i, .int j => some (.bl (decide (i < j)))
  | .str a, .str b => some (.bl (decide (a.cps.toList < b.cps.toList)))
  | .tup a, .tup b => (pyOk (.tup a)).bind fun d => (pyOk (.tup b)).bind fun e => if PySem.W.alike d e = true then some (.bl (PySem.W.dataLt d e)) else none
  | _, _ => none
def pCmp (f : Int → Int → Bool) : D → D → Option D
  | .int i, .int j => some (.bl (f i j))
  | _, _ => none
def pLe : D → D → Option D
  | .int i, .int j => some (.bl (decide (i ≤ j)))
  | .str a, .str b => some (.bl (!decide (b.cps.toList < a.cps.toList)))
  | _, _ => none
def pGt : D → D → Option D := pCmp fun i j => decide (j < i)
def pGe : D → D → Option D := pCmp fun i j => decide (j ≤ i)
def isNon : D → Bool
  | .non => true
  | _ => false
def pIs (n : Bool) : D → D → Option D
  | .bl a, .bl b => some (.bl (if n then !decide (a = b) else decide (a = b)))
  | x, .non => some (.bl (if n then !isNon x else isNon x))
  | _, _ => none
theorem pyOk_some {x : D} {d : PyData} (h : pyOk x = some d) : toPy x = some d ∧ SeqAt.shaped d = true := by
  obtain ⟨e, h1, h2⟩ := Option.bind_eq_some_iff.mp h
  split at h2
  · cases h2
    exact ⟨h1, by assumption⟩
  · cases h2
section
variable {X : Cx}
theorem o_eq (hu : X.A.units + 64 < cLine) : OpR X (compareOp .Eq) (rD2 (kw X) (kP2 (pEq false))) := opr_pure fun pins s σ H v w a b Q I r1 r2 q => by
  obtain ⟨F, al, st, x, y, r, S, hx, hy, hp, q⟩ := q
  obtain ⟨d, h1, hp⟩ := Option.bind_eq_some_iff.mp hp
  obtain ⟨e, h2, hp⟩ := Option.map_eq_some_iff.mp hp
  subst hp
  obtain ⟨h1, s1⟩ := pyOk_some h1
  obtain ⟨h2, s2⟩ := pyOk_some h2
  exact op_eqD hu pins s σ H v w a b Q I r1 r2 ⟨d, e, hx.dp S.sub h1, hy.dp S.sub h2, s1, s2, q _ H F (Go.refl _ _ _) (Same.refl _) S rep_bool⟩
theorem o_ne (hu : X.A.units + 64 < cLine) : OpR X (compareOp .NotEq) (rD2 (kw X) (kP2 (pEq true))) := opr_pure fun pins s σ H v w a b Q I r1 r2 q => by
  obtain ⟨F, al, st, x, y, r, S, hx, hy, hp, q⟩ := q
  obtain ⟨d, h1, hp⟩ := Option.bind_eq_some_iff.mp hp
  obtain ⟨e, h2, hp⟩ := Option.map_eq_some_iff.mp hp
  subst hp
  obtain ⟨h1, s1⟩ := pyOk_some h1
  obtain ⟨h2, s2⟩ := pyOk_some h2
  exact op_neD hu pins s σ H v w a b Q I r1 r2 ⟨d, e, hx.dp S.sub h1, hy.dp S.sub h2, s1, s2, q _ H F (Go.refl _ _ _) (Same.refl _) S rep_bool⟩
theorem opr_cmp {f : Value → Value → Sem Value} {g : Int → Int → Bool} (h : OpR X f (rI0 fun i j => .bl (g i j))) : OpR X f (rD2 (kw X) (kP2 (pCmp g))) := opr_pure fun pins s σ H v w a b Q I r1 r2 q => by
  obtain ⟨F, al, st, x, y, r, S, hx, hy, hp, q⟩ := q
  unfold pCmp at hp
  split at hp
  · rename_i i j
    cases hp
    have hx : Rep (kw X) F (.int i) v := hx
    have hy : Rep (kw X) F (.int j) w := hy
    rw [Rep] at hx hy
    exact h pins s σ H v w a b Q I r1 r2 ⟨i, j, hx, hy, q _ H F (Go.refl _ _ _) (Same.refl _) S rep_bool⟩
  · cases hp
theorem o_gt : OpR X (compareOp .Gt) (rD2 (kw X) (kP2 pGt)) := opr_cmp op_gt
theorem o_ge : OpR X (compareOp .GtE) (rD2 (kw X) (kP2 pGe)) := opr_cmp op_ge
theorem o_le : OpR X (compareOp .LtE) (rD2 (kw X) (kP2 pLe)) := opr_pure fun pins s σ H v w a b Q I r1 r2 q => by
  obtain ⟨F, al, st, x, y, r, S, hx, hy, hp, q⟩ := q
  unfold pLe at hp
  split at hp
  · rename_i i j
    cases hp
    have hx : Rep (kw X) F (.int i) v := hx
    have hy : Rep (kw X) F (.int j) w := hy
    rw [Rep] at hx hy
    exact op_le pins s σ H v w a b Q I r1 r2 ⟨i, j, hx, hy, q _ H F (Go.refl _ _ _) (Same.refl _) S rep_bool⟩
  · rename_i i j
    cases hp
    have hx : Rep (kw X) F (.str i) v := hx
    have hy : Rep (kw X) F (.str j) w := hy
    rw [Rep] at hx hy
    exact op_le_str pins s σ H v w a b Q I r1 r2 ⟨i, j, hx, hy, q _ H F (Go.refl _ _ _) (Same.refl _) S rep_bool⟩
  · cases hp
theorem o_lt (hu : X.A.units + 65 < cLine) : OpR X (compareOp .Lt) (rD2 (kw X) (kP2 pLt)) := opr_pure fun pins s σ H v w a b Q I r1 r2 q => by
  obtain ⟨F, al, st, x, y, r, S, hx, hy, hp, q⟩ := q
  unfold pLt at hp
  split at hp
  · rename_i i j
    cases hp
    have hx : Rep (kw X) F (.int i) v := hx
    have hy : Rep (kw X) F (.int j) w := hy
    rw [Rep] at hx hy
    exact op_lt pins s σ H v w a b Q I r1 r2 ⟨i, j, hx, hy, q _ H F (Go.refl _ _ _) (Same.refl _) S rep_bool⟩
  · rename_i i j
    cases hp
    have hx : Rep (kw X) F (.str i) v := hx
    have hy : Rep (kw X) F (.str j) w := hy
    rw [Rep] at hx hy
    exact op_lt_str pins s σ H v w a b Q I r1 r2 ⟨i, j, hx, hy, q _ H F (Go.refl _ _ _) (Same.refl _) S rep_bool⟩
  · rename_i i j
    obtain ⟨d, h1, hp⟩ := Option.bind_eq_some_iff.mp hp
    obtain ⟨e, h2, hp⟩ := Option.bind_eq_some_iff.mp hp
    split at hp
    · rename_i hal
      cases hp
      obtain ⟨h1, s1⟩ := pyOk_some h1
      obtain ⟨h2, s2⟩ := pyOk_some h2
      obtain ⟨as, q1⟩ := Dp.reads I d v a (hx.dp S.sub h1) r1
      obtain ⟨bs, q2⟩ := Dp.reads I e w b (hy.dp S.sub h2) r2
      have hnn : d ≠ .none := fun z => by
        rw [toPy] at h1
        obtain ⟨ps, _, e2⟩ := Option.map_eq_some_iff.mp h1
        rw [z] at e2
        cases e2
      have hdep : X.A.units + min d.depth e.depth < cLine := by
        have k1 := SeqAt.depth_of_shaped s1
        have k2 : min d.depth e.depth ≤ d.depth := Nat.min_le_left _ _
        omega
      exact (PySem.W.rcLt_alike d e _ s a b as bs q1 q2 hal hnn hdep _ _ _ _ ⟨.bl _, H, I, rfl, q _ H F (Go.refl _ _ _) (Same.refl _) S rep_bool⟩)
    · cases hp
  · cases hp
theorem isNon_of {K : KW} {F H : Hp} {x : D} {v : V} (h : RepT K F H x v) : decide (v = .non) = isNon x := by
  cases x with
  | non => have h : Rep K F .non v := h; rw [Rep] at h; subst h; rfl
  | bl b => have h : Rep K F (.bl b) v := h; rw [Rep] at h; subst h; rfl
  | int b => have h : Rep K F (.int b) v := h; rw [Rep] at h; subst h; rfl
  | str b => have h : Rep K F (.str b) v := h; rw [Rep] at h; subst h; rfl
  | tup b => have h : Rep K F (.tup b) v := h; rw [Rep] at h; obtain ⟨a, xs, rfl, _⟩ := h; rfl
  | lst b => obtain ⟨a, xs, rfl, _⟩ := h; rfl
  | ro b => have h : Rep K F (.ro b) v := h; rw [Rep] at h; obtain ⟨a, xs, rfl, _⟩ := h; rfl
  | dk b => obtain ⟨a, xs, rfl, _⟩ := h; rfl
  | dn b => obtain ⟨a, xs, rfl, _⟩ := h; rfl
  | obj b c => have h : Rep K F (.obj b c) v := h; rw [Rep] at h; obtain ⟨a, _, _, xs, rfl, _⟩ := h; rfl
  | fn b => have h : Rep K F (.fn b) v := h; rw [Rep] at h; obtain ⟨a, rfl, _⟩ := h; rfl
  | ty b => have h : Rep K F (.ty b) v := h; rw [Rep] at h; subst h; rfl
theorem o_is : OpR X (compareOp .Is) (rD2 (kw X) (kP2 (pIs false))) := opr_pure fun pins s σ H v w a b Q I r1 r2 q => by
  obtain ⟨F, al, st, x, y, r, S, hx, hy, hp, q⟩ := q
  unfold pIs at hp
  split at hp
  · rename_i i j
    cases hp
    have hx : Rep (kw X) F (.bl i) v := hx
    have hy : Rep (kw X) F (.bl j) w := hy
    rw [Rep] at hx hy
    exact op_is_bl pins s σ H v w a b Q I r1 r2 ⟨i, j, hx, hy, q _ H F (Go.refl _ _ _) (Same.refl _) S rep_bool⟩
  · cases hp
    have hy : Rep (kw X) F .non w := hy
    rw [Rep] at hy
    refine op_isN pins s σ H v w a b Q I r1 r2 ⟨hy, ?_⟩
    rw [isNon_of hx]
    exact q _ H F (Go.refl _ _ _) (Same.refl _) S rep_bool
  · cases hp
theorem o_isnot : OpR X (compareOp .IsNot) (rD2 (kw X) (kP2 (pIs true))) := opr_pure fun pins s σ H v w a b Q I r1 r2 q => by
  obtain ⟨F, al, st, x, y, r, S, hx, hy, hp, q⟩ := q
  unfold pIs at hp
  split at hp
  · rename_i i j
    cases hp
    have hx : Rep (kw X) F (.bl i) v := hx
    have hy : Rep (kw X) F (.bl j) w := hy
    rw [Rep] at hx hy
    exact op_isnot_bl pins s σ H v w a b Q I r1 r2 ⟨i, j, hx, hy, q _ H F (Go.refl _ _ _) (Same.refl _) S rep_bool⟩
  · cases hp
    have hy : Rep (kw X) F .non w := hy
    rw [Rep] at hy
    refine op_notN pins s σ H v w a b Q I r1 r2 ⟨hy, ?_⟩
    rw [isNon_of hx]
    exact q _ H F (Go.refl _ _ _) (Same.refl _) S rep_bool
  · cases hp
theorem canLay_all {ds : List PyData} (h : PyData.canLayAll0 ds = true) : PyData.canLay0 (.tuple ds) = true := by simpa [PyData.canLay0] using h
theorem in_room {A : Around} {d : PyData} {n : Nat} (s : SeqAt.shaped d = true) (hu : A.units + 65 < cLine) : A.units + 1 + min n d.depth < cLine := by
  have k1 := SeqAt.depth_of_shaped s
  have k2 : min n d.depth ≤ d.depth := Nat.min_le_right _ _
  omega
theorem len1_cps {c : Str} (h : c.length = 1) : c = ⟨#[c.cps.getD 0 0]⟩ := by
  obtain ⟨cps⟩ := c
  have h : cps.size = 1 := h
  congr 1
  refine Array.ext (by simpa using h) fun i h1 h2 => ?_
  have : i = 0 := by omega
  subst this
  simp [Array.getD, h]
theorem o_in (hu : X.A.units + 65 < cLine) : OpR X (compareOp .In) (rD2 (kw X) (kP2 (pIn false))) := opr_pure fun pins s σ H v w a b Q I r1 r2 q => by
  obtain ⟨F, al, st, x, y, r, S, hx, hy, hp, q⟩ := q
  unfold pIn at hp
  split at hp
  · rename_i ds
    obtain ⟨d, h1, hp⟩ := Option.bind_eq_some_iff.mp hp
    obtain ⟨es, h2, hp⟩ := Option.bind_eq_some_iff.mp hp
    split at hp
    · rename_i hl
      cases hp
      obtain ⟨h1, s1⟩ := pyOk_some h1
      have hy : Rep (kw X) F (.tup ds) w := hy
      have hd : Dp X.K H w (.tuple es) := Rep.dp (Rep.mono S.sub _ _ hy) (by rw [toPy, h2]; rfl)
      obtain ⟨as, q1⟩ := Dp.reads I d v a (hx.dp S.sub h1) r1
      obtain ⟨bs, q2⟩ := Dp.reads I (.tuple es) w b hd r2
      exact SeqAt.in_tuple_reads q2 q1 hl (SeqAt.canLay_of_shaped s1) (in_room s1 hu) ⟨.bl _, H, I, rfl, q _ H F (Go.refl _ _ _) (Same.refl _) S rep_bool⟩
    · cases hp
  · rename_i ds
    obtain ⟨d, h1, hp⟩ := Option.bind_eq_some_iff.mp hp
    obtain ⟨es, h2, hp⟩ := Option.bind_eq_some_iff.mp hp
    split at hp
    · rename_i hl
      cases hp
      obtain ⟨h1, s1⟩ := pyOk_some h1
      have hd : Dp X.K H w (.list es) := hy.dp S.sub (by rw [toPy, h2]; rfl)
      obtain ⟨as, q1⟩ := Dp.reads I d v a (hx.dp S.sub h1) r1
      obtain ⟨bs, q2⟩ := Dp.reads I (.list es) w b hd r2
      exact SeqAt.in_list_reads q2 q1 hl (SeqAt.canLay_of_shaped s1) (in_room s1 hu) ⟨.bl _, H, I, rfl, q _ H F (Go.refl _ _ _) (Same.refl _) S rep_bool⟩
    · cases hp
  · rename_i z
    split at hp
    · rename_i c
      split at hp
      · rename_i hc
        cases hp
        have hx : Rep (kw X) F (.str c) v := hx
        have hy : Rep (kw X) F (.str z) w := hy
        rw [Rep] at hx hy
        refine op_in_sign pins s σ H v w a b Q I r1 r2 ⟨c.cps.getD 0 0, z, ?_, hy, q _ H F (Go.refl _ _ _) (Same.refl _) S rep_bool⟩
        rw [← len1_cps hc]
        exact hx
      · cases hp
    · cases hp
  · cases hp
theorem o_notin (hu : X.A.units + 65 < cLine) : OpR X (compareOp .NotIn) (rD2 (kw X) (kP2 (pIn true))) := opr_pure fun pins s σ H v w a b Q I r1 r2 q => by
  obtain ⟨F, al, st, x, y, r, S, hx, hy, hp, q⟩ := q
  unfold pIn at hp
  split at hp
  · rename_i ds
    obtain ⟨d, h1, hp⟩ := Option.bind_eq_some_iff.mp hp
    obtain ⟨es, h2, hp⟩ := Option.bind_eq_some_iff.mp hp
    split at hp
    · rename_i hl
      cases hp
      obtain ⟨h1, s1⟩ := pyOk_some h1
      have hy : Rep (kw X) F (.tup ds) w := hy
      have hd : Dp X.K H w (.tuple es) := Rep.dp (Rep.mono S.sub _ _ hy) (by rw [toPy, h2]; rfl)
      obtain ⟨as, q1⟩ := Dp.reads I d v a (hx.dp S.sub h1) r1
      obtain ⟨bs, q2⟩ := Dp.reads I (.tuple es) w b hd r2
      exact SeqAt.notIn_tuple_reads q2 q1 hl (SeqAt.canLay_of_shaped s1) (in_room s1 hu) ⟨.bl _, H, I, rfl, q _ H F (Go.refl _ _ _) (Same.refl _) S rep_bool⟩
    · cases hp
  · rename_i ds
    obtain ⟨d, h1, hp⟩ := Option.bind_eq_some_iff.mp hp
    obtain ⟨es, h2, hp⟩ := Option.bind_eq_some_iff.mp hp
    split at hp
    · rename_i hl
      cases hp
      obtain ⟨h1, s1⟩ := pyOk_some h1
      have hd : Dp X.K H w (.list es) := hy.dp S.sub (by rw [toPy, h2]; rfl)
      obtain ⟨as, q1⟩ := Dp.reads I d v a (hx.dp S.sub h1) r1
      obtain ⟨bs, q2⟩ := Dp.reads I (.list es) w b hd r2
      exact SeqAt.notIn_list_reads q2 q1 hl (SeqAt.canLay_of_shaped s1) (in_room s1 hu) ⟨.bl _, H, I, rfl, q _ H F (Go.refl _ _ _) (Same.refl _) S rep_bool⟩
    · cases hp
  · rename_i z
    split at hp
    · rename_i c
      split at hp
      · rename_i hc
        cases hp
        have hx : Rep (kw X) F (.str c) v := hx
        have hy : Rep (kw X) F (.str z) w := hy
        rw [Rep] at hx hy
        refine op_notIn_sign pins s σ H v w a b Q I r1 r2 ⟨c.cps.getD 0 0, z, ?_, hy, q _ H F (Go.refl _ _ _) (Same.refl _) S rep_bool⟩
        rw [← len1_cps hc]
        exact hx
      · cases hp
    · cases hp
  · cases hp
end

/-! ### items, slices -/
def pIx : D → D → Option D
  | .tup ds, .int i => atI ds i
  | .lst ds, .int i => atI ds i
  | .ro ds, .int i => atI ds i
  | .str z, .int i => if z.length ≤ sizeLine then (atI z.cps.toList i).map fun c => .str ⟨#[c]⟩ else none
  | _, _ => none
theorem atI_reps {K : KW} {F : Hp} {ds : List D} {vs : List V} {i : Int} {d : D} (h : Reps K F ds vs) (e : atI ds i = some d) : ∃ v, atI vs i = some v ∧ Rep K F d v := by
  unfold atI at e ⊢
  obtain ⟨j, h1, h2⟩ := Option.bind_eq_some_iff.mp e
  obtain ⟨v, h3, h4⟩ := h.get h2
  exact ⟨v, by rw [h.length, h1]; exact h3, h4⟩
section
variable {X : Cx}
theorem ixr_pure {p : D → D → Option D} (h : IxR X (rP2 (kw X) p)) : IxR X (rD2 (kw X) (kP2 p)) := fun e1 e2 pins s σ H x y v u Q I r1 r2 q => h e1 e2 pins s σ H x y v u Q I r1 r2 (kP2_of q)
theorem o_ix : IxR X (rD2 (kw X) (kP2 pIx)) := ixr_pure fun e1 e2 pins s σ H v w a b Q I r1 r2 q => by
  obtain ⟨F, al, st, x, y, r, S, hx, hy, hp, q⟩ := q
  cases y with
  | int i =>
    have hy : Rep (kw X) F (.int i) w := hy
    rw [Rep] at hy
    cases x with
    | tup ds =>
      have hp : atI ds i = some r := hp
      have hx : Rep (kw X) F (.tup ds) v := hx
      rw [Rep] at hx
      obtain ⟨p, xs, rfl, h1, h2⟩ := hx
      obtain ⟨u, h3, h4⟩ := atI_reps h2 hp
      exact ix_tup e1 e2 pins s σ H _ w a b Q I r1 r2 ⟨p, xs, i, u, rfl, hy, same_sqT S.sub h1, h3, q _ H F (Go.refl _ _ _) (Same.refl _) S h4⟩
    | lst ds =>
      have hp : atI ds i = some r := hp
      obtain ⟨p, xs, rfl, h1, h2⟩ := hx
      obtain ⟨u, h3, h4⟩ := atI_reps h2 hp
      exact ix_list e1 e2 pins s σ H _ w a b Q I r1 r2 ⟨p, xs, i, u, rfl, hy, SqL.of h1, h3, q _ H F (Go.refl _ _ _) (Same.refl _) S h4⟩
    | ro ds =>
      have hp : atI ds i = some r := hp
      have hx : Rep (kw X) F (.ro ds) v := hx
      rw [Rep] at hx
      obtain ⟨p, xs, rfl, h1, h2⟩ := hx
      obtain ⟨u, h3, h4⟩ := atI_reps h2 hp
      exact ix_list e1 e2 pins s σ H _ w a b Q I r1 r2 ⟨p, xs, i, u, rfl, hy, S.sub.seq h1, h3, q _ H F (Go.refl _ _ _) (Same.refl _) S h4⟩
    | str z =>
      have hp : (if z.length ≤ sizeLine then (atI z.cps.toList i).map fun c => D.str ⟨#[c]⟩ else none) = some r := hp
      by_cases hz : z.length ≤ sizeLine
      · rw [if_pos hz] at hp
        obtain ⟨c, h1, h2⟩ := Option.map_eq_some_iff.mp hp
        subst h2
        have hx : Rep (kw X) F (.str z) v := hx
        rw [Rep] at hx
        exact ix_str e1 e2 pins s σ H v w a b Q I r1 r2 ⟨z, i, c, hx, hy, hz, h1, q _ H F (Go.refl _ _ _) (Same.refl _) S rep_str⟩
      · rw [if_neg hz] at hp
        cases hp
    | _ => cases hp
  | _ => cases x <;> cases hp
end
def cutD (ds : List D) (lo hi : Option Int) : List D := (ds.drop (HT.sIx ds.length 0 lo)).take (HT.sIx ds.length ds.length hi - HT.sIx ds.length 0 lo)
abbrev SO := Loc → Sto → Option (Option Int × Sto)
def oNone : SO := fun _ st => some (none, st)
def oSome (f : SE) : SO := fun L st => (f L st).bind fun p => match p.1 with
  | .d (.int i) => some (some i, p.2)
  | _ => none
def pSl : D → Option Int → Option Int → Option D
  | .tup ds, lo, hi => some (.tup (cutD ds lo hi))
  | .lst ds, lo, hi => some (.lst (cutD ds lo hi))
  | .ro ds, lo, hi => some (.lst (cutD ds lo hi))
  | .str z, lo, hi => if z.length ≤ sizeLine then some (.str (cutS z lo hi)) else none
  | _, _, _ => none
def sSl (f : SE) (lo hi : SO) : SE := fun L st => (f L st).bind fun p => (lo L p.2).bind fun a => (hi L a.2).bind fun b => (lvD b.2 p.1).bind fun x => (pSl x a.1 b.1).map fun r => (.d r, b.2)
def tDO (K : KW) (f : SO) : TO := fun σ H Q => ∃ (L : Loc) (st : Sto) (F : Hp) (al : List Addr) (r : Option Int) (st' : Sto), LocR K F al L σ ∧ StR K F al st H ∧ f L st = some (r, st') ∧
  ∀ H' F' al', Go al H F al' H' F' → Same F F' → StR K F' al' st' H' → Q r H'
theorem cutD_reps {K : KW} {F : Hp} {ds : List D} {vs : List V} (h : Reps K F ds vs) (lo hi : Option Int) : Reps K F (cutD ds lo hi) (cutV vs lo hi) := by
  unfold cutD cutV
  rw [h.length]
  exact (h.drop _).take _
theorem po_imp {X : Cx} {e : Option Expr} {t t' : TO} (h : PO X e t) (i : ∀ σ H Q, t' σ H Q → t σ H Q) : PO X e t' := ⟨fun pins s σ H Q I q => h.run pins s σ H Q I (i σ H Q q)⟩
section
variable {X : Cx} {e : Expr} {lo hi : Option Expr} {f : SE} {fl fh : SO} {p2 pos : Pos}
theorem do_none : PO X none (tDO (kw X) oNone) := po_imp po_none fun σ H Q q => by
  obtain ⟨L, st, F, al, r, st', hL, hS, hf, q⟩ := q
  cases hf
  exact q H F al (Go.refl _ _ _) (Same.refl _) hS
theorem do_some (h : PE X e (tD (kw X) f)) : PO X (some e) (tDO (kw X) (oSome f)) := po_imp (po_some h) fun σ H Q q => by
  obtain ⟨L, st, F, al, r, st', hL, hS, hf, q⟩ := q
  obtain ⟨⟨r0, s0⟩, h1, hf⟩ := Option.bind_eq_some_iff.mp hf
  refine tD_run hL hS h1 fun v H1 F1 al1 g1 e1 S1 R1 _ => ?_
  simp only at hf
  split at hf
  · rename_i i
    cases hf
    have R1 : Rep (kw X) F1 (.int i) v := R1
    rw [Rep] at R1
    exact ⟨i, R1, q H1 F1 al1 g1 e1 S1⟩
  · cases hf
theorem tDO_run {K : KW} {σ : St} {H F : Hp} {L : Loc} {st : Sto} {al : List Addr} {fa : SO} (hL : LocR K F al L σ) (hS : StR K F al st H) {x : Option Int} {s1 : Sto} (ha : fa L st = some (x, s1)) {Q : Option Int → Hp → Prop}
    (k : ∀ H1 F1 al1, Go al H F al1 H1 F1 → Same F F1 → StR K F1 al1 s1 H1 → LocR K F1 al1 L σ → Q x H1) : tDO K fa σ H Q :=
  ⟨L, st, F, al, x, s1, hL, hS, ha, fun H1 F1 al1 g e S => k H1 F1 al1 g e S (hL.mono e g)⟩
/-- the slices by values -/
def rSlD (K : KW) : V → Option Int → Option Int → Hp → VK → Prop := fun v lo hi H Q => ∃ (F : Hp) (al : List Addr) (st : Sto) (x r : D), StR K F al st H ∧ RepT K F H x v ∧ pSl x lo hi = some r ∧
  ∀ u H' F', Go al H F al H' F' → Same F F' → StR K F' al st H' → Rep K F' r u → Q u H'
theorem o_sl : SlR X (rSlD (kw X)) := by
  intro pins s σ H x v vl vu lo hi sl Q I rx hs pl pu h
  obtain ⟨F, al, st, d, r, S, hx, hp, q⟩ := h
  cases d with
  | tup ds =>
    cases hp
    have hx : Rep (kw X) F (.tup ds) x := hx
    rw [Rep] at hx
    obtain ⟨a, xs, rfl, h1, h2⟩ := hx
    refine sl_tupA pins s σ H _ v vl vu lo hi sl Q I rx hs pl pu ⟨a, xs, rfl, same_sqT S.sub h1, fun e => ?_, fun _ p np => ?_⟩
    · refine q _ H F (Go.refl _ _ _) (Same.refl _) S (Rep.tup_of h1 ?_)
      have : cutD ds lo hi = ds := by
        unfold cutD
        rw [← h2.length, e.1, e.2, List.drop_zero, Nat.sub_zero, h2.length, List.take_length]
      rw [this]
      exact h2
    · obtain ⟨S2, g2, e2⟩ := S.alloc np (.tup (cutV xs lo hi))
      exact q _ _ _ g2 e2 S2 (Rep.tup_of (SqT.of upd_same) (Reps.mono e2 _ _ (cutD_reps h2 lo hi)))
  | lst ds =>
    cases hp
    obtain ⟨a, xs, rfl, h1, h2⟩ := hx
    refine sl_list pins s σ H _ v vl vu lo hi sl Q I rx hs pl pu ⟨a, xs, rfl, SqL.of h1, fun p np => ?_⟩
    obtain ⟨S2, g2, e2⟩ := S.alloc np (.lst (cutV xs lo hi))
    exact q _ _ _ g2 e2 S2 (Rep.lst_of upd_same (Reps.mono e2 _ _ (cutD_reps h2 lo hi)))
  | ro ds =>
    cases hp
    have hx : Rep (kw X) F (.ro ds) x := hx
    rw [Rep] at hx
    obtain ⟨a, xs, rfl, h1, h2⟩ := hx
    refine sl_list pins s σ H _ v vl vu lo hi sl Q I rx hs pl pu ⟨a, xs, rfl, S.sub.seq h1, fun p np => ?_⟩
    obtain ⟨S2, g2, e2⟩ := S.alloc np (.lst (cutV xs lo hi))
    exact q _ _ _ g2 e2 S2 (Rep.lst_of upd_same (Reps.mono e2 _ _ (cutD_reps h2 lo hi)))
  | str z =>
    have hp : (if z.length ≤ sizeLine then some (D.str (cutS z lo hi)) else none) = some r := hp
    by_cases hz : z.length ≤ sizeLine
    · rw [if_pos hz] at hp
      cases hp
      have hx : Rep (kw X) F (.str z) x := hx
      rw [Rep] at hx
      exact sl_str pins s σ H x v vl vu lo hi sl Q I rx hs pl pu ⟨z, hx, hz, q _ H F (Go.refl _ _ _) (Same.refl _) S rep_str⟩
    · rw [if_neg hz] at hp
      cases hp
  | _ => cases hp
theorem de_slice (he : PE X e (tD (kw X) f)) (hl : PO X lo (tDO (kw X) fl)) (hh : PO X hi (tDO (kw X) fh)) : PE X (.Subscript e (.Slice lo hi none p2) pos) (tD (kw X) (sSl f fl fh)) := pe_imp (pe_slice o_sl he hl hh) fun σ H Q q => by
  obtain ⟨L, st, F, al, r, st', hL, hS, hf, q⟩ := q
  obtain ⟨⟨r0, s0⟩, h1, hf⟩ := Option.bind_eq_some_iff.mp hf
  obtain ⟨⟨a, s1⟩, h2, hf⟩ := Option.bind_eq_some_iff.mp hf
  obtain ⟨⟨b, s2⟩, h3, hf⟩ := Option.bind_eq_some_iff.mp hf
  obtain ⟨x, h4, hf⟩ := Option.bind_eq_some_iff.mp hf
  obtain ⟨y, h5, hf⟩ := Option.map_eq_some_iff.mp hf
  cases hf
  exact tD_run hL hS h1 fun v H1 F1 al1 g1 e1 S1 R1 L1 => tDO_run L1 S1 h2 fun H2 F2 al2 g2 e2 S2 L2 => tDO_run L2 S2 h3 fun H3 F3 al3 g3 e3 S3 L3 =>
    ⟨F3, al3, s2, x, y, S3, ((R1.mono (kw X) e2 g2).mono (kw X) e3 g3).top S3 h4, h5, fun u H' F' g e S R => q u H' F' al3 (((g1.trans g2).trans g3).trans g) (((e1.trans e2).trans e3).trans e) S R⟩
end
end DL
/-! The D-layer, part 6: calls of built-in functions and types, methods. -/
namespace DL
open PySem L2

/-! ### calls by values -/
def rDC (K : KW) (k : SF) : List V → Hp → VK → Prop := fun vs H Q => ∃ (rs : List Lv) (st : Sto) (F : Hp) (al : List Addr) (r : Lv) (st' : Sto), LvsR K F al rs vs ∧ StR K F al st H ∧ k rs st = some (r, st') ∧
  ∀ v H' F' al', Go al H F al' H' F' → Same F F' → StR K F' al' st' H' → LvR K F' al' r v → Q v H'
def tops (st : Sto) : List Lv → Option (List D)
  | [] => some []
  | r :: rs => (lvD st r).bind fun x => (tops st rs).map fun xs => x :: xs
inductive RepTs (K : KW) (F H : Hp) : List D → List V → Prop
  | nil : RepTs K F H [] []
  | cons {d : D} {ds : List D} {v : V} {vs : List V} : RepT K F H d v → RepTs K F H ds vs → RepTs K F H (d :: ds) (v :: vs)
def kPs (p : List D → Option D) : SF := fun rs st => (tops st rs).bind fun ds => (p ds).map fun r => (.d r, st)
def rPs (K : KW) (p : List D → Option D) : List V → Hp → VK → Prop := fun vs H Q => ∃ (F : Hp) (al : List Addr) (st : Sto) (ds : List D) (r : D), StR K F al st H ∧ RepTs K F H ds vs ∧ p ds = some r ∧
  ∀ u H' F', Go al H F al H' F' → Same F F' → StR K F' al st H' → Rep K F' r u → Q u H'
theorem LvsR.tops {K : KW} {F H : Hp} {al : List Addr} {st : Sto} (S : StR K F al st H) : ∀ {rs : List Lv} {vs : List V} {ds : List D}, LvsR K F al rs vs → tops st rs = some ds → RepTs K F H ds vs
  | [], _, _, h, e => by
    cases h
    cases e
    exact .nil
  | r :: rs, _, ds, h, e => by
    cases h with
    | cons h1 h2 =>
      obtain ⟨x, e1, e2⟩ := Option.bind_eq_some_iff.mp e
      obtain ⟨xs, e3, e4⟩ := Option.map_eq_some_iff.mp e2
      subst e4
      exact .cons (h1.top S e1) (LvsR.tops S h2 e3)
theorem kPs_of {K : KW} {p : List D → Option D} {vs : List V} {H : Hp} {Q : VK} (q : rDC K (kPs p) vs H Q) : rPs K p vs H Q := by
  obtain ⟨rs, st, F, al, r, st', h1, S, h3, q⟩ := q
  obtain ⟨ds, e1, h3⟩ := Option.bind_eq_some_iff.mp h3
  obtain ⟨z, e3, h3⟩ := Option.map_eq_some_iff.mp h3
  cases h3
  exact ⟨F, al, st, ds, z, S, h1.tops S e1, e3, fun v H' F' g e S' R => q v H' F' al g e S' R⟩
theorem repTs1 {K : KW} {F H : Hp} {d : D} {vs : List V} (h : RepTs K F H [d] vs) : ∃ v, vs = [v] ∧ RepT K F H d v := by
  cases h with
  | cons h1 h2 =>
    cases h2
    exact ⟨_, rfl, h1⟩
theorem repTs2 {K : KW} {F H : Hp} {d e : D} {vs : List V} (h : RepTs K F H [d, e] vs) : ∃ v w, vs = [v, w] ∧ RepT K F H d v ∧ RepT K F H e w := by
  cases h with
  | cons h1 h2 =>
    obtain ⟨w, rfl, h3⟩ := repTs1 h2
    exact ⟨_, _, rfl, h1, h3⟩
section
variable {X : Cx} {e : Expr} {es : List Expr} {k : SF} {g : SA} {x : Str} {p pos : Pos}
theorem callr_pure {f : Value} {p : List D → Option D} (h : CallR X f (rPs (kw X) p)) : CallR X f (rDC (kw X) (kPs p)) := fun pins s σ H vs us Q I r q => h pins s σ H vs us Q I r (kPs_of q)
theorem cb_of {K : KW} {σ : St} {H : Hp} {Q : VK} (h : tD K (sCall k g) σ H Q) : tCB (rDC K k) (tDA K g) σ H Q := by
  obtain ⟨L, st, F, al, r, st', hL, hS, hf, q⟩ := h
  obtain ⟨⟨rs, s1⟩, h1, hf⟩ := Option.bind_eq_some_iff.mp hf
  exact tDA_run hL hS h1 fun vs H1 F1 al1 g1 e1 S1 R1 _ => ⟨rs, s1, F1, al1, r, st', R1, S1, hf, fun v H' F' al' g e S R => q v H' F' al' (g1.trans g) (e1.trans e) S R⟩
theorem de_callB {id : String} (hc : CallR X (.builtin id) (rDC (kw X) k)) (hg : Gl X x) (hm : X.mg x = none) (hv : bootBuiltins x = some (.builtin id)) (ha : PA X (e :: es) (tDA (kw X) g)) (hn : x ≠ "__name__" := by decide) (hdb : (x == ("__debug__" : Str)) = false := by decide)
    (he : starEach (e :: es) X.env = (false, eval e X.env) :: starEach es X.env := by rfl) (hpl : (backTo pos (starEach es X.env)).any (·.1) = false := by rfl) : PE X (.Call (.Name x p) (e :: es) [] pos) (tD (kw X) (sCall k g)) :=
  pe_imp (pe_callB hc hg hm hv ha hn hdb he hpl) fun _ _ _ q => cb_of q
theorem de_callTy {T : String} (hc : CallR X (.type T) (rDC (kw X) k)) (hg : Gl X x) (hm : X.mg x = none) (hv : bootBuiltins x = some (.type T)) (ha : PA X (e :: es) (tDA (kw X) g)) (hn : x ≠ "__name__" := by decide) (hdb : (x == ("__debug__" : Str)) = false := by decide)
    (he : starEach (e :: es) X.env = (false, eval e X.env) :: starEach es X.env := by rfl) (hpl : (backTo pos (starEach es X.env)).any (·.1) = false := by rfl) : PE X (.Call (.Name x p) (e :: es) [] pos) (tD (kw X) (sCall k g)) :=
  pe_imp (pe_callTy hc hg hm hv ha hn hdb he hpl) fun _ _ _ q => cb_of q
end

/-! ### the built-ins -/
def pLen : List D → Option D
  | [.str y] => if y.length ≤ sizeLine then some (.int (y.length : Nat)) else none
  | [.tup ds] => some (.int (ds.length : Nat))
  | [.lst ds] => some (.int (ds.length : Nat))
  | [.ro ds] => some (.int (ds.length : Nat))
  | _ => none
def pAbs : List D → Option D
  | [.int i] => some (.int (if i < 0 then -i else i))
  | _ => none
def pMin : List D → Option D
  | [.int i, .int j] => some (.int (if j < i then j else i))
  | _ => none
def pMax : List D → Option D
  | [.int i, .int j] => some (.int (if j > i then j else i))
  | _ => none
def pToInt : List D → Option D
  | [.int i] => some (.int i)
  | [.bl b] => some (.int (if b then 1 else 0))
  | _ => none
def pToTup : List D → Option D
  | [.tup ds] => some (.tup ds)
  | [.lst ds] => some (.tup ds)
  | [.ro ds] => some (.tup ds)
  | _ => none
def pToLst : List D → Option D
  | [.tup ds] => some (.lst ds)
  | [.lst ds] => some (.lst ds)
  | [.ro ds] => some (.lst ds)
  | _ => none
def pDivmod : List D → Option D
  | [.int i, .int j] => if 0 < j ∧ j < 1073741824 then some (.tup [.int (i / j), .int (i % j)]) else none
  | _ => none
def boolsOf : List D → Option (List Bool)
  | [] => some []
  | .bl b :: r => (boolsOf r).map (b :: ·)
  | _ => none
def pAll : List D → Option D
  | [.lst ds] => (boolsOf ds).map fun bs => .bl (bs.all id)
  | _ => none
def pAny : List D → Option D
  | [.lst ds] => (boolsOf ds).map fun bs => .bl (bs.any id)
  | _ => none
def intsOf : List D → Option (List Int)
  | [] => some []
  | .int b :: r => (intsOf r).map (b :: ·)
  | _ => none
def pSum : List D → Option D
  | [.lst ds] => (intsOf ds).map fun bs => .int bs.sum
  | _ => none
/-- the type of data, by name -/
def tyName : D → Option String
  | .non => some "NoneType"
  | .bl _ => some "bool"
  | .int _ => some "int"
  | .str _ => some "str"
  | .tup _ => some "tuple"
  | .lst _ => some "list"
  | .ro _ => some "list"
  | .dk _ => some "dict"
  | _ => none
def isSub (a b : String) : Option Bool := if b = "str" ∨ b = "int" ∨ b = "bool" ∨ b = "tuple" ∨ b = "list" ∨ b = "dict" then some (a = b || (a = "bool" && b = "int")) else none
def pIsi : List D → Option D
  | [x, .ty n] => (tyName x).bind fun a => (isSub a n).map .bl
  | _ => none
theorem reps_bools {K : KW} {F : Hp} : ∀ {ds : List D} {vs : List V} {bs : List Bool}, Reps K F ds vs → boolsOf ds = some bs → vs = bs.map V.bl
  | [], _, _, h, e => by
    rw [Reps] at h
    cases e
    exact h
  | d :: ds, _, bs, h, e => by
    rw [Reps] at h
    obtain ⟨v, r, rfl, h1, h2⟩ := h
    cases d with
    | bl b =>
      obtain ⟨bs', e1, rfl⟩ := Option.map_eq_some_iff.mp e
      rw [Rep] at h1
      rw [h1, reps_bools h2 e1, List.map_cons]
    | _ => cases e
theorem reps_ints {K : KW} {F : Hp} : ∀ {ds : List D} {vs : List V} {bs : List Int}, Reps K F ds vs → intsOf ds = some bs → vs = bs.map V.int
  | [], _, _, h, e => by
    rw [Reps] at h
    cases e
    exact h
  | d :: ds, _, bs, h, e => by
    rw [Reps] at h
    obtain ⟨v, r, rfl, h1, h2⟩ := h
    cases d with
    | int b =>
      obtain ⟨bs', e1, rfl⟩ := Option.map_eq_some_iff.mp e
      rw [Rep] at h1
      rw [h1, reps_ints h2 e1, List.map_cons]
    | _ => cases e
section
variable {X : Cx}
theorem c_len : CallR X (.builtin "len") (rDC (kw X) (kPs pLen)) := callr_pure fun pins s σ H vs us Q I r q => by
  obtain ⟨F, al, st, ds, r0, S, hx, hp, q⟩ := q
  unfold pLen at hp
  split at hp
  · rename_i y
    obtain ⟨v, rfl, h⟩ := repTs1 hx
    split at hp
    · rename_i hz
      cases hp
      have h : Rep (kw X) F (.str y) v := h
      rw [Rep] at h
      subst h
      exact call_len pins s σ H _ us Q I r ⟨_, y.length, rfl, ⟨hz, rfl⟩, q _ H F (Go.refl _ _ _) (Same.refl _) S rep_int⟩
    · cases hp
  · rename_i y
    obtain ⟨v, rfl, h⟩ := repTs1 hx
    cases hp
    have h : Rep (kw X) F (.tup y) v := h
    rw [Rep] at h
    obtain ⟨a, xs, rfl, h1, h2⟩ := h
    exact call_len pins s σ H _ us Q I r ⟨_, y.length, rfl, .inr ⟨xs, same_sqT S.sub h1, h2.length.symm⟩, q _ H F (Go.refl _ _ _) (Same.refl _) S rep_int⟩
  · rename_i y
    obtain ⟨v, rfl, h⟩ := repTs1 hx
    cases hp
    obtain ⟨a, xs, rfl, h1, h2⟩ := h
    exact call_len pins s σ H _ us Q I r ⟨_, y.length, rfl, .inl ⟨xs, SqL.of h1, h2.length.symm⟩, q _ H F (Go.refl _ _ _) (Same.refl _) S rep_int⟩
  · rename_i y
    obtain ⟨v, rfl, h⟩ := repTs1 hx
    cases hp
    have h : Rep (kw X) F (.ro y) v := h
    rw [Rep] at h
    obtain ⟨a, xs, rfl, h1, h2⟩ := h
    exact call_len pins s σ H _ us Q I r ⟨_, y.length, rfl, .inl ⟨xs, S.sub.seq h1, h2.length.symm⟩, q _ H F (Go.refl _ _ _) (Same.refl _) S rep_int⟩
  · cases hp
theorem c_abs : CallR X (.builtin "abs") (rDC (kw X) (kPs pAbs)) := callr_pure fun pins s σ H vs us Q I r q => by
  obtain ⟨F, al, st, ds, r0, S, hx, hp, q⟩ := q
  unfold pAbs at hp
  split at hp
  · rename_i y
    obtain ⟨v, rfl, h⟩ := repTs1 hx
    cases hp
    have h : Rep (kw X) F (.int y) v := h
    rw [Rep] at h
    subst h
    exact call_abs pins s σ H _ us Q I r ⟨y, rfl, q _ H F (Go.refl _ _ _) (Same.refl _) S rep_int⟩
  · cases hp
theorem c_min (hc : X.calm = true) : CallR X (.builtin "min") (rDC (kw X) (kPs pMin)) := callr_pure fun pins s σ H vs us Q I r q => by
  obtain ⟨F, al, st, ds, r0, S, hx, hp, q⟩ := q
  unfold pMin at hp
  split at hp
  · rename_i i j
    obtain ⟨v, w, rfl, h, h'⟩ := repTs2 hx
    cases hp
    have h : Rep (kw X) F (.int i) v := h
    have h' : Rep (kw X) F (.int j) w := h'
    rw [Rep] at h h'
    subst h h'
    exact call_min2 hc pins s σ H _ us Q I r ⟨i, j, rfl, q _ H F (Go.refl _ _ _) (Same.refl _) S rep_int⟩
  · cases hp
theorem c_max (hc : X.calm = true) : CallR X (.builtin "max") (rDC (kw X) (kPs pMax)) := callr_pure fun pins s σ H vs us Q I r q => by
  obtain ⟨F, al, st, ds, r0, S, hx, hp, q⟩ := q
  unfold pMax at hp
  split at hp
  · rename_i i j
    obtain ⟨v, w, rfl, h, h'⟩ := repTs2 hx
    cases hp
    have h : Rep (kw X) F (.int i) v := h
    have h' : Rep (kw X) F (.int j) w := h'
    rw [Rep] at h h'
    subst h h'
    exact call_max2 hc pins s σ H _ us Q I r ⟨i, j, rfl, q _ H F (Go.refl _ _ _) (Same.refl _) S rep_int⟩
  · cases hp
theorem c_int : CallR X (.type "int") (rDC (kw X) (kPs pToInt)) := callr_pure fun pins s σ H vs us Q I r q => by
  obtain ⟨F, al, st, ds, r0, S, hx, hp, q⟩ := q
  unfold pToInt at hp
  split at hp
  · rename_i i
    obtain ⟨v, rfl, h⟩ := repTs1 hx
    cases hp
    have h : Rep (kw X) F (.int i) v := h
    rw [Rep] at h
    subst h
    exact call_int1 pins s σ H _ us Q I r (.inl ⟨i, rfl, q _ H F (Go.refl _ _ _) (Same.refl _) S rep_int⟩)
  · rename_i b
    obtain ⟨v, rfl, h⟩ := repTs1 hx
    cases hp
    have h : Rep (kw X) F (.bl b) v := h
    rw [Rep] at h
    subst h
    exact call_int1 pins s σ H _ us Q I r (.inr ⟨b, rfl, q _ H F (Go.refl _ _ _) (Same.refl _) S rep_int⟩)
  · cases hp
theorem c_tuple : CallR X (.type "tuple") (rDC (kw X) (kPs pToTup)) := callr_pure fun pins s σ H vs us Q I r q => by
  obtain ⟨F, al, st, ds, r0, S, hx, hp, q⟩ := q
  unfold pToTup at hp
  split at hp
  · rename_i i
    obtain ⟨v, rfl, h⟩ := repTs1 hx
    cases hp
    have h : Rep (kw X) F (.tup i) v := h
    rw [Rep] at h
    obtain ⟨a, xs, rfl, h1, h2⟩ := h
    exact call_tuple_of pins s σ H _ us Q I r ⟨a, xs, rfl, .inr ⟨same_sqT S.sub h1, q _ H F (Go.refl _ _ _) (Same.refl _) S (Rep.tup_of h1 h2)⟩⟩
  · rename_i i
    obtain ⟨v, rfl, h⟩ := repTs1 hx
    cases hp
    obtain ⟨a, xs, rfl, h1, h2⟩ := h
    refine call_tuple_of pins s σ H _ us Q I r ⟨a, xs, rfl, .inl ⟨SqL.of h1, fun p np => ?_⟩⟩
    obtain ⟨S2, g2, e2⟩ := S.alloc np (.tup xs)
    exact q _ _ _ g2 e2 S2 (Rep.tup_of (SqT.of upd_same) (Reps.mono e2 _ _ h2))
  · rename_i i
    obtain ⟨v, rfl, h⟩ := repTs1 hx
    cases hp
    have h : Rep (kw X) F (.ro i) v := h
    rw [Rep] at h
    obtain ⟨a, xs, rfl, h1, h2⟩ := h
    refine call_tuple_of pins s σ H _ us Q I r ⟨a, xs, rfl, .inl ⟨S.sub.seq h1, fun p np => ?_⟩⟩
    obtain ⟨S2, g2, e2⟩ := S.alloc np (.tup xs)
    exact q _ _ _ g2 e2 S2 (Rep.tup_of (SqT.of upd_same) (Reps.mono e2 _ _ h2))
  · cases hp
theorem c_list : CallR X (.type "list") (rDC (kw X) (kPs pToLst)) := callr_pure fun pins s σ H vs us Q I r q => by
  obtain ⟨F, al, st, ds, r0, S, hx, hp, q⟩ := q
  unfold pToLst at hp
  split at hp
  · rename_i i
    obtain ⟨v, rfl, h⟩ := repTs1 hx
    cases hp
    have h : Rep (kw X) F (.tup i) v := h
    rw [Rep] at h
    obtain ⟨a, xs, rfl, h1, h2⟩ := h
    refine call_list_of pins s σ H _ us Q I r ⟨a, xs, rfl, .inr (same_sqT S.sub h1), fun p np => ?_⟩
    obtain ⟨S2, g2, e2⟩ := S.alloc np (.lst xs)
    exact q _ _ _ g2 e2 S2 (Rep.lst_of upd_same (Reps.mono e2 _ _ h2))
  · rename_i i
    obtain ⟨v, rfl, h⟩ := repTs1 hx
    cases hp
    obtain ⟨a, xs, rfl, h1, h2⟩ := h
    refine call_list_of pins s σ H _ us Q I r ⟨a, xs, rfl, .inl (SqL.of h1), fun p np => ?_⟩
    obtain ⟨S2, g2, e2⟩ := S.alloc np (.lst xs)
    exact q _ _ _ g2 e2 S2 (Rep.lst_of upd_same (Reps.mono e2 _ _ h2))
  · rename_i i
    obtain ⟨v, rfl, h⟩ := repTs1 hx
    cases hp
    have h : Rep (kw X) F (.ro i) v := h
    rw [Rep] at h
    obtain ⟨a, xs, rfl, h1, h2⟩ := h
    refine call_list_of pins s σ H _ us Q I r ⟨a, xs, rfl, .inl (S.sub.seq h1), fun p np => ?_⟩
    obtain ⟨S2, g2, e2⟩ := S.alloc np (.lst xs)
    exact q _ _ _ g2 e2 S2 (Rep.lst_of upd_same (Reps.mono e2 _ _ h2))
  · cases hp
theorem c_divmod : CallR X (.builtin "divmod") (rDC (kw X) (kPs pDivmod)) := callr_pure fun pins s σ H vs us Q I r q => by
  obtain ⟨F, al, st, ds, r0, S, hx, hp, q⟩ := q
  unfold pDivmod at hp
  split at hp
  · rename_i i j
    obtain ⟨v, w, rfl, h, h'⟩ := repTs2 hx
    split at hp
    · rename_i hj
      cases hp
      have h : Rep (kw X) F (.int i) v := h
      have h' : Rep (kw X) F (.int j) w := h'
      rw [Rep] at h h'
      subst h h'
      refine call_divmod pins s σ H _ us Q I r ⟨i, j, rfl, hj, fun p np => ?_⟩
      obtain ⟨S2, g2, e2⟩ := S.alloc np (.tup [.int (i / j), .int (i % j)])
      exact q _ _ _ g2 e2 S2 (Rep.tup_of (SqT.of upd_same) (Reps.cons rep_int (Reps.one rep_int)))
    · cases hp
  · cases hp
theorem c_all (hc : X.calm = true) : CallR X (.builtin "all") (rDC (kw X) (kPs pAll)) := callr_pure fun pins s σ H vs us Q I r q => by
  obtain ⟨F, al, st, ds, r0, S, hx, hp, q⟩ := q
  unfold pAll at hp
  split at hp
  · rename_i i
    obtain ⟨v, rfl, h⟩ := repTs1 hx
    obtain ⟨bs, e1, rfl⟩ := Option.map_eq_some_iff.mp hp
    obtain ⟨a, xs, rfl, h1, h2⟩ := h
    exact cr_all hc pins s σ H _ us Q I r ⟨a, bs, rfl, by rw [← reps_bools h2 e1]; exact SqL.of h1, q _ H F (Go.refl _ _ _) (Same.refl _) S rep_bool⟩
  · cases hp
theorem c_any (hc : X.calm = true) : CallR X (.builtin "any") (rDC (kw X) (kPs pAny)) := callr_pure fun pins s σ H vs us Q I r q => by
  obtain ⟨F, al, st, ds, r0, S, hx, hp, q⟩ := q
  unfold pAny at hp
  split at hp
  · rename_i i
    obtain ⟨v, rfl, h⟩ := repTs1 hx
    obtain ⟨bs, e1, rfl⟩ := Option.map_eq_some_iff.mp hp
    obtain ⟨a, xs, rfl, h1, h2⟩ := h
    exact cr_any hc pins s σ H _ us Q I r ⟨a, bs, rfl, by rw [← reps_bools h2 e1]; exact SqL.of h1, q _ H F (Go.refl _ _ _) (Same.refl _) S rep_bool⟩
  · cases hp
theorem c_sum (hc : X.calm = true) : CallR X (.builtin "sum") (rDC (kw X) (kPs pSum)) := callr_pure fun pins s σ H vs us Q I r q => by
  obtain ⟨F, al, st, ds, r0, S, hx, hp, q⟩ := q
  unfold pSum at hp
  split at hp
  · rename_i i
    obtain ⟨v, rfl, h⟩ := repTs1 hx
    obtain ⟨bs, e1, rfl⟩ := Option.map_eq_some_iff.mp hp
    obtain ⟨a, xs, rfl, h1, h2⟩ := h
    exact cr_sum hc pins s σ H _ us Q I r ⟨a, bs, rfl, by rw [← reps_ints h2 e1]; exact SqL.of h1, q _ H F (Go.refl _ _ _) (Same.refl _) S rep_int⟩
  · cases hp
theorem kit_sub {K : PySem.W.Frag} {a b : String} {r : Bool} (ha : a = "NoneType" ∨ a = "bool" ∨ a = "int" ∨ a = "str" ∨ a = "tuple" ∨ a = "list" ∨ a = "dict") (h : isSub a b = some r) : PySem.W.kitOne K (.type a) (.type b) = some r := by
  unfold isSub at h
  split at h
  · rename_i hb
    cases h
    rcases ha with rfl | rfl | rfl | rfl | rfl | rfl | rfl <;> rcases hb with rfl | rfl | rfl | rfl | rfl | rfl <;> exact kit_ty (by decide +kernel)
  · cases h
theorem sqT_ty {K : PySem.W.Frag} {H : Hp} {a : Addr} {xs : List V} (h : SqT K H a xs) : TyX K H (.ref a) (.type "tuple") := by
  rcases h with (h | ⟨o, h⟩) | ⟨o, _, _, h, c, _⟩
  · exact .base (.tup h)
  · exact .fTuple h
  · exact .kTuple h c
theorem sqL_ty {K : PySem.W.Frag} {H : Hp} {a : Addr} {xs : List V} (h : SqL K H a xs) : TyX K H (.ref a) (.type "list") := by
  rcases h with (h | ⟨o, h⟩) | ⟨o, _, _, h, c, _⟩
  · exact .base (.lst h)
  · exact .base (.frz h)
  · exact .kList h c
theorem rep_ty {K : KW} {F H : Hp} {x : D} {v : V} {n : String} (s : Same F H) (h : RepT K F H x v) (e : tyName x = some n) : TyX K.k H v (.type n) ∧ (n = "NoneType" ∨ n = "bool" ∨ n = "int" ∨ n = "str" ∨ n = "tuple" ∨ n = "list" ∨ n = "dict") := by
  cases x with
  | non => have h : Rep K F .non v := h; rw [Rep] at h; subst h; cases e; exact ⟨.base .non, .inl rfl⟩
  | bl b => have h : Rep K F (.bl b) v := h; rw [Rep] at h; subst h; cases e; exact ⟨.base (.bl _), .inr (.inl rfl)⟩
  | int b => have h : Rep K F (.int b) v := h; rw [Rep] at h; subst h; cases e; exact ⟨.base (.int _), .inr (.inr (.inl rfl))⟩
  | str b => have h : Rep K F (.str b) v := h; rw [Rep] at h; subst h; cases e; exact ⟨.base (.str _), .inr (.inr (.inr (.inl rfl)))⟩
  | tup b => have h : Rep K F (.tup b) v := h; rw [Rep] at h; obtain ⟨a, xs, rfl, h1, _⟩ := h; cases e; exact ⟨sqT_ty (same_sqT s h1), .inr (.inr (.inr (.inr (.inl rfl))))⟩
  | lst b => obtain ⟨a, xs, rfl, h1, _⟩ := h; cases e; exact ⟨.base (.lst h1), .inr (.inr (.inr (.inr (.inr (.inl rfl)))))⟩
  | ro b => have h : Rep K F (.ro b) v := h; rw [Rep] at h; obtain ⟨a, xs, rfl, h1, _⟩ := h; cases e; exact ⟨sqL_ty (s.seq h1), .inr (.inr (.inr (.inr (.inr (.inl rfl)))))⟩
  | dk b =>
    obtain ⟨a, xs, rfl, h1, _⟩ := h
    cases e
    refine ⟨?_, .inr (.inr (.inr (.inr (.inr (.inr rfl)))))⟩
    rcases h1 with h1 | ⟨o, h1⟩
    · exact .base (.dK h1)
    · exact .fDict h1
  | dn b => cases e
  | obj _ _ => cases e
  | fn _ => cases e
  | ty _ => cases e
theorem c_isi : CallR X (.builtin "isinstance") (rDC (kw X) (kPs pIsi)) := callr_pure fun pins s σ H vs us Q I r q => by
  obtain ⟨F, al, st, ds, r0, S, hx, hp, q⟩ := q
  unfold pIsi at hp
  split at hp
  · rename_i x n
    obtain ⟨v, w, rfl, h, h'⟩ := repTs2 hx
    obtain ⟨a, e1, hp⟩ := Option.bind_eq_some_iff.mp hp
    obtain ⟨b, e2, rfl⟩ := Option.map_eq_some_iff.mp hp
    have h' : Rep (kw X) F (.ty n) w := h'
    rw [Rep] at h'
    subst h'
    obtain ⟨t1, t2⟩ := rep_ty S.sub h e1
    exact call_isi pins s σ H _ us Q I r ⟨v, _, _, _, b, rfl, .ty n, t1, kit_sub t2 e2, q _ H F (Go.refl _ _ _) (Same.refl _) S rep_bool⟩
  · cases hp
end

/-! ### sorted -/
def pyD (x : D) : PyData := (toPy x).getD .none
def leD (x y : D) : Bool := !PySem.W.dataLt (pyD y) (pyD x)
def isTup1 : PyData → Bool
  | .tuple (_ :: _) => true
  | _ => false
def noTup : PyData → Bool
  | .none => false
  | .tuple _ => false
  | _ => true
def sortOk (ds : List D) : Bool := ds.all (fun x => (pyOk x).isSome) && (ds.all fun x => ds.all fun y => PySem.W.alike (pyD x) (pyD y)) && (ds.all (fun x => isTup1 (pyD x)) || ds.all (fun x => noTup (pyD x))) && decide (ds.length ≤ sizeLine)
def pSorted : List D → Option D
  | [.lst ds] => if sortOk ds = true then some (.lst (ds.mergeSort leD)) else none
  | _ => none
theorem each_zip {K : KW} {F : Hp} : ∀ {ds : List D} {vs : List V} {us : List Value}, Reps K F ds vs → Vals vs us → PySem.W.EachIs (fun (u : Value) (p : D × V) => RelV p.2 u ∧ Rep K F p.1 p.2) us (ds.zip vs)
  | [], _, _, h, r => by
    rw [Reps] at h
    subst h
    cases r
    exact .nil
  | d :: ds, _, _, h, r => by
    rw [Reps] at h
    obtain ⟨v, vr, rfl, h1, h2⟩ := h
    cases r with
    | cons r1 r2 => exact .cons ⟨r1, h1⟩ (each_zip h2 r2)
theorem each_back {K : KW} {F : Hp} : ∀ {ps : List (D × V)} {us : List Value}, PySem.W.EachIs (fun (u : Value) (p : D × V) => RelV p.2 u ∧ Rep K F p.1 p.2) us ps → Vals (ps.map (·.2)) us ∧ Reps K F (ps.map (·.1)) (ps.map (·.2))
  | [], _, h => by
    cases h
    exact ⟨.nil, Reps.nil⟩
  | p :: ps, _, h => by
    cases h with
    | cons h1 h2 =>
      obtain ⟨q1, q2⟩ := each_back h2
      exact ⟨.cons h1.1 q1, Reps.cons h1.2 q2⟩
theorem each_reads {X : Cx} {pins : List (Addr × Obj)} {σ : St} {H F : Hp} {s : Shared} (I : L2.Inv X pins σ H s) (sub : Same F H) : ∀ {ps : List (D × V)} {us : List Value}, (∀ p ∈ ps, (pyOk p.1).isSome = true) → PySem.W.EachIs (fun (u : Value) (p : D × V) => RelV p.2 u ∧ Rep (kw X) F p.1 p.2) us ps →
    PySem.W.EachIs (fun (u : Value) (p : D × V) => ∃ as, Reads s.heap u (pyD p.1) as) us ps
  | [], _, _, h => by
    cases h
    exact .nil
  | p :: ps, _, ho, h => by
    cases h with
    | cons h1 h2 =>
      refine .cons ?_ (each_reads I sub (fun q hq => ho q (List.mem_cons_of_mem _ hq)) h2)
      obtain ⟨d, e⟩ := Option.isSome_iff_exists.mp (ho p List.mem_cons_self)
      obtain ⟨e1, _⟩ := pyOk_some e
      have : pyD p.1 = d := by unfold pyD; rw [e1]; rfl
      rw [this]
      exact Dp.reads I d p.2 _ (Rep.dp (Rep.mono sub _ _ h1.2) e1) h1.1
section
variable {X : Cx}
theorem c_sorted (hu : X.A.units + 70 < cLine) : CallR X (.builtin "sorted") (rDC (kw X) (kPs pSorted)) := callr_pure fun pins s σ H vs us Q I r q => by
  obtain ⟨F, al, st, ds0, r0, S, hx, hp, q⟩ := q
  unfold pSorted at hp
  split at hp
  · rename_i ds
    obtain ⟨v, rfl, h⟩ := repTs1 hx
    split at hp
    · rename_i ok
      cases hp
      obtain ⟨a, xs, rfl, h1, h2⟩ := h
      unfold sortOk at ok
      simp only [Bool.and_eq_true, List.all_eq_true, decide_eq_true_eq, Bool.or_eq_true] at ok
      obtain ⟨⟨⟨ok1, ok2⟩, ok3⟩, ok4⟩ := ok
      obtain ⟨its, rv, hl, hz⟩ := I.list (SqL.of h1)
      have hzip : (ds.zip xs).map (·.1) = ds := List.map_fst_zip (by rw [h2.length]; exact Nat.le_refl _)
      have mem1 : ∀ p ∈ ds.zip xs, p.1 ∈ ds := fun p hp => by rw [← hzip]; exact List.mem_map.mpr ⟨p, hp, rfl⟩
      have e1 := each_zip h2 rv
      have e2 := each_reads I S.sub (fun p hp => ok1 _ (mem1 p hp)) e1
      have hlen : (ds.zip xs).length ≤ sizeLine := by
        have : (ds.zip xs).length = ds.length := by rw [← List.length_map (f := (·.1)), hzip]
        omega
      rw [Vals.ref1 r]
      refine PySem.W.sorted_data (enc := fun p : D × V => pyD p.1) hl.isList e1 e2 ?_ ?_ hlen ?_ fun out hlo eo => ?_
      · intro d hd d' hd'
        obtain ⟨p, hp, rfl⟩ := List.mem_map.mp hd
        obtain ⟨p', hp', rfl⟩ := List.mem_map.mp hd'
        exact ok2 _ (mem1 p hp) _ (mem1 p' hp')
      · rcases ok3 with ok3 | ok3
        · refine .inl fun d hd => ?_
          obtain ⟨p, hp, rfl⟩ := List.mem_map.mp hd
          have := ok3 _ (mem1 p hp)
          unfold isTup1 at this
          split at this
          · rename_i x r e
            exact ⟨x, r, e⟩
          · cases this
        · refine .inr fun d hd => ?_
          obtain ⟨p, hp, rfl⟩ := List.mem_map.mp hd
          have := ok3 _ (mem1 p hp)
          unfold noTup at this
          split at this
          · cases this
          · cases this
          · rename_i k1 k2
            exact ⟨k1, k2⟩
      · intro p hp
        obtain ⟨d, e⟩ := Option.isSome_iff_exists.mp (ok1 _ (mem1 p hp))
        obtain ⟨e1, e2⟩ := pyOk_some e
        have : pyD p.1 = d := by unfold pyD; rw [e1]; rfl
        rw [this]
        have := SeqAt.depth_of_shaped e2
        omega
      · obtain ⟨k1, k2⟩ := each_back eo
        have hs : ((ds.zip xs).mergeSort (PySem.W.dataLe false fun p : D × V => pyD p.1)).map (·.1) = ds.mergeSort leD := by
          have z := PySem.W.sort_maps (r := PySem.W.dataLe false fun p : D × V => pyD p.1) (s := leD) (fun p : D × V => p.1) (l := ds.zip xs) (fun p _ p' _ => rfl)
          rw [hzip] at z
          exact z
        rw [hs] at k2
        obtain ⟨ep, he'⟩ := PyProof.Rows.sortedAll_at s.heap its out.toArray
        have hfresh : H (s.heap.objs.size + 1) = none := I.hok.fresh (Nat.le_succ _)
        have hl2 : (((ds.zip xs).mergeSort (PySem.W.dataLe false fun p : D × V => pyD p.1)).map (·.2)).length ≤ sizeLine := by
          rw [List.length_map, List.length_mergeSort]
          exact hlen
        obtain ⟨S2, g2, f2⟩ := S.alloc hfresh (.lst (((ds.zip xs).mergeSort (PySem.W.dataLe false fun p : D × V => pyD p.1)).map (·.2)))
        exact ⟨.ref _, upd H (s.heap.objs.size + 1) (.lst (((ds.zip xs).mergeSort (PySem.W.dataLe false fun p : D × V => pyD p.1)).map (·.2))), I.laid (t' := s.toks) (fun _ _ => PyProof.Rows.sortedAll_old) (Nat.le_succ _) ⟨hl2, out, ep, k1, he'⟩, rfl, q _ _ _ g2 f2 S2 (Rep.lst_of upd_same (Reps.mono f2 _ _ k2))⟩
    · cases hp
  · cases hp
end

/-! ### cells changed -/
/-- append -/
def kApp : Lv → List Lv → Sto → Option (Lv × Sto) := fun o rs st => match o, rs with
  | .c i, [.d x] => match st[i]? with
    | some (.lst ds) => if ds.length < sizeLine then some (.d .non, st.set i (.lst (ds ++ [x]))) else none
    | _ => none
  | _, _ => none
/-- o[i] = v of a list -/
def kSetL : KSet := fun o i v st => match o, i, v with
  | .c j, .d (.int n), .d x => match st[j]? with
    | some (.lst ds) => (ixN ds.length n).map fun k => st.set j (.lst (ds.set k x))
    | _ => none
  | _, _, _ => none
/-- extend by a frozen list -/
def kExt : Lv → List Lv → Sto → Option (Lv × Sto) := fun o rs st => match o, rs with
  | .c i, [.d (.lst es)] => match st[i]? with
    | some (.lst ds) => if ds.length + es.length ≤ sizeLine then some (.d .non, st.set i (.lst (ds ++ es))) else none
    | _ => none
  | _, _ => none
def kClr : Lv → List Lv → Sto → Option (Lv × Sto) := fun o rs st => match o, rs with
  | .c i, [] => match st[i]? with
    | some (.lst ds) => some (.d .non, st.set i (.lst []))
    | _ => none
  | _, _ => none
def sMeth (k : Lv → List Lv → Sto → Option (Lv × Sto)) (fo : SE) (g : SA) : SE := fun L st => (fo L st).bind fun p => (g L p.2).bind fun q => k p.1 q.1 q.2
def rDM (K : KW) (k : Lv → List Lv → Sto → Option (Lv × Sto)) : V → List V → Hp → VK → Prop := fun o vs H Q => ∃ (a : Lv) (rs : List Lv) (st : Sto) (F : Hp) (al : List Addr) (r : Lv) (st' : Sto), LvR K F al a o ∧ LvsR K F al rs vs ∧ StR K F al st H ∧ k a rs st = some (r, st') ∧
  ∀ v H' F' al', Go al H F al' H' F' → Same F F' → StR K F' al' st' H' → LvR K F' al' r v → Q v H'
/-- the receiver's type, as the rule asks it ahead of the arguments -/
def recvTy (st : Sto) : Lv → Option String
  | .d (.str _) => some "str"
  | .d (.lst _) => some "list"
  | .c i => match st[i]? with
    | some (.lst _) => some "list"
    | some (.dk _) => some "dict"
    | _ => none
  | _ => none
def sMethT (T : String) (k : Lv → List Lv → Sto → Option (Lv × Sto)) (fo : SE) (g : SA) : SE := fun L st => (fo L st).bind fun p => if recvTy p.2 p.1 = some T then (g L p.2).bind fun q => k p.1 q.1 q.2 else none
theorem recv_ty {K : KW} {F H : Hp} {al : List Addr} {st : Sto} (S : StR K F al st H) {r : Lv} {v : V} {T : String} (R : LvR K F al r v) (h : recvTy st r = some T) : tyV K.k T v H := by
  cases r with
  | d x =>
    cases x with
    | str y => cases h; have R : Rep K F (.str y) v := R; rw [Rep] at R; subst R; rfl
    | lst y => cases h; have R : Rep K F (.lst y) v := R; rw [Rep] at R; obtain ⟨a, xs, rfl, h1, _⟩ := R; exact .inl ⟨rfl, xs, SqL.of (S.sub _ _ h1)⟩
    | _ => cases h
  | c i =>
    obtain ⟨a, ha, rfl⟩ := R
    unfold recvTy at h
    simp only at h
    split at h
    · rename_i ds h2
      cases h
      rcases S.cell i _ a h2 ha with z | ⟨o, q1, q2, xs, rfl, q3⟩
      · cases z
      · exact .inl ⟨rfl, xs, SqL.of q1⟩
    · rename_i ds h2
      cases h
      rcases S.cell i _ a h2 ha with z | ⟨o, q1, q2, xs, rfl, q3⟩
      · cases z
      · exact .inr (.inr (.inl ⟨rfl, .inl ⟨xs, q1⟩⟩))
    · cases h
section
variable {X : Cx} {o e : Expr} {es : List Expr} {fo : SE} {g : SA} {k : Lv → List Lv → Sto → Option (Lv × Sto)} {name : Str} {apos cpos : Pos} {T id : String}
theorem de_bm (pa : PlainAttrs T) (slot : Slot T name id) (hty : typeOf (.builtin id) = pure (.type "method_descriptor")) (hm : MtR X id (rDM (kw X) k)) (ho : PE X o (tD (kw X) fo)) (ha : PA X (e :: es) (tDA (kw X) g))
    (hbase : attributeBase o name X.env (eval o X.env) = eval o X.env := by rfl)
    (hfew : ((backTo cpos (starEach (e :: es) X.env)).all (fun x => !x.1) && (backToKw cpos (keywordEach [] X.env)).all (fun x => x.1.isSome)
      && decide ((e :: es).length + ([] : List Keyword).length + (if ([] : List Keyword).isEmpty then 0 else 1) < 30)) = true := by rfl)
    (hline : (apos.endLine == cpos.line) = true := by rfl) (hs : starEach (e :: es) X.env = (false, eval e X.env) :: starEach es X.env := by rfl) (hplain : (backTo cpos (starEach es X.env)).any (·.1) = false := by rfl) :
    PE X (.Call (.Attribute o name apos) (e :: es) [] cpos) (tD (kw X) (sMethT T k fo g)) := pe_imp (pe_bm pa slot hty hm ho ha hbase hfew hline hs hplain) fun σ H Q q => by
  obtain ⟨L, st, F, al, r, st', hL, hS, hf, q⟩ := q
  obtain ⟨⟨r0, s0⟩, h1, hf⟩ := Option.bind_eq_some_iff.mp hf
  refine tD_run hL hS h1 fun v H1 F1 al1 g1 e1 S1 R1 L1 => ?_
  simp only at hf
  split at hf
  · rename_i ht
    obtain ⟨⟨rs, s2⟩, h2, hf⟩ := Option.bind_eq_some_iff.mp hf
    refine ⟨recv_ty S1 R1 ht, tDA_run L1 S1 h2 fun vs H2 F2 al2 g2 e2 S2 R2 _ => ?_⟩
    exact ⟨r0, rs, s2, F2, al2, r, st', R1.mono (kw X) e2 g2, R2, S2, hf, fun v H' F' al' g e S R => q v H' F' al' ((g1.trans g2).trans g) ((e1.trans e2).trans e) S R⟩
  · cases hf
theorem de_bm0 (pa : PlainAttrs T) (slot : Slot T name id) (hty : typeOf (.builtin id) = pure (.type "method_descriptor")) (hm : MtR X id (rDM (kw X) k)) (ho : PE X o (tD (kw X) fo))
    (hbase : attributeBase o name X.env (eval o X.env) = eval o X.env := by rfl) (hline : (apos.endLine == cpos.line) = true := by rfl) : PE X (.Call (.Attribute o name apos) [] [] cpos) (tD (kw X) (sMethT T k fo aNil)) := pe_imp (pe_bm0 pa slot hty hm ho hbase hline) fun σ H Q q => by
  obtain ⟨L, st, F, al, r, st', hL, hS, hf, q⟩ := q
  obtain ⟨⟨r0, s0⟩, h1, hf⟩ := Option.bind_eq_some_iff.mp hf
  refine tD_run hL hS h1 fun v H1 F1 al1 g1 e1 S1 R1 L1 => ?_
  simp only at hf
  split at hf
  · rename_i ht
    exact ⟨recv_ty S1 R1 ht, r0, [], s0, F1, al1, r, st', R1, .nil, S1, hf, fun v H' F' al' g e S R => q v H' F' al' (g1.trans g) (e1.trans e) S R⟩
  · cases hf
theorem lst_cell {K : KW} {F H : Hp} {al : List Addr} {st : Sto} {i : Nat} {ds : List D} {a : Addr} (S : StR K F al st H) (h : st[i]? = some (.lst ds)) (ha : al[i]? = some a) : ∃ xs, H a = some (.lst xs) ∧ Reps K F ds xs ∧ F a = none := by
  rcases S.cell i _ a h ha with z | ⟨o, q1, q2, xs, rfl, q3⟩
  · cases z
  · exact ⟨xs, q1, q3, q2⟩
theorem lst_put {K : KW} {F H : Hp} {al : List Addr} {st : Sto} {i : Nat} {ds : List D} {xs : List V} {a : Addr} (S : StR K F al st H) (ha : al[i]? = some a) (hF : F a = none) (r : Reps K F ds xs) : StR K F al (st.set i (.lst ds)) (upd H a (.lst xs)) ∧ Go al H F al (upd H a (.lst xs)) F :=
  S.put ha hF (.inr ⟨_, upd_same, hF, xs, rfl, r⟩)
theorem m_append : MtR X "list.append" (rDM (kw X) kApp) := by
  intro pins s σ H x xs v us Q I rx rxs h
  obtain ⟨a, rs, st, F, al, r, st', ha, hr, S, hk, q⟩ := h
  unfold kApp at hk
  split at hk
  · rename_i i y
    split at hk
    · rename_i ds hi
      split at hk
      · rename_i hz
        cases hk
        obtain ⟨w, rfl, hw⟩ := lvs1 hr
        obtain ⟨a, ha, rfl⟩ := ha
        obtain ⟨ys, h1, h2, h3⟩ := lst_cell S hi ha
        obtain ⟨S2, g2⟩ := lst_put S ha h3 (h2.append (Reps.one hw))
        exact mt_append pins s σ H _ _ v us Q I rx rxs ⟨a, ys, w, rfl, rfl, h1, by rw [h2.length]; exact hz, q _ _ _ _ g2 (Same.refl _) S2 (show Rep (kw X) F .non .non from rep_none)⟩
      · cases hk
    · cases hk
  · cases hk
theorem m_extend : MtR X "list.extend" (rDM (kw X) kExt) := by
  intro pins s σ H x xs v us Q I rx rxs h
  obtain ⟨a, rs, st, F, al, r, st', ha, hr, S, hk, q⟩ := h
  unfold kExt at hk
  split at hk
  · rename_i i y
    split at hk
    · rename_i ds hi
      split at hk
      · rename_i hz
        cases hk
        obtain ⟨w, rfl, hw⟩ := lvs1 hr
        rw [Rep] at hw
        obtain ⟨b, zs, rfl, hb, hzs⟩ := hw
        obtain ⟨a, ha, rfl⟩ := ha
        obtain ⟨ys, h1, h2, h3⟩ := lst_cell S hi ha
        obtain ⟨S2, g2⟩ := lst_put S ha h3 (h2.append hzs)
        exact mt_extend pins s σ H _ _ v us Q I rx rxs ⟨a, b, ys, zs, rfl, rfl, h1, S.sub _ _ hb, by rw [h2.length, hzs.length]; exact hz, q _ _ _ _ g2 (Same.refl _) S2 (show Rep (kw X) F .non .non from rep_none)⟩
      · cases hk
    · cases hk
  · cases hk
theorem m_clear : MtR X "list.clear" (rDM (kw X) kClr) := by
  intro pins s σ H x xs v us Q I rx rxs h
  obtain ⟨a, rs, st, F, al, r, st', ha, hr, S, hk, q⟩ := h
  unfold kClr at hk
  split at hk
  · rename_i i
    split at hk
    · rename_i ds hi
      cases hk
      cases hr
      obtain ⟨a, ha, rfl⟩ := ha
      obtain ⟨ys, h1, h2, h3⟩ := lst_cell S hi ha
      obtain ⟨S2, g2⟩ := lst_put (ds := []) S ha h3 Reps.nil
      exact mt_clear pins s σ H _ _ v us Q I rx rxs ⟨a, ys, rfl, rfl, h1, q _ _ _ _ g2 (Same.refl _) S2 (show Rep (kw X) F .non .non from rep_none)⟩
    · cases hk
  · cases hk
theorem s_list : PSet X (rDSet (kw X) kSetL) := by
  intro pins s σ H o i v ov iv u Q I ro ri rv h
  obtain ⟨a, b, c, st, F, al, st', S, ha, hb, hc, hk, q⟩ := h
  unfold kSetL at hk
  split at hk
  · rename_i j n x
    split at hk
    · rename_i ds hi
      obtain ⟨k, hk1, rfl⟩ := Option.map_eq_some_iff.mp hk
      obtain ⟨a, ha, rfl⟩ := ha
      have hb : Rep (kw X) F (.int n) i := hb
      rw [Rep] at hb
      obtain ⟨ys, h1, h2, h3⟩ := lst_cell S hi ha
      obtain ⟨S2, g2⟩ := lst_put S ha h3 (h2.set k hc)
      exact set_list pins s σ H _ i v ov iv u Q I ro ri rv ⟨a, ys, n, k, rfl, hb, h1, by rw [h2.length]; exact hk1, q _ _ _ g2 (Same.refl _) S2⟩
    · cases hk
  · cases hk
end

/-! ### what freezes -/
def frz (r : Lv) (st : Sto) : Option (D × Sto) := match r with
  | .d x => some (x, st)
  | .c i => match st[i]? with
    | some (.lst ds) => some (.lst ds, st.set i .dead)
    | some (.dk ds) => some (.dk ds, st.set i .dead)
    | some (.dn ds) => some (.dn ds, st.set i .dead)
    | _ => none
def sFrz (f : SE) : SE := fun L st => (f L st).bind fun p => (frz p.1 p.2).map fun q => (.d q.1, q.2)
theorem StR.bury {K : KW} {F H : Hp} {al : List Addr} {st : Sto} (S : StR K F al st H) {i : Nat} {a : Addr} {o : HO} (ha : al[i]? = some a) (ho : H a = some o) (hF : F a = none) :
    StR K (upd F a o) al (st.set i .dead) H ∧ Go al H F al H (upd F a o) ∧ Same F (upd F a o) := by
  have hsF : Same F (upd F a o) := fun b x e => by
    rw [upd_ne (ne_of_none e hF)]
    exact e
  have hi : i < st.length := by
    rw [← S.len]
    exact (List.getElem?_eq_some_iff.mp ha).1
  refine ⟨⟨fun b x e => ?_, by rw [List.length_set]; exact S.len, fun j c b h1 h2 => ?_, S.inj, S.there⟩, (Go.refl al H F).freeze (.inr (List.mem_of_getElem? ha)), hsF⟩
  · by_cases hb : b = a
    · subst hb
      rw [upd_same] at e
      rw [← e]
      exact ho
    · rw [upd_ne hb] at e
      exact S.sub b x e
  · by_cases hj : i = j
    · subst hj
      rw [List.getElem?_set_self hi] at h1
      cases h1
      exact .inl rfl
    · rw [List.getElem?_set_ne hj] at h1
      have hb : b ≠ a := fun e => hj (S.inj i j a ha (by rw [h2, e]))
      exact (S.cell j c b h1 h2).to rfl (fun z => by rw [upd_ne hb]; exact z) hsF
theorem frz_ok {K : KW} {F H : Hp} {al : List Addr} {st st' : Sto} {r : Lv} {v : V} {x : D} (S : StR K F al st H) (R : LvR K F al r v) (h : frz r st = some (x, st')) : ∃ F', StR K F' al st' H ∧ Go al H F al H F' ∧ Same F F' ∧ Rep K F' x v := by
  cases r with
  | d y =>
    cases h
    exact ⟨F, S, Go.refl _ _ _, Same.refl _, R⟩
  | c i =>
    obtain ⟨a, ha, rfl⟩ := R
    unfold frz at h
    simp only at h
    split at h
    · rename_i ds hi
      cases h
      rcases S.cell i _ a hi ha with z | ⟨o, q1, q2, xs, rfl, q3⟩
      · cases z
      · obtain ⟨S2, g2, e2⟩ := S.bury ha q1 q2
        exact ⟨_, S2, g2, e2, Rep.lst_of upd_same (Reps.mono e2 _ _ q3)⟩
    · rename_i ds hi
      cases h
      rcases S.cell i _ a hi ha with z | ⟨o, q1, q2, xs, rfl, q3⟩
      · cases z
      · obtain ⟨S2, g2, e2⟩ := S.bury ha q1 q2
        refine ⟨_, S2, g2, e2, ?_⟩
        rw [Rep]
        exact ⟨a, xs, rfl, .inl upd_same, RepK.mono e2 _ _ q3⟩
    · rename_i ds hi
      cases h
      rcases S.cell i _ a hi ha with z | ⟨o, q1, q2, xs, rfl, q3⟩
      · cases z
      · obtain ⟨S2, g2, e2⟩ := S.bury ha q1 q2
        refine ⟨_, S2, g2, e2, ?_⟩
        rw [Rep]
        exact ⟨a, xs, rfl, upd_same, RepN.mono e2 _ _ q3⟩
    · cases h
theorem de_frz {X : Cx} {e : Expr} {f : SE} (h : PE X e (tD (kw X) f)) : PE X e (tD (kw X) (sFrz f)) := pe_imp h fun σ H Q q => by
  obtain ⟨L, st, F, al, r, st', hL, hS, hf, q⟩ := q
  obtain ⟨⟨r0, s0⟩, h1, hf⟩ := Option.bind_eq_some_iff.mp hf
  obtain ⟨⟨x, s1⟩, h2, hf⟩ := Option.map_eq_some_iff.mp hf
  cases hf
  refine tD_run hL hS h1 fun v H1 F1 al1 g1 e1 S1 R1 L1 => ?_
  obtain ⟨F2, S2, g2, e2, R2⟩ := frz_ok S1 R1 h2
  exact q v H1 F2 al1 (g1.trans g2) (e1.trans e2) S2 R2
/-- ahead of a statement the cell at a slot freezes -/
def xFrz (i : Nat) (f : SS) : SS := fun L st => (lget L i).bind fun r => (frz r st).bind fun q => f (L.set i (some (.d q.1))) q.2
theorem ds_frz {X : Cx} {s : Stmt} {f : SS} (i : Nat) (h : PS X s (tDS (kw X) f)) : PS X s (tDS (kw X) (xFrz i f)) := ps_imp h fun E σ H q => by
  obtain ⟨L, st, F, al, fl, L', st', hL, hS, hf, q⟩ := q
  obtain ⟨r, h1, hf⟩ := Option.bind_eq_some_iff.mp hf
  obtain ⟨⟨x, s1⟩, h2, hf⟩ := Option.bind_eq_some_iff.mp hf
  obtain ⟨v, h3, h4⟩ := hL.at_ i r (lget_some h1)
  obtain ⟨F2, S2, g2, e2, R2⟩ := frz_ok hS h4 h2
  have hL2 := (hL.mono e2 g2).set i (r := .d x) (v := v) R2
  have hσ : σ.set i (some v) = σ := by
    refine List.ext_getElem? fun j => ?_
    by_cases e : i = j
    · subst e
      rw [List.getElem?_set_self (List.getElem?_eq_some_iff.mp h3).1, h3]
    · rw [List.getElem?_set_ne e]
  rw [hσ] at hL2
  exact tDS_run hL2 S2 hf fun σ1 H1 F1 al1 g1 e1 S1 L1 => q σ1 H1 F1 al1 (g2.trans g1) (e2.trans e1) S1 L1
end DL
/-! The D-layer, part 7: dicts with keys that are tuples. -/
namespace DL
open PySem L2

mutual
def keyOf : D → Option NestedKey
  | .non => some .none
  | .int i => some (.num i)
  | .str x => some (.text x)
  | .tup ds => (keysOf ds).map .tup
  | .bl _ => none
  | .lst _ => none
  | .ro _ => none
  | .dk _ => none
  | .dn _ => none
  | .obj _ _ => none
  | .fn _ => none
  | .ty _ => none
def keysOf : List D → Option (List NestedKey)
  | [] => some []
  | d :: ds => (keyOf d).bind fun x => (keysOf ds).map fun r => x :: r
end
mutual
def keyD : NestedKey → D
  | .none => .non
  | .num i => .int i
  | .text x => .str x
  | .tup ks => .tup (keysD ks)
def keysD : List NestedKey → List D
  | [] => []
  | k :: ks => keyD k :: keysD ks
end
section
variable {K : KW} {F H : Hp}
mutual
theorem Rep.ky : ∀ {d : D} {v : V} {k : NestedKey}, Rep K F d v → keyOf d = some k → RepKy K F k v
  | .non, v, k, h, e => by rw [Rep] at h; rw [keyOf] at e; cases e; rw [RepKy]; exact h
  | .int _, v, k, h, e => by rw [Rep] at h; rw [keyOf] at e; cases e; rw [RepKy]; exact h
  | .str _, v, k, h, e => by rw [Rep] at h; rw [keyOf] at e; cases e; rw [RepKy]; exact h
  | .tup ds, v, k, h, e => by
    rw [Rep] at h
    rw [keyOf] at e
    obtain ⟨ks, e1, rfl⟩ := Option.map_eq_some_iff.mp e
    obtain ⟨a, xs, h1, h2, h3⟩ := h
    rw [RepKy]
    exact ⟨a, xs, h1, h2, Reps.kys h3 e1⟩
  | .bl _, v, k, h, e => by rw [keyOf] at e; cases e
  | .lst _, v, k, h, e => by rw [keyOf] at e; cases e
  | .ro _, v, k, h, e => by rw [keyOf] at e; cases e
  | .dk _, v, k, h, e => by rw [keyOf] at e; cases e
  | .dn _, v, k, h, e => by rw [keyOf] at e; cases e
  | .obj _ _, v, k, h, e => by rw [keyOf] at e; cases e
  | .fn _, v, k, h, e => by rw [keyOf] at e; cases e
  | .ty _, v, k, h, e => by rw [keyOf] at e; cases e
theorem Reps.kys : ∀ {ds : List D} {vs : List V} {ks : List NestedKey}, Reps K F ds vs → keysOf ds = some ks → RepKys K F ks vs
  | [], vs, ks, h, e => by rw [Reps] at h; rw [keysOf] at e; cases e; rw [RepKys]; exact h
  | d :: ds, vs, ks, h, e => by
    rw [Reps] at h
    rw [keysOf] at e
    obtain ⟨v, r, h1, h2, h3⟩ := h
    obtain ⟨x, e1, e2⟩ := Option.bind_eq_some_iff.mp e
    obtain ⟨xs, e3, rfl⟩ := Option.map_eq_some_iff.mp e2
    rw [RepKys]
    exact ⟨v, r, h1, Rep.ky h2 e1, Reps.kys h3 e3⟩
end
mutual
theorem RepKy.rep : ∀ {k : NestedKey} {v : V}, RepKy K F k v → Rep K F (keyD k) v
  | .none, v, h => by rw [RepKy] at h; rw [keyD, Rep]; exact h
  | .num _, v, h => by rw [RepKy] at h; rw [keyD, Rep]; exact h
  | .text _, v, h => by rw [RepKy] at h; rw [keyD, Rep]; exact h
  | .tup ks, v, h => by
    rw [RepKy] at h
    obtain ⟨a, xs, h1, h2, h3⟩ := h
    rw [keyD, Rep]
    exact ⟨a, xs, h1, h2, RepKys.reps h3⟩
theorem RepKys.reps : ∀ {ks : List NestedKey} {vs : List V}, RepKys K F ks vs → Reps K F (keysD ks) vs
  | [], vs, h => by rw [RepKys] at h; rw [keysD, Reps]; exact h
  | k :: ks, vs, h => by
    rw [RepKys] at h
    obtain ⟨v, r, h1, h2, h3⟩ := h
    rw [keysD, Reps]
    exact ⟨v, r, h1, RepKy.rep h2, RepKys.reps h3⟩
end
end
section
variable {X : Cx} {pins : List (Addr × Obj)} {σ : St} {H : Hp} {s : Shared}
mutual
theorem ky_is (I : L2.Inv X pins σ H s) : ∀ {k : NestedKey} {v : V} {u : Value}, RepKy (kw X) H k v → RelV v u → NestedIs s.heap k u
  | .none, v, u, h, r => by rw [RepKy] at h; subst h; cases r; exact .none
  | .num i, v, u, h, r => by rw [RepKy] at h; subst h; obtain ⟨t, rfl⟩ := r; exact .int i t
  | .text i, v, u, h, r => by rw [RepKy] at h; subst h; obtain ⟨t, rfl⟩ := r; exact .text i t
  | .tup ks, v, u, h, r => by
    rw [RepKy] at h
    obtain ⟨a, xs, rfl, h2, h3⟩ := h
    cases r
    obtain ⟨its, rv, ⟨o, ho, hc, n, hd⟩, _⟩ := I.tuple h2
    exact .tup ho hc hd (kys_is I h3 rv)
theorem kys_is (I : L2.Inv X pins σ H s) : ∀ {ks : List NestedKey} {vs : List V} {us : List Value}, RepKys (kw X) H ks vs → Vals vs us → NestedAll s.heap ks us
  | [], vs, us, h, r => by rw [RepKys] at h; subst h; cases r; exact .nil
  | k :: ks, vs, us, h, r => by
    rw [RepKys] at h
    obtain ⟨v, rr, rfl, h2, h3⟩ := h
    cases r with
    | cons r1 r2 => exact .cons (ky_is I h2 r1) (kys_is I h3 r2)
end
theorem repN_is {F : Hp} (I : L2.Inv X pins σ H s) (e : Same F H) : ∀ {kvs : List (NestedKey × D)} {xs : List (NestedKey × Addr × Value)}, RepN (kw X) F kvs xs → ∀ x ∈ xs, (nestedKind X.prog X.w).is s.heap x.1 x.2.1
  | [], xs, h, x, hx => by rw [RepN] at h; subst h; cases hx
  | p :: kvs, xs, h, x, hx => by
    rw [RepN] at h
    obtain ⟨a, u, v, r, rfl, h2, h3, h4, h5, h6⟩ := h
    rcases List.mem_cons.mp hx with rfl | hx
    · exact ⟨ky_is I (RepKy.mono e _ _ h2) rfl, h3⟩
    · exact repN_is I e h6 x hx
/-- the dict as the library has it -/
theorem dn_of {F : Hp} (I : L2.Inv X pins σ H s) (e : Same F H) {a : Addr} {kvs : List (NestedKey × D)} {xs : List (NestedKey × Addr × Value)} (h : H a = some (dnO (kw X) a xs)) (r : RepN (kw X) F kvs xs) :
    s.heap.DictOfH (nestedKind X.prog X.w) a xs ∧ (a == sysModules) = false ∧ xs.length ≤ sizeLine := by
  obtain ⟨⟨h1, h2, h3, o, es, ep, h4, h5, h6, h7⟩, _⟩ := I.hok a _ h
  exact ⟨⟨o, es, ep, h4, h5, h6, h7, repN_is I e r, h3⟩, h1, h2⟩
/-- .. and back -/
theorem dn_ok {P : Program} {w : World} {H : Hp} {h : Heap} {K : KW} (hP : K.prog = P) (hw : K.w = w) {a : Addr} {xs : List (NestedKey × Addr × Value)} (hd : h.DictOfH (nestedKind P w) a xs) (hs : (a == sysModules) = false) (hz : xs.length ≤ sizeLine) : ObjOk P w H h a (dnO K a xs) := by
  subst hP hw
  obtain ⟨o, es, ep, h4, h5, h6, h7, _, h3⟩ := hd
  refine ⟨⟨hs, hz, h3, o, es, ep, h4, h5, h6, h7⟩, ⟨o, h4⟩, fun h1 h2 q k => ?_⟩
  obtain ⟨q1, q2, q3, o, es, ep, q4, q5, q6, q7⟩ := q
  exact ⟨q1, q2, q3, o, es, ep, k o q4, q5, q6, q7⟩
end

/-! ### look and store, as data -/
def lookN (kvs : List (NestedKey × D)) (k : NestedKey) : Option D := (kvs.find? fun p => decide (p.1 = k)).map (·.2)
def storeN (kvs : List (NestedKey × D)) (k : NestedKey) (x : D) : List (NestedKey × D) := if (lookN kvs k).isSome = true then kvs.map (fun p => if p.1 = k then (p.1, x) else p) else kvs ++ [(k, x)]
section
variable {K : KW} {F : Hp}
theorem repN_look : ∀ {kvs : List (NestedKey × D)} {xs : List (NestedKey × Addr × Value)} (k : NestedKey), RepN K F kvs xs → (atKey xs k = none ∧ lookN kvs k = none) ∨ ∃ a u x v, atKey xs k = some (a, u) ∧ lookN kvs k = some x ∧ RelV v u ∧ Rep K F x v ∧ RepKy K F k (.ref a)
  | [], xs, k, h => by
    rw [RepN] at h
    subst h
    exact .inl ⟨rfl, rfl⟩
  | p :: kvs, xs, k, h => by
    rw [RepN] at h
    obtain ⟨a, u, v, r, rfl, h2, h3, h4, h5, h6⟩ := h
    by_cases e : p.1 = k
    · refine .inr ⟨a, u, p.2, v, ?_, ?_, h4, h5, by rw [← e]; exact h2⟩
      · unfold atKey
        rw [List.find?_cons_of_pos (by simp [e])]
        rfl
      · unfold lookN
        rw [List.find?_cons_of_pos (by simp [e])]
        rfl
    · have e1 : atKey ((p.1, a, u) :: r) k = atKey r k := by
        unfold atKey
        rw [List.find?_cons_of_neg (by simp [e])]
      have e2 : lookN (p :: kvs) k = lookN kvs k := by
        unfold lookN
        rw [List.find?_cons_of_neg (by simp [e])]
      rw [e1, e2]
      exact repN_look k h6
theorem repN_put {x : D} {v : V} {u : Value} {k : NestedKey} (r : RelV v u) (q : Rep K F x v) : ∀ {kvs : List (NestedKey × D)} {xs : List (NestedKey × Addr × Value)}, RepN K F kvs xs → RepN K F (kvs.map fun p => if p.1 = k then (p.1, x) else p) (xs.map (putAt k u))
  | [], xs, h => by
    rw [RepN] at h
    subst h
    rw [List.map_nil, List.map_nil, RepN]
  | p :: kvs, xs, h => by
    rw [RepN] at h
    obtain ⟨a, w, v', rr, rfl, h2, h3, h4, h5, h6⟩ := h
    rw [List.map_cons, List.map_cons]
    unfold putAt
    by_cases e : p.1 = k
    · rw [if_pos e, if_pos e, RepN]
      exact ⟨a, u, v, _, rfl, h2, h3, r, q, repN_put r q h6⟩
    · rw [if_neg e, if_neg e, RepN]
      exact ⟨a, w, v', _, rfl, h2, h3, h4, h5, repN_put r q h6⟩
theorem repN_append {a : Addr} {x : D} {v : V} {u : Value} {k : NestedKey} (hk : RepKy K F k (.ref a)) (hd : k.depth ≤ 8) (r : RelV v u) (q : Rep K F x v) : ∀ {kvs : List (NestedKey × D)} {xs : List (NestedKey × Addr × Value)}, RepN K F kvs xs → RepN K F (kvs ++ [(k, x)]) (xs ++ [(k, a, u)])
  | [], xs, h => by
    rw [RepN] at h
    subst h
    rw [List.nil_append, List.nil_append, RepN]
    exact ⟨a, u, v, [], rfl, hk, hd, r, q, by rw [RepN]⟩
  | p :: kvs, xs, h => by
    rw [RepN] at h
    obtain ⟨a', w, v', rr, rfl, h2, h3, h4, h5, h6⟩ := h
    rw [List.cons_append, List.cons_append, RepN]
    exact ⟨a', w, v', _, rfl, h2, h3, h4, h5, repN_append hk hd r q h6⟩
theorem repN_store {kvs : List (NestedKey × D)} {xs : List (NestedKey × Addr × Value)} {a : Addr} {x : D} {v : V} {u : Value} {k : NestedKey} (h : RepN K F kvs xs) (hk : RepKy K F k (.ref a)) (hd : k.depth ≤ 8) (r : RelV v u) (q : Rep K F x v) : RepN K F (storeN kvs k x) (storedH xs k a u) := by
  unfold storeN storedH
  rcases repN_look k h with ⟨e1, e2⟩ | ⟨a', u', x', v', e1, e2, _⟩
  · rw [e1, e2, if_neg (by simp), if_neg (by simp)]
    exact repN_append hk hd r q h
  · rw [e1, e2]
    exact repN_put r q h
theorem repN_length : ∀ {kvs : List (NestedKey × D)} {xs : List (NestedKey × Addr × Value)}, RepN K F kvs xs → xs.length = kvs.length
  | [], xs, h => by rw [RepN] at h; subst h; rfl
  | p :: kvs, xs, h => by
    rw [RepN] at h
    obtain ⟨a', w, v', rr, rfl, h2, h3, h4, h5, h6⟩ := h
    rw [List.length_cons, List.length_cons, repN_length h6]
end

/-! ### the dict of a value: frozen, or a cell -/
def dnOf (st : Sto) (r : Lv) : Option (List (NestedKey × D)) := match lvD st r with
  | some (.dn kvs) => some kvs
  | _ => none
def keyLv : Lv → Option NestedKey
  | .d (.tup ds) => (keyOf (.tup ds)).bind fun k => if k.depth ≤ 8 then some k else none
  | _ => none
theorem keyLv_ok {K : KW} {F : Hp} {al : List Addr} {r : Lv} {v : V} {k : NestedKey} (R : LvR K F al r v) (h : keyLv r = some k) : ∃ a, v = .ref a ∧ RepKy K F k (.ref a) ∧ k.depth ≤ 8 := by
  unfold keyLv at h
  split at h
  · rename_i ds
    obtain ⟨k', e, h⟩ := Option.bind_eq_some_iff.mp h
    split at h
    · rename_i hd
      cases h
      have R : Rep K F (.tup ds) v := R
      have R2 := R.ky e
      rw [Rep] at R
      obtain ⟨a, xs, rfl, _⟩ := R
      exact ⟨a, rfl, R2, hd⟩
    · cases h
  · cases h
theorem dnOf_ok {K : KW} {F H : Hp} {al : List Addr} {st : Sto} {r : Lv} {v : V} {kvs : List (NestedKey × D)} (S : StR K F al st H) (R : LvR K F al r v) (h : dnOf st r = some kvs) : ∃ a xs, v = .ref a ∧ H a = some (dnO K a xs) ∧ RepN K F kvs xs := by
  unfold dnOf at h
  split at h
  · rename_i kvs' e
    cases h
    exact R.top S e
  · cases h
def kGetN : Lv → List Lv → Sto → Option (Lv × Sto) := fun o rs st => (dnOf st o).bind fun kvs => match rs with
  | [k] => (keyLv k).map fun q => (.d ((lookN kvs q).getD .non), st)
  | [k, .d x] => (keyLv k).map fun q => (.d ((lookN kvs q).getD x), st)
  | _ => none
def kInN (n : Bool) : K2 := fun k o st => (dnOf st o).bind fun kvs => (keyLv k).map fun q => (.d (.bl (if n then !(lookN kvs q).isSome else (lookN kvs q).isSome)), st)
def kIxN : K2 := fun o k st => (dnOf st o).bind fun kvs => (keyLv k).bind fun q => (lookN kvs q).map fun x => (.d x, st)
def kSetN : KSet := fun o k v st => match o, v with
  | .c i, .d x => match st[i]? with
    | some (.dn kvs) => (keyLv k).bind fun q => if kvs.length < sizeLine then some (st.set i (.dn (storeN kvs q x))) else none
    | _ => none
  | _, _ => none
def sDictN : SE := fun _ st => some (.c st.length, st ++ [.dn []])
def tyDn (K : KW) (v : V) (H : Hp) : Prop := ∃ a xs, v = .ref a ∧ H a = some (dnO K a xs)
def sMethN (k : Lv → List Lv → Sto → Option (Lv × Sto)) (fo : SE) (g : SA) : SE := fun L st => (fo L st).bind fun p => if (dnOf p.2 p.1).isSome = true then (g L p.2).bind fun q => k p.1 q.1 q.2 else none
section
variable {X : Cx}
theorem tyDn_ok : TyOk X "dict" (tyDn (kw X)) := by
  intro pins σ H s x v I r h
  obtain ⟨a, xs, rfl, h⟩ := h
  cases r
  obtain ⟨⟨h1, h2, h3, o, es, ep, h4, h5, h6, h7⟩, _⟩ := I.hok a _ h
  exact ⟨⟨o, h4, h5.1⟩, fun b e => by cases e; exact ⟨o, h4, h5.2.1⟩⟩
theorem m_getN (hu : X.A.units + 70 < cLine) : MtR X "dict.get" (rDM (kw X) kGetN) := by
  intro pins s σ H x xs v us Q I rx rxs h
  obtain ⟨a, rs, st, F, al, r, st', ha, hr, S, hk, q⟩ := h
  obtain ⟨kvs, h1, hk⟩ := Option.bind_eq_some_iff.mp hk
  obtain ⟨d, ys, rfl, h2, h3⟩ := dnOf_ok S ha h1
  obtain ⟨hd, hs, hz⟩ := dn_of I S.sub h2 h3
  cases rx
  have hroom : (nestedKind X.prog X.w).room X.A.in1 := by
    show X.A.units + 1 + 8 < cLine
    omega
  split at hk
  · rename_i k
    obtain ⟨k', e1, e2⟩ := Option.map_eq_some_iff.mp hk
    cases e2
    cases hr with
    | cons hr1 hr2 =>
      cases hr2
      obtain ⟨b, rfl, q1, q2⟩ := keyLv_ok hr1 e1
      cases rxs with
      | cons rx1 rx2 =>
        cases rx2
        cases rx1
        refine get_keyed hroom ⟨ky_is I (RepKy.mono S.sub _ _ q1) rfl, q2⟩ hs ⟨ys, hd, rfl⟩ ?_
        rw [PySem.valueAt_pairsH]
        rcases repN_look k' h3 with ⟨e1, e2⟩ | ⟨a', u', x', v', e1, e2, e3, e4, _⟩
        · rw [e1]
          exact ⟨.non, H, I.tok _, rfl, q _ H F al (Go.refl _ _ _) (Same.refl _) S (by rw [e2]; exact (show Rep (kw X) F .non .non from rep_none))⟩
        · rw [e1]
          exact ⟨v', H, I.tok _, e3, q _ H F al (Go.refl _ _ _) (Same.refl _) S (by rw [e2]; exact e4)⟩
  · rename_i k y
    obtain ⟨k', e1, e2⟩ := Option.map_eq_some_iff.mp hk
    cases e2
    cases hr with
    | cons hr1 hr2 =>
      cases hr2 with
      | cons hr2 hr3 =>
        cases hr3
        obtain ⟨b, rfl, q1, q2⟩ := keyLv_ok hr1 e1
        cases rxs with
        | cons rx1 rx2 =>
          cases rx2 with
          | cons rx2 rx3 =>
            cases rx3
            cases rx1
            refine getOr_keyed hroom ⟨ky_is I (RepKy.mono S.sub _ _ q1) rfl, q2⟩ hs ⟨ys, hd, rfl⟩ ?_
            rw [PySem.valueAt_pairsH]
            rcases repN_look k' h3 with ⟨e1, e2⟩ | ⟨a', u', x', v', e1, e2, e3, e4, _⟩
            · rw [e1]
              exact ⟨_, H, I.tok _, rx2, q _ H F al (Go.refl _ _ _) (Same.refl _) S (by rw [e2]; exact hr2)⟩
            · rw [e1]
              exact ⟨v', H, I.tok _, e3, q _ H F al (Go.refl _ _ _) (Same.refl _) S (by rw [e2]; exact e4)⟩
  · cases hk
theorem o_inN (hu : X.A.units + 70 < cLine) : OpR X (compareOp .In) (rD2 (kw X) (kInN false)) := by
  intro pins s σ H x y v u Q I rx ry h
  obtain ⟨a, b, st, F, al, r, st', S, ha, hb, hk, q⟩ := h
  obtain ⟨kvs, h1, hk⟩ := Option.bind_eq_some_iff.mp hk
  obtain ⟨k', e1, e2⟩ := Option.map_eq_some_iff.mp hk
  cases e2
  obtain ⟨d, ys, rfl, h2, h3⟩ := dnOf_ok S hb h1
  obtain ⟨hd, hs, hz⟩ := dn_of I S.sub h2 h3
  obtain ⟨b, rfl, q1, q2⟩ := keyLv_ok ha e1
  cases rx
  cases ry
  refine in_keyed (knd := nestedKind X.prog X.w) (by show X.A.units + 1 + 8 < cLine; omega) ⟨ky_is I (RepKy.mono S.sub _ _ q1) rfl, q2⟩ hs ⟨ys, hd, rfl⟩ ?_
  rw [PySem.valueAt_pairsH]
  rcases repN_look k' h3 with ⟨e1, e2⟩ | ⟨a', u', x', v', e1, e2, e3, e4, _⟩
  · rw [e1]
    exact ⟨.bl false, H, I.tok _, rfl, q _ H F al (Go.refl _ _ _) (Same.refl _) S (by rw [e2]; exact rep_bl)⟩
  · rw [e1]
    exact ⟨.bl true, H, I.tok _, rfl, q _ H F al (Go.refl _ _ _) (Same.refl _) S (by rw [e2]; exact rep_bl)⟩
theorem o_notinN (hu : X.A.units + 70 < cLine) : OpR X (compareOp .NotIn) (rD2 (kw X) (kInN true)) := by
  intro pins s σ H x y v u Q I rx ry h
  obtain ⟨a, b, st, F, al, r, st', S, ha, hb, hk, q⟩ := h
  obtain ⟨kvs, h1, hk⟩ := Option.bind_eq_some_iff.mp hk
  obtain ⟨k', e1, e2⟩ := Option.map_eq_some_iff.mp hk
  cases e2
  obtain ⟨d, ys, rfl, h2, h3⟩ := dnOf_ok S hb h1
  obtain ⟨hd, hs, hz⟩ := dn_of I S.sub h2 h3
  obtain ⟨b, rfl, q1, q2⟩ := keyLv_ok ha e1
  cases rx
  cases ry
  refine notIn_keyed (knd := nestedKind X.prog X.w) (by show X.A.units + 1 + 8 < cLine; omega) ⟨ky_is I (RepKy.mono S.sub _ _ q1) rfl, q2⟩ hs ⟨ys, hd, rfl⟩ ?_
  rw [PySem.valueAt_pairsH]
  rcases repN_look k' h3 with ⟨e1, e2⟩ | ⟨a', u', x', v', e1, e2, e3, e4, _⟩
  · rw [e1]
    exact ⟨.bl true, H, I.tok _, rfl, q _ H F al (Go.refl _ _ _) (Same.refl _) S (by rw [e2]; exact rep_bl)⟩
  · rw [e1]
    exact ⟨.bl false, H, I.tok _, rfl, q _ H F al (Go.refl _ _ _) (Same.refl _) S (by rw [e2]; exact rep_bl)⟩
theorem o_ixN (hu : X.A.units + 70 < cLine) : IxR X (rD2 (kw X) kIxN) := by
  intro e1 e2 pins s σ H x y v u Q I rx ry h hsub
  obtain ⟨a, b, st, F, al, r, st', S, ha, hb, hk, q⟩ := h
  obtain ⟨kvs, h1, hk⟩ := Option.bind_eq_some_iff.mp hk
  obtain ⟨k', f1, hk⟩ := Option.bind_eq_some_iff.mp hk
  obtain ⟨z, f2, f3⟩ := Option.map_eq_some_iff.mp hk
  cases f3
  obtain ⟨d, ys, rfl, h2, h3⟩ := dnOf_ok S ha h1
  obtain ⟨hd, hs, hz⟩ := dn_of I S.sub h2 h3
  obtain ⟨b, rfl, q1, q2⟩ := keyLv_ok hb f1
  cases rx
  cases ry
  rcases repN_look k' h3 with ⟨e1, e2⟩ | ⟨a', u', x', v', e1, e2, e3, e4, _⟩
  · rw [e2] at f2
    cases f2
  · rw [e2] at f2
    cases f2
    refine PyProof.Rows.subscriptTail_builtinR (x := u') (hd.typeIs) PySem.F.slot_dict_getitem.lookup ?_ hsub
    refine getItem_keyed (knd := nestedKind X.prog X.w) (by show X.A.units + 1 + 8 < cLine; omega) ⟨ky_is I (RepKy.mono S.sub _ _ q1) rfl, q2⟩ ⟨ys, hd, rfl⟩ (v := u') (by rw [PySem.valueAt_pairsH, e1]; rfl) ?_
    exact ⟨rfl, v', H, I.tok _, e3, q _ H F al (Go.refl _ _ _) (Same.refl _) S e4⟩
theorem dn_cell {K : KW} {F H : Hp} {al : List Addr} {st : Sto} {i : Nat} {kvs : List (NestedKey × D)} {a : Addr} (S : StR K F al st H) (h : st[i]? = some (.dn kvs)) (ha : al[i]? = some a) : ∃ xs, H a = some (dnO K a xs) ∧ RepN K F kvs xs ∧ F a = none := by
  rcases S.cell i _ a h ha with z | ⟨o, q1, q2, xs, rfl, q3⟩
  · cases z
  · exact ⟨xs, q1, q3, q2⟩
theorem storedH_len {xs : List (NestedKey × Addr × Value)} {k : NestedKey} {a : Addr} {u : Value} : (storedH xs k a u).length ≤ xs.length + 1 := by
  unfold storedH
  split
  · rw [List.length_map]
    omega
  · rw [List.length_append]
    exact Nat.le_refl _
theorem s_dictN (hu : X.A.units + 70 < cLine) : PSet X (rDSet (kw X) kSetN) := by
  intro pins s σ H o i v ov iv u Q I ro ri rv h
  obtain ⟨a, b, c, st, F, al, st', S, ha, hb, hc, hk, q⟩ := h
  unfold kSetN at hk
  split at hk
  · rename_i j x
    split at hk
    · rename_i kvs hi
      obtain ⟨k', e1, hk⟩ := Option.bind_eq_some_iff.mp hk
      split at hk
      · rename_i hz
        cases hk
        obtain ⟨a, ha, rfl⟩ := ha
        obtain ⟨ys, h1, h2, h3⟩ := dn_cell S hi ha
        obtain ⟨hd, hs, hz'⟩ := dn_of I S.sub h1 h2
        obtain ⟨b, rfl, q1, q2⟩ := keyLv_ok hb e1
        cases ro
        cases ri
        have hl : (storedH ys k' b u).length ≤ sizeLine := by
          have z1 := storedH_len (xs := ys) (k := k') (a := b) (u := u)
          have z2 := repN_length h2
          omega
        refine wpAny_setItem_heap (knd := nestedKind X.prog X.w) (hsz := hz') (by show X.A.units + 1 + 8 < cLine; omega) ⟨ky_is I (RepKy.mono S.sub _ _ q1) rfl, q2⟩ hd fun h' hd' hs' => ?_
        have hr := repN_store h2 q1 q2 rv hc
        obtain ⟨S2, g2⟩ := S.put (c := .dn (storeN kvs k' x)) (o := dnO (kw X) a (storedH ys k' b u)) ha h3 (.inr ⟨_, upd_same, h3, _, rfl, hr⟩)
        obtain ⟨oo, es, ep, h4, _⟩ := id hd'
        exact ⟨upd H a (dnO (kw X) a (storedH ys k' b u)), I.write (t' := s.toks + (nestedKind X.prog X.w).draws k') (x := a) (e := a) (by rw [h1]; trivial) (.inl rfl) (fun b o hb e => (hs'.2 b hb).trans e) ⟨oo, h4⟩ (dn_ok (H := upd H a (dnO (kw X) a (storedH ys k' b u))) rfl rfl hd' hs hl), q _ _ _ g2 (Same.refl _) S2⟩
      · cases hk
    · cases hk
  · cases hk
theorem de_dictN {pos : Pos} : PE X (.Dict [] [] pos) (tD (kw X) sDictN) := ⟨fun pins s σ H Q I h => by
  obtain ⟨L, st, F, al, r, st', hL, hS, hf, q⟩ := h
  cases hf
  have hfr := I.hok.fresh (Nat.le_refl s.heap.objs.size)
  obtain ⟨S2, g2, r2⟩ := hS.cell_new (c := .dn []) (o := dnO (kw X) s.heap.objs.size []) hfr (.inr ⟨_, upd_same, hS.sub.free hfr, [], rfl, by rw [RepN]⟩)
  have hb : (s.heap.objs.size == sysModules) = false := beq_eq_false_iff_ne.mpr (Ne.symm (Nat.ne_of_lt I.big))
  exact PySem.wpAny_Dict_empty ⟨.ref s.heap.objs.size, _, I.laid (a := s.heap.objs.size) (o := dnO (kw X) s.heap.objs.size []) (t' := s.toks) (fun _ _ q => Heap.get?_push_of_some _ q) (Nat.le_refl _) (dn_ok rfl rfl (Heap.DictOfH.new s.heap) hb (Nat.zero_le _)), rfl, q _ _ _ _ g2 (Same.refl _) S2 r2⟩⟩
section
variable {o e : Expr} {es : List Expr} {fo : SE} {g : SA} {k : Lv → List Lv → Sto → Option (Lv × Sto)} {name : Str} {apos cpos : Pos} {id : String}
theorem de_bmN (slot : Slot "dict" name id) (hty : typeOf (.builtin id) = pure (.type "method_descriptor")) (hm : MtR X id (rDM (kw X) k)) (ho : PE X o (tD (kw X) fo)) (ha : PA X (e :: es) (tDA (kw X) g))
    (hbase : attributeBase o name X.env (eval o X.env) = eval o X.env := by rfl)
    (hfew : ((backTo cpos (starEach (e :: es) X.env)).all (fun x => !x.1) && (backToKw cpos (keywordEach [] X.env)).all (fun x => x.1.isSome)
      && decide ((e :: es).length + ([] : List Keyword).length + (if ([] : List Keyword).isEmpty then 0 else 1) < 30)) = true := by rfl)
    (hline : (apos.endLine == cpos.line) = true := by rfl) (hs : starEach (e :: es) X.env = (false, eval e X.env) :: starEach es X.env := by rfl) (hplain : (backTo cpos (starEach es X.env)).any (·.1) = false := by rfl) :
    PE X (.Call (.Attribute o name apos) (e :: es) [] cpos) (tD (kw X) (sMethN k fo g)) := pe_imp (pe_mG tyDn_ok PySem.F.plainAttrs_dict slot hty hm ho ha hbase hfew hline hs hplain) fun σ H Q q => by
  obtain ⟨L, st, F, al, r, st', hL, hS, hf, q⟩ := q
  obtain ⟨⟨r0, s0⟩, h1, hf⟩ := Option.bind_eq_some_iff.mp hf
  refine tD_run hL hS h1 fun v H1 F1 al1 g1 e1 S1 R1 L1 => ?_
  simp only at hf
  split at hf
  · rename_i ht
    obtain ⟨kvs, hk⟩ := Option.isSome_iff_exists.mp ht
    obtain ⟨a, xs, k1, k2, _⟩ := dnOf_ok S1 R1 hk
    obtain ⟨⟨rs, s2⟩, h2, hf⟩ := Option.bind_eq_some_iff.mp hf
    refine ⟨⟨a, xs, k1, k2⟩, tDA_run L1 S1 h2 fun vs H2 F2 al2 g2 e2 S2 R2 _ => ?_⟩
    exact ⟨r0, rs, s2, F2, al2, r, st', R1.mono (kw X) e2 g2, R2, S2, hf, fun v H' F' al' g e S R => q v H' F' al' ((g1.trans g2).trans g) ((e1.trans e2).trans e) S R⟩
  · cases hf
end
end

/-! ### dict(list of pairs), the keys tuples: a frozen dict -/
def pairsOfD : List D → Option (List (NestedKey × D))
  | [] => some []
  | .tup [k, x] :: r => (keyLv (.d k)).bind fun q => (pairsOfD r).map fun z => (q, x) :: z
  | _ => none
def pDictN : List D → Option D
  | [.lst ds] => (pairsOfD ds).bind fun ps => if ps.length ≤ sizeLine then some (.dn (ps.foldl (fun acc p => storeN acc p.1 p.2) [])) else none
  | _ => none
section
variable {X : Cx} {pins : List (Addr × Obj)} {σ : St} {H F : Hp} {s : Shared}
/-- the pairs in the heap -/
theorem pairs_items (I : L2.Inv X pins σ H s) (sub : Same F H) : ∀ {ds : List D} {vs : List V} {its : List Value} {ps : List (NestedKey × D)}, Reps (kw X) F ds vs → Vals vs its → pairsOfD ds = some ps →
    ∃ (Ts : List Addr) (xs : List (NestedKey × Addr × Value)), RepN (kw X) F ps xs ∧ its = Ts.map Value.ref ∧ Ts.length = ps.length ∧ xs.length = ps.length ∧ ∀ (i : Nat) (k : NestedKey) (b : Addr) (u : Value), xs[i]? = some (k, b, u) → ∃ T, Ts[i]? = some T ∧ PairAt s.heap T (.ref b) u
  | [], _, _, ps, h, r, e => by
    rw [Reps] at h
    subst h
    cases r
    cases e
    exact ⟨[], [], by rw [RepN], rfl, rfl, rfl, fun i k b u h => by simp at h⟩
  | d :: ds, _, _, ps, h, r, e => by
    rw [Reps] at h
    obtain ⟨v, vr, rfl, h1, h2⟩ := h
    cases r with
    | cons r1 r2 =>
      unfold pairsOfD at e
      split at e
      · cases ‹_ = []›
      · rename_i k x rr hd
        obtain ⟨rfl, rfl⟩ := List.cons.inj hd
        obtain ⟨q, e1, e⟩ := Option.bind_eq_some_iff.mp e
        obtain ⟨ps', e2, rfl⟩ := Option.map_eq_some_iff.mp e
        obtain ⟨Ts, xs, k1, k2, k3, k4, k5⟩ := pairs_items I sub h2 r2 e2
        rw [Rep] at h1
        obtain ⟨T, ws, rfl, h3, h4⟩ := h1
        rw [Reps] at h4
        obtain ⟨kv, wr, rfl, h5, h6⟩ := h4
        rw [Reps] at h6
        obtain ⟨xv, wr2, rfl, h7, h8⟩ := h6
        rw [Reps] at h8
        subst h8
        obtain ⟨b, rfl, q1, q2⟩ := keyLv_ok (r := .d k) (al := []) h5 e1
        cases r1
        obtain ⟨its2, rv, ⟨o, ho, hc, n, hdt⟩, _⟩ := I.tuple (same_sqT sub h3)
        cases rv with
        | cons w1 w2 =>
          cases w2 with
          | cons w2 w3 =>
            cases w3
            cases w1
            rename_i u2
            refine ⟨T :: Ts, (q, b, u2) :: xs, ?_, by rw [List.map_cons, k2], by simp [k3], by simp [k4], fun i k0 b0 u0 h => ?_⟩
            · rw [RepN]
              exact ⟨b, u2, xv, xs, rfl, q1, q2, w2, h7, k1⟩
            · cases i with
              | zero =>
                simp only [List.getElem?_cons_zero, Option.some.injEq, Prod.mk.injEq] at h
                obtain ⟨rfl, rfl, rfl⟩ := h
                exact ⟨T, rfl, .inl ⟨o, ho, hc, n, hdt⟩⟩
              | succ i =>
                simp only [List.getElem?_cons_succ] at h
                simpa using k5 i k0 b0 u0 h
      · cases e
theorem repN_fold {K : KW} {F : Hp} : ∀ {ps : List (NestedKey × D)} {xs : List (NestedKey × Addr × Value)} {acc : List (NestedKey × D)} {ys : List (NestedKey × Addr × Value)}, RepN K F ps xs → RepN K F acc ys → RepN K F (ps.foldl (fun acc p => storeN acc p.1 p.2) acc) (storedAllH ys xs)
  | [], xs, acc, ys, h, h' => by
    rw [RepN] at h
    subst h
    exact h'
  | p :: ps, xs, acc, ys, h, h' => by
    rw [RepN] at h
    obtain ⟨a, u, v, r, rfl, h2, h3, h4, h5, h6⟩ := h
    rw [List.foldl_cons]
    unfold storedAllH
    rw [List.foldl_cons]
    exact repN_fold h6 (repN_store h' h2 h3 h4 h5)
end
theorem storeN_len {kvs : List (NestedKey × D)} {k : NestedKey} {x : D} : (storeN kvs k x).length ≤ kvs.length + 1 := by
  unfold storeN
  split
  · rw [List.length_map]
    omega
  · rw [List.length_append]
    exact Nat.le_refl _
theorem foldN_len : ∀ (ps acc : List (NestedKey × D)), (ps.foldl (fun acc p => storeN acc p.1 p.2) acc).length ≤ acc.length + ps.length
  | [], acc => by simp
  | p :: ps, acc => by
    rw [List.foldl_cons]
    have h1 := foldN_len ps (storeN acc p.1 p.2)
    have h2 := storeN_len (kvs := acc) (k := p.1) (x := p.2)
    rw [List.length_cons]
    omega
section
variable {X : Cx}
theorem c_dictN (hc : X.calm = true) (hu : X.A.units + 70 < cLine) : CallR X (.type "dict") (rDC (kw X) (kPs pDictN)) := callr_pure fun pins s σ H vs us Q I r q => by
  obtain ⟨F, al, st, ds0, r0, S, hx, hp, q⟩ := q
  unfold pDictN at hp
  split at hp
  · rename_i ds
    obtain ⟨v, rfl, h⟩ := repTs1 hx
    obtain ⟨ps, e1, hp⟩ := Option.bind_eq_some_iff.mp hp
    split at hp
    · rename_i hz
      cases hp
      obtain ⟨a, ys, rfl, h1, h2⟩ := h
      obtain ⟨its, rv, hl, hzl⟩ := I.list (SqL.of h1)
      obtain ⟨Ts, xs, k1, k2, k3, k4, k5⟩ := pairs_items I S.sub h2 rv e1
      rw [Vals.ref1 r]
      have hlen := k1
      refine PySem.call_dict_pairsH (knd := nestedKind X.prog X.w) (ps := xs) (PairArg.list a its.toArray (fun i => Ts.getD i 0) (xs.map fun x => (.ref x.2.1, x.2.2))) (I.ok.hd hc) (by show X.A.units + 1 + 1 + 8 < cLine; omega) ⟨hl, ?_⟩ ?_ ?_ (by rw [List.length_map, k4]; exact hz) fun h' tk hd' hk => ?_
      · refine ⟨by simp [k2, k3, k4], fun i k v hi => ?_⟩
        rw [List.getElem?_map] at hi
        obtain ⟨⟨k', b', u'⟩, z1, z2⟩ := Option.map_eq_some_iff.mp hi
        cases z2
        obtain ⟨T, z3, z4⟩ := k5 i k' b' u' z1
        have z5 : Ts.getD i 0 = T := by rw [List.getD_eq_getElem?_getD, z3]; rfl
        show its.toArray[i]? = some (.ref (Ts.getD i 0)) ∧ PairAt s.heap (Ts.getD i 0) (.ref b') u'
        rw [z5]
        refine ⟨?_, z4⟩
        rw [k2]
        simp [z3]
      · refine ⟨by rw [List.length_map], fun i key v hrel => ?_⟩
        have hrel : (xs.map fun x => ((Value.ref x.2.1 : Value), x.2.2))[i]? = some (key, v) := hrel
        rw [List.getElem?_map] at hrel
        obtain ⟨⟨k', b', u'⟩, z1, z2⟩ := Option.map_eq_some_iff.mp hrel
        cases z2
        exact ⟨k', b', z1, rfl⟩
      · intro h'' hk x hx
        have hi := repN_is I S.sub k1 x hx
        exact nestedKind_stays.stays (fun b o vs n hb hd => hk b o (Nat.ne_of_lt (Heap.lt_size hb)) (by simp) hb) hi
      · have hfr := I.hok.fresh (Nat.le_refl s.heap.objs.size)
        have hrep : RepN (kw X) F (ps.foldl (fun acc p => storeN acc p.1 p.2) []) (storedAllH [] xs) := repN_fold k1 (by rw [RepN])
        have hb : (s.heap.objs.size == sysModules) = false := beq_eq_false_iff_ne.mpr (Ne.symm (Nat.ne_of_lt I.big))
        have hl2 : (storedAllH ([] : List (NestedKey × Addr × Value)) xs).length ≤ sizeLine := by
          rw [repN_length hrep]
          have := foldN_len ps []
          simp only [List.length_nil] at this
          omega
        obtain ⟨S2, g2, f2⟩ := S.alloc hfr (dnO (kw X) s.heap.objs.size (storedAllH [] xs))
        refine ⟨.ref s.heap.objs.size, _, I.laid (a := s.heap.objs.size) (o := dnO (kw X) s.heap.objs.size (storedAllH [] xs)) (t' := tk) (fun b o e => hk b o (by simp) e) (Nat.le_refl _) (dn_ok rfl rfl hd' hb hl2), rfl, q _ _ _ g2 f2 S2 ?_⟩
        rw [Rep]
        exact ⟨_, _, rfl, upd_same, RepN.mono f2 _ _ hrep⟩
    · cases hp
  · cases hp
end
end DL
/-! The D-layer, part 8: chains, several targets, constants of the text, methods of texts, one rule or another. -/
namespace DL
open PySem L2

/-! ### a < b < c -/
def sChain (k k' : K2) (fa fb fc : SE) : SE := fun L st => (fa L st).bind fun x => (fb L x.2).bind fun y => (k x.1 y.1 y.2).bind fun z => (lvB z.1).bind fun c =>
  if c = true then (fc L z.2).bind fun w => k' y.1 w.1 w.2 else some (.d (.bl false), z.2)
section
variable {X : Cx} {a b c : Expr} {fa fb fc : SE} {k k' : K2} {op op' : CmpOp} {pos : Pos}
theorem chain_of {K : KW} {σ : St} {H : Hp} {Q : VK} (h : tD K (sChain k k' fa fb fc) σ H Q) : tChain (rD2 K k) (rD2 K k') (tD K fa) (tD K fb) (tD K fc) σ H Q := by
  obtain ⟨L, st, F, al, r, st', hL, hS, hf, q⟩ := h
  obtain ⟨⟨x, s1⟩, h1, hf⟩ := Option.bind_eq_some_iff.mp hf
  obtain ⟨⟨y, s2⟩, h2, hf⟩ := Option.bind_eq_some_iff.mp hf
  obtain ⟨⟨z, s3⟩, h3, hf⟩ := Option.bind_eq_some_iff.mp hf
  obtain ⟨d, h4, hf⟩ := Option.bind_eq_some_iff.mp hf
  refine tD_run hL hS h1 fun v H1 F1 al1 g1 e1 S1 R1 L1 => tD_run L1 S1 h2 fun w H2 F2 al2 g2 e2 S2 R2 L2 => ?_
  refine ⟨x, y, s2, F2, al2, z, s3, S2, R1.mono K e2 g2, R2, h3, fun u H3 F3 al3 g3 e3 S3 R3 => ⟨d, lvB_rep h4 R3, ?_⟩⟩
  have g := (g1.trans g2).trans g3
  have e := (e1.trans e2).trans e3
  cases d with
  | false =>
    rw [if_neg Bool.false_ne_true] at hf ⊢
    cases hf
    exact q _ H3 F3 al3 g e S3 rep_bl
  | true =>
    rw [if_pos rfl] at hf ⊢
    obtain ⟨⟨w', s4⟩, h5, hf⟩ := Option.bind_eq_some_iff.mp hf
    exact tD_run (L2.mono e3 g3) S3 h5 fun v4 H4 F4 al4 g4 e4 S4 R4 L4 => ⟨y, w', s4, F4, al4, r, st', S4, (R2.mono K e3 g3).mono K e4 g4, R4, hf, fun v' H' F' al' g' e' S' R' => q v' H' F' al' ((g.trans g4).trans g') ((e.trans e4).trans e') S' R'⟩
theorem de_chain (ho : OpR X (compareOp op) (rD2 (kw X) k)) (ho' : OpR X (compareOp op') (rD2 (kw X) k')) (ha : PE X a (tD (kw X) fa)) (hb : PE X b (tD (kw X) fb)) (hc : PE X c (tD (kw X) fc))
    (hm : lastMarks [op, op'] [b, c] = false := by with_unfolding_all rfl) : PE X (.Compare a [op, op'] [b, c] pos) (tD (kw X) (sChain k k' fa fb fc)) := pe_imp (pe_chain ho ho' ha hb hc hm) fun _ _ _ q => chain_of q
theorem db_chain (ho : OpR X (compareOp op) (rD2 (kw X) k)) (ho' : OpR X (compareOp op') (rD2 (kw X) k')) (ha : PE X a (tD (kw X) fa)) (hb : PE X b (tD (kw X) fb)) (hc : PE X c (tD (kw X) fc))
    (hm : lastMarks [op, op'] [b, c] = false := by with_unfolding_all rfl) : PT X (.Compare a [op, op'] [b, c] pos) (tDB (kw X) (bOf (sChain k k' fa fb fc))) := pt_imp (pt_chain ho ho' ha hb hc hm) fun _ _ _ q => bOf_of q fun _ q => chain_of q
end

/-! ### a, b = x, y with plain local names -/
def setAll (L : Loc) : List Nat → List Lv → Option Loc
  | [], [] => some L
  | i :: is, r :: rs => setAll (L.set i (some r)) is rs
  | _, _ => none
def xPar (is : List Nat) (g : SA) : SS := fun L st => (g L st).bind fun p => (setAll L is p.1).map fun L' => (.nx, L', p.2)
section
variable {X : Cx}
theorem ds_par2 {i j : Nat} {x y : Str} {a b : Expr} {g : SA} {px py pt pos : Pos} {kt k2 pt2} (hc : X.calm = true) (hN : X.N.Nodup) (hi : X.N[i]? = some x) (hj : X.N[j]? = some y) (hij : i ≠ j)
    (hx : X.env.scope.names.lookup x = some .local) (hy : X.env.scope.names.lookup y = some .local) (ha : PA X [a, b] (tDA (kw X) g))
    (hw : swappedStores [.Tuple [.Name x px, .Name y py] kt pt] (.Tuple [a, b] k2 pt2) X.env = pure (some [x, y]))
    (hs : swapsWithSole [.Tuple [.Name x px, .Name y py] kt pt] (.Tuple [a, b] k2 pt2) pos.line X.env = pure false := by rfl) :
    PS X (.Assign [.Tuple [.Name x px, .Name y py] kt pt] (.Tuple [a, b] k2 pt2) pos) (tDS (kw X) (xPar [i, j] g)) := ps_imp (ps_par hc hN hi hj hij hx hy ha hw hs) fun E σ H q => by
  obtain ⟨L, st, F, al, fl, L', st', hL, hS, hf, q⟩ := q
  obtain ⟨⟨rs, s1⟩, h1, hf⟩ := Option.bind_eq_some_iff.mp hf
  obtain ⟨L1, h2, h3⟩ := Option.map_eq_some_iff.mp hf
  cases h3
  refine tDA_run hL hS h1 fun vs H1 F1 al1 g1 e1 S1 R1 LL => ?_
  cases R1 with
  | nil => cases h2
  | cons r1 R1 =>
    cases R1 with
    | nil => cases h2
    | cons r2 R1 =>
      cases R1 with
      | cons _ _ => cases h2
      | nil =>
        cases h2
        exact ⟨_, _, rfl, q _ H1 F1 al1 g1 e1 S1 ((LL.set i r1).set j r2)⟩
theorem ds_par3 {i j l : Nat} {x y z : Str} {a b c : Expr} {g : SA} {px py pz pt pos : Pos} {kt k2 pt2} (hc : X.calm = true) (hN : X.N.Nodup) (hi : X.N[i]? = some x) (hj : X.N[j]? = some y) (hl : X.N[l]? = some z) (hij : i ≠ j) (hil : i ≠ l) (hjl : j ≠ l)
    (hx : X.env.scope.names.lookup x = some .local) (hy : X.env.scope.names.lookup y = some .local) (hz : X.env.scope.names.lookup z = some .local) (ha : PA X [a, b, c] (tDA (kw X) g))
    (hw : swappedStores [.Tuple [.Name x px, .Name y py, .Name z pz] kt pt] (.Tuple [a, b, c] k2 pt2) X.env = pure (some [x, y, z]))
    (hs : swapsWithSole [.Tuple [.Name x px, .Name y py, .Name z pz] kt pt] (.Tuple [a, b, c] k2 pt2) pos.line X.env = pure false := by rfl) :
    PS X (.Assign [.Tuple [.Name x px, .Name y py, .Name z pz] kt pt] (.Tuple [a, b, c] k2 pt2) pos) (tDS (kw X) (xPar [i, j, l] g)) := ps_imp (ps_par3 hc hN hi hj hl hij hil hjl hx hy hz ha hw hs) fun E σ H q => by
  obtain ⟨L, st, F, al, fl, L', st', hL, hS, hf, q⟩ := q
  obtain ⟨⟨rs, s1⟩, h1, hf⟩ := Option.bind_eq_some_iff.mp hf
  obtain ⟨L1, h2, h3⟩ := Option.map_eq_some_iff.mp hf
  cases h3
  refine tDA_run hL hS h1 fun vs H1 F1 al1 g1 e1 S1 R1 LL => ?_
  cases R1 with
  | nil => cases h2
  | cons r1 R1 =>
    cases R1 with
    | nil => cases h2
    | cons r2 R1 =>
      cases R1 with
      | nil => cases h2
      | cons r3 R1 =>
        cases R1 with
        | cons _ _ => cases h2
        | nil =>
          cases h2
          exact ⟨_, _, _, rfl, q _ H1 F1 al1 g1 e1 S1 (((LL.set i r1).set j r2).set l r3)⟩
end

/-! ### name += e, ints -/
def augI : Lv → Lv → Option Int
  | .d (.int a), .d (.int b) => some (a + b)
  | _, _ => none
theorem augI_some {r s : Lv} {n : Int} (h : augI r s = some n) : ∃ a b, r = .d (.int a) ∧ s = .d (.int b) ∧ n = a + b := by
  unfold augI at h
  split at h
  · cases h
    exact ⟨_, _, rfl, rfl, rfl⟩
  · cases h
def xAugI (i : Nat) (f : SE) : SS := fun L st => (lget L i).bind fun r => (f L st).bind fun p => (augI r p.1).map fun n => (.nx, L.set i (some (.d (.int n))), p.2)
theorem ds_augI {X : Cx} {i : Nat} {x : Str} {e : Expr} {f : SE} {pos pos' : Pos} (hN : X.N.Nodup) (hi : X.N[i]? = some x) (hx : L2.Loc X.env.scope x) (he : PE X e (tD (kw X) f)) (hf : X.fn x = true ∨ X.env.scope.names.lookup x = some .local := by first | exact .inl rfl | exact .inr rfl | assumption) :
    PS X (.AugAssign (.Name x pos') .Add e pos) (tDS (kw X) (xAugI i f)) := ps_imp (ps_aug hN hi hx he ip_add hf) fun E σ H q => by
  obtain ⟨L, st, F, al, fl, L', st', hL, hS, hf, q⟩ := q
  obtain ⟨r, h1, hf⟩ := Option.bind_eq_some_iff.mp hf
  obtain ⟨⟨p, s1⟩, h2, hf⟩ := Option.bind_eq_some_iff.mp hf
  obtain ⟨n, h5, hf⟩ := Option.map_eq_some_iff.mp hf
  cases hf
  obtain ⟨a, b, rfl, e5, rfl⟩ := augI_some h5
  obtain ⟨v, h3, h4⟩ := hL.at_ i _ (lget_some h1)
  have h4 : Rep (kw X) F (.int a) v := h4
  rw [Rep] at h4
  subst h4
  refine ⟨_, h3, tD_run hL hS h2 fun w H1 F1 al1 g1 e1 S1 R1 L1 => ?_⟩
  have e5 : p = .d (.int b) := e5
  rw [e5] at R1
  have R1 : Rep (kw X) F1 (.int b) w := R1
  rw [Rep] at R1
  exact ⟨a, b, rfl, R1, q _ H1 F1 al1 g1 e1 S1 (L1.set i (r := .d (.int (a + b))) (v := .int (a + b)) (show Rep (kw X) F1 (.int (a + b)) (.int (a + b)) from rep_int))⟩

/-! ### constants of the text -/
def Gc (K : KW) (mg : Str → Option Value) (x : Str) (d : D) : Prop := ∃ u v, mg x = some u ∧ RelV v u ∧ ∀ F, Rep K F d v
theorem de_gc {X : Cx} {x : Str} {d : D} {pos : Pos} (hg : Gl X x) (h : Gc (kw X) X.mg x d) (hd : (x == ("__debug__" : Str)) = false := by decide) : PE X (.Name x pos) (tD (kw X) (sC d)) := by
  obtain ⟨u, v, h1, h2, h3⟩ := h
  exact de_c (pe_glob hg h1 h2 hd) h3
theorem gc_str {K : KW} {mg : Str → Option Value} {x y : Str} {t : Tok} (h : mg x = some (.str y t)) : Gc K mg x (.str y) := ⟨_, .str y, h, ⟨t, rfl⟩, fun _ => rep_str⟩
theorem gc_int {K : KW} {mg : Str → Option Value} {x : Str} {i : Int} {t : Tok} (h : mg x = some (.int i t)) : Gc K mg x (.int i) := ⟨_, .int i, h, ⟨t, rfl⟩, fun _ => rep_int⟩
/-- a value that stands in the written part -/
def KRep (K : KW) (d : D) (u : Value) : Prop := ∃ v, RelV v u ∧ ∀ F, Rep K F d v
inductive KReps (K : KW) : List D → List Value → Prop
  | nil : KReps K [] []
  | cons {d : D} {u : Value} {ds : List D} {us : List Value} : KRep K d u → KReps K ds us → KReps K (d :: ds) (u :: us)
theorem KReps.get {K : KW} : ∀ {ds : List D} {us : List Value}, KReps K ds us → ∃ vs, Vals vs us ∧ ∀ F, Reps K F ds vs
  | _, _, .nil => ⟨[], .nil, fun _ => Reps.nil⟩
  | _, _, .cons ⟨v, r, h⟩ t => by
    obtain ⟨vs, q1, q2⟩ := t.get
    exact ⟨v :: vs, .cons r q1, fun F => Reps.cons (h F) (q2 F)⟩
theorem kr_str {K : KW} {y : Str} {t : Tok} : KRep K (.str y) (.str y t) := ⟨.str y, ⟨t, rfl⟩, fun _ => rep_str⟩
theorem kr_int {K : KW} {i : Int} {t : Tok} : KRep K (.int i) (.int i t) := ⟨.int i, ⟨t, rfl⟩, fun _ => rep_int⟩
theorem gc_tup {K : KW} {mg : Str → Option Value} {x : Str} {a : Addr} {o : Obj} {its : Array Value} {n : Nat} {ds : List D} (h : mg x = some (.ref a)) (l : K.k.lookup a = some o) (hc : o.cls = .type "tuple") (hd : o.data = .seq its n) (hz : its.size ≤ sizeLine) (r : KReps K ds its.toList) : Gc K mg x (.tup ds) := by
  obtain ⟨vs, r1, r2⟩ := r.get
  exact ⟨_, .ref a, h, rfl, fun F => Rep.tup_of (.inr ⟨o, its, n, l, hc, hd, hz, r1⟩) (r2 F)⟩

/-! ### a def of the text, to be called -/
structure Cl (K : PySem.W.Frag) (mg : Str → Option Value) (x : Str) (st : Stmt) (ps : List Str) (f : Addr) (fd : FuncData) : Prop where
  fn : Fun K x x st f fd
  at_ : mg x = some (.ref f)
  b : Binds K fd ps []
/-- the rule for a def, once more -/
theorem fn_okK {K : KW} {mg : Str → Option Value} {base : Heap} {x : Str} {s : Stmt} {f : Addr} {fd : FuncData} {N ps : List Str} {k : Nat} {body : SS} (C : Cl K.k mg x s ps f fd) (S : FnScope N ps (defScope s))
    (hb : ∀ (cdv : Value) (A : Around) (outer : List Env) (s0 : Shared) (H : Hp) (E : XK), Room k (A.deeper (PyProof.Rows.envOfC x (defScope s) s0.heap.objs.size f cdv)) →
      PSs (cxOf CX0 K.prog K.w K.k mg base N x (defScope s) f cdv A outer s0 H E).nox (defBody s) (tDS K body)) : FnOk K.prog K.w K.k mg base CX0 (k + 1) f fd ps (spF K (fnD ps.length N.length body)) :=
  fn_ok C.fn S hb
/-- no promise -/
theorem fn_none {K : KW} {mg : Str → Option Value} {base : Heap} {f : Addr} {fd : FuncData} {ps : List Str} {k : Nat} : FnOk K.prog K.w K.k mg base CX0 k f fd ps (spF K fun _ _ => none) := by
  have no : ∀ {vs : List V} {H : Hp} {Q : VK} {E : XK}, ¬ spF K (fun _ _ => none) vs H Q E := fun h => by
    obtain ⟨_, _, _, _, _, _, _, _, h, _⟩ := h
    cases h
  exact ⟨fun vs H Q E h => (no h).elim, fun A outer s H args us vs Q E _ _ _ _ h => (no h).elim⟩
theorem de_callC {X : Cx} {x : Str} {st : Stmt} {ps : List Str} {f : Addr} {fd : FuncData} {k j : Nat} {sf : SF} {g : SA} {e : Expr} {es : List Expr} {p pos : Pos} (C : Cl X.K X.mg x st ps f fd) (F : FnOk X.prog X.w X.K X.mg X.base CX0 k f fd ps (spF (kw X) sf)) (hr : Room j X.A) (hk : k ≤ j) (hg : Gl X x)
    (ha : PA X (e :: es) (tDA (kw X) g)) (hdb : (x == ("__debug__" : Str)) = false := by decide) (hs : starEach (e :: es) X.env = (false, eval e X.env) :: starEach es X.env := by rfl) (hpl : (backTo pos (starEach es X.env)).any (·.1) = false := by rfl) :
    PE X (.Call (.Name x p) (e :: es) [] pos) (tD (kw X) (sCall sf g)) := de_call F (hr.mono hk) hg C.at_ C.fn.kp C.b ha hdb hs hpl
theorem de_callC0 {X : Cx} {x : Str} {st : Stmt} {ps : List Str} {f : Addr} {fd : FuncData} {k j : Nat} {sf : SF} {p pos : Pos} (C : Cl X.K X.mg x st ps f fd) (F : FnOk X.prog X.w X.K X.mg X.base CX0 k f fd ps (spF (kw X) sf)) (hr : Room j X.A) (hk : k ≤ j) (hg : Gl X x) (hdb : (x == ("__debug__" : Str)) = false := by decide) :
    PE X (.Call (.Name x p) [] [] pos) (tD (kw X) (sCall sf aNil)) := de_call0 F (hr.mono hk) hg C.at_ C.fn.kp C.b hdb
theorem room70 {k : Nat} {A : Around} (h : Room k A) : A.units + 70 < cLine := by have := h.un; omega
theorem room65 {k : Nat} {A : Around} (h : Room k A) : A.units + 65 < cLine := by have := h.un; omega
theorem room64 {k : Nat} {A : Around} (h : Room k A) : A.units + 64 < cLine := by have := h.un; omega

/-! ### methods of texts -/
def kSplit : Lv → List Lv → Sto → Option (Lv × Sto) := fun o rs st => match o, rs with
  | .d (.str a), [.d (.str b)] => if (b.length == 0) = false ∧ a.length + 2 ≤ sizeLine then some (.d (.lst ((Txt.split a b).map .str)), st) else none
  | _, _ => none
def strsOf : List D → Option (List Str)
  | [] => some []
  | .str x :: r => (strsOf r).map (x :: ·)
  | _ => none
def kJoin : Lv → List Lv → Sto → Option (Lv × Sto) := fun o rs st => match o, rs with
  | .d (.str a), [.d (.lst ds)] => (strsOf ds).bind fun ys => if (ys.map (·.length)).sum + ys.length * a.length ≤ 16777216 then some (.d (.str (Txt.join a ys)), st) else none
  | _, _ => none
theorem reps_strs {K : KW} {F : Hp} : ∀ (ys : List Str), Reps K F (ys.map D.str) (ys.map V.str)
  | [] => Reps.nil
  | y :: ys => Reps.cons rep_str (reps_strs ys)
theorem reps_strsOf {K : KW} {F : Hp} : ∀ {ds : List D} {vs : List V} {ys : List Str}, Reps K F ds vs → strsOf ds = some ys → vs = ys.map V.str
  | [], _, _, h, e => by
    rw [Reps] at h
    cases e
    exact h
  | d :: ds, _, bs, h, e => by
    rw [Reps] at h
    obtain ⟨v, r, rfl, h1, h2⟩ := h
    cases d with
    | str b =>
      obtain ⟨bs', e1, rfl⟩ := Option.map_eq_some_iff.mp e
      rw [Rep] at h1
      rw [h1, reps_strsOf h2 e1, List.map_cons]
    | _ => cases e
section
variable {X : Cx}
theorem m_split : MtR X "str.split" (rDM (kw X) kSplit) := by
  intro pins s σ H x xs v us Q I rx rxs h
  obtain ⟨a, rs, st, F, al, r, st', ha, hr, S, hk, q⟩ := h
  unfold kSplit at hk
  split at hk
  · rename_i a b
    split at hk
    · rename_i hz
      cases hk
      obtain ⟨w, rfl, hw⟩ := lvs1 hr
      have ha : Rep (kw X) F (.str a) x := ha
      rw [Rep] at ha hw
      subst ha hw
      refine mt_split pins s σ H _ _ v us Q I rx rxs ⟨a, b, rfl, rfl, hz.1, hz.2, fun p np => ?_⟩
      obtain ⟨S2, g2, e2⟩ := S.alloc np (.lst ((Txt.split a b).map V.str))
      exact q _ _ _ _ g2 e2 S2 (Rep.lst_of (ds := (Txt.split a b).map D.str) upd_same (reps_strs _))
    · cases hk
  · cases hk
theorem m_join : MtR X "str.join" (rDM (kw X) kJoin) := by
  intro pins s σ H x xs v us Q I rx rxs h
  obtain ⟨a, rs, st, F, al, r, st', ha, hr, S, hk, q⟩ := h
  unfold kJoin at hk
  split at hk
  · rename_i a ds
    obtain ⟨ys, e1, hk⟩ := Option.bind_eq_some_iff.mp hk
    split at hk
    · rename_i hz
      cases hk
      obtain ⟨w, rfl, hw⟩ := lvs1 hr
      have ha : Rep (kw X) F (.str a) x := ha
      rw [Rep] at ha
      rw [Rep] at hw
      subst ha
      obtain ⟨p, zs, rfl, h1, h2⟩ := hw
      have := reps_strsOf h2 e1
      subst this
      exact mt_join pins s σ H _ _ v us Q I rx rxs ⟨a, p, ys, rfl, rfl, .inl (SqL.of (S.sub _ _ h1)), hz, q _ H F al (Go.refl _ _ _) (Same.refl _) S (show Rep (kw X) F (.str _) _ from rep_str)⟩
    · cases hk
  · cases hk
end

/-! ### one or the other -/
def kOr (k k' : K2) : K2 := fun a b st => match k a b st with
  | some r => some r
  | none => k' a b st
theorem kOr_of {K : KW} {k k' : K2} {x y : V} {H : Hp} {Q : VK} (h : rD2 K (kOr k k') x y H Q) : rD2 K k x y H Q ∨ rD2 K k' x y H Q := by
  obtain ⟨a, b, st, F, al, r, st', S, h1, h2, h3, q⟩ := h
  unfold kOr at h3
  split at h3
  · rename_i r' e
    cases h3
    exact .inl ⟨a, b, st, F, al, r, st', S, h1, h2, e, q⟩
  · exact .inr ⟨a, b, st, F, al, r, st', S, h1, h2, h3, q⟩
def iOr (f g : SI) : SI := fun L st => match f L st with
  | some r => some r
  | none => g L st
section
variable {X : Cx} {k k' : K2}
theorem opr_or {f : Value → Value → Sem Value} (h : OpR X f (rD2 (kw X) k)) (h' : OpR X f (rD2 (kw X) k')) : OpR X f (rD2 (kw X) (kOr k k')) := fun pins s σ H x y v u Q I r1 r2 q => (kOr_of q).elim (fun q => h pins s σ H x y v u Q I r1 r2 q) fun q => h' pins s σ H x y v u Q I r1 r2 q
theorem ixr_or (h : IxR X (rD2 (kw X) k)) (h' : IxR X (rD2 (kw X) k')) : IxR X (rD2 (kw X) (kOr k k')) := fun e1 e2 pins s σ H x y v u Q I r1 r2 q hs => (kOr_of q).elim (fun q => h e1 e2 pins s σ H x y v u Q I r1 r2 q hs) fun q => h' e1 e2 pins s σ H x y v u Q I r1 r2 q hs
theorem di_or {tg e : Expr} {f g : SI} (h : PI X tg e (tDI (kw X) f)) (h' : PI X tg e (tDI (kw X) g)) : PI X tg e (tDI (kw X) (iOr f g)) := ⟨fun pins s σ H R I q => by
  obtain ⟨L, st, F, al, ds, st', hL, hS, hf, q⟩ := q
  unfold iOr at hf
  split at hf
  · rename_i r' e
    cases hf
    exact h.run pins s σ H R I ⟨L, st, F, al, ds, st', hL, hS, e, q⟩
  · exact h'.run pins s σ H R I ⟨L, st, F, al, ds, st', hL, hS, hf, q⟩⟩
/-- a list or a tuple -/
abbrev iSeq (f : SE) : SI := iOr (iLst f) (iTupD f)
theorem di_seq {tg e : Expr} {f : SE} (h : PE X e (tD (kw X) f)) : PI X tg e (tDI (kw X) (iSeq f)) := di_or (di_lst h) (di_tup h)
end
/-! unpacking a frozen list into names -/
def gUn (n : Nat) (gs : SGs) : SG := fun lv L st => match lv with
  | .d (.lst ds) => if ds.length = n then gs ds L st else none
  | _ => none
theorem dg_unl {X : Cx} {es : List Expr} {gs : SGs} {pos : Pos} {k n : Nat} (hc : X.calm = true) (h : PGs X es (tDGs (kw X) gs)) (hn : (assignEach es X.env).length = n := by rfl) (hst : (assignEach es X.env).findIdx? (·.1) = none := by rfl) : PG X (.Tuple es k pos) (tDG (kw X) (gUn n gs)) :=
  pg_imp (pg_unl hc h hn hst) fun v σ H Q q => by
  obtain ⟨lv, L, st, F, al, L', st', hv, hL, hS, hf, q⟩ := q
  cases lv with
  | c i => cases hf
  | d x =>
    cases x with
    | lst ds =>
      have hf : (if ds.length = n then gs ds L st else none) = some (L', st') := hf
      by_cases hz : ds.length = n
      · rw [if_pos hz] at hf
        have hv : Rep (kw X) F (.lst ds) v := hv
        rw [Rep] at hv
        obtain ⟨a, xs, rfl, h2, h3⟩ := hv
        exact ⟨a, xs, rfl, SqL.of (hS.sub _ _ h2), by rw [h3.length]; exact hz, ds, L, st, F, al, L', st', h3, hL, hS, hf, q⟩
      · rw [if_neg hz] at hf
        cases hf
    | _ => cases hf
end DL
namespace DL
open PySem L2
/-- as many turns as a number says, and one more -/
def fuelI (i : Nat) : Loc → Sto → Nat := fun L _ => match lget L i with
  | some (.d (.int n)) => n.toNat + 1
  | _ => 0
/-- the law's own promise -/
def spLaw (K : PySem.W.Frag) : Sp := fun vs H Q _ => ∃ (a : Addr) (ns : List Int), vs = [.ref a] ∧ SqL K H a (ns.map V.int) ∧ ns.length ≤ 63 ∧ ∀ H', Q (.bl true) H'
theorem reps_of_ints {K : KW} {F : Hp} : ∀ (ys : List Int), Reps K F (ys.map D.int) (ys.map V.int)
  | [] => Reps.nil
  | y :: ys => Reps.cons rep_int (reps_of_ints ys)
theorem law_imp {P : Program} {w : World} {K : PySem.W.Frag} {mg : Str → Option Value} {base : Heap} {k : Nat} {f : Addr} {fd : FuncData} {ps : List Str} {sf : SF} (h : ∀ ns : List Int, ns.length ≤ 63 → sf [.d (.ro (ns.map .int))] [] = some (.d (.bl true), []))
    (F : FnOk P w K mg base CX0 k f fd ps (spF ⟨K, P, w⟩ sf)) : FnOk P w K mg base CX0 k f fd ps (spLaw K) := F.imp fun vs H Q E q => by
  obtain ⟨a, ns, rfl, hS, hl, q⟩ := q
  refine ⟨[.d (.ro (ns.map .int))], [], H, [], _, _, .cons ?_ .nil, ⟨Same.refl _, rfl, fun i c a h => by simp at h, fun i j a h => by simp at h, fun a h => by simp at h⟩, h ns hl, fun v H' F' al' _ _ _ R => ?_⟩
  · show Rep ⟨K, P, w⟩ H (.ro (ns.map .int)) (.ref a)
    rw [Rep]
    exact ⟨a, _, rfl, hS, reps_of_ints ns⟩
  · have R : Rep ⟨K, P, w⟩ F' (.bl true) v := R
    rw [Rep] at R
    subst R
    exact q H'
end DL
/-! The shallow functions of the defs (printed by dgen.py, a program of mine). -/
namespace Lk42
open PySem L2 DL
abbrev k_QUIET : D := .str "o"
abbrev k_FIRE : D := .str "f"
abbrev k_LINES : D := .tup [.str "- g o ga, o g o ga, o g g ga, g g o ga, - g - f, p g p f, p g g f, g g p f", .str "- ga r gb, l ga r gb, l ga ga gb, ga ga r gb, - ga h f", .str "- gb o p, o gb o p, o gb gb p, gb gb o p", .str "r p l h, - p l h, r p - h, r p p h, p p l h", .str "- p g f, g p - f, g p g f, g p p f, p p g f", .str "o h o p, o h - p, - h o p, o h h p, h h o p, ga h - f", .str "g o o r, g o p r, r o o r, r o p r, h o o r, h o la r, r o la r", .str "o o g l, p o g l, o o l l, p o l l, o o h l, ra o h l, ra o l l", .str "gb o h g, h o gb g, rc o l g, r o lc g", .str "gb o r ra, rc o o ra, l o gb la, o o lc la", .str "r o - h, g o - h", .str "ga r o o, ga r p o, o r o o, o r p o, p r o o, p r lb g, o r lb g", .str "o l ga o, p l ga o, o l o o, p l o o, o l p o, rb l p g, rb l o g", .str "p ra o rb, o ra o rb, p rb o rc, o rb o rc, p rb l g, o rb l g, p rc o o, o rc o o", .str "o la p lb, o la o lb, o lb p lc, o lb o lc, r lb p g, r lb o g, o lc p o, o lc o o", .str "o w o wa, o wa r wb, o wb o p, r wb o k", .str "w o o r, r o wa r, r o wb r, wa r o o, o r wb o, wb o r ra", .str "r p ra k, r p rb k, r p rc k, r p o k", .str "o k ra p, o k rb p, o k rc p, o k o p", .str "o o k l, ra o k l, k ra o rb, k rb o rc, k rc o o", .str "o o m m, - o m m, o m o o, o m - o, - m o g, - m - g"]
abbrev k_LEAST_CUT : D := .int 3
abbrev k_RIGHT : D := .tup [.str "r", .str "ra", .str "rb", .str "rc"]
abbrev k_LEFT : D := .tup [.str "l", .str "la", .str "lb", .str "lc"]
abbrev k_POSTS : D := .tup [.str "g", .str "ga", .str "gb", .str "p"]
def b_ones : SS := xSeq (xSet 1 (sC (.int 0))) (xSeq (xWhile (fuelI 0) (bOf (sBin (kP2 pGt) (sVar 0) (sC (.int 0)))) (xSeq (xAsg (sCall (kPs pDivmod) (aCons (sVar 0) (aCons (sC (.int 2)) (aNil)))) (gTu 2 (gsCons (gN 0) (gsCons (gN 2) (gsNil))))) (xAugI 1 (sVar 2)))) (xRet (sVar 1)))
def f_ones : SF := fnD 1 3 b_ones
def b_row_beat : SS := xSeq (xIf (bOf (sBin (kP2 pLt) (sVar 0) (sC (.int 3)))) (xRet (sVar 0)) (xNil)) (xRet (sBin (kP2 pSub) (sBin (kP2 pSub) (sBin (kP2 pMul) (sC (.int 3)) (sBin (kP2 pSub) (sVar 0) (sC (.int 1)))) (sCall f_ones (aCons (sBin (kP2 pSub) (sVar 0) (sC (.int 1))) (aNil)))) (sC (.int 1))))
def f_row_beat : SF := fnD 1 1 b_row_beat
def b_neighbour : SS := xSeq (xIf (bOf (sBin (kP2 (pEq false)) (sVar 0) (sC (.str "-")))) (xRet (sC (.str ""))) (xNil)) (xRet (sVar 0))
def f_neighbour : SF := fnD 1 1 b_neighbour
def b_row_told : SS := xSeq (xAsg (sMethT "str" kSplit (sVar 0) (aCons (sC (.str " ")) (aNil))) (gUn 4 (gsCons (gN 1) (gsCons (gN 2) (gsCons (gN 3) (gsCons (gN 4) (gsNil))))))) (xRet (sTup (aCons (sCall f_neighbour (aCons (sVar 1) (aNil))) (aCons (sVar 2) (aCons (sCall f_neighbour (aCons (sVar 3) (aNil))) (aCons (sVar 4) (aNil)))))))
def f_row_told : SF := fnD 1 5 b_row_told
def b_house_rows : SS := xSeq (xSet 0 (sLstC (aNil))) (xSeq (xFor (iSeq (sC k_LINES)) (gN 1) (xExpr (sMethT "list" kExt (sVar 0) (aCons (sLc (iSeq (sMethT "str" kSplit (sVar 1) (aCons (sC (.str ", ")) (aNil)))) (gN 2) (bYes) (sCall f_row_told (aCons (sVar 2) (aNil))) [2]) (aNil))))) (xRet (sCall (kPs pToTup) (aCons (sCall (kPs pSorted) (aCons (sVar 0) (aNil))) (aNil)))))
def f_house_rows : SF := fnD 0 3 b_house_rows
def b_levels : SS := xSeq (xSet 1 (sLstC (aNil))) (xSeq (xPar [2, 3] (aCons (sVar 0) (aCons (sC (.int 0)) (aNil)))) (xSeq (xWhile (fuelI 2) (bOf (sBin (kP2 pGe) (sVar 2) (sC k_LEAST_CUT))) (xSeq (xSet 4 (sBin (kP2 pAdd) (sVar 3) (sBin (kP2 pDiv) (sBin (kP2 pAdd) (sBin (kP2 pMul) (sC (.int 3)) (sBin (kP2 pSub) (sVar 2) (sC (.int 1)))) (sC (.int 1))) (sC (.int 2))))) (xSeq (xExpr (sMethT "list" kApp (sVar 1) (aCons (sTup (aCons (sVar 2) (aCons (sVar 3) (aCons (sBin (kP2 pSub) (sBin (kP2 pAdd) (sVar 3) (sVar 2)) (sC (.int 1))) (aCons (sVar 4) (aNil)))))) (aNil)))) (xPar [2, 3] (aCons (sBin (kP2 pDiv) (sBin (kP2 pAdd) (sVar 2) (sC (.int 1))) (sC (.int 2))) (aCons (sVar 4) (aNil))))))) (xRet (sCall (kPs pToTup) (aCons (sVar 1) (aNil))))))
def f_levels : SF := fnD 1 5 b_levels
def b_part_with : SS := xSeq (xSet 3 (sBin (kP2 pAdd) (sBin (kP2 pSub) (sVar 1) (sVar 0)) (sC (.int 1)))) (xSeq (xSet 4 (sBin (kP2 pAdd) (sBin (kP2 pSub) (sBin (kP2 pAdd) (sVar 0) (sBin (kP2 pDiv) (sVar 3) (sC (.int 2)))) (sC (.int 1))) (sBin (kP2 pMod) (sVar 3) (sC (.int 2))))) (xSeq (xIf (bOf (sBin (kP2 pLe) (sVar 2) (sVar 4))) (xRet (sTup (aCons (sVar 0) (aCons (sVar 4) (aCons (sC (.int 1)) (aNil)))))) (xNil)) (xRet (sTup (aCons (sBin (kP2 pAdd) (sVar 0) (sBin (kP2 pDiv) (sVar 3) (sC (.int 2)))) (aCons (sVar 1) (aCons (sC (.int 0)) (aNil))))))))
def f_part_with : SF := fnD 3 5 b_part_with
def b_wave_state : SS := xSeq (xIf (bOf (sBin (kP2 (pEq false)) (sVar 2) (sVar 1))) (xRet (sBin (kOr (kP2 pIx) kIxN) (sVar 3) (sC (.int 0)))) (xNil)) (xSeq (xIf (bAnd (bOf (sBin (kP2 (pEq false)) (sBin (kP2 pAdd) (sVar 2) (sVar 1)) (sBin (kP2 pMul) (sC (.int 2)) (sBin (kP2 pSub) (sVar 0) (sC (.int 1)))))) (bOf (sBin (kP2 pGt) (sVar 1) (sBin (kP2 pSub) (sVar 0) (sC (.int 1)))))) (xRet (sBin (kOr (kP2 pIx) kIxN) (sVar 4) (sC (.int 0)))) (xNil)) (xSeq (xIf (bOf (sBin (kP2 (pEq false)) (sVar 2) (sBin (kP2 pDiv) (sVar 1) (sC (.int 3))))) (xRet (sBin (kOr (kP2 pIx) kIxN) (sVar 3) (sBin (kP2 pAdd) (sC (.int 1)) (sBin (kP2 pMod) (sVar 1) (sC (.int 3)))))) (xNil)) (xRet (sC k_QUIET))))
def f_wave_state : SF := fnD 5 5 b_wave_state
def b_end_state : SS := xSeq (xIf (bOf (sBin (kP2 (pEq false)) (sVar 1) (sBin (kP2 pSub) (sVar 0) (sC (.int 1))))) (xRet (sC (.str "h"))) (xNil)) (xSeq (xIf (bAnd (bTru (sVar 2)) (bOf (sBin (kP2 pLt) (sVar 1) (sBin (kP2 pSub) (sVar 0) (sC (.int 1)))))) (xRet (sC k_QUIET)) (xNil)) (xRet (sC (.str "p"))))
def f_end_state : SF := fnD 3 3 b_end_state
def b_stretch_state : SS := xSeq (xSet 6 (sBin (kP2 pAdd) (sBin (kP2 pSub) (sVar 1) (sVar 0)) (sC (.int 1)))) (xSeq (xSet 7 (sBin (kOr (kP2 pIx) kIxN) (sLst (aCons (sBin (kP2 pSub) (sVar 5) (sVar 0)) (aCons (sBin (kP2 pSub) (sVar 1) (sVar 5)) (aNil)))) (sVar 2))) (xSeq (xIf (bOf (sBin (kP2 (pEq false)) (sVar 7) (sC (.int 0)))) (xRet (sBin (kOr (kP2 pIx) kIxN) (sC k_POSTS) (sCall (kPs pMin) (aCons (sVar 3) (aCons (sC (.int 3)) (aNil)))))) (xNil)) (xSeq (xIf (bOf (sBin (kP2 (pEq false)) (sVar 7) (sBin (kP2 pSub) (sVar 6) (sC (.int 1))))) (xRet (sCall f_end_state (aCons (sVar 6) (aCons (sVar 3) (aCons (sVar 4) (aNil)))))) (xNil)) (xSeq (xIf (bOf (sBin (kP2 (pEq false)) (sVar 2) (sC (.int 0)))) (xRet (sCall f_wave_state (aCons (sVar 6) (aCons (sVar 3) (aCons (sVar 7) (aCons (sC k_RIGHT) (aCons (sC k_LEFT) (aNil)))))))) (xNil)) (xRet (sCall f_wave_state (aCons (sVar 6) (aCons (sVar 3) (aCons (sVar 7) (aCons (sC k_LEFT) (aCons (sC k_RIGHT) (aNil))))))))))))
def f_stretch_state : SF := fnD 6 8 b_stretch_state
def b_seen : SS := xSeq (xIf (bOf (sBin (kP2 pGe) (sVar 2) (sCall f_row_beat (aCons (sVar 0) (aNil))))) (xRet (sC k_FIRE)) (xNil)) (xSeq (xPar [3, 4, 5] (aCons (sC (.int 0)) (aCons (sBin (kP2 pSub) (sVar 0) (sC (.int 1))) (aCons (sC (.int 0)) (aNil))))) (xSeq (xSet 6 (sC (.int 0))) (xSeq (xFor (iSeq (sCall f_levels (aCons (sVar 0) (aNil)))) (gTu 4 (gsCons (gN 7) (gsCons (gN 8) (gsCons (gN 9) (gsCons (gN 10) (gsNil)))))) (xSeq (xIf (bOf (sBin (kP2 pLt) (sVar 2) (sVar 10))) (xBreak) (xNil)) (xSeq (xAsg (sCall f_part_with (aCons (sVar 3) (aCons (sVar 4) (aCons (sVar 1) (aNil))))) (gTu 3 (gsCons (gN 3) (gsCons (gN 4) (gsCons (gN 5) (gsNil)))))) (xSet 6 (sVar 10))))) (xRet (sCall f_stretch_state (aCons (sVar 3) (aCons (sVar 4) (aCons (sVar 5) (aCons (sBin (kP2 pSub) (sVar 2) (sVar 6)) (aCons (sBin (kP2 (pEq false)) (sVar 6) (sC (.int 0))) (aCons (sVar 1) (aNil))))))))))))
def f_seen : SF := fnD 3 11 b_seen
def b__law_pot : SS := xSeq (xSet 2 (sC (.int 0))) (xSeq (xIf (bOf (sBin (kP2 pGt) (sCall (kPs pLen) (aCons (sVar 0) (aNil))) (sC (.int 0)))) (xSet 2 (sBin (kOr (kP2 pIx) kIxN) (sVar 0) (sBin (kP2 pMod) (sVar 1) (sCall (kPs pLen) (aCons (sVar 0) (aNil)))))) (xNil)) (xSeq (xSet 3 (sBin (kP2 pMul) (sBin (kP2 pMod) (sCall (kPs pAbs) (aCons (sVar 2) (aNil))) (sBin (kP2 pPow) (sBin (kP2 pPow) (sC (.int 10)) (sC (.int 60))) (sC (.int 16)))) (sCall (kPs pToInt) (aCons (sBin (kP2 pGe) (sCall (kPs pAbs) (aCons (sVar 2) (aNil))) (sBin (kP2 pPow) (sC (.int 10)) (sC (.int 18)))) (aNil))))) (xRet (sLstC (aCons (sVar 3) (aCons (sBin (kP2 pMod) (sBin (kP2 pMul) (sBin (kP2 pAdd) (sBin (kP2 pAdd) (sBin (kP2 pMod) (sVar 2) (sC (.int 2147483629))) (sBin (kP2 pMul) (sBin (kP2 pMul) (sC (.int 7919)) (sVar 1)) (sVar 1))) (sC (.int 11))) (sC (.int 48271))) (sC (.int 2147483647))) (aNil)))))))
def f__law_pot : SF := fnD 2 4 b__law_pot
def b__law_take : SS := xSeq (xIf (bOf (sBin (kP2 pGt) (sBin (kOr (kP2 pIx) kIxN) (sVar 0) (sC (.int 0))) (sC (.int 0)))) (xSeq (xSet 2 (sBin (kP2 pMod) (sBin (kOr (kP2 pIx) kIxN) (sVar 0) (sC (.int 0))) (sVar 1))) (xSeq (xAsg (sBin (kP2 pDiv) (sBin (kOr (kP2 pIx) kIxN) (sVar 0) (sC (.int 0))) (sVar 1)) (gSb (sVar 0) (sC (.int 0)) kSetL)) (xRet (sVar 2)))) (xNil)) (xSeq (xAsg (sBin (kP2 pMod) (sBin (kP2 pAdd) (sBin (kP2 pMul) (sBin (kOr (kP2 pIx) kIxN) (sVar 0) (sC (.int 1))) (sC (.int 48271))) (sC (.int 12345))) (sC (.int 2147483647))) (gSb (sVar 0) (sC (.int 1)) kSetL)) (xRet (sBin (kP2 pMod) (sBin (kP2 pDiv) (sBin (kP2 pMod) (sBin (kP2 pMul) (sBin (kOr (kP2 pIx) kIxN) (sVar 0) (sC (.int 1))) (sBin (kP2 pAdd) (sBin (kP2 pMod) (sBin (kOr (kP2 pIx) kIxN) (sVar 0) (sC (.int 1))) (sC (.int 40009))) (sC (.int 7)))) (sC (.int 2147483629))) (sC (.int 7))) (sVar 1))))
def f__law_take : SF := fnD 2 3 b__law_take
def b__law_number : SS := xSeq (xSet 2 (sC (.int 0))) (xSeq (xFor (iRg1 (aCons (sC (.int 7)) (aNil))) (gN 3) (xSet 2 (sBin (kP2 pAdd) (sBin (kP2 pMul) (sVar 2) (sBin (kP2 pPow) (sC (.int 10)) (sC (.int 9)))) (sCall f__law_take (aCons (sVar 0) (aCons (sBin (kP2 pPow) (sC (.int 10)) (sC (.int 9))) (aNil))))))) (xRet (sBin (kP2 pMod) (sVar 2) (sVar 1))))
def f__law_number : SF := fnD 2 4 b__law_number
def b__law_known : SS := xRet (sCall (kPs pDictN) (aCons (sLc (iSeq (sCall f_house_rows aNil)) (gN 0) (bYes) (sTup (aCons (sSl (sVar 0) (oNone) (oSome (sC (.int 3)))) (aCons (sBin (kOr (kP2 pIx) kIxN) (sVar 0) (sC (.int 3))) (aNil)))) [0]) (aNil)))
def f__law_known : SF := fnD 0 1 b__law_known
def b__law_behind : SS := xRet (sMethN kGetN (sVar 0) (aCons (sTup (aCons (sVar 1) (aCons (sVar 2) (aCons (sVar 3) (aNil))))) (aCons (sVar 2) (aNil))))
def f__law_behind : SF := fnD 4 4 b__law_behind
def b__law_halves : SS := xSeq (xAsg (sTup (aCons (sC (.int 0)) (aCons (sBin (kP2 pSub) (sVar 1) (sC (.int 1))) (aCons (sC (.int 0)) (aCons (sC (.int 0)) (aCons (sC (.int 0)) (aNil))))))) (gTu 5 (gsCons (gN 2) (gsCons (gN 3) (gsCons (gN 4) (gsCons (gN 5) (gsCons (gN 6) (gsNil)))))))) (xSeq (xFor (iRg1 (aCons (sBin (kP2 pMul) (sCall f__law_take (aCons (sVar 0) (aCons (sC (.int 7)) (aNil)))) (sCall f__law_take (aCons (sVar 0) (aCons (sC (.int 34)) (aNil))))) (aNil))) (gN 7) (xSeq (xSet 8 (sBin (kP2 pAdd) (sBin (kP2 pSub) (sVar 3) (sVar 2)) (sC (.int 1)))) (xSeq (xIf (bOf (sBin (kP2 pLt) (sVar 8) (sC (.int 3)))) (xRet (sTup (aCons (sVar 2) (aCons (sVar 3) (aCons (sVar 4) (aCons (sVar 5) (aCons (sVar 6) (aNil)))))))) (xNil)) (xSeq (xSet 5 (sBin (kP2 pAdd) (sVar 5) (sBin (kP2 pDiv) (sBin (kP2 pAdd) (sBin (kP2 pMul) (sC (.int 3)) (sBin (kP2 pSub) (sVar 8) (sC (.int 1)))) (sC (.int 1))) (sC (.int 2))))) (xSeq (xSet 6 (sBin (kP2 pAdd) (sVar 6) (sC (.int 1)))) (xIf (bOf (sBin (kP2 (pEq false)) (sCall f__law_take (aCons (sVar 0) (aCons (sC (.int 2)) (aNil)))) (sC (.int 0)))) (xSeq (xSet 3 (sBin (kP2 pSub) (sBin (kP2 pAdd) (sVar 2) (sBin (kP2 pDiv) (sBin (kP2 pAdd) (sVar 8) (sC (.int 1))) (sC (.int 2)))) (sC (.int 1)))) (xSet 4 (sVar 3))) (xSeq (xSet 2 (sBin (kP2 pAdd) (sVar 2) (sBin (kP2 pDiv) (sVar 8) (sC (.int 2))))) (xSet 4 (sVar 2))))))))) (xRet (sTup (aCons (sVar 2) (aCons (sVar 3) (aCons (sVar 4) (aCons (sVar 5) (aCons (sVar 6) (aNil)))))))))
def f__law_halves : SF := fnD 2 9 b__law_halves
def b__law_spot : SS := xSeq (xAsg (sCall f__law_halves (aCons (sVar 0) (aCons (sVar 1) (aNil)))) (gTu 5 (gsCons (gN 2) (gsCons (gN 3) (gsCons (gN 4) (gsCons (gN 5) (gsCons (gN 6) (gsNil)))))))) (xSeq (xSet 7 (sBin (kP2 pAdd) (sBin (kP2 pSub) (sVar 3) (sVar 2)) (sC (.int 1)))) (xSeq (xSet 8 (sIf (bOf (sBin (kP2 (pEq false)) (sVar 4) (sVar 2))) (sC (.int 1)) (sUn pNeg (sC (.int 1))))) (xSeq (xSet 9 (sBin (kP2 pDiv) (sBin (kP2 pAdd) (sBin (kP2 pMul) (sC (.int 3)) (sBin (kP2 pSub) (sVar 7) (sC (.int 1)))) (sC (.int 1))) (sC (.int 2)))) (xSeq (xSet 10 (sCall f__law_number (aCons (sVar 0) (aCons (sBin (kP2 pAdd) (sVar 9) (sC (.int 3))) (aNil))))) (xSeq (xSet 11 (sCall f__law_take (aCons (sVar 0) (aCons (sC (.int 8)) (aNil))))) (xSeq (xIf (bOf (sBin (kP2 (pEq false)) (sVar 11) (sC (.int 0)))) (xSet 10 (sCall f__law_take (aCons (sVar 0) (aCons (sC (.int 5)) (aNil))))) (xNil)) (xSeq (xIf (bOf (sBin (kP2 (pEq false)) (sVar 11) (sC (.int 1)))) (xSet 10 (sBin (kP2 pAdd) (sBin (kP2 pSub) (sVar 7) (sC (.int 3))) (sCall f__law_take (aCons (sVar 0) (aCons (sC (.int 5)) (aNil)))))) (xNil)) (xSeq (xIf (bOf (sBin (kP2 (pEq false)) (sVar 11) (sC (.int 2)))) (xSet 10 (sBin (kP2 pAdd) (sBin (kP2 pSub) (sVar 9) (sC (.int 3))) (sCall f__law_take (aCons (sVar 0) (aCons (sC (.int 5)) (aNil)))))) (xNil)) (xSeq (xSet 12 (sBin (kOr (kP2 pIx) kIxN) (sLst (aCons (sC (.int 0)) (aCons (sBin (kP2 pSub) (sVar 7) (sC (.int 1))) (aCons (sVar 10) (aCons (sBin (kP2 pSub) (sBin (kP2 pMul) (sC (.int 2)) (sBin (kP2 pSub) (sVar 7) (sC (.int 1)))) (sVar 10)) (aCons (sBin (kP2 pDiv) (sVar 10) (sC (.int 3))) (aCons (sBin (kP2 pDiv) (sBin (kP2 pSub) (sVar 7) (sC (.int 1))) (sC (.int 2))) (aNil)))))))) (sCall f__law_take (aCons (sVar 0) (aCons (sC (.int 6)) (aNil)))))) (xSeq (xIf (bOf (sBin (kP2 (pEq false)) (sVar 11) (sC (.int 7)))) (xSet 12 (sCall f__law_number (aCons (sVar 0) (aCons (sVar 7) (aNil))))) (xNil)) (xSeq (xSet 13 (sBin (kP2 pAdd) (sVar 4) (sBin (kP2 pMul) (sVar 8) (sBin (kP2 pSub) (sBin (kP2 pAdd) (sVar 12) (sCall f__law_take (aCons (sVar 0) (aCons (sC (.int 5)) (aNil))))) (sC (.int 2)))))) (xRet (sTup (aCons (sVar 13) (aCons (sCall (kPs pMax) (aCons (sC (.int 0)) (aCons (sBin (kP2 pAdd) (sVar 5) (sVar 10)) (aNil)))) (aNil))))))))))))))))
def f__law_spot : SF := fnD 2 14 b__law_spot
def b__law_many : SS := xSeq (xSet 2 (sCall f__law_take (aCons (sVar 0) (aCons (sC (.int 4)) (aNil))))) (xSeq (xIf (bOf (sBin (kP2 (pEq false)) (sVar 2) (sC (.int 0)))) (xRet (sBin (kP2 pAdd) (sC (.int 1)) (sCall f__law_take (aCons (sVar 0) (aCons (sC (.int 40)) (aNil)))))) (xNil)) (xSeq (xIf (bOf (sBin (kP2 (pEq false)) (sVar 2) (sC (.int 1)))) (xRet (sCall (kPs pMax) (aCons (sC (.int 1)) (aCons (sBin (kP2 pSub) (sBin (kP2 pAdd) (sBin (kP2 pShl) (sC (.int 1)) (sBin (kP2 pAdd) (sC (.int 1)) (sCall f__law_take (aCons (sVar 0) (aCons (sBin (kOr (kP2 pIx) kIxN) (sLst (aCons (sC (.int 29)) (aCons (sC (.int 198)) (aNil)))) (sCall (kPs pToInt) (aCons (sVar 1) (aNil)))) (aNil)))))) (sCall f__law_take (aCons (sVar 0) (aCons (sC (.int 5)) (aNil))))) (sC (.int 2))) (aNil))))) (xNil)) (xRet (sBin (kP2 pAdd) (sC (.int 1)) (sCall f__law_number (aCons (sVar 0) (aCons (sBin (kOr (kP2 pIx) kIxN) (sLst (aCons (sBin (kP2 pPow) (sC (.int 10)) (sC (.int 9))) (aCons (sBin (kP2 pPow) (sC (.int 10)) (sC (.int 60))) (aNil)))) (sCall (kPs pToInt) (aCons (sAnd (sVar 1) (sBin (kP2 (pEq false)) (sVar 2) (sC (.int 2)))) (aNil)))) (aNil))))))))
def f__law_many : SF := fnD 2 3 b__law_many
def b__law_told : SS := xSeq (xIf (bOr (bOf (sBin (kP2 pLt) (sVar 1) (sC (.int 0)))) (bOf (sBin (kP2 pGe) (sVar 1) (sVar 0)))) (xRet (sC (.str ""))) (xNil)) (xRet (sCall f_seen (aCons (sVar 0) (aCons (sVar 1) (aCons (sVar 2) (aNil))))))
def f__law_told : SF := fnD 3 3 b__law_told
def b__law_window_right : SS := xSeq (xIf (bOr (bOf (sBin (kP2 pLt) (sVar 2) (sC (.int 0)))) (bOf (sBin (kP2 pGe) (sVar 2) (sVar 1)))) (xRet (sC (.bl true))) (xNil)) (xSeq (xSet 4 (sLc (iSeq (sTup (aCons (sUn pNeg (sC (.int 1))) (aCons (sC (.int 0)) (aCons (sC (.int 1)) (aNil)))))) (gN 6) (bYes) (sCall f__law_told (aCons (sVar 1) (aCons (sBin (kP2 pAdd) (sVar 2) (sVar 6)) (aCons (sVar 3) (aNil))))) [6])) (xSeq (xSet 5 (sCall f_seen (aCons (sVar 1) (aCons (sVar 2) (aCons (sBin (kP2 pAdd) (sVar 3) (sC (.int 1))) (aNil)))))) (xRet (sAnd (sCall (kPs pIsi) (aCons (sVar 5) (aCons (sC (.ty "str")) (aNil)))) (sBin (kP2 (pEq false)) (sVar 5) (sCall f__law_behind (aCons (sVar 0) (aCons (sBin (kOr (kP2 pIx) kIxN) (sVar 4) (sC (.int 0))) (aCons (sBin (kOr (kP2 pIx) kIxN) (sVar 4) (sC (.int 1))) (aCons (sBin (kOr (kP2 pIx) kIxN) (sVar 4) (sC (.int 2))) (aNil)))))))))))
def f__law_window_right : SF := fnD 4 7 b__law_window_right
def b_law : SS := xSeq (xSet 1 (sCall f__law_known aNil)) (xSeq (xFor (iRg1 (aCons (sBin (kP2 pAdd) (sCall (kPs pLen) (aCons (sSl (sVar 0) (oNone) (oSome (sC (.int 40)))) (aNil))) (sC (.int 1))) (aNil))) (gN 2) (xSeq (xSet 3 (sCall f__law_pot (aCons (sVar 0) (aCons (sVar 2) (aNil))))) (xSeq (xSet 4 (sCall f__law_many (aCons (sVar 3) (aCons (sBin (kP2 pLt) (sVar 2) (sC (.int 12))) (aNil))))) (xSeq (xFor (iRg1 (aCons (sC (.int 3)) (aNil))) (gN 5) (xSeq (xAsg (sCall f__law_spot (aCons (sVar 3) (aCons (sVar 4) (aNil)))) (gTu 2 (gsCons (gN 6) (gsCons (gN 7) (gsNil))))) (xFor (iSeq (sTup (aCons (sUn pNeg (sC (.int 1))) (aCons (sC (.int 0)) (aCons (sC (.int 1)) (aNil)))))) (gN 8) (xIf (bNot (bTru (sCall f__law_window_right (aCons (sVar 1) (aCons (sVar 4) (aCons (sBin (kP2 pAdd) (sVar 6) (sVar 8)) (aCons (sVar 7) (aNil)))))))) (xRet (sC (.bl false))) (xNil))))) (xSeq (xSet 6 (sCall f__law_number (aCons (sVar 3) (aCons (sVar 4) (aNil))))) (xIf (bOr (bOf (sBin (kP2 (pEq true)) (sCall f_seen (aCons (sVar 4) (aCons (sVar 6) (aCons (sC (.int 0)) (aNil))))) (sBin (kOr (kP2 pIx) kIxN) (sLst (aCons (sC (.str "o")) (aCons (sC (.str "g")) (aNil)))) (sCall (kPs pToInt) (aCons (sBin (kP2 (pEq false)) (sVar 6) (sC (.int 0))) (aNil)))))) (bOf (sBin (kP2 (pEq true)) (sCall f_seen (aCons (sVar 4) (aCons (sC (.int 0)) (aCons (sC (.int 0)) (aNil))))) (sC (.str "g"))))) (xRet (sC (.bl false))) (xNil))))))) (xRet (sC (.bl true))))
def f_law : SF := fnD 1 9 b_law
end Lk42
/-! The derivations (printed by dgen.py, a program of mine). -/
namespace Lk42
open PySem L2 DL
def topS (i : Nat) : Stmt := PySem.Challenge.pw_firetogether_k42_whole_windows_of_seen.main.body.getD i (.Pass ⟨0, 0, 0, 0⟩)
abbrev s_ones : Stmt := topS 1
theorem sc_ones : FnScope ["number", "many", "digit"] ["number"] (defScope s_ones) := ⟨rfl, rfl, rfl, by decide +kernel, rfl, by decide +kernel, by decide +kernel⟩
abbrev s_row_beat : Stmt := topS 2
theorem sc_row_beat : FnScope ["n"] ["n"] (defScope s_row_beat) := ⟨rfl, rfl, rfl, by decide +kernel, rfl, by decide +kernel, by decide +kernel⟩
abbrev s_neighbour : Stmt := topS 7
theorem sc_neighbour : FnScope ["word"] ["word"] (defScope s_neighbour) := ⟨rfl, rfl, rfl, by decide +kernel, rfl, by decide +kernel, by decide +kernel⟩
abbrev s_row_told : Stmt := topS 8
theorem sc_row_told : FnScope ["words", "left", "own", "right", "new"] ["words"] (defScope s_row_told) := ⟨rfl, rfl, rfl, by decide +kernel, rfl, by decide +kernel, by decide +kernel⟩
abbrev s_house_rows : Stmt := topS 9
theorem sc_house_rows : FnScope ["rows", "line", "words"] [] (defScope s_house_rows) := ⟨rfl, rfl, rfl, by decide +kernel, rfl, by decide +kernel, by decide +kernel⟩
abbrev s_levels : Stmt := topS 12
theorem sc_levels : FnScope ["n", "found", "h", "begun", "met"] ["n"] (defScope s_levels) := ⟨rfl, rfl, rfl, by decide +kernel, rfl, by decide +kernel, by decide +kernel⟩
abbrev s_part_with : Stmt := topS 17
theorem sc_part_with : FnScope ["begin", "end", "x", "many", "last"] ["begin", "end", "x"] (defScope s_part_with) := ⟨rfl, rfl, rfl, by decide +kernel, rfl, by decide +kernel, by decide +kernel⟩
abbrev s_wave_state : Stmt := topS 18
theorem sc_wave_state : FnScope ["h", "gone", "far", "away", "back"] ["h", "gone", "far", "away", "back"] (defScope s_wave_state) := ⟨rfl, rfl, rfl, by decide +kernel, rfl, by decide +kernel, by decide +kernel⟩
abbrev s_end_state : Stmt := topS 19
theorem sc_end_state : FnScope ["h", "gone", "first"] ["h", "gone", "first"] (defScope s_end_state) := ⟨rfl, rfl, rfl, by decide +kernel, rfl, by decide +kernel, by decide +kernel⟩
abbrev s_stretch_state : Stmt := topS 20
theorem sc_stretch_state : FnScope ["begin", "end", "side", "gone", "first", "x", "h", "far"] ["begin", "end", "side", "gone", "first", "x"] (defScope s_stretch_state) := ⟨rfl, rfl, rfl, by decide +kernel, rfl, by decide +kernel, by decide +kernel⟩
abbrev s_seen : Stmt := topS 21
theorem sc_seen : FnScope ["n", "x", "t", "begin", "end", "side", "begun", "h", "came", "hit", "met"] ["n", "x", "t"] (defScope s_seen) := ⟨rfl, rfl, rfl, by decide +kernel, rfl, by decide +kernel, by decide +kernel⟩
abbrev s__law_pot : Stmt := topS 23
theorem sc__law_pot : FnScope ["_law_script", "_law_k", "_law_cell", "_law_great"] ["_law_script", "_law_k"] (defScope s__law_pot) := ⟨rfl, rfl, rfl, by decide +kernel, rfl, by decide +kernel, by decide +kernel⟩
abbrev s__law_take : Stmt := topS 24
theorem sc__law_take : FnScope ["_law_pot_here", "_law_many_here", "_law_digit"] ["_law_pot_here", "_law_many_here"] (defScope s__law_take) := ⟨rfl, rfl, rfl, by decide +kernel, rfl, by decide +kernel, by decide +kernel⟩
abbrev s__law_number : Stmt := topS 25
theorem sc__law_number : FnScope ["_law_pot_here", "_law_most", "_law_found", "_law_k"] ["_law_pot_here", "_law_most"] (defScope s__law_number) := ⟨rfl, rfl, rfl, by decide +kernel, rfl, by decide +kernel, by decide +kernel⟩
abbrev s__law_known : Stmt := topS 26
theorem sc__law_known : FnScope ["_law_row"] [] (defScope s__law_known) := ⟨rfl, rfl, rfl, by decide +kernel, rfl, by decide +kernel, by decide +kernel⟩
abbrev s__law_behind : Stmt := topS 27
theorem sc__law_behind : FnScope ["_law_known_here", "_law_left", "_law_own", "_law_right"] ["_law_known_here", "_law_left", "_law_own", "_law_right"] (defScope s__law_behind) := ⟨rfl, rfl, rfl, by decide +kernel, rfl, by decide +kernel, by decide +kernel⟩
abbrev s__law_halves : Stmt := topS 28
theorem sc__law_halves : FnScope ["_law_pot_here", "_law_many_here", "_law_begin", "_law_end", "_law_post", "_law_came", "_law_level", "_law_turn", "_law_size"] ["_law_pot_here", "_law_many_here"] (defScope s__law_halves) := ⟨rfl, rfl, rfl, by decide +kernel, rfl, by decide +kernel, by decide +kernel⟩
abbrev s__law_spot : Stmt := topS 29
theorem sc__law_spot : FnScope ["_law_pot_here", "_law_many_here", "_law_begin", "_law_end", "_law_post", "_law_came", "_law_level", "_law_size", "_law_way", "_law_met", "_law_gone", "_law_kind", "_law_near", "_law_hand"] ["_law_pot_here", "_law_many_here"] (defScope s__law_spot) := ⟨rfl, rfl, rfl, by decide +kernel, rfl, by decide +kernel, by decide +kernel⟩
abbrev s__law_many : Stmt := topS 30
theorem sc__law_many : FnScope ["_law_pot_here", "_law_great", "_law_way"] ["_law_pot_here", "_law_great"] (defScope s__law_many) := ⟨rfl, rfl, rfl, by decide +kernel, rfl, by decide +kernel, by decide +kernel⟩
abbrev s__law_told : Stmt := topS 31
theorem sc__law_told : FnScope ["_law_many_here", "_law_hand", "_law_beat"] ["_law_many_here", "_law_hand", "_law_beat"] (defScope s__law_told) := ⟨rfl, rfl, rfl, by decide +kernel, rfl, by decide +kernel, by decide +kernel⟩
abbrev s__law_window_right : Stmt := topS 32
theorem sc__law_window_right : FnScope ["_law_known_here", "_law_many_here", "_law_hand", "_law_beat", "_law_three", "_law_found", "_law_at"] ["_law_known_here", "_law_many_here", "_law_hand", "_law_beat"] (defScope s__law_window_right) := ⟨rfl, rfl, rfl, by decide +kernel, rfl, by decide +kernel, by decide +kernel⟩
abbrev s_law : Stmt := topS 33
theorem sc_law : FnScope ["_law_script", "_law_known_here", "_law_k", "_law_pot_here", "_law_many_here", "_law_turn", "_law_hand", "_law_beat", "_law_at"] ["_law_script"] (defScope s_law) := ⟨rfl, rfl, rfl, by decide +kernel, rfl, by decide +kernel, by decide +kernel⟩
structure Tx (K : KW) (mg : Str → Option Value) where
  a_ones : Addr
  d_ones : FuncData
  c_ones : Cl K.k mg "ones" s_ones ["number"] a_ones d_ones
  a_row_beat : Addr
  d_row_beat : FuncData
  c_row_beat : Cl K.k mg "row_beat" s_row_beat ["n"] a_row_beat d_row_beat
  a_neighbour : Addr
  d_neighbour : FuncData
  c_neighbour : Cl K.k mg "neighbour" s_neighbour ["word"] a_neighbour d_neighbour
  a_row_told : Addr
  d_row_told : FuncData
  c_row_told : Cl K.k mg "row_told" s_row_told ["words"] a_row_told d_row_told
  a_house_rows : Addr
  d_house_rows : FuncData
  c_house_rows : Cl K.k mg "house_rows" s_house_rows [] a_house_rows d_house_rows
  a_levels : Addr
  d_levels : FuncData
  c_levels : Cl K.k mg "levels" s_levels ["n"] a_levels d_levels
  a_part_with : Addr
  d_part_with : FuncData
  c_part_with : Cl K.k mg "part_with" s_part_with ["begin", "end", "x"] a_part_with d_part_with
  a_wave_state : Addr
  d_wave_state : FuncData
  c_wave_state : Cl K.k mg "wave_state" s_wave_state ["h", "gone", "far", "away", "back"] a_wave_state d_wave_state
  a_end_state : Addr
  d_end_state : FuncData
  c_end_state : Cl K.k mg "end_state" s_end_state ["h", "gone", "first"] a_end_state d_end_state
  a_stretch_state : Addr
  d_stretch_state : FuncData
  c_stretch_state : Cl K.k mg "stretch_state" s_stretch_state ["begin", "end", "side", "gone", "first", "x"] a_stretch_state d_stretch_state
  a_seen : Addr
  d_seen : FuncData
  c_seen : Cl K.k mg "seen" s_seen ["n", "x", "t"] a_seen d_seen
  a__law_pot : Addr
  d__law_pot : FuncData
  c__law_pot : Cl K.k mg "_law_pot" s__law_pot ["_law_script", "_law_k"] a__law_pot d__law_pot
  a__law_take : Addr
  d__law_take : FuncData
  c__law_take : Cl K.k mg "_law_take" s__law_take ["_law_pot_here", "_law_many_here"] a__law_take d__law_take
  a__law_number : Addr
  d__law_number : FuncData
  c__law_number : Cl K.k mg "_law_number" s__law_number ["_law_pot_here", "_law_most"] a__law_number d__law_number
  a__law_known : Addr
  d__law_known : FuncData
  c__law_known : Cl K.k mg "_law_known" s__law_known [] a__law_known d__law_known
  a__law_behind : Addr
  d__law_behind : FuncData
  c__law_behind : Cl K.k mg "_law_behind" s__law_behind ["_law_known_here", "_law_left", "_law_own", "_law_right"] a__law_behind d__law_behind
  a__law_halves : Addr
  d__law_halves : FuncData
  c__law_halves : Cl K.k mg "_law_halves" s__law_halves ["_law_pot_here", "_law_many_here"] a__law_halves d__law_halves
  a__law_spot : Addr
  d__law_spot : FuncData
  c__law_spot : Cl K.k mg "_law_spot" s__law_spot ["_law_pot_here", "_law_many_here"] a__law_spot d__law_spot
  a__law_many : Addr
  d__law_many : FuncData
  c__law_many : Cl K.k mg "_law_many" s__law_many ["_law_pot_here", "_law_great"] a__law_many d__law_many
  a__law_told : Addr
  d__law_told : FuncData
  c__law_told : Cl K.k mg "_law_told" s__law_told ["_law_many_here", "_law_hand", "_law_beat"] a__law_told d__law_told
  a__law_window_right : Addr
  d__law_window_right : FuncData
  c__law_window_right : Cl K.k mg "_law_window_right" s__law_window_right ["_law_known_here", "_law_many_here", "_law_hand", "_law_beat"] a__law_window_right d__law_window_right
  a_law : Addr
  d_law : FuncData
  c_law : Cl K.k mg "law" s_law ["_law_script"] a_law d_law
  z_abs : mg "abs" = none
  z_dict : mg "dict" = none
  z_divmod : mg "divmod" = none
  z_int : mg "int" = none
  z_isinstance : mg "isinstance" = none
  z_len : mg "len" = none
  z_max : mg "max" = none
  z_min : mg "min" = none
  z_range : mg "range" = none
  z_sorted : mg "sorted" = none
  z_str : mg "str" = none
  z_tuple : mg "tuple" = none
  k_QUIET : Gc K mg "QUIET" k_QUIET
  k_FIRE : Gc K mg "FIRE" k_FIRE
  k_LINES : Gc K mg "LINES" k_LINES
  k_LEAST_CUT : Gc K mg "LEAST_CUT" k_LEAST_CUT
  k_RIGHT : Gc K mg "RIGHT" k_RIGHT
  k_LEFT : Gc K mg "LEFT" k_LEFT
  k_POSTS : Gc K mg "POSTS" k_POSTS
section
variable {K : KW} {mg : Str → Option Value} {base : Heap}
theorem ok_ones (T : Tx K mg) : FnOk K.prog K.w K.k mg base CX0 1 T.a_ones T.d_ones ["number"] (spF K f_ones) := fn_okK T.c_ones sc_ones fun cdv A outer s0 H E hr =>
  dss_cons (ds_set (i := 1) sc_ones.nd rfl (.inl rfl) (de_int)) (dss_cons (ds_while PassesOwn.never (db_cmp o_gt (de_var (pv 0)) (de_int) (nomark _)) (dss_cons (ds_asg (de_callB (c_divmod) (by rfl) T.z_divmod (by decide +kernel) (da_cons (de_var (pv 0)) (da_cons (de_int) (da_nil)))) (dg_tup rfl (dgs_cons (dg_name (pg_name (i := 0) sc_ones.nd rfl (.inl rfl))) (dgs_cons (dg_name (pg_name (i := 2) sc_ones.nd rfl (.inl rfl))) (dgs_nil))))) (dss_one (ds_augI (i := 1) sc_ones.nd rfl (.inl rfl) (de_var (pv 2)))))) (dss_one (ds_ret (de_var (pv 1)))))
theorem ok_row_beat (T : Tx K mg) : FnOk K.prog K.w K.k mg base CX0 2 T.a_row_beat T.d_row_beat ["n"] (spF K f_row_beat) := fn_okK T.c_row_beat sc_row_beat fun cdv A outer s0 H E hr =>
  dss_cons (ds_if (db_cmp (o_lt (room65 hr)) (de_var (pv 0)) (de_int) (nomark _)) (dss_one (ds_ret (de_var (pv 0)))) (dss_nil)) (dss_one (ds_ret (de_op o_sub (de_op o_sub (de_op o_mul (de_int) (de_op o_sub (de_var (pv 0)) (de_int))) (de_callC T.c_ones (ok_ones T) hr (by decide) (by rfl) (da_cons (de_op o_sub (de_var (pv 0)) (de_int)) (da_nil)))) (de_int))))
theorem ok_neighbour (T : Tx K mg) : FnOk K.prog K.w K.k mg base CX0 1 T.a_neighbour T.d_neighbour ["word"] (spF K f_neighbour) := fn_okK T.c_neighbour sc_neighbour fun cdv A outer s0 H E hr =>
  dss_cons (ds_if (db_cmp (o_eq (room64 hr)) (de_var (pv 0)) (de_str) (nomark _)) (dss_one (ds_ret (de_str))) (dss_nil)) (dss_one (ds_ret (de_var (pv 0))))
theorem ok_row_told (T : Tx K mg) : FnOk K.prog K.w K.k mg base CX0 2 T.a_row_told T.d_row_told ["words"] (spF K f_row_told) := fn_okK T.c_row_told sc_row_told fun cdv A outer s0 H E hr =>
  dss_cons (ds_asg (de_bm PySem.F.plainAttrs_str PySem.F.slot_str_split PySem.F.type_str_split m_split (de_var (pv 0)) (da_cons (de_str) (da_nil))) (dg_unl rfl (dgs_cons (dg_name (pg_name (i := 1) sc_row_told.nd rfl (.inl rfl))) (dgs_cons (dg_name (pg_name (i := 2) sc_row_told.nd rfl (.inl rfl))) (dgs_cons (dg_name (pg_name (i := 3) sc_row_told.nd rfl (.inl rfl))) (dgs_cons (dg_name (pg_name (i := 4) sc_row_told.nd rfl (.inl rfl))) (dgs_nil))))))) (dss_one (ds_ret (de_tup (da_cons (de_callC T.c_neighbour (ok_neighbour T) hr (by decide) (by rfl) (da_cons (de_var (pv 1)) (da_nil))) (da_cons (de_var (pv 2)) (da_cons (de_callC T.c_neighbour (ok_neighbour T) hr (by decide) (by rfl) (da_cons (de_var (pv 3)) (da_nil))) (da_cons (de_var (pv 4)) (da_nil))))))))
theorem ok_house_rows (T : Tx K mg) : FnOk K.prog K.w K.k mg base CX0 3 T.a_house_rows T.d_house_rows [] (spF K f_house_rows) := fn_okK T.c_house_rows sc_house_rows fun cdv A outer s0 H E hr =>
  dss_cons (ds_set (i := 0) sc_house_rows.nd rfl (.inl rfl) (de_lstC (da_nil))) (dss_cons (ds_for PassesOwn.never rfl (di_seq (de_gc (by rfl) T.k_LINES)) (dg_name (pg_name (i := 1) sc_house_rows.nd rfl (.inl rfl))) (dss_one (ds_expr (de_bm PySem.F.plainAttrs_list PySem.F.slot_list_extend PySem.F.type_list_extend m_extend (de_var (pv 0)) (da_cons (de_lc (own := [("words", 2)]) rfl sc_house_rows.nd (di_seq (de_bm PySem.F.plainAttrs_str PySem.F.slot_str_split PySem.F.type_str_split m_split (de_var (pv 1)) (da_cons (de_str) (da_nil)))) (blkOk_by (own := [("words", 2)]) (N := ["rows", "line", "words"]) (sc := defScope s_house_rows) (by decide +kernel)) (fun _ _ _ _ _ => pg_name (i := 2) sc_house_rows.nd rfl (.inl rfl)) (own_name (by decide)) (fun _ _ _ _ _ => dts_nil) (fun _ _ _ _ _ => de_callC T.c_row_told (ok_row_told T) hr (by decide) (by rfl) (da_cons (de_var (pv 2)) (da_nil)))) (da_nil)))))) (dss_one (ds_ret (de_callTy c_tuple (by rfl) T.z_tuple (by decide +kernel) (da_cons (de_callB ((c_sorted (room70 hr))) (by rfl) T.z_sorted (by decide +kernel) (da_cons (de_var (pv 0)) (da_nil))) (da_nil))))))
theorem ok_levels (T : Tx K mg) : FnOk K.prog K.w K.k mg base CX0 1 T.a_levels T.d_levels ["n"] (spF K f_levels) := fn_okK T.c_levels sc_levels fun cdv A outer s0 H E hr =>
  dss_cons (ds_set (i := 1) sc_levels.nd rfl (.inl rfl) (de_lstC (da_nil))) (dss_cons (ds_par2 (i := 2) (j := 3) rfl sc_levels.nd rfl rfl (by decide) rfl rfl (da_cons (de_var (pv 0)) (da_cons (de_int) (da_nil))) (by rfl)) (dss_cons (ds_while PassesOwn.never (db_cmp o_ge (de_var (pv 2)) (de_gc (by rfl) T.k_LEAST_CUT) (nomark _)) (dss_cons (ds_set (i := 4) sc_levels.nd rfl (.inl rfl) (de_op o_add (de_var (pv 3)) (de_op o_div (de_op o_add (de_op o_mul (de_int) (de_op o_sub (de_var (pv 2)) (de_int))) (de_int)) (de_int)))) (dss_cons (ds_expr (de_bm PySem.F.plainAttrs_list PySem.F.slot_list_append PySem.F.type_list_append m_append (de_var (pv 1)) (da_cons (de_tup (da_cons (de_var (pv 2)) (da_cons (de_var (pv 3)) (da_cons (de_op o_sub (de_op o_add (de_var (pv 3)) (de_var (pv 2))) (de_int)) (da_cons (de_var (pv 4)) (da_nil)))))) (da_nil)))) (dss_one (ds_par2 (i := 2) (j := 3) rfl sc_levels.nd rfl rfl (by decide) rfl rfl (da_cons (de_op o_div (de_op o_add (de_var (pv 2)) (de_int)) (de_int)) (da_cons (de_var (pv 4)) (da_nil))) (by rfl)))))) (dss_one (ds_ret (de_callTy c_tuple (by rfl) T.z_tuple (by decide +kernel) (da_cons (de_var (pv 1)) (da_nil)))))))
theorem ok_part_with (T : Tx K mg) : FnOk K.prog K.w K.k mg base CX0 1 T.a_part_with T.d_part_with ["begin", "end", "x"] (spF K f_part_with) := fn_okK T.c_part_with sc_part_with fun cdv A outer s0 H E hr =>
  dss_cons (ds_set (i := 3) sc_part_with.nd rfl (.inl rfl) (de_op o_add (de_op o_sub (de_var (pv 1)) (de_var (pv 0))) (de_int))) (dss_cons (ds_set (i := 4) sc_part_with.nd rfl (.inl rfl) (de_op o_add (de_op o_sub (de_op o_add (de_var (pv 0)) (de_op o_div (de_var (pv 3)) (de_int))) (de_int)) (de_op o_mod (de_var (pv 3)) (de_int)))) (dss_cons (ds_if (db_cmp o_le (de_var (pv 2)) (de_var (pv 4)) (nomark _)) (dss_one (ds_ret (de_tup (da_cons (de_var (pv 0)) (da_cons (de_var (pv 4)) (da_cons (de_int) (da_nil))))))) (dss_nil)) (dss_one (ds_ret (de_tup (da_cons (de_op o_add (de_var (pv 0)) (de_op o_div (de_var (pv 3)) (de_int))) (da_cons (de_var (pv 1)) (da_cons (de_int) (da_nil)))))))))
theorem ok_wave_state (T : Tx K mg) : FnOk K.prog K.w K.k mg base CX0 1 T.a_wave_state T.d_wave_state ["h", "gone", "far", "away", "back"] (spF K f_wave_state) := fn_okK T.c_wave_state sc_wave_state fun cdv A outer s0 H E hr =>
  dss_cons (ds_if (db_cmp (o_eq (room64 hr)) (de_var (pv 2)) (de_var (pv 1)) (nomark _)) (dss_one (ds_ret (de_ix (ixr_or o_ix (o_ixN (room70 hr))) (de_var (pv 3)) (de_int) (fun _ _ => rfl)))) (dss_nil)) (dss_cons (ds_if (PW.pt (dw_and (db_cmp (o_eq (room64 hr)) (de_op o_add (de_var (pv 2)) (de_var (pv 1))) (de_op o_mul (de_int) (de_op o_sub (de_var (pv 0)) (de_int))) (nomark _)) (dw_and1 (db_cmp o_gt (de_var (pv 1)) (de_op o_sub (de_var (pv 0)) (de_int)) (nomark _))))) (dss_one (ds_ret (de_ix (ixr_or o_ix (o_ixN (room70 hr))) (de_var (pv 4)) (de_int) (fun _ _ => rfl)))) (dss_nil)) (dss_cons (ds_if (db_cmp (o_eq (room64 hr)) (de_var (pv 2)) (de_op o_div (de_var (pv 1)) (de_int)) (nomark _)) (dss_one (ds_ret (de_ix (ixr_or o_ix (o_ixN (room70 hr))) (de_var (pv 3)) (de_op o_add (de_int) (de_op o_mod (de_var (pv 1)) (de_int))) (fun _ _ => rfl)))) (dss_nil)) (dss_one (ds_ret (de_gc (by rfl) T.k_QUIET)))))
theorem ok_end_state (T : Tx K mg) : FnOk K.prog K.w K.k mg base CX0 1 T.a_end_state T.d_end_state ["h", "gone", "first"] (spF K f_end_state) := fn_okK T.c_end_state sc_end_state fun cdv A outer s0 H E hr =>
  dss_cons (ds_if (db_cmp (o_eq (room64 hr)) (de_var (pv 1)) (de_op o_sub (de_var (pv 0)) (de_int)) (nomark _)) (dss_one (ds_ret (de_str))) (dss_nil)) (dss_cons (ds_if (PW.pt (dw_and (db_tru (de_var (pv 2))) (dw_and1 (db_cmp (o_lt (room65 hr)) (de_var (pv 1)) (de_op o_sub (de_var (pv 0)) (de_int)) (nomark _))))) (dss_one (ds_ret (de_gc (by rfl) T.k_QUIET))) (dss_nil)) (dss_one (ds_ret (de_str))))
theorem ok_stretch_state (T : Tx K mg) : FnOk K.prog K.w K.k mg base CX0 2 T.a_stretch_state T.d_stretch_state ["begin", "end", "side", "gone", "first", "x"] (spF K f_stretch_state) := fn_okK T.c_stretch_state sc_stretch_state fun cdv A outer s0 H E hr =>
  dss_cons (ds_set (i := 6) sc_stretch_state.nd rfl (.inl rfl) (de_op o_add (de_op o_sub (de_var (pv 1)) (de_var (pv 0))) (de_int))) (dss_cons (ds_set (i := 7) sc_stretch_state.nd rfl (.inl rfl) (de_ix (ixr_or o_ix (o_ixN (room70 hr))) (de_lst (da_cons (de_op o_sub (de_var (pv 5)) (de_var (pv 0))) (da_cons (de_op o_sub (de_var (pv 1)) (de_var (pv 5))) (da_nil)))) (de_var (pv 2)) (fun _ _ => rfl))) (dss_cons (ds_if (db_cmp (o_eq (room64 hr)) (de_var (pv 7)) (de_int) (nomark _)) (dss_one (ds_ret (de_ix (ixr_or o_ix (o_ixN (room70 hr))) (de_gc (by rfl) T.k_POSTS) (de_callB (c_min rfl) (by rfl) T.z_min (by decide +kernel) (da_cons (de_var (pv 3)) (da_cons (de_int) (da_nil)))) (fun _ _ => rfl)))) (dss_nil)) (dss_cons (ds_if (db_cmp (o_eq (room64 hr)) (de_var (pv 7)) (de_op o_sub (de_var (pv 6)) (de_int)) (nomark _)) (dss_one (ds_ret (de_callC T.c_end_state (ok_end_state T) hr (by decide) (by rfl) (da_cons (de_var (pv 6)) (da_cons (de_var (pv 3)) (da_cons (de_var (pv 4)) (da_nil))))))) (dss_nil)) (dss_cons (ds_if (db_cmp (o_eq (room64 hr)) (de_var (pv 2)) (de_int) (nomark _)) (dss_one (ds_ret (de_callC T.c_wave_state (ok_wave_state T) hr (by decide) (by rfl) (da_cons (de_var (pv 6)) (da_cons (de_var (pv 3)) (da_cons (de_var (pv 7)) (da_cons (de_gc (by rfl) T.k_RIGHT) (da_cons (de_gc (by rfl) T.k_LEFT) (da_nil))))))))) (dss_nil)) (dss_one (ds_ret (de_callC T.c_wave_state (ok_wave_state T) hr (by decide) (by rfl) (da_cons (de_var (pv 6)) (da_cons (de_var (pv 3)) (da_cons (de_var (pv 7)) (da_cons (de_gc (by rfl) T.k_LEFT) (da_cons (de_gc (by rfl) T.k_RIGHT) (da_nil)))))))))))))
theorem ok_seen (T : Tx K mg) : FnOk K.prog K.w K.k mg base CX0 3 T.a_seen T.d_seen ["n", "x", "t"] (spF K f_seen) := fn_okK T.c_seen sc_seen fun cdv A outer s0 H E hr =>
  dss_cons (ds_if (db_cmp o_ge (de_var (pv 2)) (de_callC T.c_row_beat (ok_row_beat T) hr (by decide) (by rfl) (da_cons (de_var (pv 0)) (da_nil))) (nomark _)) (dss_one (ds_ret (de_gc (by rfl) T.k_FIRE))) (dss_nil)) (dss_cons (ds_par3 (i := 3) (j := 4) (l := 5) rfl sc_seen.nd rfl rfl rfl (by decide) (by decide) (by decide) rfl rfl rfl (da_cons (de_int) (da_cons (de_op o_sub (de_var (pv 0)) (de_int)) (da_cons (de_int) (da_nil)))) (by rfl)) (dss_cons (ds_set (i := 6) sc_seen.nd rfl (.inl rfl) (de_int)) (dss_cons (ds_for PassesOwn.never rfl (di_seq (de_callC T.c_levels (ok_levels T) hr (by decide) (by rfl) (da_cons (de_var (pv 0)) (da_nil)))) (dg_tup rfl (dgs_cons (dg_name (pg_name (i := 7) sc_seen.nd rfl (.inl rfl))) (dgs_cons (dg_name (pg_name (i := 8) sc_seen.nd rfl (.inl rfl))) (dgs_cons (dg_name (pg_name (i := 9) sc_seen.nd rfl (.inl rfl))) (dgs_cons (dg_name (pg_name (i := 10) sc_seen.nd rfl (.inl rfl))) (dgs_nil)))))) (dss_cons (ds_if (db_cmp (o_lt (room65 hr)) (de_var (pv 2)) (de_var (pv 10)) (nomark _)) (dss_one (ds_break)) (dss_nil)) (dss_cons (ds_asg (de_callC T.c_part_with (ok_part_with T) hr (by decide) (by rfl) (da_cons (de_var (pv 3)) (da_cons (de_var (pv 4)) (da_cons (de_var (pv 1)) (da_nil))))) (dg_tup rfl (dgs_cons (dg_name (pg_name (i := 3) sc_seen.nd rfl (.inl rfl))) (dgs_cons (dg_name (pg_name (i := 4) sc_seen.nd rfl (.inl rfl))) (dgs_cons (dg_name (pg_name (i := 5) sc_seen.nd rfl (.inl rfl))) (dgs_nil)))))) (dss_one (ds_set (i := 6) sc_seen.nd rfl (.inl rfl) (de_var (pv 10))))))) (dss_one (ds_ret (de_callC T.c_stretch_state (ok_stretch_state T) hr (by decide) (by rfl) (da_cons (de_var (pv 3)) (da_cons (de_var (pv 4)) (da_cons (de_var (pv 5)) (da_cons (de_op o_sub (de_var (pv 2)) (de_var (pv 6))) (da_cons (de_cmp (o_eq (room64 hr)) (de_var (pv 6)) (de_int) (nomark _)) (da_cons (de_var (pv 1)) (da_nil)))))))))))))
theorem ok__law_pot (T : Tx K mg) : FnOk K.prog K.w K.k mg base CX0 1 T.a__law_pot T.d__law_pot ["_law_script", "_law_k"] (spF K f__law_pot) := fn_okK T.c__law_pot sc__law_pot fun cdv A outer s0 H E hr =>
  dss_cons (ds_set (i := 2) sc__law_pot.nd rfl (.inl rfl) (de_int)) (dss_cons (ds_if (db_cmp o_gt (de_callB (c_len) (by rfl) T.z_len (by decide +kernel) (da_cons (de_var (pv 0)) (da_nil))) (de_int) (nomark _)) (dss_one (ds_set (i := 2) sc__law_pot.nd rfl (.inl rfl) (de_ix (ixr_or o_ix (o_ixN (room70 hr))) (de_var (pv 0)) (de_op o_mod (de_var (pv 1)) (de_callB (c_len) (by rfl) T.z_len (by decide +kernel) (da_cons (de_var (pv 0)) (da_nil)))) (fun _ _ => rfl)))) (dss_nil)) (dss_cons (ds_set (i := 3) sc__law_pot.nd rfl (.inl rfl) (de_op o_mul (de_op o_mod (de_callB (c_abs) (by rfl) T.z_abs (by decide +kernel) (da_cons (de_var (pv 2)) (da_nil))) (de_op o_pow (de_op o_pow (de_int) (de_int)) (de_int))) (de_callTy c_int (by rfl) T.z_int (by decide +kernel) (da_cons (de_cmp o_ge (de_callB (c_abs) (by rfl) T.z_abs (by decide +kernel) (da_cons (de_var (pv 2)) (da_nil))) (de_op o_pow (de_int) (de_int)) (nomark _)) (da_nil))))) (dss_one (ds_ret (de_lstC (da_cons (de_var (pv 3)) (da_cons (de_op o_mod (de_op o_mul (de_op o_add (de_op o_add (de_op o_mod (de_var (pv 2)) (de_int)) (de_op o_mul (de_op o_mul (de_int) (de_var (pv 1))) (de_var (pv 1)))) (de_int)) (de_int)) (de_int)) (da_nil))))))))
theorem ok__law_take (T : Tx K mg) : FnOk K.prog K.w K.k mg base CX0 1 T.a__law_take T.d__law_take ["_law_pot_here", "_law_many_here"] (spF K f__law_take) := fn_okK T.c__law_take sc__law_take fun cdv A outer s0 H E hr =>
  dss_cons (ds_if (db_cmp o_gt (de_ix (ixr_or o_ix (o_ixN (room70 hr))) (de_var (pv 0)) (de_int) (fun _ _ => rfl)) (de_int) (nomark _)) (dss_cons (ds_set (i := 2) sc__law_take.nd rfl (.inl rfl) (de_op o_mod (de_ix (ixr_or o_ix (o_ixN (room70 hr))) (de_var (pv 0)) (de_int) (fun _ _ => rfl)) (de_var (pv 1)))) (dss_cons (ds_asg (de_op o_div (de_ix (ixr_or o_ix (o_ixN (room70 hr))) (de_var (pv 0)) (de_int) (fun _ _ => rfl)) (de_var (pv 1))) (dg_sub (de_var (pv 0)) (de_int) s_list)) (dss_one (ds_ret (de_var (pv 2)))))) (dss_nil)) (dss_cons (ds_asg (de_op o_mod (de_op o_add (de_op o_mul (de_ix (ixr_or o_ix (o_ixN (room70 hr))) (de_var (pv 0)) (de_int) (fun _ _ => rfl)) (de_int)) (de_int)) (de_int)) (dg_sub (de_var (pv 0)) (de_int) s_list)) (dss_one (ds_ret (de_op o_mod (de_op o_div (de_op o_mod (de_op o_mul (de_ix (ixr_or o_ix (o_ixN (room70 hr))) (de_var (pv 0)) (de_int) (fun _ _ => rfl)) (de_op o_add (de_op o_mod (de_ix (ixr_or o_ix (o_ixN (room70 hr))) (de_var (pv 0)) (de_int) (fun _ _ => rfl)) (de_int)) (de_int))) (de_int)) (de_int)) (de_var (pv 1))))))
theorem ok__law_number (T : Tx K mg) : FnOk K.prog K.w K.k mg base CX0 2 T.a__law_number T.d__law_number ["_law_pot_here", "_law_most"] (spF K f__law_number) := fn_okK T.c__law_number sc__law_number fun cdv A outer s0 H E hr =>
  dss_cons (ds_set (i := 2) sc__law_number.nd rfl (.inl rfl) (de_int)) (dss_cons (ds_for PassesOwn.never rfl (di_rg1 (by rfl) T.z_range (da_cons (de_int) (da_nil))) (dg_name (pg_name (i := 3) sc__law_number.nd rfl (.inl rfl))) (dss_one (ds_set (i := 2) sc__law_number.nd rfl (.inl rfl) (de_op o_add (de_op o_mul (de_var (pv 2)) (de_op o_pow (de_int) (de_int))) (de_callC T.c__law_take (ok__law_take T) hr (by decide) (by rfl) (da_cons (de_var (pv 0)) (da_cons (de_op o_pow (de_int) (de_int)) (da_nil)))))))) (dss_one (ds_ret (de_op o_mod (de_var (pv 2)) (de_var (pv 1))))))
theorem ok__law_known (T : Tx K mg) : FnOk K.prog K.w K.k mg base CX0 4 T.a__law_known T.d__law_known [] (spF K f__law_known) := fn_okK T.c__law_known sc__law_known fun cdv A outer s0 H E hr =>
  dss_one (ds_ret (de_callTy (c_dictN rfl (room70 hr)) (by rfl) T.z_dict (by decide +kernel) (da_cons (de_lc (own := [("_law_row", 0)]) rfl sc__law_known.nd (di_seq (de_callC0 T.c_house_rows (ok_house_rows T) hr (by decide) (by rfl))) (blkOk_by (own := [("_law_row", 0)]) (N := ["_law_row"]) (sc := defScope s__law_known) (by decide +kernel)) (fun _ _ _ _ _ => pg_name (i := 0) sc__law_known.nd rfl (.inl rfl)) (own_name (by decide)) (fun _ _ _ _ _ => dts_nil) (fun _ _ _ _ _ => de_tup (da_cons (de_slice (de_var (pv 0)) (do_none) (do_some (de_int))) (da_cons (de_ix (ixr_or o_ix (o_ixN (room70 hr))) (de_var (pv 0)) (de_int) (fun _ _ => rfl)) (da_nil))))) (da_nil))))
theorem ok__law_behind (T : Tx K mg) : FnOk K.prog K.w K.k mg base CX0 1 T.a__law_behind T.d__law_behind ["_law_known_here", "_law_left", "_law_own", "_law_right"] (spF K f__law_behind) := fn_okK T.c__law_behind sc__law_behind fun cdv A outer s0 H E hr =>
  dss_one (ds_ret (de_bmN PySem.F.slot_dict_get PySem.F.type_dict_get (m_getN (room70 hr)) (de_var (pv 0)) (da_cons (de_tup (da_cons (de_var (pv 1)) (da_cons (de_var (pv 2)) (da_cons (de_var (pv 3)) (da_nil))))) (da_cons (de_var (pv 2)) (da_nil)))))
theorem ok__law_halves (T : Tx K mg) : FnOk K.prog K.w K.k mg base CX0 2 T.a__law_halves T.d__law_halves ["_law_pot_here", "_law_many_here"] (spF K f__law_halves) := fn_okK T.c__law_halves sc__law_halves fun cdv A outer s0 H E hr =>
  dss_cons (ds_asg (de_tup (da_cons (de_int) (da_cons (de_op o_sub (de_var (pv 1)) (de_int)) (da_cons (de_int) (da_cons (de_int) (da_cons (de_int) (da_nil))))))) (dg_tup rfl (dgs_cons (dg_name (pg_name (i := 2) sc__law_halves.nd rfl (.inl rfl))) (dgs_cons (dg_name (pg_name (i := 3) sc__law_halves.nd rfl (.inl rfl))) (dgs_cons (dg_name (pg_name (i := 4) sc__law_halves.nd rfl (.inl rfl))) (dgs_cons (dg_name (pg_name (i := 5) sc__law_halves.nd rfl (.inl rfl))) (dgs_cons (dg_name (pg_name (i := 6) sc__law_halves.nd rfl (.inl rfl))) (dgs_nil)))))))) (dss_cons (ds_for PassesOwn.never rfl (di_rg1 (by rfl) T.z_range (da_cons (de_op o_mul (de_callC T.c__law_take (ok__law_take T) hr (by decide) (by rfl) (da_cons (de_var (pv 0)) (da_cons (de_int) (da_nil)))) (de_callC T.c__law_take (ok__law_take T) hr (by decide) (by rfl) (da_cons (de_var (pv 0)) (da_cons (de_int) (da_nil))))) (da_nil))) (dg_name (pg_name (i := 7) sc__law_halves.nd rfl (.inl rfl))) (dss_cons (ds_set (i := 8) sc__law_halves.nd rfl (.inl rfl) (de_op o_add (de_op o_sub (de_var (pv 3)) (de_var (pv 2))) (de_int))) (dss_cons (ds_if (db_cmp (o_lt (room65 hr)) (de_var (pv 8)) (de_int) (nomark _)) (dss_one (ds_ret (de_tup (da_cons (de_var (pv 2)) (da_cons (de_var (pv 3)) (da_cons (de_var (pv 4)) (da_cons (de_var (pv 5)) (da_cons (de_var (pv 6)) (da_nil))))))))) (dss_nil)) (dss_cons (ds_set (i := 5) sc__law_halves.nd rfl (.inl rfl) (de_op o_add (de_var (pv 5)) (de_op o_div (de_op o_add (de_op o_mul (de_int) (de_op o_sub (de_var (pv 8)) (de_int))) (de_int)) (de_int)))) (dss_cons (ds_set (i := 6) sc__law_halves.nd rfl (.inl rfl) (de_op o_add (de_var (pv 6)) (de_int))) (dss_one (ds_if (db_cmp (o_eq (room64 hr)) (de_callC T.c__law_take (ok__law_take T) hr (by decide) (by rfl) (da_cons (de_var (pv 0)) (da_cons (de_int) (da_nil)))) (de_int) (nomark _)) (dss_cons (ds_set (i := 3) sc__law_halves.nd rfl (.inl rfl) (de_op o_sub (de_op o_add (de_var (pv 2)) (de_op o_div (de_op o_add (de_var (pv 8)) (de_int)) (de_int))) (de_int))) (dss_one (ds_set (i := 4) sc__law_halves.nd rfl (.inl rfl) (de_var (pv 3))))) (dss_cons (ds_set (i := 2) sc__law_halves.nd rfl (.inl rfl) (de_op o_add (de_var (pv 2)) (de_op o_div (de_var (pv 8)) (de_int)))) (dss_one (ds_set (i := 4) sc__law_halves.nd rfl (.inl rfl) (de_var (pv 2)))))))))))) (dss_one (ds_ret (de_tup (da_cons (de_var (pv 2)) (da_cons (de_var (pv 3)) (da_cons (de_var (pv 4)) (da_cons (de_var (pv 5)) (da_cons (de_var (pv 6)) (da_nil))))))))))
theorem ok__law_spot (T : Tx K mg) : FnOk K.prog K.w K.k mg base CX0 3 T.a__law_spot T.d__law_spot ["_law_pot_here", "_law_many_here"] (spF K f__law_spot) := fn_okK T.c__law_spot sc__law_spot fun cdv A outer s0 H E hr =>
  dss_cons (ds_asg (de_callC T.c__law_halves (ok__law_halves T) hr (by decide) (by rfl) (da_cons (de_var (pv 0)) (da_cons (de_var (pv 1)) (da_nil)))) (dg_tup rfl (dgs_cons (dg_name (pg_name (i := 2) sc__law_spot.nd rfl (.inl rfl))) (dgs_cons (dg_name (pg_name (i := 3) sc__law_spot.nd rfl (.inl rfl))) (dgs_cons (dg_name (pg_name (i := 4) sc__law_spot.nd rfl (.inl rfl))) (dgs_cons (dg_name (pg_name (i := 5) sc__law_spot.nd rfl (.inl rfl))) (dgs_cons (dg_name (pg_name (i := 6) sc__law_spot.nd rfl (.inl rfl))) (dgs_nil)))))))) (dss_cons (ds_set (i := 7) sc__law_spot.nd rfl (.inl rfl) (de_op o_add (de_op o_sub (de_var (pv 3)) (de_var (pv 2))) (de_int))) (dss_cons (ds_set (i := 8) sc__law_spot.nd rfl (.inl rfl) (de_if (db_cmp (o_eq (room64 hr)) (de_var (pv 4)) (de_var (pv 2)) (nomark _)) (de_int) (de_neg (de_int)))) (dss_cons (ds_set (i := 9) sc__law_spot.nd rfl (.inl rfl) (de_op o_div (de_op o_add (de_op o_mul (de_int) (de_op o_sub (de_var (pv 7)) (de_int))) (de_int)) (de_int))) (dss_cons (ds_set (i := 10) sc__law_spot.nd rfl (.inl rfl) (de_callC T.c__law_number (ok__law_number T) hr (by decide) (by rfl) (da_cons (de_var (pv 0)) (da_cons (de_op o_add (de_var (pv 9)) (de_int)) (da_nil))))) (dss_cons (ds_set (i := 11) sc__law_spot.nd rfl (.inl rfl) (de_callC T.c__law_take (ok__law_take T) hr (by decide) (by rfl) (da_cons (de_var (pv 0)) (da_cons (de_int) (da_nil))))) (dss_cons (ds_if (db_cmp (o_eq (room64 hr)) (de_var (pv 11)) (de_int) (nomark _)) (dss_one (ds_set (i := 10) sc__law_spot.nd rfl (.inl rfl) (de_callC T.c__law_take (ok__law_take T) hr (by decide) (by rfl) (da_cons (de_var (pv 0)) (da_cons (de_int) (da_nil)))))) (dss_nil)) (dss_cons (ds_if (db_cmp (o_eq (room64 hr)) (de_var (pv 11)) (de_int) (nomark _)) (dss_one (ds_set (i := 10) sc__law_spot.nd rfl (.inl rfl) (de_op o_add (de_op o_sub (de_var (pv 7)) (de_int)) (de_callC T.c__law_take (ok__law_take T) hr (by decide) (by rfl) (da_cons (de_var (pv 0)) (da_cons (de_int) (da_nil))))))) (dss_nil)) (dss_cons (ds_if (db_cmp (o_eq (room64 hr)) (de_var (pv 11)) (de_int) (nomark _)) (dss_one (ds_set (i := 10) sc__law_spot.nd rfl (.inl rfl) (de_op o_add (de_op o_sub (de_var (pv 9)) (de_int)) (de_callC T.c__law_take (ok__law_take T) hr (by decide) (by rfl) (da_cons (de_var (pv 0)) (da_cons (de_int) (da_nil))))))) (dss_nil)) (dss_cons (ds_set (i := 12) sc__law_spot.nd rfl (.inl rfl) (de_ix (ixr_or o_ix (o_ixN (room70 hr))) (de_lst (da_cons (de_int) (da_cons (de_op o_sub (de_var (pv 7)) (de_int)) (da_cons (de_var (pv 10)) (da_cons (de_op o_sub (de_op o_mul (de_int) (de_op o_sub (de_var (pv 7)) (de_int))) (de_var (pv 10))) (da_cons (de_op o_div (de_var (pv 10)) (de_int)) (da_cons (de_op o_div (de_op o_sub (de_var (pv 7)) (de_int)) (de_int)) (da_nil)))))))) (de_callC T.c__law_take (ok__law_take T) hr (by decide) (by rfl) (da_cons (de_var (pv 0)) (da_cons (de_int) (da_nil)))) (fun _ _ => rfl))) (dss_cons (ds_if (db_cmp (o_eq (room64 hr)) (de_var (pv 11)) (de_int) (nomark _)) (dss_one (ds_set (i := 12) sc__law_spot.nd rfl (.inl rfl) (de_callC T.c__law_number (ok__law_number T) hr (by decide) (by rfl) (da_cons (de_var (pv 0)) (da_cons (de_var (pv 7)) (da_nil)))))) (dss_nil)) (dss_cons (ds_set (i := 13) sc__law_spot.nd rfl (.inl rfl) (de_op o_add (de_var (pv 4)) (de_op o_mul (de_var (pv 8)) (de_op o_sub (de_op o_add (de_var (pv 12)) (de_callC T.c__law_take (ok__law_take T) hr (by decide) (by rfl) (da_cons (de_var (pv 0)) (da_cons (de_int) (da_nil))))) (de_int))))) (dss_one (ds_ret (de_tup (da_cons (de_var (pv 13)) (da_cons (de_callB (c_max rfl) (by rfl) T.z_max (by decide +kernel) (da_cons (de_int) (da_cons (de_op o_add (de_var (pv 5)) (de_var (pv 10))) (da_nil)))) (da_nil)))))))))))))))))
theorem ok__law_many (T : Tx K mg) : FnOk K.prog K.w K.k mg base CX0 3 T.a__law_many T.d__law_many ["_law_pot_here", "_law_great"] (spF K f__law_many) := fn_okK T.c__law_many sc__law_many fun cdv A outer s0 H E hr =>
  dss_cons (ds_set (i := 2) sc__law_many.nd rfl (.inl rfl) (de_callC T.c__law_take (ok__law_take T) hr (by decide) (by rfl) (da_cons (de_var (pv 0)) (da_cons (de_int) (da_nil))))) (dss_cons (ds_if (db_cmp (o_eq (room64 hr)) (de_var (pv 2)) (de_int) (nomark _)) (dss_one (ds_ret (de_op o_add (de_int) (de_callC T.c__law_take (ok__law_take T) hr (by decide) (by rfl) (da_cons (de_var (pv 0)) (da_cons (de_int) (da_nil))))))) (dss_nil)) (dss_cons (ds_if (db_cmp (o_eq (room64 hr)) (de_var (pv 2)) (de_int) (nomark _)) (dss_one (ds_ret (de_callB (c_max rfl) (by rfl) T.z_max (by decide +kernel) (da_cons (de_int) (da_cons (de_op o_sub (de_op o_add (de_op o_shl (de_int) (de_op o_add (de_int) (de_callC T.c__law_take (ok__law_take T) hr (by decide) (by rfl) (da_cons (de_var (pv 0)) (da_cons (de_ix (ixr_or o_ix (o_ixN (room70 hr))) (de_lst (da_cons (de_int) (da_cons (de_int) (da_nil)))) (de_callTy c_int (by rfl) T.z_int (by decide +kernel) (da_cons (de_var (pv 1)) (da_nil))) (fun _ _ => rfl)) (da_nil)))))) (de_callC T.c__law_take (ok__law_take T) hr (by decide) (by rfl) (da_cons (de_var (pv 0)) (da_cons (de_int) (da_nil))))) (de_int)) (da_nil)))))) (dss_nil)) (dss_one (ds_ret (de_op o_add (de_int) (de_callC T.c__law_number (ok__law_number T) hr (by decide) (by rfl) (da_cons (de_var (pv 0)) (da_cons (de_ix (ixr_or o_ix (o_ixN (room70 hr))) (de_lst (da_cons (de_op o_pow (de_int) (de_int)) (da_cons (de_op o_pow (de_int) (de_int)) (da_nil)))) (de_callTy c_int (by rfl) T.z_int (by decide +kernel) (da_cons (de_and (de_var (pv 1)) (de_one (de_cmp (o_eq (room64 hr)) (de_var (pv 2)) (de_int) (nomark _)))) (da_nil))) (fun _ _ => rfl)) (da_nil)))))))))
theorem ok__law_told (T : Tx K mg) : FnOk K.prog K.w K.k mg base CX0 4 T.a__law_told T.d__law_told ["_law_many_here", "_law_hand", "_law_beat"] (spF K f__law_told) := fn_okK T.c__law_told sc__law_told fun cdv A outer s0 H E hr =>
  dss_cons (ds_if (PW.pt (dw_or (db_cmp (o_lt (room65 hr)) (de_var (pv 1)) (de_int) (nomark _)) (dw_or1 (db_cmp o_ge (de_var (pv 1)) (de_var (pv 0)) (nomark _))))) (dss_one (ds_ret (de_str))) (dss_nil)) (dss_one (ds_ret (de_callC T.c_seen (ok_seen T) hr (by decide) (by rfl) (da_cons (de_var (pv 0)) (da_cons (de_var (pv 1)) (da_cons (de_var (pv 2)) (da_nil)))))))
theorem ok__law_window_right (T : Tx K mg) : FnOk K.prog K.w K.k mg base CX0 5 T.a__law_window_right T.d__law_window_right ["_law_known_here", "_law_many_here", "_law_hand", "_law_beat"] (spF K f__law_window_right) := fn_okK T.c__law_window_right sc__law_window_right fun cdv A outer s0 H E hr =>
  dss_cons (ds_if (PW.pt (dw_or (db_cmp (o_lt (room65 hr)) (de_var (pv 2)) (de_int) (nomark _)) (dw_or1 (db_cmp o_ge (de_var (pv 2)) (de_var (pv 1)) (nomark _))))) (dss_one (ds_ret (de_bl))) (dss_nil)) (dss_cons (ds_setLc (i := 4) (own := [("_law_at", 6)]) rfl sc__law_window_right.nd rfl rfl (sw_true rfl rfl rfl (by decide +kernel)) (di_seq (de_tup (da_cons (de_neg (de_int)) (da_cons (de_int) (da_cons (de_int) (da_nil)))))) (blkOk_by (own := [("_law_at", 6)]) (N := ["_law_known_here", "_law_many_here", "_law_hand", "_law_beat", "_law_three", "_law_found", "_law_at"]) (sc := defScope s__law_window_right) (by decide +kernel)) (fun _ _ _ _ _ => pg_name (i := 6) sc__law_window_right.nd rfl (.inl rfl)) (own_name (by decide)) (fun _ _ _ _ _ => dts_nil) (fun _ _ _ _ _ => de_callC T.c__law_told (ok__law_told T) hr (by decide) (by rfl) (da_cons (de_var (pv 1)) (da_cons (de_op o_add (de_var (pv 2)) (de_var (pv 6))) (da_cons (de_var (pv 3)) (da_nil)))))) (dss_cons (ds_set (i := 5) sc__law_window_right.nd rfl (.inl rfl) (de_callC T.c_seen (ok_seen T) hr (by decide) (by rfl) (da_cons (de_var (pv 1)) (da_cons (de_var (pv 2)) (da_cons (de_op o_add (de_var (pv 3)) (de_int)) (da_nil)))))) (dss_one (ds_ret (de_and (de_callB (c_isi) (by rfl) T.z_isinstance (by decide +kernel) (da_cons (de_var (pv 5)) (da_cons (de_c (pe_bltn (v := .ty "str") (by rfl) T.z_str (by decide +kernel) rfl) (fun _ => by rw [Rep])) (da_nil)))) (de_one (de_cmp (o_eq (room64 hr)) (de_var (pv 5)) (de_callC T.c__law_behind (ok__law_behind T) hr (by decide) (by rfl) (da_cons (de_var (pv 0)) (da_cons (de_ix (ixr_or o_ix (o_ixN (room70 hr))) (de_var (pv 4)) (de_int) (fun _ _ => rfl)) (da_cons (de_ix (ixr_or o_ix (o_ixN (room70 hr))) (de_var (pv 4)) (de_int) (fun _ _ => rfl)) (da_cons (de_ix (ixr_or o_ix (o_ixN (room70 hr))) (de_var (pv 4)) (de_int) (fun _ _ => rfl)) (da_nil)))))) (nomark _))))))))
theorem ok_law (T : Tx K mg) : FnOk K.prog K.w K.k mg base CX0 6 T.a_law T.d_law ["_law_script"] (spF K f_law) := fn_okK T.c_law sc_law fun cdv A outer s0 H E hr =>
  dss_cons (ds_set (i := 1) sc_law.nd rfl (.inl rfl) (de_callC0 T.c__law_known (ok__law_known T) hr (by decide) (by rfl))) (dss_cons (ds_for PassesOwn.never rfl (di_rg1 (by rfl) T.z_range (da_cons (de_op o_add (de_callB (c_len) (by rfl) T.z_len (by decide +kernel) (da_cons (de_slice (de_var (pv 0)) (do_none) (do_some (de_int))) (da_nil))) (de_int)) (da_nil))) (dg_name (pg_name (i := 2) sc_law.nd rfl (.inl rfl))) (dss_cons (ds_set (i := 3) sc_law.nd rfl (.inl rfl) (de_callC T.c__law_pot (ok__law_pot T) hr (by decide) (by rfl) (da_cons (de_var (pv 0)) (da_cons (de_var (pv 2)) (da_nil))))) (dss_cons (ds_set (i := 4) sc_law.nd rfl (.inl rfl) (de_callC T.c__law_many (ok__law_many T) hr (by decide) (by rfl) (da_cons (de_var (pv 3)) (da_cons (de_cmp (o_lt (room65 hr)) (de_var (pv 2)) (de_int) (nomark _)) (da_nil))))) (dss_cons (ds_for PassesOwn.never rfl (di_rg1 (by rfl) T.z_range (da_cons (de_int) (da_nil))) (dg_name (pg_name (i := 5) sc_law.nd rfl (.inl rfl))) (dss_cons (ds_asg (de_callC T.c__law_spot (ok__law_spot T) hr (by decide) (by rfl) (da_cons (de_var (pv 3)) (da_cons (de_var (pv 4)) (da_nil)))) (dg_tup rfl (dgs_cons (dg_name (pg_name (i := 6) sc_law.nd rfl (.inl rfl))) (dgs_cons (dg_name (pg_name (i := 7) sc_law.nd rfl (.inl rfl))) (dgs_nil))))) (dss_one (ds_for PassesOwn.never rfl (di_seq (de_tup (da_cons (de_neg (de_int)) (da_cons (de_int) (da_cons (de_int) (da_nil)))))) (dg_name (pg_name (i := 8) sc_law.nd rfl (.inl rfl))) (dss_one (ds_if (db_not (db_tru (de_callC T.c__law_window_right (ok__law_window_right T) hr (by decide) (by rfl) (da_cons (de_var (pv 1)) (da_cons (de_var (pv 4)) (da_cons (de_op o_add (de_var (pv 6)) (de_var (pv 8))) (da_cons (de_var (pv 7)) (da_nil)))))))) (dss_one (ds_ret (de_bl))) (dss_nil))))))) (dss_cons (ds_set (i := 6) sc_law.nd rfl (.inl rfl) (de_callC T.c__law_number (ok__law_number T) hr (by decide) (by rfl) (da_cons (de_var (pv 3)) (da_cons (de_var (pv 4)) (da_nil))))) (dss_one (ds_if (PW.pt (dw_or (db_cmp (o_ne (room64 hr)) (de_callC T.c_seen (ok_seen T) hr (by decide) (by rfl) (da_cons (de_var (pv 4)) (da_cons (de_var (pv 6)) (da_cons (de_int) (da_nil))))) (de_ix (ixr_or o_ix (o_ixN (room70 hr))) (de_lst (da_cons (de_str) (da_cons (de_str) (da_nil)))) (de_callTy c_int (by rfl) T.z_int (by decide +kernel) (da_cons (de_cmp (o_eq (room64 hr)) (de_var (pv 6)) (de_int) (nomark _)) (da_nil))) (fun _ _ => rfl)) (nomark _)) (dw_or1 (db_cmp (o_ne (room64 hr)) (de_callC T.c_seen (ok_seen T) hr (by decide) (by rfl) (da_cons (de_var (pv 4)) (da_cons (de_int) (da_cons (de_int) (da_nil))))) (de_str) (nomark _))))) (dss_one (ds_ret (de_bl))) (dss_nil)))))))) (dss_one (ds_ret (de_bl))))
end
/-! what the top has written -/
theorem all_mk {l : PySem.W.OpenLaw} {w : World} {K : PySem.W.Frag} {h : Heap} {mg : Str → Option Value} {fa : Addr} (X : K.In h) (G : h.Ns mainGlobals mg) (hfa : mg "law" = some (.ref fa))
    (hlaw : ∀ ns : List Int, ns.length ≤ 63 → f_law [.d (.ro (ns.map .int))] [] = some (.d (.bl true), []))
    {f0 : Addr} {od0 an0 : Option Addr} {sl0 : Array (Option Value)} {oc0 kV0 dc0 pm0 cd0 ct0 : Value}
    (a0 : PySem.W.nsIn K mainGlobals "ones" = some (some (.ref f0))) (l0 : K.lookup f0 = some ⟨oc0, od0, .func (PySem.W.fnOf "ones" "ones" (defArgs s_ones) (defBody s_ones) (defScope s_ones) .none kV0 dc0 pm0 an0 cd0 ct0), sl0⟩) (c0 : PySem.W.codeIn K cd0 "ones" = true) (k0 : PySem.W.keepIn K (.ref f0) = true)
    {f1 : Addr} {od1 an1 : Option Addr} {sl1 : Array (Option Value)} {oc1 kV1 dc1 pm1 cd1 ct1 : Value}
    (a1 : PySem.W.nsIn K mainGlobals "row_beat" = some (some (.ref f1))) (l1 : K.lookup f1 = some ⟨oc1, od1, .func (PySem.W.fnOf "row_beat" "row_beat" (defArgs s_row_beat) (defBody s_row_beat) (defScope s_row_beat) .none kV1 dc1 pm1 an1 cd1 ct1), sl1⟩) (c1 : PySem.W.codeIn K cd1 "row_beat" = true) (k1 : PySem.W.keepIn K (.ref f1) = true)
    {f2 : Addr} {od2 an2 : Option Addr} {sl2 : Array (Option Value)} {oc2 kV2 dc2 pm2 cd2 ct2 : Value}
    (a2 : PySem.W.nsIn K mainGlobals "neighbour" = some (some (.ref f2))) (l2 : K.lookup f2 = some ⟨oc2, od2, .func (PySem.W.fnOf "neighbour" "neighbour" (defArgs s_neighbour) (defBody s_neighbour) (defScope s_neighbour) .none kV2 dc2 pm2 an2 cd2 ct2), sl2⟩) (c2 : PySem.W.codeIn K cd2 "neighbour" = true) (k2 : PySem.W.keepIn K (.ref f2) = true)
    {f3 : Addr} {od3 an3 : Option Addr} {sl3 : Array (Option Value)} {oc3 kV3 dc3 pm3 cd3 ct3 : Value}
    (a3 : PySem.W.nsIn K mainGlobals "row_told" = some (some (.ref f3))) (l3 : K.lookup f3 = some ⟨oc3, od3, .func (PySem.W.fnOf "row_told" "row_told" (defArgs s_row_told) (defBody s_row_told) (defScope s_row_told) .none kV3 dc3 pm3 an3 cd3 ct3), sl3⟩) (c3 : PySem.W.codeIn K cd3 "row_told" = true) (k3 : PySem.W.keepIn K (.ref f3) = true)
    {f4 : Addr} {od4 an4 : Option Addr} {sl4 : Array (Option Value)} {oc4 kV4 dc4 pm4 cd4 ct4 : Value}
    (a4 : PySem.W.nsIn K mainGlobals "house_rows" = some (some (.ref f4))) (l4 : K.lookup f4 = some ⟨oc4, od4, .func (PySem.W.fnOf "house_rows" "house_rows" (defArgs s_house_rows) (defBody s_house_rows) (defScope s_house_rows) .none kV4 dc4 pm4 an4 cd4 ct4), sl4⟩) (c4 : PySem.W.codeIn K cd4 "house_rows" = true) (k4 : PySem.W.keepIn K (.ref f4) = true)
    {f5 : Addr} {od5 an5 : Option Addr} {sl5 : Array (Option Value)} {oc5 kV5 dc5 pm5 cd5 ct5 : Value}
    (a5 : PySem.W.nsIn K mainGlobals "levels" = some (some (.ref f5))) (l5 : K.lookup f5 = some ⟨oc5, od5, .func (PySem.W.fnOf "levels" "levels" (defArgs s_levels) (defBody s_levels) (defScope s_levels) .none kV5 dc5 pm5 an5 cd5 ct5), sl5⟩) (c5 : PySem.W.codeIn K cd5 "levels" = true) (k5 : PySem.W.keepIn K (.ref f5) = true)
    {f6 : Addr} {od6 an6 : Option Addr} {sl6 : Array (Option Value)} {oc6 kV6 dc6 pm6 cd6 ct6 : Value}
    (a6 : PySem.W.nsIn K mainGlobals "part_with" = some (some (.ref f6))) (l6 : K.lookup f6 = some ⟨oc6, od6, .func (PySem.W.fnOf "part_with" "part_with" (defArgs s_part_with) (defBody s_part_with) (defScope s_part_with) .none kV6 dc6 pm6 an6 cd6 ct6), sl6⟩) (c6 : PySem.W.codeIn K cd6 "part_with" = true) (k6 : PySem.W.keepIn K (.ref f6) = true)
    {f7 : Addr} {od7 an7 : Option Addr} {sl7 : Array (Option Value)} {oc7 kV7 dc7 pm7 cd7 ct7 : Value}
    (a7 : PySem.W.nsIn K mainGlobals "wave_state" = some (some (.ref f7))) (l7 : K.lookup f7 = some ⟨oc7, od7, .func (PySem.W.fnOf "wave_state" "wave_state" (defArgs s_wave_state) (defBody s_wave_state) (defScope s_wave_state) .none kV7 dc7 pm7 an7 cd7 ct7), sl7⟩) (c7 : PySem.W.codeIn K cd7 "wave_state" = true) (k7 : PySem.W.keepIn K (.ref f7) = true)
    {f8 : Addr} {od8 an8 : Option Addr} {sl8 : Array (Option Value)} {oc8 kV8 dc8 pm8 cd8 ct8 : Value}
    (a8 : PySem.W.nsIn K mainGlobals "end_state" = some (some (.ref f8))) (l8 : K.lookup f8 = some ⟨oc8, od8, .func (PySem.W.fnOf "end_state" "end_state" (defArgs s_end_state) (defBody s_end_state) (defScope s_end_state) .none kV8 dc8 pm8 an8 cd8 ct8), sl8⟩) (c8 : PySem.W.codeIn K cd8 "end_state" = true) (k8 : PySem.W.keepIn K (.ref f8) = true)
    {f9 : Addr} {od9 an9 : Option Addr} {sl9 : Array (Option Value)} {oc9 kV9 dc9 pm9 cd9 ct9 : Value}
    (a9 : PySem.W.nsIn K mainGlobals "stretch_state" = some (some (.ref f9))) (l9 : K.lookup f9 = some ⟨oc9, od9, .func (PySem.W.fnOf "stretch_state" "stretch_state" (defArgs s_stretch_state) (defBody s_stretch_state) (defScope s_stretch_state) .none kV9 dc9 pm9 an9 cd9 ct9), sl9⟩) (c9 : PySem.W.codeIn K cd9 "stretch_state" = true) (k9 : PySem.W.keepIn K (.ref f9) = true)
    {f10 : Addr} {od10 an10 : Option Addr} {sl10 : Array (Option Value)} {oc10 kV10 dc10 pm10 cd10 ct10 : Value}
    (a10 : PySem.W.nsIn K mainGlobals "seen" = some (some (.ref f10))) (l10 : K.lookup f10 = some ⟨oc10, od10, .func (PySem.W.fnOf "seen" "seen" (defArgs s_seen) (defBody s_seen) (defScope s_seen) .none kV10 dc10 pm10 an10 cd10 ct10), sl10⟩) (c10 : PySem.W.codeIn K cd10 "seen" = true) (k10 : PySem.W.keepIn K (.ref f10) = true)
    {f11 : Addr} {od11 an11 : Option Addr} {sl11 : Array (Option Value)} {oc11 kV11 dc11 pm11 cd11 ct11 : Value}
    (a11 : PySem.W.nsIn K mainGlobals "_law_pot" = some (some (.ref f11))) (l11 : K.lookup f11 = some ⟨oc11, od11, .func (PySem.W.fnOf "_law_pot" "_law_pot" (defArgs s__law_pot) (defBody s__law_pot) (defScope s__law_pot) .none kV11 dc11 pm11 an11 cd11 ct11), sl11⟩) (c11 : PySem.W.codeIn K cd11 "_law_pot" = true) (k11 : PySem.W.keepIn K (.ref f11) = true)
    {f12 : Addr} {od12 an12 : Option Addr} {sl12 : Array (Option Value)} {oc12 kV12 dc12 pm12 cd12 ct12 : Value}
    (a12 : PySem.W.nsIn K mainGlobals "_law_take" = some (some (.ref f12))) (l12 : K.lookup f12 = some ⟨oc12, od12, .func (PySem.W.fnOf "_law_take" "_law_take" (defArgs s__law_take) (defBody s__law_take) (defScope s__law_take) .none kV12 dc12 pm12 an12 cd12 ct12), sl12⟩) (c12 : PySem.W.codeIn K cd12 "_law_take" = true) (k12 : PySem.W.keepIn K (.ref f12) = true)
    {f13 : Addr} {od13 an13 : Option Addr} {sl13 : Array (Option Value)} {oc13 kV13 dc13 pm13 cd13 ct13 : Value}
    (a13 : PySem.W.nsIn K mainGlobals "_law_number" = some (some (.ref f13))) (l13 : K.lookup f13 = some ⟨oc13, od13, .func (PySem.W.fnOf "_law_number" "_law_number" (defArgs s__law_number) (defBody s__law_number) (defScope s__law_number) .none kV13 dc13 pm13 an13 cd13 ct13), sl13⟩) (c13 : PySem.W.codeIn K cd13 "_law_number" = true) (k13 : PySem.W.keepIn K (.ref f13) = true)
    {f14 : Addr} {od14 an14 : Option Addr} {sl14 : Array (Option Value)} {oc14 kV14 dc14 pm14 cd14 ct14 : Value}
    (a14 : PySem.W.nsIn K mainGlobals "_law_known" = some (some (.ref f14))) (l14 : K.lookup f14 = some ⟨oc14, od14, .func (PySem.W.fnOf "_law_known" "_law_known" (defArgs s__law_known) (defBody s__law_known) (defScope s__law_known) .none kV14 dc14 pm14 an14 cd14 ct14), sl14⟩) (c14 : PySem.W.codeIn K cd14 "_law_known" = true) (k14 : PySem.W.keepIn K (.ref f14) = true)
    {f15 : Addr} {od15 an15 : Option Addr} {sl15 : Array (Option Value)} {oc15 kV15 dc15 pm15 cd15 ct15 : Value}
    (a15 : PySem.W.nsIn K mainGlobals "_law_behind" = some (some (.ref f15))) (l15 : K.lookup f15 = some ⟨oc15, od15, .func (PySem.W.fnOf "_law_behind" "_law_behind" (defArgs s__law_behind) (defBody s__law_behind) (defScope s__law_behind) .none kV15 dc15 pm15 an15 cd15 ct15), sl15⟩) (c15 : PySem.W.codeIn K cd15 "_law_behind" = true) (k15 : PySem.W.keepIn K (.ref f15) = true)
    {f16 : Addr} {od16 an16 : Option Addr} {sl16 : Array (Option Value)} {oc16 kV16 dc16 pm16 cd16 ct16 : Value}
    (a16 : PySem.W.nsIn K mainGlobals "_law_halves" = some (some (.ref f16))) (l16 : K.lookup f16 = some ⟨oc16, od16, .func (PySem.W.fnOf "_law_halves" "_law_halves" (defArgs s__law_halves) (defBody s__law_halves) (defScope s__law_halves) .none kV16 dc16 pm16 an16 cd16 ct16), sl16⟩) (c16 : PySem.W.codeIn K cd16 "_law_halves" = true) (k16 : PySem.W.keepIn K (.ref f16) = true)
    {f17 : Addr} {od17 an17 : Option Addr} {sl17 : Array (Option Value)} {oc17 kV17 dc17 pm17 cd17 ct17 : Value}
    (a17 : PySem.W.nsIn K mainGlobals "_law_spot" = some (some (.ref f17))) (l17 : K.lookup f17 = some ⟨oc17, od17, .func (PySem.W.fnOf "_law_spot" "_law_spot" (defArgs s__law_spot) (defBody s__law_spot) (defScope s__law_spot) .none kV17 dc17 pm17 an17 cd17 ct17), sl17⟩) (c17 : PySem.W.codeIn K cd17 "_law_spot" = true) (k17 : PySem.W.keepIn K (.ref f17) = true)
    {f18 : Addr} {od18 an18 : Option Addr} {sl18 : Array (Option Value)} {oc18 kV18 dc18 pm18 cd18 ct18 : Value}
    (a18 : PySem.W.nsIn K mainGlobals "_law_many" = some (some (.ref f18))) (l18 : K.lookup f18 = some ⟨oc18, od18, .func (PySem.W.fnOf "_law_many" "_law_many" (defArgs s__law_many) (defBody s__law_many) (defScope s__law_many) .none kV18 dc18 pm18 an18 cd18 ct18), sl18⟩) (c18 : PySem.W.codeIn K cd18 "_law_many" = true) (k18 : PySem.W.keepIn K (.ref f18) = true)
    {f19 : Addr} {od19 an19 : Option Addr} {sl19 : Array (Option Value)} {oc19 kV19 dc19 pm19 cd19 ct19 : Value}
    (a19 : PySem.W.nsIn K mainGlobals "_law_told" = some (some (.ref f19))) (l19 : K.lookup f19 = some ⟨oc19, od19, .func (PySem.W.fnOf "_law_told" "_law_told" (defArgs s__law_told) (defBody s__law_told) (defScope s__law_told) .none kV19 dc19 pm19 an19 cd19 ct19), sl19⟩) (c19 : PySem.W.codeIn K cd19 "_law_told" = true) (k19 : PySem.W.keepIn K (.ref f19) = true)
    {f20 : Addr} {od20 an20 : Option Addr} {sl20 : Array (Option Value)} {oc20 kV20 dc20 pm20 cd20 ct20 : Value}
    (a20 : PySem.W.nsIn K mainGlobals "_law_window_right" = some (some (.ref f20))) (l20 : K.lookup f20 = some ⟨oc20, od20, .func (PySem.W.fnOf "_law_window_right" "_law_window_right" (defArgs s__law_window_right) (defBody s__law_window_right) (defScope s__law_window_right) .none kV20 dc20 pm20 an20 cd20 ct20), sl20⟩) (c20 : PySem.W.codeIn K cd20 "_law_window_right" = true) (k20 : PySem.W.keepIn K (.ref f20) = true)
    {f21 : Addr} {od21 an21 : Option Addr} {sl21 : Array (Option Value)} {oc21 kV21 dc21 pm21 cd21 ct21 : Value}
    (a21 : PySem.W.nsIn K mainGlobals "law" = some (some (.ref f21))) (l21 : K.lookup f21 = some ⟨oc21, od21, .func (PySem.W.fnOf "law" "law" (defArgs s_law) (defBody s_law) (defScope s_law) .none kV21 dc21 pm21 an21 cd21 ct21), sl21⟩) (c21 : PySem.W.codeIn K cd21 "law" = true) (k21 : PySem.W.keepIn K (.ref f21) = true)
    (z_abs : PySem.W.nsIn K mainGlobals "abs" = some none)
    (z_dict : PySem.W.nsIn K mainGlobals "dict" = some none)
    (z_divmod : PySem.W.nsIn K mainGlobals "divmod" = some none)
    (z_int : PySem.W.nsIn K mainGlobals "int" = some none)
    (z_isinstance : PySem.W.nsIn K mainGlobals "isinstance" = some none)
    (z_len : PySem.W.nsIn K mainGlobals "len" = some none)
    (z_max : PySem.W.nsIn K mainGlobals "max" = some none)
    (z_min : PySem.W.nsIn K mainGlobals "min" = some none)
    (z_range : PySem.W.nsIn K mainGlobals "range" = some none)
    (z_sorted : PySem.W.nsIn K mainGlobals "sorted" = some none)
    (z_str : PySem.W.nsIn K mainGlobals "str" = some none)
    (z_tuple : PySem.W.nsIn K mainGlobals "tuple" = some none)
    {t_QUIET : Tok} (g_QUIET : PySem.W.nsIn K mainGlobals "QUIET" = some (some (.str "o" t_QUIET)))
    {t_FIRE : Tok} (g_FIRE : PySem.W.nsIn K mainGlobals "FIRE" = some (some (.str "f" t_FIRE)))
    {r_LINES : Addr} {o_LINES : Obj} {i_LINES : Array Value} {n_LINES : Nat} (g_LINES : PySem.W.nsIn K mainGlobals "LINES" = some (some (.ref r_LINES))) (h_LINES : K.lookup r_LINES = some o_LINES) (u_LINES : o_LINES.cls = .type "tuple") (v_LINES : o_LINES.data = .seq i_LINES n_LINES) (w_LINES : i_LINES.size ≤ sizeLine) (x_LINES : KReps ⟨K, l.prog, w⟩ [.str "- g o ga, o g o ga, o g g ga, g g o ga, - g - f, p g p f, p g g f, g g p f", .str "- ga r gb, l ga r gb, l ga ga gb, ga ga r gb, - ga h f", .str "- gb o p, o gb o p, o gb gb p, gb gb o p", .str "r p l h, - p l h, r p - h, r p p h, p p l h", .str "- p g f, g p - f, g p g f, g p p f, p p g f", .str "o h o p, o h - p, - h o p, o h h p, h h o p, ga h - f", .str "g o o r, g o p r, r o o r, r o p r, h o o r, h o la r, r o la r", .str "o o g l, p o g l, o o l l, p o l l, o o h l, ra o h l, ra o l l", .str "gb o h g, h o gb g, rc o l g, r o lc g", .str "gb o r ra, rc o o ra, l o gb la, o o lc la", .str "r o - h, g o - h", .str "ga r o o, ga r p o, o r o o, o r p o, p r o o, p r lb g, o r lb g", .str "o l ga o, p l ga o, o l o o, p l o o, o l p o, rb l p g, rb l o g", .str "p ra o rb, o ra o rb, p rb o rc, o rb o rc, p rb l g, o rb l g, p rc o o, o rc o o", .str "o la p lb, o la o lb, o lb p lc, o lb o lc, r lb p g, r lb o g, o lc p o, o lc o o", .str "o w o wa, o wa r wb, o wb o p, r wb o k", .str "w o o r, r o wa r, r o wb r, wa r o o, o r wb o, wb o r ra", .str "r p ra k, r p rb k, r p rc k, r p o k", .str "o k ra p, o k rb p, o k rc p, o k o p", .str "o o k l, ra o k l, k ra o rb, k rb o rc, k rc o o", .str "o o m m, - o m m, o m o o, o m - o, - m o g, - m - g"] i_LINES.toList)
    {t_LEAST_CUT : Tok} (g_LEAST_CUT : PySem.W.nsIn K mainGlobals "LEAST_CUT" = some (some (.int 3 t_LEAST_CUT)))
    {r_RIGHT : Addr} {o_RIGHT : Obj} {i_RIGHT : Array Value} {n_RIGHT : Nat} (g_RIGHT : PySem.W.nsIn K mainGlobals "RIGHT" = some (some (.ref r_RIGHT))) (h_RIGHT : K.lookup r_RIGHT = some o_RIGHT) (u_RIGHT : o_RIGHT.cls = .type "tuple") (v_RIGHT : o_RIGHT.data = .seq i_RIGHT n_RIGHT) (w_RIGHT : i_RIGHT.size ≤ sizeLine) (x_RIGHT : KReps ⟨K, l.prog, w⟩ [.str "r", .str "ra", .str "rb", .str "rc"] i_RIGHT.toList)
    {r_LEFT : Addr} {o_LEFT : Obj} {i_LEFT : Array Value} {n_LEFT : Nat} (g_LEFT : PySem.W.nsIn K mainGlobals "LEFT" = some (some (.ref r_LEFT))) (h_LEFT : K.lookup r_LEFT = some o_LEFT) (u_LEFT : o_LEFT.cls = .type "tuple") (v_LEFT : o_LEFT.data = .seq i_LEFT n_LEFT) (w_LEFT : i_LEFT.size ≤ sizeLine) (x_LEFT : KReps ⟨K, l.prog, w⟩ [.str "l", .str "la", .str "lb", .str "lc"] i_LEFT.toList)
    {r_POSTS : Addr} {o_POSTS : Obj} {i_POSTS : Array Value} {n_POSTS : Nat} (g_POSTS : PySem.W.nsIn K mainGlobals "POSTS" = some (some (.ref r_POSTS))) (h_POSTS : K.lookup r_POSTS = some o_POSTS) (u_POSTS : o_POSTS.cls = .type "tuple") (v_POSTS : o_POSTS.data = .seq i_POSTS n_POSTS) (w_POSTS : i_POSTS.size ≤ sizeLine) (x_POSTS : KReps ⟨K, l.prog, w⟩ [.str "g", .str "ga", .str "gb", .str "p"] i_POSTS.toList)
    : ∃ fd : FuncData, (∀ (s : Shared) (v : Value), BindsTo s fd ⟨[v], []⟩ [("_law_script", v)]) ∧ ∀ base : Heap, K.In base → base.Ns mainGlobals mg → FnOk l.prog w K mg base CX0 6 fa fd ["_law_script"] (spLaw K) := by
  have e := hfa.symm.trans (PySem.W.mg_of X G a21)
  cases e
  have F0 := fun_mk (st := s_ones) l0 c0 k0
  have b0 := F0.binds (ps := ["number"]) fun _ _ _ _ _ _ us hl => match us, hl with | [_], _ => rfl
  have F1 := fun_mk (st := s_row_beat) l1 c1 k1
  have b1 := F1.binds (ps := ["n"]) fun _ _ _ _ _ _ us hl => match us, hl with | [_], _ => rfl
  have F2 := fun_mk (st := s_neighbour) l2 c2 k2
  have b2 := F2.binds (ps := ["word"]) fun _ _ _ _ _ _ us hl => match us, hl with | [_], _ => rfl
  have F3 := fun_mk (st := s_row_told) l3 c3 k3
  have b3 := F3.binds (ps := ["words"]) fun _ _ _ _ _ _ us hl => match us, hl with | [_], _ => rfl
  have F4 := fun_mk (st := s_house_rows) l4 c4 k4
  have b4 := F4.binds (ps := []) fun _ _ _ _ _ _ us hl => match us, hl with | [], _ => rfl
  have F5 := fun_mk (st := s_levels) l5 c5 k5
  have b5 := F5.binds (ps := ["n"]) fun _ _ _ _ _ _ us hl => match us, hl with | [_], _ => rfl
  have F6 := fun_mk (st := s_part_with) l6 c6 k6
  have b6 := F6.binds (ps := ["begin", "end", "x"]) fun _ _ _ _ _ _ us hl => match us, hl with | [_, _, _], _ => rfl
  have F7 := fun_mk (st := s_wave_state) l7 c7 k7
  have b7 := F7.binds (ps := ["h", "gone", "far", "away", "back"]) fun _ _ _ _ _ _ us hl => match us, hl with | [_, _, _, _, _], _ => rfl
  have F8 := fun_mk (st := s_end_state) l8 c8 k8
  have b8 := F8.binds (ps := ["h", "gone", "first"]) fun _ _ _ _ _ _ us hl => match us, hl with | [_, _, _], _ => rfl
  have F9 := fun_mk (st := s_stretch_state) l9 c9 k9
  have b9 := F9.binds (ps := ["begin", "end", "side", "gone", "first", "x"]) fun _ _ _ _ _ _ us hl => match us, hl with | [_, _, _, _, _, _], _ => rfl
  have F10 := fun_mk (st := s_seen) l10 c10 k10
  have b10 := F10.binds (ps := ["n", "x", "t"]) fun _ _ _ _ _ _ us hl => match us, hl with | [_, _, _], _ => rfl
  have F11 := fun_mk (st := s__law_pot) l11 c11 k11
  have b11 := F11.binds (ps := ["_law_script", "_law_k"]) fun _ _ _ _ _ _ us hl => match us, hl with | [_, _], _ => rfl
  have F12 := fun_mk (st := s__law_take) l12 c12 k12
  have b12 := F12.binds (ps := ["_law_pot_here", "_law_many_here"]) fun _ _ _ _ _ _ us hl => match us, hl with | [_, _], _ => rfl
  have F13 := fun_mk (st := s__law_number) l13 c13 k13
  have b13 := F13.binds (ps := ["_law_pot_here", "_law_most"]) fun _ _ _ _ _ _ us hl => match us, hl with | [_, _], _ => rfl
  have F14 := fun_mk (st := s__law_known) l14 c14 k14
  have b14 := F14.binds (ps := []) fun _ _ _ _ _ _ us hl => match us, hl with | [], _ => rfl
  have F15 := fun_mk (st := s__law_behind) l15 c15 k15
  have b15 := F15.binds (ps := ["_law_known_here", "_law_left", "_law_own", "_law_right"]) fun _ _ _ _ _ _ us hl => match us, hl with | [_, _, _, _], _ => rfl
  have F16 := fun_mk (st := s__law_halves) l16 c16 k16
  have b16 := F16.binds (ps := ["_law_pot_here", "_law_many_here"]) fun _ _ _ _ _ _ us hl => match us, hl with | [_, _], _ => rfl
  have F17 := fun_mk (st := s__law_spot) l17 c17 k17
  have b17 := F17.binds (ps := ["_law_pot_here", "_law_many_here"]) fun _ _ _ _ _ _ us hl => match us, hl with | [_, _], _ => rfl
  have F18 := fun_mk (st := s__law_many) l18 c18 k18
  have b18 := F18.binds (ps := ["_law_pot_here", "_law_great"]) fun _ _ _ _ _ _ us hl => match us, hl with | [_, _], _ => rfl
  have F19 := fun_mk (st := s__law_told) l19 c19 k19
  have b19 := F19.binds (ps := ["_law_many_here", "_law_hand", "_law_beat"]) fun _ _ _ _ _ _ us hl => match us, hl with | [_, _, _], _ => rfl
  have F20 := fun_mk (st := s__law_window_right) l20 c20 k20
  have b20 := F20.binds (ps := ["_law_known_here", "_law_many_here", "_law_hand", "_law_beat"]) fun _ _ _ _ _ _ us hl => match us, hl with | [_, _, _, _], _ => rfl
  have F21 := fun_mk (st := s_law) l21 c21 k21
  have b21 := F21.binds (ps := ["_law_script"]) fun _ _ _ _ _ _ us hl => match us, hl with | [_], _ => rfl
  let T : Tx ⟨K, l.prog, w⟩ mg := ⟨f0, _, ⟨F0, PySem.W.mg_of X G a0, b0⟩,
    f1, _, ⟨F1, PySem.W.mg_of X G a1, b1⟩,
    f2, _, ⟨F2, PySem.W.mg_of X G a2, b2⟩,
    f3, _, ⟨F3, PySem.W.mg_of X G a3, b3⟩,
    f4, _, ⟨F4, PySem.W.mg_of X G a4, b4⟩,
    f5, _, ⟨F5, PySem.W.mg_of X G a5, b5⟩,
    f6, _, ⟨F6, PySem.W.mg_of X G a6, b6⟩,
    f7, _, ⟨F7, PySem.W.mg_of X G a7, b7⟩,
    f8, _, ⟨F8, PySem.W.mg_of X G a8, b8⟩,
    f9, _, ⟨F9, PySem.W.mg_of X G a9, b9⟩,
    f10, _, ⟨F10, PySem.W.mg_of X G a10, b10⟩,
    f11, _, ⟨F11, PySem.W.mg_of X G a11, b11⟩,
    f12, _, ⟨F12, PySem.W.mg_of X G a12, b12⟩,
    f13, _, ⟨F13, PySem.W.mg_of X G a13, b13⟩,
    f14, _, ⟨F14, PySem.W.mg_of X G a14, b14⟩,
    f15, _, ⟨F15, PySem.W.mg_of X G a15, b15⟩,
    f16, _, ⟨F16, PySem.W.mg_of X G a16, b16⟩,
    f17, _, ⟨F17, PySem.W.mg_of X G a17, b17⟩,
    f18, _, ⟨F18, PySem.W.mg_of X G a18, b18⟩,
    f19, _, ⟨F19, PySem.W.mg_of X G a19, b19⟩,
    f20, _, ⟨F20, PySem.W.mg_of X G a20, b20⟩,
    fa, _, ⟨F21, PySem.W.mg_of X G a21, b21⟩,
    PySem.W.mg_none_of X G z_abs,
    PySem.W.mg_none_of X G z_dict,
    PySem.W.mg_none_of X G z_divmod,
    PySem.W.mg_none_of X G z_int,
    PySem.W.mg_none_of X G z_isinstance,
    PySem.W.mg_none_of X G z_len,
    PySem.W.mg_none_of X G z_max,
    PySem.W.mg_none_of X G z_min,
    PySem.W.mg_none_of X G z_range,
    PySem.W.mg_none_of X G z_sorted,
    PySem.W.mg_none_of X G z_str,
    PySem.W.mg_none_of X G z_tuple,
    gc_str (PySem.W.mg_of X G g_QUIET),
    gc_str (PySem.W.mg_of X G g_FIRE),
    gc_tup (PySem.W.mg_of X G g_LINES) h_LINES u_LINES v_LINES w_LINES x_LINES,
    gc_int (PySem.W.mg_of X G g_LEAST_CUT),
    gc_tup (PySem.W.mg_of X G g_RIGHT) h_RIGHT u_RIGHT v_RIGHT w_RIGHT x_RIGHT,
    gc_tup (PySem.W.mg_of X G g_LEFT) h_LEFT u_LEFT v_LEFT w_LEFT x_LEFT,
    gc_tup (PySem.W.mg_of X G g_POSTS) h_POSTS u_POSTS v_POSTS w_POSTS x_POSTS⟩
  exact ⟨_, fun s v => .of_eq rfl, fun base _ _ => law_imp hlaw (ok_law T)⟩
end Lk42
/-! What a row's hands hold at each beat, by codes of the letters, and that the house's rows lead from each beat to the next. -/
namespace SM
abbrev Cod := Nat × Nat × Nat × Nat
def rows : List Cod := [(20,1,0,2), (0,1,0,2), (0,1,1,2), (1,1,0,2), (20,1,20,14), (4,1,4,14), (4,1,1,14), (1,1,4,14), (20,2,6,3), (7,2,6,3), (7,2,2,3), (2,2,6,3), (20,2,5,14), (20,3,0,4), (0,3,0,4), (0,3,3,4), (3,3,0,4), (6,4,7,5), (20,4,7,5), (6,4,20,5), (6,4,4,5), (4,4,7,5), (20,4,1,14), (1,4,20,14), (1,4,1,14), (1,4,4,14), (4,4,1,14), (0,5,0,4), (0,5,20,4), (20,5,0,4), (0,5,5,4), (5,5,0,4), (2,5,20,14), (1,0,0,6), (1,0,4,6), (6,0,0,6), (6,0,4,6), (5,0,0,6), (5,0,11,6), (6,0,11,6), (0,0,1,7), (4,0,1,7), (0,0,7,7), (4,0,7,7), (0,0,5,7), (8,0,5,7), (8,0,7,7), (3,0,5,1), (5,0,3,1), (10,0,7,1), (6,0,13,1), (3,0,6,8), (10,0,0,8), (7,0,3,11), (0,0,13,11), (6,0,20,5), (1,0,20,5), (2,6,0,0), (2,6,4,0), (0,6,0,0), (0,6,4,0), (4,6,0,0), (4,6,12,1), (0,6,12,1), (0,7,2,0), (4,7,2,0), (0,7,0,0), (4,7,0,0), (0,7,4,0), (9,7,4,1), (9,7,0,1), (4,8,0,9), (0,8,0,9), (4,9,0,10), (0,9,0,10), (4,9,7,1), (0,9,7,1), (4,10,0,0), (0,10,0,0), (0,11,4,12), (0,11,0,12), (0,12,4,13), (0,12,0,13), (6,12,4,1), (6,12,0,1), (0,13,4,0), (0,13,0,0), (0,15,0,16), (0,16,6,17), (0,17,0,4), (6,17,0,18), (15,0,0,6), (6,0,16,6), (6,0,17,6), (16,6,0,0), (0,6,17,0), (17,0,6,8), (6,4,8,18), (6,4,9,18), (6,4,10,18), (6,4,0,18), (0,18,8,4), (0,18,9,4), (0,18,10,4), (0,18,0,4), (0,0,18,7), (8,0,18,7), (18,8,0,9), (18,9,0,10), (18,10,0,0), (0,0,19,19), (20,0,19,19), (0,19,0,0), (0,19,20,0), (20,19,0,1), (20,19,20,1)]
def lookR : List Cod → Nat → Nat → Nat → Nat
  | [], _, s, _ => s
  | q :: t, l, s, r => bif (Nat.beq q.1 l && (Nat.beq q.2.1 s && Nat.beq q.2.2.1 r)) then q.2.2.2 else lookR t l s r
def tb (l s r : Nat) : Nat := lookR rows l s r
def mir (a : Nat) : Nat := if a = 6 then 7 else if a = 7 then 6 else if a = 8 then 11 else if a = 11 then 8 else if a = 9 then 12 else if a = 12 then 9 else if a = 10 then 13 else if a = 13 then 10 else a
theorem mir_big {a : Nat} (h : 14 ≤ a) : mir a = a := by
  unfold mir
  repeat' split
  all_goals omega
theorem mir_mir (a : Nat) : mir (mir a) = a := by
  by_cases h : a < 14
  · exact (by decide : ∀ a, a < 14 → mir (mir a) = a) a h
  · have e := mir_big (a := a) (by omega)
    rw [e, e]
def post (g : Nat) : Nat := if g = 0 then 1 else if g = 1 then 2 else if g = 2 then 3 else 4
def endS (h g : Nat) (fi : Bool) : Nat := if g + 1 = h then 5 else if fi = true ∧ g + 1 < h then 0 else 4
def wave (h g p : Nat) : Nat := if p = g then 6 else if p + g = 2 * (h - 1) ∧ h - 1 < g then 7 else if p = g / 3 then (if g % 3 = 0 then 8 else if g % 3 = 1 then 9 else 10) else 0
/-- one stretch whose post stands at 0 -/
def A (h g : Nat) (fi : Bool) (p : Nat) : Nat := if p = 0 then post g else if p + 1 = h then endS h g fi else wave h g p
def Mh (h : Nat) : Nat := (3 * (h - 1) + 1) / 2
/-- .. at the beat of its meeting -/
def N (h p : Nat) : Nat := if p + 1 = (h + 1) / 2 ∨ p = h / 2 then 1 else if p = 0 ∨ p + 1 = h then 4 else 0
def S (h : Nat) (sd fi : Bool) (g p : Nat) : Nat :=
  if hc : 3 ≤ h ∧ Mh h ≤ g then
    if p < (h + 1) / 2 then S ((h + 1) / 2) true false (g - Mh h) p
    else S ((h + 1) / 2) false false (g - Mh h) (p - h / 2)
  else if h ≤ 2 ∧ 1 ≤ g ∧ fi = false then 14
  else if sd = true then mir (A h g fi (h - 1 - p)) else A h g fi p
termination_by h
decreasing_by all_goals omega
theorem S_rec {h : Nat} {sd fi : Bool} {g p : Nat} (h3 : 3 ≤ h) (hg : Mh h ≤ g) : S h sd fi g p = if p < (h + 1) / 2 then S ((h + 1) / 2) true false (g - Mh h) p else S ((h + 1) / 2) false false (g - Mh h) (p - h / 2) := by
  rw [S, dif_pos ⟨h3, hg⟩]
theorem S_fire {h : Nat} {sd : Bool} {g p : Nat} (h2 : h ≤ 2) (hg : 1 ≤ g) : S h sd false g p = 14 := by
  rw [S, dif_neg (by omega), if_pos ⟨h2, hg, rfl⟩]
theorem S_loc {h : Nat} {sd fi : Bool} {g p : Nat} (h1 : ¬(3 ≤ h ∧ Mh h ≤ g)) (h2 : ¬(h ≤ 2 ∧ 1 ≤ g ∧ fi = false)) : S h sd fi g p = if sd = true then mir (A h g fi (h - 1 - p)) else A h g fi p := by
  rw [S, dif_neg h1, if_neg h2]
theorem mir_post (g : Nat) : mir (post g) = post g := by
  unfold post
  repeat' split
  all_goals rfl
theorem mir_end (h g : Nat) (fi : Bool) : mir (endS h g fi) = endS h g fi := by
  unfold endS
  repeat' split
  all_goals rfl
/-- the ends of a stretch look alike from both sides -/
theorem S_last : ∀ (h : Nat), 2 ≤ h → ∀ sd fi g, mir (S h sd fi g (h - 1)) = S h sd fi g (h - 1) := by
  intro h
  induction h using Nat.strongRecOn with
  | _ h ih =>
    intro h2 sd fi g
    by_cases hc : 3 ≤ h ∧ Mh h ≤ g
    · rw [S_rec hc.1 hc.2, if_neg (by omega)]
      have e : h - 1 - h / 2 = (h + 1) / 2 - 1 := by omega
      rw [e]
      exact ih ((h + 1) / 2) (by omega) (by omega) false false (g - Mh h)
    · by_cases hf : h ≤ 2 ∧ 1 ≤ g ∧ fi = false
      · obtain ⟨h1, hg, rfl⟩ := hf
        rw [S_fire h1 hg]
        rfl
      · rw [S_loc hc hf]
        cases sd with
        | true =>
          rw [if_pos rfl, mir_mir, Nat.sub_self]
          show post g = mir (post g)
          rw [mir_post]
        | false =>
          rw [if_neg Bool.false_ne_true]
          unfold A
          rw [if_neg (by omega), if_pos (by omega), mir_end]
theorem S_mir : ∀ (h : Nat), 2 ≤ h → ∀ fi g p, p < h → S h true fi g p = mir (S h false fi g (h - 1 - p)) := by
  intro h
  induction h using Nat.strongRecOn with
  | _ h ih =>
    intro h2 fi g p hp
    by_cases hc : 3 ≤ h ∧ Mh h ≤ g
    · rw [S_rec hc.1 hc.2, S_rec hc.1 hc.2]
      have q := fun p hp => ih ((h + 1) / 2) (by omega) (by omega) false (g - Mh h) p hp
      by_cases c1 : p < (h + 1) / 2
      · rw [if_pos c1]
        by_cases c2 : h - 1 - p < (h + 1) / 2
        · rw [if_pos c2]
          have e1 : h - 1 - p = (h + 1) / 2 - 1 := by omega
          have e2 : p = (h + 1) / 2 - 1 := by omega
          rw [e1, e2, S_last _ (by omega)]
        · rw [if_neg c2, q p c1]
          congr 2
          omega
      · rw [if_neg c1]
        by_cases c2 : h - 1 - p < (h + 1) / 2
        · rw [if_pos c2, q _ c2, mir_mir]
          congr 1
          omega
        · omega
    · by_cases hf : h ≤ 2 ∧ 1 ≤ g ∧ fi = false
      · obtain ⟨h1, hg, rfl⟩ := hf
        rw [S_fire h1 hg, S_fire h1 hg]
        rfl
      · rw [S_loc hc hf, S_loc hc hf, if_pos rfl, if_neg Bool.false_ne_true]
theorem S_first {h : Nat} (h2 : 2 ≤ h) (sd fi : Bool) (g : Nat) : mir (S h sd fi g 0) = S h sd fi g 0 := by
  cases sd with
  | true =>
    rw [S_mir h h2 fi g 0 (by omega), Nat.sub_zero, S_last h h2, S_last h h2]
  | false =>
    have e := S_mir h h2 fi g (h - 1) (by omega)
    rw [Nat.sub_self] at e
    have z := S_last h h2 true fi g
    rw [e, mir_mir] at z
    exact z.symm
inductive Ed where
  | fin
  | dbl
  | shr
deriving DecidableEq
def lef (e : Ed) (f : Nat → Nat) : Nat := match e with
  | .fin => 20
  | .dbl => mir (f 0)
  | .shr => mir (f 1)
def rig (e : Ed) (h : Nat) (f : Nat → Nat) : Nat := match e with
  | .fin => 20
  | .dbl => mir (f (h - 1))
  | .shr => mir (f (h - 2))
def Lw (e : Ed) (f : Nat → Nat) (p : Nat) : Nat := if p = 0 then lef e f else f (p - 1)
def Rw (e : Ed) (h : Nat) (f : Nat → Nat) (p : Nat) : Nat := if p + 1 = h then rig e h f else f (p + 1)
/-- what a window tells, and what its mirror tells -/
def Win (fi : Bool) (l s r n : Nat) : Prop := tb l s r = n ∧ (fi = false → tb (mir r) (mir s) (mir l) = mir n)
def Win2 (l s r n : Nat) : Prop := tb l s r = n ∧ tb (mir r) (mir s) (mir l) = mir n
instance (fi : Bool) (l s r n : Nat) : Decidable (Win fi l s r n) := by unfold Win; infer_instance
instance (l s r n : Nat) : Decidable (Win2 l s r n) := by unfold Win2; infer_instance
theorem Win2.win {l s r n : Nat} (h : Win2 l s r n) (fi : Bool) : Win fi l s r n := ⟨h.1, fun _ => h.2⟩
/-- the wave by thirds -/
def wv (h g p k : Nat) (c : Nat) : Nat := if p = g then 6 else if p + g = 2 * (h - 1) ∧ h - 1 < g then 7 else if p = k then c else 0
theorem wave0 (h k p : Nat) : wave h (3 * k) p = wv h (3 * k) p k 8 := by
  unfold wave wv
  have e1 : 3 * k / 3 = k := by omega
  have e2 : 3 * k % 3 = 0 := by omega
  rw [e1, e2]
  rfl
theorem wave1 (h k p : Nat) : wave h (3 * k + 1) p = wv h (3 * k + 1) p k 9 := by
  unfold wave wv
  have e1 : (3 * k + 1) / 3 = k := by omega
  have e2 : (3 * k + 1) % 3 = 1 := by omega
  rw [e1, e2]
  rfl
theorem wave2 (h k p : Nat) : wave h (3 * k + 2) p = wv h (3 * k + 2) p k 10 := by
  unfold wave wv
  have e1 : (3 * k + 2) / 3 = k := by omega
  have e2 : (3 * k + 2) % 3 = 2 := by omega
  rw [e1, e2]
  rfl
theorem wave3 (h k p : Nat) : wave h (3 * k + 2 + 1) p = wv h (3 * k + 3) p (k + 1) 8 := wave0 h (k + 1) p
theorem thirds (g : Nat) : ∃ k, g = 3 * k ∨ g = 3 * k + 1 ∨ g = 3 * k + 2 := ⟨g / 3, by omega⟩
theorem A_in {h g : Nat} {fi : Bool} {p : Nat} (h1 : p ≠ 0) (h2 : p + 1 ≠ h) : A h g fi p = wave h g p := by
  unfold A
  rw [if_neg h1, if_neg h2]
theorem A_0 {h g : Nat} {fi : Bool} : A h g fi 0 = post g := rfl
theorem A_e {h g : Nat} {fi : Bool} {p : Nat} (h1 : p ≠ 0) (h2 : p + 1 = h) : A h g fi p = endS h g fi := by
  unfold A
  rw [if_neg h1, if_pos h2]
theorem loc_in {h g : Nat} {fi : Bool} (h3 : 3 ≤ h) (hg : g + 1 < Mh h) {p : Nat} (hp : 2 ≤ p) (hq : p + 2 < h) : Win fi (A h g fi (p - 1)) (A h g fi p) (A h g fi (p + 1)) (A h (g + 1) fi p) := by
  unfold Mh at hg
  refine Win2.win ?_ fi
  rw [A_in (by omega) (by omega), A_in (by omega) (by omega), A_in (by omega) (by omega), A_in (by omega) (by omega)]
  obtain ⟨k, rfl | rfl | rfl⟩ := thirds g
  · rw [wave0, wave0, wave0, wave1]
    unfold wv
    (repeat' (split <;> try (exfalso; omega))) <;> first | decide | (exfalso; omega)
  · rw [wave1, wave1, wave1, wave2]
    unfold wv
    (repeat' (split <;> try (exfalso; omega))) <;> first | decide | (exfalso; omega)
  · rw [wave2, wave2, wave2, wave3]
    unfold wv
    (repeat' (split <;> try (exfalso; omega))) <;> first | decide | (exfalso; omega)
/-- the edges of a stretch, the next beat of the same level -/
theorem loc_0f {h g : Nat} (h3 : 3 ≤ h) (hg : g + 1 < Mh h) : tb 20 (post g) (wave h g 1) = post (g + 1) := by
  unfold Mh at hg
  obtain ⟨k, rfl | rfl | rfl⟩ := thirds g
  · simp only [wave0]
    unfold wv
    try unfold post
    (repeat' (split <;> try (exfalso; omega))) <;> first | decide | (exfalso; omega)
  · simp only [wave1]
    unfold wv
    try unfold post
    (repeat' (split <;> try (exfalso; omega))) <;> first | decide | (exfalso; omega)
  · simp only [wave2]
    unfold wv
    try unfold post
    (repeat' (split <;> try (exfalso; omega))) <;> first | decide | (exfalso; omega)
theorem loc_0d {h g : Nat} (h3 : 3 ≤ h) (hg : g + 1 < Mh h) : Win2 (post g) (post g) (wave h g 1) (post (g + 1)) := by
  unfold Mh at hg
  obtain ⟨k, rfl | rfl | rfl⟩ := thirds g
  · simp only [wave0]
    unfold wv
    try unfold post
    (repeat' (split <;> try (exfalso; omega))) <;> first | decide | (exfalso; omega)
  · simp only [wave1]
    unfold wv
    try unfold post
    (repeat' (split <;> try (exfalso; omega))) <;> first | decide | (exfalso; omega)
  · simp only [wave2]
    unfold wv
    try unfold post
    (repeat' (split <;> try (exfalso; omega))) <;> first | decide | (exfalso; omega)
theorem loc_0s {h g : Nat} (h3 : 3 ≤ h) (hg : g + 1 < Mh h) : Win2 (mir (wave h g 1)) (post g) (wave h g 1) (post (g + 1)) := by
  unfold Mh at hg
  obtain ⟨k, rfl | rfl | rfl⟩ := thirds g
  · simp only [wave0]
    unfold wv
    try unfold post
    (repeat' (split <;> try (exfalso; omega))) <;> first | decide | (exfalso; omega)
  · simp only [wave1]
    unfold wv
    try unfold post
    (repeat' (split <;> try (exfalso; omega))) <;> first | decide | (exfalso; omega)
  · simp only [wave2]
    unfold wv
    try unfold post
    (repeat' (split <;> try (exfalso; omega))) <;> first | decide | (exfalso; omega)
theorem loc_1 {h g : Nat} (h3 : 4 ≤ h) (hg : g + 1 < Mh h) : Win2 (post g) (wave h g 1) (wave h g 2) (wave h (g + 1) 1) := by
  unfold Mh at hg
  obtain ⟨k, rfl | rfl | rfl⟩ := thirds g
  · simp only [wave0, wave1]
    unfold wv
    try unfold post
    (repeat' (split <;> try (exfalso; omega))) <;> first | decide | (exfalso; omega)
  · simp only [wave1, wave2]
    unfold wv
    try unfold post
    (repeat' (split <;> try (exfalso; omega))) <;> first | decide | (exfalso; omega)
  · simp only [wave2, wave3]
    unfold wv
    try unfold post
    (repeat' (split <;> try (exfalso; omega))) <;> first | decide | (exfalso; omega)
theorem loc_13 {g : Nat} {fi : Bool} (hg : g + 1 < Mh 3) : Win fi (post g) (wave 3 g 1) (endS 3 g fi) (wave 3 (g + 1) 1) := by
  unfold Mh at hg
  have : g = 0 ∨ g = 1 := by omega
  rcases this with rfl | rfl <;> cases fi <;> decide
theorem loc_h2 {h g : Nat} {fi : Bool} (h3 : 4 ≤ h) (hg : g + 1 < Mh h) : Win fi (wave h g (h - 3)) (wave h g (h - 2)) (endS h g fi) (wave h (g + 1) (h - 2)) := by
  unfold Mh at hg
  refine Win2.win ?_ fi
  unfold endS
  cases fi
  · simp only [Bool.false_eq_true, false_and, if_false]
    obtain ⟨k, rfl | rfl | rfl⟩ := thirds g
    · simp only [wave0, wave1]
      unfold wv
      try unfold post
      (repeat' (split <;> try (exfalso; omega))) <;> first | decide | (exfalso; omega)
    · simp only [wave1, wave2]
      unfold wv
      try unfold post
      (repeat' (split <;> try (exfalso; omega))) <;> first | decide | (exfalso; omega)
    · simp only [wave2, wave3]
      unfold wv
      try unfold post
      (repeat' (split <;> try (exfalso; omega))) <;> first | decide | (exfalso; omega)
  · simp only [true_and]
    obtain ⟨k, rfl | rfl | rfl⟩ := thirds g
    · simp only [wave0, wave1]
      unfold wv
      try unfold post
      (repeat' (split <;> try (exfalso; omega))) <;> first | decide | (exfalso; omega)
    · simp only [wave1, wave2]
      unfold wv
      try unfold post
      (repeat' (split <;> try (exfalso; omega))) <;> first | decide | (exfalso; omega)
    · simp only [wave2, wave3]
      unfold wv
      try unfold post
      (repeat' (split <;> try (exfalso; omega))) <;> first | decide | (exfalso; omega)
theorem loc_h1f {h g : Nat} {fi : Bool} (h3 : 3 ≤ h) (hg : g + 1 < Mh h) : Win fi (wave h g (h - 2)) (endS h g fi) 20 (endS h (g + 1) fi) := by
  unfold Mh at hg
  unfold endS
  cases fi
  · simp only [Bool.false_eq_true, false_and, if_false]
    obtain ⟨k, rfl | rfl | rfl⟩ := thirds g
    · simp only [wave0]
      unfold wv
      try unfold post
      (repeat' (split <;> try (exfalso; omega))) <;> first | decide | (exfalso; omega)
    · simp only [wave1]
      unfold wv
      try unfold post
      (repeat' (split <;> try (exfalso; omega))) <;> first | decide | (exfalso; omega)
    · simp only [wave2]
      unfold wv
      try unfold post
      (repeat' (split <;> try (exfalso; omega))) <;> first | decide | (exfalso; omega)
  · simp only [true_and]
    obtain ⟨k, rfl | rfl | rfl⟩ := thirds g
    · simp only [wave0]
      unfold wv
      try unfold post
      (repeat' (split <;> try (exfalso; omega))) <;> first | decide | (exfalso; omega)
    · simp only [wave1]
      unfold wv
      try unfold post
      (repeat' (split <;> try (exfalso; omega))) <;> first | decide | (exfalso; omega)
    · simp only [wave2]
      unfold wv
      try unfold post
      (repeat' (split <;> try (exfalso; omega))) <;> first | decide | (exfalso; omega)
theorem loc_h1d {h g : Nat} (h3 : 3 ≤ h) (hg : g + 1 < Mh h) : Win2 (wave h g (h - 2)) (endS h g false) (endS h g false) (endS h (g + 1) false) := by
  unfold Mh at hg
  unfold endS
  simp only [Bool.false_eq_true, false_and, if_false]
  obtain ⟨k, rfl | rfl | rfl⟩ := thirds g
  · simp only [wave0]
    unfold wv
    try unfold post
    (repeat' (split <;> try (exfalso; omega))) <;> first | decide | (exfalso; omega)
  · simp only [wave1]
    unfold wv
    try unfold post
    (repeat' (split <;> try (exfalso; omega))) <;> first | decide | (exfalso; omega)
  · simp only [wave2]
    unfold wv
    try unfold post
    (repeat' (split <;> try (exfalso; omega))) <;> first | decide | (exfalso; omega)
theorem loc_h1s {h g : Nat} (h3 : 3 ≤ h) (hg : g + 1 < Mh h) : Win2 (wave h g (h - 2)) (endS h g false) (mir (wave h g (h - 2))) (endS h (g + 1) false) := by
  unfold Mh at hg
  unfold endS
  simp only [Bool.false_eq_true, false_and, if_false]
  obtain ⟨k, rfl | rfl | rfl⟩ := thirds g
  · simp only [wave0]
    unfold wv
    try unfold post
    (repeat' (split <;> try (exfalso; omega))) <;> first | decide | (exfalso; omega)
  · simp only [wave1]
    unfold wv
    try unfold post
    (repeat' (split <;> try (exfalso; omega))) <;> first | decide | (exfalso; omega)
  · simp only [wave2]
    unfold wv
    try unfold post
    (repeat' (split <;> try (exfalso; omega))) <;> first | decide | (exfalso; omega)
theorem chg_in {h g : Nat} (h3 : 3 ≤ h) (hg : g + 1 = Mh h) {p : Nat} (hp : 2 ≤ p) (hq : p + 2 < h) : Win2 (wave h g (p - 1)) (wave h g p) (wave h g (p + 1)) (N h p) := by
  unfold Mh at hg
  try unfold N
  obtain ⟨k, rfl | rfl | rfl⟩ := thirds g
  · simp only [wave0]
    unfold wv
    try unfold post
    (repeat' (split <;> try (exfalso; omega))) <;> first | decide | (exfalso; omega)
  · simp only [wave1]
    unfold wv
    try unfold post
    (repeat' (split <;> try (exfalso; omega))) <;> first | decide | (exfalso; omega)
  · simp only [wave2]
    unfold wv
    try unfold post
    (repeat' (split <;> try (exfalso; omega))) <;> first | decide | (exfalso; omega)
theorem chg_0f {h g : Nat} (h3 : 3 ≤ h) (hg : g + 1 = Mh h) : tb 20 (post g) (wave h g 1) = 4 := by
  unfold Mh at hg
  try unfold N
  obtain ⟨k, rfl | rfl | rfl⟩ := thirds g
  · simp only [wave0]
    unfold wv
    try unfold post
    (repeat' (split <;> try (exfalso; omega))) <;> first | decide | (exfalso; omega)
  · simp only [wave1]
    unfold wv
    try unfold post
    (repeat' (split <;> try (exfalso; omega))) <;> first | decide | (exfalso; omega)
  · simp only [wave2]
    unfold wv
    try unfold post
    (repeat' (split <;> try (exfalso; omega))) <;> first | decide | (exfalso; omega)
theorem chg_0d {h g : Nat} (h3 : 3 ≤ h) (hg : g + 1 = Mh h) : Win2 (post g) (post g) (wave h g 1) (4) := by
  unfold Mh at hg
  try unfold N
  obtain ⟨k, rfl | rfl | rfl⟩ := thirds g
  · simp only [wave0]
    unfold wv
    try unfold post
    (repeat' (split <;> try (exfalso; omega))) <;> first | decide | (exfalso; omega)
  · simp only [wave1]
    unfold wv
    try unfold post
    (repeat' (split <;> try (exfalso; omega))) <;> first | decide | (exfalso; omega)
  · simp only [wave2]
    unfold wv
    try unfold post
    (repeat' (split <;> try (exfalso; omega))) <;> first | decide | (exfalso; omega)
theorem chg_0s {h g : Nat} (h3 : 3 ≤ h) (hg : g + 1 = Mh h) : Win2 (mir (wave h g 1)) (post g) (wave h g 1) (4) := by
  unfold Mh at hg
  try unfold N
  obtain ⟨k, rfl | rfl | rfl⟩ := thirds g
  · simp only [wave0]
    unfold wv
    try unfold post
    (repeat' (split <;> try (exfalso; omega))) <;> first | decide | (exfalso; omega)
  · simp only [wave1]
    unfold wv
    try unfold post
    (repeat' (split <;> try (exfalso; omega))) <;> first | decide | (exfalso; omega)
  · simp only [wave2]
    unfold wv
    try unfold post
    (repeat' (split <;> try (exfalso; omega))) <;> first | decide | (exfalso; omega)
theorem chg_1 {h g : Nat} (h3 : 4 ≤ h) (hg : g + 1 = Mh h) : Win2 (post g) (wave h g 1) (wave h g 2) (N h 1) := by
  unfold Mh at hg
  try unfold N
  obtain ⟨k, rfl | rfl | rfl⟩ := thirds g
  · simp only [wave0]
    unfold wv
    try unfold post
    (repeat' (split <;> try (exfalso; omega))) <;> first | decide | (exfalso; omega)
  · simp only [wave1]
    unfold wv
    try unfold post
    (repeat' (split <;> try (exfalso; omega))) <;> first | decide | (exfalso; omega)
  · simp only [wave2]
    unfold wv
    try unfold post
    (repeat' (split <;> try (exfalso; omega))) <;> first | decide | (exfalso; omega)
theorem chg_13 {g : Nat} {fi : Bool} (hg : g + 1 = Mh 3) : Win fi (post g) (wave 3 g 1) (endS 3 g fi) (N 3 1) := by
  unfold Mh at hg
  try unfold N
  have : g = 2 := by omega
  subst this
  cases fi <;> decide
theorem chg_h2 {h g : Nat} {fi : Bool} (h3 : 4 ≤ h) (hg : g + 1 = Mh h) : Win fi (wave h g (h - 3)) (wave h g (h - 2)) (endS h g fi) (N h (h - 2)) := by
  unfold Mh at hg
  try unfold N
  refine Win2.win ?_ fi
  unfold endS
  cases fi
  · simp only [Bool.false_eq_true, false_and, if_false]
    obtain ⟨k, rfl | rfl | rfl⟩ := thirds g
    · simp only [wave0]
      unfold wv
      try unfold post
      (repeat' (split <;> try (exfalso; omega))) <;> first | decide | (exfalso; omega)
    · simp only [wave1]
      unfold wv
      try unfold post
      (repeat' (split <;> try (exfalso; omega))) <;> first | decide | (exfalso; omega)
    · simp only [wave2]
      unfold wv
      try unfold post
      (repeat' (split <;> try (exfalso; omega))) <;> first | decide | (exfalso; omega)
  · simp only [true_and]
    obtain ⟨k, rfl | rfl | rfl⟩ := thirds g
    · simp only [wave0]
      unfold wv
      try unfold post
      (repeat' (split <;> try (exfalso; omega))) <;> first | decide | (exfalso; omega)
    · simp only [wave1]
      unfold wv
      try unfold post
      (repeat' (split <;> try (exfalso; omega))) <;> first | decide | (exfalso; omega)
    · simp only [wave2]
      unfold wv
      try unfold post
      (repeat' (split <;> try (exfalso; omega))) <;> first | decide | (exfalso; omega)
theorem chg_h1f {h g : Nat} {fi : Bool} (h3 : 3 ≤ h) (hg : g + 1 = Mh h) : Win fi (wave h g (h - 2)) (endS h g fi) 20 (N h (h - 1)) := by
  unfold Mh at hg
  try unfold N
  unfold endS
  cases fi
  · simp only [Bool.false_eq_true, false_and, if_false]
    obtain ⟨k, rfl | rfl | rfl⟩ := thirds g
    · simp only [wave0]
      unfold wv
      try unfold post
      (repeat' (split <;> try (exfalso; omega))) <;> first | decide | (exfalso; omega)
    · simp only [wave1]
      unfold wv
      try unfold post
      (repeat' (split <;> try (exfalso; omega))) <;> first | decide | (exfalso; omega)
    · simp only [wave2]
      unfold wv
      try unfold post
      (repeat' (split <;> try (exfalso; omega))) <;> first | decide | (exfalso; omega)
  · simp only [true_and]
    obtain ⟨k, rfl | rfl | rfl⟩ := thirds g
    · simp only [wave0]
      unfold wv
      try unfold post
      (repeat' (split <;> try (exfalso; omega))) <;> first | decide | (exfalso; omega)
    · simp only [wave1]
      unfold wv
      try unfold post
      (repeat' (split <;> try (exfalso; omega))) <;> first | decide | (exfalso; omega)
    · simp only [wave2]
      unfold wv
      try unfold post
      (repeat' (split <;> try (exfalso; omega))) <;> first | decide | (exfalso; omega)
theorem chg_h1d {h g : Nat} (h3 : 3 ≤ h) (hg : g + 1 = Mh h) : Win2 (wave h g (h - 2)) (endS h g false) (endS h g false) (N h (h - 1)) := by
  unfold Mh at hg
  try unfold N
  unfold endS
  simp only [Bool.false_eq_true, false_and, if_false]
  obtain ⟨k, rfl | rfl | rfl⟩ := thirds g
  · simp only [wave0]
    unfold wv
    try unfold post
    (repeat' (split <;> try (exfalso; omega))) <;> first | decide | (exfalso; omega)
  · simp only [wave1]
    unfold wv
    try unfold post
    (repeat' (split <;> try (exfalso; omega))) <;> first | decide | (exfalso; omega)
  · simp only [wave2]
    unfold wv
    try unfold post
    (repeat' (split <;> try (exfalso; omega))) <;> first | decide | (exfalso; omega)
theorem chg_h1s {h g : Nat} (h3 : 3 ≤ h) (hg : g + 1 = Mh h) : Win2 (wave h g (h - 2)) (endS h g false) (mir (wave h g (h - 2))) (N h (h - 1)) := by
  unfold Mh at hg
  try unfold N
  unfold endS
  simp only [Bool.false_eq_true, false_and, if_false]
  obtain ⟨k, rfl | rfl | rfl⟩ := thirds g
  · simp only [wave0]
    unfold wv
    try unfold post
    (repeat' (split <;> try (exfalso; omega))) <;> first | decide | (exfalso; omega)
  · simp only [wave1]
    unfold wv
    try unfold post
    (repeat' (split <;> try (exfalso; omega))) <;> first | decide | (exfalso; omega)
  · simp only [wave2]
    unfold wv
    try unfold post
    (repeat' (split <;> try (exfalso; omega))) <;> first | decide | (exfalso; omega)
theorem N_0 {h : Nat} (h3 : 3 ≤ h) : N h 0 = 4 := by
  unfold N
  rw [if_neg (by omega), if_pos (.inl rfl)]
end SM
namespace SM
/-- the whole local law: a stretch with its post at 0, the next beat of the same level -/
theorem loc_all {h g : Nat} {fi : Bool} {EL ER : Ed} (h3 : 3 ≤ h) (hg : g + 1 < Mh h) (hf : fi = true → EL = .fin ∧ ER = .fin) (hL : fi = false → EL ≠ .fin) {p : Nat} (hp : p < h) :
    Win fi (Lw EL (A h g fi) p) (A h g fi p) (Rw ER h (A h g fi) p) (A h (g + 1) fi p) := by
  by_cases c0 : p = 0
  · subst c0
    have e1 : A h g fi 1 = wave h g 1 := A_in (by omega) (by omega)
    have er : Rw ER h (A h g fi) 0 = wave h g 1 := by unfold Rw; rw [if_neg (by omega), Nat.zero_add, e1]
    have el : Lw EL (A h g fi) 0 = lef EL (A h g fi) := by unfold Lw; rw [if_pos rfl]
    rw [er, el, A_0, A_0]
    cases EL with
    | fin =>
      cases fi with
      | true => exact ⟨loc_0f h3 hg, fun e => by cases e⟩
      | false => exact absurd rfl (hL rfl)
    | dbl =>
      have : lef .dbl (A h g fi) = post g := by show mir (A h g fi 0) = _; rw [A_0, mir_post]
      rw [this]
      exact (loc_0d h3 hg).win fi
    | shr =>
      have : lef .shr (A h g fi) = mir (wave h g 1) := by show mir (A h g fi 1) = _; rw [e1]
      rw [this]
      exact (loc_0s h3 hg).win fi
  · have el : Lw EL (A h g fi) p = A h g fi (p - 1) := by unfold Lw; rw [if_neg c0]
    rw [el]
    by_cases ce : p + 1 = h
    · have er : Rw ER h (A h g fi) p = rig ER h (A h g fi) := by unfold Rw; rw [if_pos ce]
      have e1 : p - 1 = h - 2 := by omega
      rw [er, A_e c0 ce, A_e c0 ce, e1]
      have e2 : A h g fi (h - 2) = wave h g (h - 2) := A_in (by omega) (by omega)
      rw [e2]
      cases ER with
      | fin => exact loc_h1f h3 hg
      | dbl =>
        cases fi with
        | true => have := (hf rfl).2; cases this
        | false =>
          have : rig .dbl h (A h g false) = endS h g false := by show mir (A h g false (h - 1)) = _; rw [A_e (by omega) (by omega), mir_end]
          rw [this]
          exact (loc_h1d h3 hg).win _
      | shr =>
        cases fi with
        | true => have := (hf rfl).2; cases this
        | false =>
          have : rig .shr h (A h g false) = mir (wave h g (h - 2)) := by show mir (A h g false (h - 2)) = _; rw [e2]
          rw [this]
          exact (loc_h1s h3 hg).win _
    · have er : Rw ER h (A h g fi) p = A h g fi (p + 1) := by unfold Rw; rw [if_neg ce]
      rw [er]
      by_cases c1 : p = 1
      · subst c1
        rw [Nat.sub_self, A_0, A_in (by omega) ce, A_in (by omega) ce]
        by_cases c4 : h = 3
        · subst c4
          rw [A_e (by omega) (by omega)]
          exact loc_13 hg
        · rw [A_in (by omega) (by omega)]
          exact (loc_1 (by omega) hg).win fi
      · by_cases c2 : p + 2 = h
        · have e3 : p - 1 = h - 3 := by omega
          have e4 : p = h - 2 := by omega
          rw [A_e (p := p + 1) (by omega) (by omega), A_in c0 ce, A_in (by omega) (by omega), A_in (p := p) (g := g + 1) c0 ce, e3, e4]
          exact loc_h2 (by omega) hg
        · exact loc_in h3 hg (by omega) (by omega)
theorem chg_all {h g : Nat} {fi : Bool} {EL ER : Ed} (h3 : 3 ≤ h) (hg : g + 1 = Mh h) (hf : fi = true → EL = .fin ∧ ER = .fin) (hL : fi = false → EL ≠ .fin) {p : Nat} (hp : p < h) :
    Win fi (Lw EL (A h g fi) p) (A h g fi p) (Rw ER h (A h g fi) p) (N h p) := by
  by_cases c0 : p = 0
  · subst c0
    have e1 : A h g fi 1 = wave h g 1 := A_in (by omega) (by omega)
    have er : Rw ER h (A h g fi) 0 = wave h g 1 := by unfold Rw; rw [if_neg (by omega), Nat.zero_add, e1]
    have el : Lw EL (A h g fi) 0 = lef EL (A h g fi) := by unfold Lw; rw [if_pos rfl]
    rw [er, el, A_0, N_0 h3]
    cases EL with
    | fin =>
      cases fi with
      | true => exact ⟨chg_0f h3 hg, fun e => by cases e⟩
      | false => exact absurd rfl (hL rfl)
    | dbl =>
      have : lef .dbl (A h g fi) = post g := by show mir (A h g fi 0) = _; rw [A_0, mir_post]
      rw [this]
      exact (chg_0d h3 hg).win fi
    | shr =>
      have : lef .shr (A h g fi) = mir (wave h g 1) := by show mir (A h g fi 1) = _; rw [e1]
      rw [this]
      exact (chg_0s h3 hg).win fi
  · have el : Lw EL (A h g fi) p = A h g fi (p - 1) := by unfold Lw; rw [if_neg c0]
    rw [el]
    by_cases ce : p + 1 = h
    · have er : Rw ER h (A h g fi) p = rig ER h (A h g fi) := by unfold Rw; rw [if_pos ce]
      have e1 : p - 1 = h - 2 := by omega
      have e0 : p = h - 1 := by omega
      rw [er, A_e c0 ce, e1, e0]
      have e2 : A h g fi (h - 2) = wave h g (h - 2) := A_in (by omega) (by omega)
      rw [e2]
      cases ER with
      | fin => exact chg_h1f h3 hg
      | dbl =>
        cases fi with
        | true => have := (hf rfl).2; cases this
        | false =>
          have : rig .dbl h (A h g false) = endS h g false := by show mir (A h g false (h - 1)) = _; rw [A_e (by omega) (by omega), mir_end]
          rw [this]
          exact (chg_h1d h3 hg).win _
      | shr =>
        cases fi with
        | true => have := (hf rfl).2; cases this
        | false =>
          have : rig .shr h (A h g false) = mir (wave h g (h - 2)) := by show mir (A h g false (h - 2)) = _; rw [e2]
          rw [this]
          exact (chg_h1s h3 hg).win _
    · have er : Rw ER h (A h g fi) p = A h g fi (p + 1) := by unfold Rw; rw [if_neg ce]
      rw [er]
      by_cases c1 : p = 1
      · subst c1
        rw [Nat.sub_self, A_0, A_in (by omega) ce]
        by_cases c4 : h = 3
        · subst c4
          rw [A_e (by omega) (by omega)]
          exact chg_13 hg
        · rw [A_in (by omega) (by omega)]
          exact (chg_1 (by omega) hg).win fi
      · by_cases c2 : p + 2 = h
        · have e3 : p - 1 = h - 3 := by omega
          have e4 : p = h - 2 := by omega
          rw [A_e (p := p + 1) (by omega) (by omega), A_in c0 ce, A_in (by omega) (by omega), e3, e4]
          exact chg_h2 (by omega) hg
        · rw [A_in (by omega) (by omega), A_in c0 ce, A_in (by omega) (by omega)]
          exact (chg_in h3 hg (by omega) (by omega)).win fi
/-- a window of a stretch whose post stands at its end, by the one mirrored -/
theorem win_mir {h : Nat} {f n : Nat → Nat} {EL ER : Ed} {p : Nat} (h2 : 2 ≤ h) (hp : p < h) (w : Win false (Lw ER f (h - 1 - p)) (f (h - 1 - p)) (Rw EL h f (h - 1 - p)) (n (h - 1 - p))) :
    tb (Lw EL (fun q => mir (f (h - 1 - q))) p) (mir (f (h - 1 - p))) (Rw ER h (fun q => mir (f (h - 1 - q))) p) = mir (n (h - 1 - p)) := by
  have e1 : Lw EL (fun q => mir (f (h - 1 - q))) p = mir (Rw EL h f (h - 1 - p)) := by
    unfold Lw Rw
    by_cases c : p = 0
    · rw [if_pos c, if_pos (by omega)]
      cases EL with
      | fin => rfl
      | dbl => rfl
      | shr => show mir (mir (f (h - 1 - 1))) = mir (mir (f (h - 2))); congr 3
    · rw [if_neg c, if_neg (by omega)]
      show mir (f (h - 1 - (p - 1))) = _
      congr 2
      omega
  have e2 : Rw ER h (fun q => mir (f (h - 1 - q))) p = mir (Lw ER f (h - 1 - p)) := by
    unfold Lw Rw
    by_cases c : p + 1 = h
    · rw [if_pos c, if_pos (by omega)]
      cases ER with
      | fin => rfl
      | dbl => show mir (mir (f (h - 1 - (h - 1)))) = mir (mir (f 0)); congr 3; omega
      | shr => show mir (mir (f (h - 1 - (h - 2)))) = mir (mir (f 1)); congr 3; omega
    · rw [if_neg c, if_neg (by omega)]
      show mir (f (h - 1 - (p + 1))) = _
      congr 2
  rw [e1, e2]
  exact w.2 rfl
theorem N_mir {h p : Nat} (h2 : 2 ≤ h) (hp : p < h) : mir (N h (h - 1 - p)) = N h p := by
  unfold N
  (repeat' (split <;> try (exfalso; omega))) <;> first | rfl | (exfalso; omega)
theorem S_chg {h : Nat} {sd fi : Bool} {g p : Nat} (h3 : 3 ≤ h) (hg : g = Mh h) (hp : p < h) : S h sd fi g p = N h p := by
  rw [S_rec h3 (by omega), hg, Nat.sub_self]
  have hm : 2 ≤ Mh ((h + 1) / 2) ∨ (h + 1) / 2 = 2 := by unfold Mh; omega
  rw [S_loc (by omega) (by omega), S_loc (by omega) (by omega)]
  simp only [if_true, Bool.false_eq_true, if_false]
  unfold A N post endS wave
  simp only [Bool.false_eq_true, false_and, if_false, if_true, Nat.zero_div, Nat.zero_mod]
  (repeat' (split <;> try (exfalso; omega))) <;> first | rfl | (exfalso; omega)
theorem S_locF {h g : Nat} {fi : Bool} (h3 : 3 ≤ h) (hg : g < Mh h) : S h false fi g = A h g fi := by
  funext q
  rw [S_loc (by omega) (by omega), if_neg Bool.false_ne_true]
theorem S_locT {h g : Nat} {fi : Bool} (h3 : 3 ≤ h) (hg : g < Mh h) : S h true fi g = fun q => mir (A h g fi (h - 1 - q)) := by
  funext q
  rw [S_loc (by omega) (by omega), if_pos rfl]
theorem S_2F : S 2 false false 0 = fun q => A 2 0 false q := by
  funext q
  rw [S_loc (by omega) (by omega), if_neg Bool.false_ne_true]
theorem S_2T : S 2 true false 0 = fun q => mir (A 2 0 false (1 - q)) := by
  funext q
  rw [S_loc (by omega) (by omega), if_pos rfl]
/-- the rows of the house lead each stretch from a beat to the next -/
theorem main : ∀ (h : Nat), 2 ≤ h → ∀ (sd fi : Bool) (g : Nat) (EL ER : Ed), (fi = true → sd = false ∧ EL = .fin ∧ ER = .fin ∧ 3 ≤ h) → (fi = false → sd = false → EL ≠ .fin) → (fi = false → sd = true → ER ≠ .fin) →
    ∀ p, p < h → tb (Lw EL (S h sd fi g) p) (S h sd fi g p) (Rw ER h (S h sd fi g) p) = S h sd fi (g + 1) p := by
  intro h
  induction h using Nat.strongRecOn with
  | _ h ih =>
    intro h2 sd fi g EL ER hf hL hR p hp
    by_cases hc : 3 ≤ h ∧ Mh h ≤ g
    · obtain ⟨h3, hg⟩ := hc
      have ea : ∀ q, S h sd fi g q = if q < (h + 1) / 2 then S ((h + 1) / 2) true false (g - Mh h) q else S ((h + 1) / 2) false false (g - Mh h) (q - h / 2) := fun q => S_rec h3 hg
      have eb : S h sd fi (g + 1) p = if p < (h + 1) / 2 then S ((h + 1) / 2) true false (g - Mh h + 1) p else S ((h + 1) / 2) false false (g - Mh h + 1) (p - h / 2) := by
        rw [S_rec h3 (by omega)]
        have : g + 1 - Mh h = g - Mh h + 1 := by omega
        rw [this]
      have hm : ∀ q, q < (h + 1) / 2 → S ((h + 1) / 2) true false (g - Mh h) q = mir (S ((h + 1) / 2) false false (g - Mh h) ((h + 1) / 2 - 1 - q)) := fun q hq => S_mir _ (by omega) _ _ _ hq
      have h0 : mir (S ((h + 1) / 2) false false (g - Mh h) 0) = S ((h + 1) / 2) false false (g - Mh h) 0 := S_first (by omega) _ _ _
      have ihT := ih ((h + 1) / 2) (by omega) (by omega) true false (g - Mh h)
      have ihF := ih ((h + 1) / 2) (by omega) (by omega) false false (g - Mh h)
      rw [eb]
      generalize S ((h + 1) / 2) true false (g - Mh h) = Lf at *
      generalize S ((h + 1) / 2) false false (g - Mh h) = Rt at *
      generalize S h sd fi g = f at *
      by_cases c : p < (h + 1) / 2
      · rw [if_pos c]
        have z := ihT EL (if h % 2 = 0 then .dbl else .shr) (fun e => by cases e) (fun _ e => by cases e) (fun _ _ => by split <;> intro e <;> cases e) p c
        rw [← z, ea p, if_pos c]
        have e1 : Lw EL f p = Lw EL Lf p := by
          unfold Lw
          by_cases c0 : p = 0
          · rw [if_pos c0, if_pos c0]
            cases EL with
            | fin => rfl
            | dbl => show mir (f 0) = mir (Lf 0); rw [ea, if_pos (by omega)]
            | shr => show mir (f 1) = mir (Lf 1); rw [ea, if_pos (by omega)]
          · rw [if_neg c0, if_neg c0, ea, if_pos (by omega)]
        have e2 : Rw ER h f p = Rw (if h % 2 = 0 then .dbl else .shr) ((h + 1) / 2) Lf p := by
          unfold Rw
          rw [if_neg (by omega), ea]
          by_cases c1 : p + 1 = (h + 1) / 2
          · rw [if_neg (by omega), if_pos c1]
            by_cases c2 : h % 2 = 0
            · rw [if_pos c2]
              show _ = mir (Lf _)
              rw [hm _ (by omega), mir_mir]
              congr 1
              omega
            · rw [if_neg c2]
              show _ = mir (Lf _)
              rw [hm _ (by omega), mir_mir]
              congr 1
              omega
          · rw [if_pos (by omega), if_neg c1]
        rw [e1, e2]
      · rw [if_neg c]
        have z := ihF (if h % 2 = 0 then .dbl else .shr) ER (fun e => by cases e) (fun _ _ => by split <;> intro e <;> cases e) (fun _ e => by cases e) (p - h / 2) (by omega)
        rw [← z, ea p, if_neg c]
        have e1 : Lw EL f p = Lw (if h % 2 = 0 then .dbl else .shr) Rt (p - h / 2) := by
          unfold Lw
          rw [if_neg (by omega), ea]
          by_cases c1 : p - 1 < (h + 1) / 2
          · rw [if_pos c1, hm _ c1]
            have e3 : (h + 1) / 2 - 1 - (p - 1) = 0 := by omega
            rw [e3]
            by_cases c2 : h % 2 = 0
            · rw [if_pos (by omega), if_pos c2]
              rfl
            · rw [if_neg (by omega), h0]
              congr 1
              omega
          · rw [if_neg c1, if_neg (by omega)]
            congr 1
            omega
        have e2 : Rw ER h f p = Rw ER ((h + 1) / 2) Rt (p - h / 2) := by
          unfold Rw
          by_cases c1 : p + 1 = h
          · rw [if_pos c1, if_pos (by omega)]
            cases ER with
            | fin => rfl
            | dbl =>
              show mir (f _) = mir (Rt _)
              rw [ea, if_neg (by omega)]
              congr 2
              omega
            | shr =>
              show mir (f _) = mir (Rt _)
              rw [ea]
              by_cases c3 : h - 2 < (h + 1) / 2
              · rw [if_pos c3, hm _ c3]
                have e3 : (h + 1) / 2 - 1 - (h - 2) = 0 := by omega
                have e4 : (h + 1) / 2 - 2 = 0 := by omega
                rw [e3, e4, h0, h0]
              · rw [if_neg c3]
                congr 2
                omega
          · rw [if_neg c1, if_neg (by omega), ea, if_neg (by omega)]
            congr 1
            omega
        rw [e1, e2]
    · by_cases h3 : 3 ≤ h
      · have hg : g < Mh h := by omega
        cases sd with
        | false =>
          rw [S_locF h3 hg]
          by_cases hn : g + 1 < Mh h
          · rw [S_locF h3 hn]
            exact (loc_all h3 hn (fun e => ⟨(hf e).2.1, (hf e).2.2.1⟩) (fun e => hL e rfl) hp).1
          · rw [S_chg h3 (by omega) hp]
            exact (chg_all h3 (by omega) (fun e => ⟨(hf e).2.1, (hf e).2.2.1⟩) (fun e => hL e rfl) hp).1
        | true =>
          cases fi with
          | true => have := (hf rfl).1; cases this
          | false =>
            rw [S_locT h3 hg]
            by_cases hn : g + 1 < Mh h
            · rw [S_locT h3 hn]
              exact win_mir h2 hp (loc_all h3 hn (fun e => by cases e) (fun e => hR e rfl) (by omega))
            · rw [S_chg h3 (by omega) hp, ← N_mir h2 hp]
              exact win_mir h2 hp (chg_all h3 (by omega) (fun e => by cases e) (fun e => hR e rfl) (by omega))
      · have e2 : h = 2 := by omega
        subst e2
        cases fi with
        | true => have := (hf rfl).2.2.2; omega
        | false =>
          by_cases g0 : g = 0
          · subst g0
            rw [S_fire (g := 0 + 1) (by omega) (by omega)]
            have hp' : p = 0 ∨ p = 1 := by omega
            cases sd with
            | false =>
              have := hL rfl rfl
              rw [S_2F]
              rcases hp' with rfl | rfl <;> cases EL <;> cases ER <;> first | decide | exact absurd rfl this
            | true =>
              have := hR rfl rfl
              rw [S_2T]
              rcases hp' with rfl | rfl <;> cases EL <;> cases ER <;> first | decide | exact absurd rfl this
          · have e : S 2 sd false g = fun _ => 14 := by funext q; exact S_fire (by omega) (by omega)
            rw [e, S_fire (by omega) (by omega)]
            have hp' : p = 0 ∨ p = 1 := by omega
            rcases hp' with rfl | rfl <;> cases EL <;> cases ER <;> decide
/-- the beats of a row, told by its stretches -/
def rbl (h : Nat) : Nat := if 3 ≤ h then Mh h + rbl ((h + 1) / 2) else 1
termination_by h
decreasing_by all_goals omega
theorem rbl_3 {h : Nat} (h3 : 3 ≤ h) : rbl h = Mh h + rbl ((h + 1) / 2) := by rw [rbl, if_pos h3]
theorem rbl_2 {h : Nat} (h3 : ¬3 ≤ h) : rbl h = 1 := by rw [rbl, if_neg h3]
theorem S_fired : ∀ (h : Nat), 2 ≤ h → ∀ sd fi g, (fi = true → 3 ≤ h) → rbl h ≤ g → ∀ p, S h sd fi g p = 14 := by
  intro h
  induction h using Nat.strongRecOn with
  | _ h ih =>
    intro h2 sd fi g hf hg p
    by_cases h3 : 3 ≤ h
    · rw [rbl_3 h3] at hg
      rw [S_rec h3 (by omega)]
      split
      · exact ih _ (by omega) (by omega) _ _ _ (fun e => by cases e) (by omega) _
      · exact ih _ (by omega) (by omega) _ _ _ (fun e => by cases e) (by omega) _
    · rw [rbl_2 h3] at hg
      cases fi with
      | true => exact absurd (hf rfl) h3
      | false => exact S_fire (by omega) hg
end SM
namespace SM
open PySem L2 DL Lk42
def ones (n : Nat) : Nat := if n = 0 then 0 else n % 2 + ones (n / 2)
termination_by n
decreasing_by omega
theorem ones_0 : ones 0 = 0 := by rw [ones, if_pos rfl]
theorem ones_s {n : Nat} (h : n ≠ 0) : ones n = n % 2 + ones (n / 2) := by rw [ones, if_neg h]
theorem ones_le : ∀ n, ones n ≤ n := by
  intro n
  induction n using Nat.strongRecOn with
  | _ n ih =>
    by_cases h : n = 0
    · subst h; rw [ones_0]; omega
    · rw [ones_s h]
      have := ih (n / 2) (by omega)
      omega
theorem rbl_ones : ∀ u, 1 ≤ u → rbl (u + 1) + ones u + 1 = 3 * u := by
  intro u
  induction u using Nat.strongRecOn with
  | _ u ih =>
    intro h1
    by_cases h : u = 1
    · subst h
      rw [rbl_2 (by omega), ones_s (by omega), show (1 : Nat) / 2 = 0 from rfl, ones_0]
    · rw [rbl_3 (by omega), ones_s (by omega)]
      have z := ih (u / 2) (by omega) (by omega)
      have e : (u + 1 + 1) / 2 = u / 2 + 1 := by omega
      rw [e]
      unfold Mh
      omega
def onesC : SB := bOf (sBin (kP2 pGt) (sVar 0) (sC (.int 0)))
def onesB : SS := xSeq (xAsg (sCall (kPs pDivmod) (aCons (sVar 0) (aCons (sC (.int 2)) (aNil)))) (gTu 2 (gsCons (gN 0) (gsCons (gN 2) (gsNil))))) (xAugI 1 (sVar 2))
theorem onesC_eq (x : Int) (r : DL.Loc) (st : Sto) : onesC (some (.d (.int x)) :: r) st = some (decide (0 < x), st) := by
  simp [onesC, fnD, fin, xSeq, xSet, xRet, xRetN, xIf, xNil, xAsg, xAugI, xPar, xExpr, xBreak, setAll, augI, sVar, sC, lget, bOf, bTru, bAnd, bOr, bNot, sBin, kP2, kOr, lvD, pAdd, pSub, pMul, pDiv, pMod, pPow, pInt, pGt, pGe, pLt, pLe, pCmp, sCall, aNil, aCons, kPs, tops, sTup, sLst, sLstC, lvDs, gTu, gsCons, gsNil, gN, sUn, pNeg, pIx, sIf, sAnd, lvB, tru, Option.bind_eq_bind, Option.bind_some, Option.map_some, Option.bind_none, Option.map_none]
theorem onesB_eq (x acc : Int) (z : Option Lv) (st : Sto) : onesB [some (.d (.int x)), some (.d (.int acc)), z] st = some (.nx, [some (.d (.int (x / 2))), some (.d (.int (acc + x % 2))), some (.d (.int (x % 2)))], st) := by
  simp [onesB, fnD, fin, xSeq, xSet, xRet, xRetN, xIf, xNil, xAsg, xAugI, xPar, xExpr, xBreak, setAll, augI, sVar, sC, lget, bOf, bTru, bAnd, bOr, bNot, sBin, kP2, kOr, lvD, pAdd, pSub, pMul, pDiv, pMod, pPow, pInt, pGt, pGe, pLt, pLe, pCmp, sCall, aNil, aCons, kPs, tops, sTup, sLst, sLstC, lvDs, gTu, gsCons, gsNil, gN, sUn, pNeg, pIx, sIf, sAnd, lvB, tru, Option.bind_eq_bind, Option.bind_some, Option.map_some, Option.bind_none, Option.map_none, pDivmod]
theorem ones_go : ∀ (n : Nat) (x : Nat) (acc : Int) (z : Option Lv) (st : Sto), x < n →
    ∃ a b : Option Lv, whGo onesC onesB n [some (.d (.int x)), some (.d (.int acc)), z] st = some (.nx, [a, some (.d (.int (acc + ones x))), b], st)
  | 0, x, _, _, _, h => by omega
  | n + 1, x, acc, z, st, h => by
    unfold whGo
    by_cases h0 : x = 0
    · subst h0
      refine ⟨some (.d (.int (0 : Nat))), z, ?_⟩
      rw [ones_0, onesC_eq]
      simp
    · have hx : (0 : Int) < x := by omega
      have hd : ((x : Int) / 2) = ((x / 2 : Nat) : Int) := by omega
      have hm : ((x : Int) % 2) = ((x % 2 : Nat) : Int) := by omega
      obtain ⟨a, b, e⟩ := ones_go n (x / 2) (acc + ((x % 2 : Nat) : Int)) (some (.d (.int ((x % 2 : Nat) : Int)))) st (by omega)
      refine ⟨a, b, ?_⟩
      rw [onesC_eq, decide_eq_true hx]
      simp only [Option.bind_some, if_true, onesB_eq, hd, hm, e]
      rw [ones_s h0, Int.add_assoc, ← Int.natCast_add]
theorem f_ones_eq (x : Nat) (st : Sto) : f_ones [.d (.int x)] st = some (.d (.int (ones x)), st) := by
  unfold f_ones b_ones
  change fnD 1 3 (xSeq (xSet 1 (sC (.int 0))) (xSeq (xWhile (fuelI 0) onesC onesB) (xRet (sVar 1)))) _ _ = _
  obtain ⟨a, b, e⟩ := ones_go (x + 1) x 0 none st (by omega)
  simp [fnD, fin, xSeq, xSet, xRet, xRetN, xIf, xNil, xAsg, xAugI, xPar, xExpr, xBreak, setAll, augI, sVar, sC, lget, bOf, bTru, bAnd, bOr, bNot, sBin, kP2, kOr, lvD, pAdd, pSub, pMul, pDiv, pMod, pPow, pInt, pGt, pGe, pLt, pLe, pCmp, sCall, aNil, aCons, kPs, tops, sTup, sLst, sLstC, lvDs, gTu, gsCons, gsNil, gN, sUn, pNeg, pIx, sIf, sAnd, lvB, tru, Option.bind_eq_bind, Option.bind_some, Option.map_some, Option.bind_none, Option.map_none, xWhile, fuelI, e]
theorem f_row_beat_eq (n : Nat) (st : Sto) (h : 3 ≤ n) : f_row_beat [.d (.int n)] st = some (.d (.int (rbl n)), st) := by
  unfold f_row_beat b_row_beat
  have z := rbl_ones (n - 1) (by omega)
  have e : n - 1 + 1 = n := by omega
  rw [e] at z
  have h3 : ¬(n : Int) < 3 := by omega
  have hc : (n : Int) - 1 = ((n - 1 : Nat) : Int) := by omega
  have hm : mulOk 3 (n - 1 : Nat) = true := by unfold mulOk; simp
  simp [fnD, fin, xSeq, xSet, xRet, xRetN, xIf, xNil, xAsg, xAugI, xPar, xExpr, xBreak, setAll, augI, sVar, sC, lget, bOf, bTru, bAnd, bOr, bNot, sBin, kP2, kOr, lvD, pAdd, pSub, pMul, pDiv, pMod, pPow, pInt, pGt, pGe, pLt, pLe, pCmp, sCall, aNil, aCons, kPs, tops, sTup, sLst, sLstC, lvDs, gTu, gsCons, gsNil, gN, sUn, pNeg, pIx, sIf, sAnd, lvB, tru, Option.bind_eq_bind, Option.bind_some, Option.map_some, Option.bind_none, Option.map_none, h3, hc, hm, f_ones_eq]
  omega
/-! ### the levels -/
def lvls (h m : Nat) : List D := if 3 ≤ h then .tup [.int h, .int m, .int ((m : Int) + h - 1), .int ((m + Mh h : Nat) : Int)] :: lvls ((h + 1) / 2) (m + Mh h) else []
termination_by h
decreasing_by omega
theorem lvls_3 {h m : Nat} (h3 : 3 ≤ h) : lvls h m = .tup [.int h, .int m, .int ((m : Int) + h - 1), .int ((m + Mh h : Nat) : Int)] :: lvls ((h + 1) / 2) (m + Mh h) := by rw [lvls, if_pos h3]
theorem lvls_2 {h m : Nat} (h3 : ¬3 ≤ h) : lvls h m = [] := by rw [lvls, if_neg h3]
theorem lvls_len : ∀ (k h m : Nat), h ≤ 2 ^ k + 1 → (lvls h m).length ≤ k
  | 0, h, m, q => by rw [lvls_2 (by omega)]; exact Nat.le_refl _
  | k + 1, h, m, q => by
    by_cases h3 : 3 ≤ h
    · rw [lvls_3 h3, List.length_cons]
      have := lvls_len k ((h + 1) / 2) (m + Mh h) (by rw [Nat.pow_succ] at q; omega)
      omega
    · rw [lvls_2 h3]
      exact Nat.zero_le _
def lvC : SB := bOf (sBin (kP2 pGe) (sVar 2) (sC k_LEAST_CUT))
def lvB' : SS := xSeq (xSet 4 (sBin (kP2 pAdd) (sVar 3) (sBin (kP2 pDiv) (sBin (kP2 pAdd) (sBin (kP2 pMul) (sC (.int 3)) (sBin (kP2 pSub) (sVar 2) (sC (.int 1)))) (sC (.int 1))) (sC (.int 2))))) (xSeq (xExpr (sMethT "list" kApp (sVar 1) (aCons (sTup (aCons (sVar 2) (aCons (sVar 3) (aCons (sBin (kP2 pSub) (sBin (kP2 pAdd) (sVar 3) (sVar 2)) (sC (.int 1))) (aCons (sVar 4) (aNil)))))) (aNil)))) (xPar [2, 3] (aCons (sBin (kP2 pDiv) (sBin (kP2 pAdd) (sVar 2) (sC (.int 1))) (sC (.int 2))) (aCons (sVar 4) (aNil)))))
theorem lvC_eq (a b : Option Lv) (x : Int) (r : DL.Loc) (st : Sto) : lvC (a :: b :: some (.d (.int x)) :: r) st = some (decide (3 ≤ x), st) := by
  simp [lvC, fnD, fin, xSeq, xSet, xRet, xRetN, xIf, xNil, xAsg, xAugI, xPar, xExpr, xBreak, setAll, augI, sVar, sC, lget, bOf, bTru, bAnd, bOr, bNot, sBin, kP2, kOr, lvD, pAdd, pSub, pMul, pDiv, pMod, pPow, pInt, pGt, pGe, pLt, pLe, pCmp, sCall, aNil, aCons, kPs, tops, sTup, sLst, sLstC, lvDs, gTu, gsCons, gsNil, gN, sUn, pNeg, pIx, sIf, sAnd, lvB, tru, Option.bind_eq_bind, Option.bind_some, Option.map_some, Option.bind_none, Option.map_none]
theorem lg_lt {n : Nat} (h : n < 2 ^ 9000) : n.log2 < 9000 := by
  by_cases h0 : n = 0
  · subst h0; decide
  · exact (Nat.log2_lt h0).mpr h
theorem lg2 : Nat.log2 2 < 9000 := by decide +kernel
theorem lg3 : Nat.log2 3 < 9000 := by decide +kernel
theorem mul3 (x : Int) : mulOk 3 x = true := by unfold mulOk; simp
theorem lvB_eq (a z : Option Lv) (i : Nat) (h m : Int) (st : Sto) (acc : List D) (hi : st[i]? = some (.lst acc)) (hl : acc.length < sizeLine) :
    lvB' [a, some (.c i), some (.d (.int h)), some (.d (.int m)), z] st = some (.nx, [a, some (.c i), some (.d (.int ((h + 1) / 2))), some (.d (.int (m + (3 * (h - 1) + 1) / 2))), some (.d (.int (m + (3 * (h - 1) + 1) / 2)))], st.set i (.lst (acc ++ [.tup [.int h, .int m, .int (m + h - 1), .int (m + (3 * (h - 1) + 1) / 2)]]))) := by
  have h4 : (4 : Nat) ≤ sizeLine := by decide
  simp [lvB', fnD, fin, xSeq, xSet, xRet, xRetN, xIf, xNil, xAsg, xAugI, xPar, xExpr, xBreak, setAll, augI, sVar, sC, lget, bOf, bTru, bAnd, bOr, bNot, sBin, kP2, kOr, lvD, pAdd, pSub, pMul, pDiv, pMod, pPow, pInt, pGt, pGe, pLt, pLe, pCmp, sCall, aNil, aCons, kPs, tops, sTup, sLst, sLstC, lvDs, gTu, gsCons, gsNil, gN, sUn, pNeg, pIx, sIf, sAnd, lvB, tru, Option.bind_eq_bind, Option.bind_some, Option.map_some, Option.bind_none, Option.map_none, lg2, mul3, sMethT, recvTy, kApp, hi, hl, h4]
theorem lv_go : ∀ (k n h m : Nat) (a z : Option Lv) (st : Sto) (acc : List D), h < n → h ≤ 2 ^ k + 1 → acc.length + k ≤ 2000 →
    ∃ p q r : Option Lv, whGo lvC lvB' n [a, some (.c st.length), some (.d (.int h)), some (.d (.int m)), z] (st ++ [.lst acc]) = some (.nx, [a, some (.c st.length), p, q, r], st ++ [.lst (acc ++ lvls h m)])
  | k, 0, h, m, a, z, st, acc, hn, hk, hl => by omega
  | k, n + 1, h, m, a, z, st, acc, hn, hk, hl => by
    unfold whGo
    rw [lvC_eq]
    by_cases h3 : 3 ≤ h
    · have hx : (3 : Int) ≤ h := by omega
      cases k with
      | zero => omega
      | succ k =>
        have hs : (2000 : Nat) < sizeLine := by decide
        have e1 : ((h : Int) + 1) / 2 = (((h + 1) / 2 : Nat) : Int) := by omega
        have e2 : (m : Int) + (3 * ((h : Int) - 1) + 1) / 2 = ((m + Mh h : Nat) : Int) := by unfold Mh; omega
        obtain ⟨p, q, r, e⟩ := lv_go k n ((h + 1) / 2) (m + Mh h) a (some (.d (.int ((m + Mh h : Nat) : Int)))) st (acc ++ [.tup [.int h, .int m, .int ((m : Int) + h - 1), .int ((m + Mh h : Nat) : Int)]]) (by omega) (by rw [Nat.pow_succ] at hk; omega) (by rw [List.length_append, List.length_cons, List.length_nil]; omega)
        refine ⟨p, q, r, ?_⟩
        rw [decide_eq_true hx]
        have hset : (st ++ [Cell.lst acc]).set st.length (.lst (acc ++ [.tup [.int h, .int m, .int ((m : Int) + h - 1), .int ((m + Mh h : Nat) : Int)]])) = st ++ [.lst (acc ++ [.tup [.int h, .int m, .int ((m : Int) + h - 1), .int ((m + Mh h : Nat) : Int)]])] := by simp
        simp only [Option.bind_some, if_true]
        rw [lvB_eq a z st.length h m (st ++ [Cell.lst acc]) acc (by simp) (by omega)]
        simp only [Option.bind_some, e1, e2, hset, e]
        rw [lvls_3 h3, List.append_assoc, List.singleton_append]
    · have hx : ¬(3 : Int) ≤ h := by omega
      refine ⟨some (.d (.int h)), some (.d (.int m)), z, ?_⟩
      rw [decide_eq_false hx, lvls_2 h3, List.append_nil]
      rfl
theorem f_levels_eq (n : Nat) (st : Sto) (h : n ≤ 2 ^ 1000 + 1) : f_levels [.d (.int n)] st = some (.d (.tup (lvls n 0)), st) := by
  unfold f_levels b_levels
  change fnD 1 5 (xSeq (xSet 1 (sLstC (aNil))) (xSeq (xPar [2, 3] (aCons (sVar 0) (aCons (sC (.int 0)) (aNil)))) (xSeq (xWhile (fuelI 2) lvC lvB') (xRet (sCall (kPs pToTup) (aCons (sVar 1) (aNil))))))) _ _ = _
  obtain ⟨p, q, r, e⟩ := lv_go 1000 (n + 1) n 0 (some (.d (.int n))) none st [] (by omega) h (by decide)
  simp at e
  simp [fnD, fin, xSeq, xSet, xRet, xRetN, xIf, xNil, xAsg, xAugI, xPar, xExpr, xBreak, setAll, augI, sVar, sC, lget, bOf, bTru, bAnd, bOr, bNot, sBin, kP2, kOr, lvD, pAdd, pSub, pMul, pDiv, pMod, pPow, pInt, pGt, pGe, pLt, pLe, pCmp, sCall, aNil, aCons, kPs, tops, sTup, sLst, sLstC, lvDs, gTu, gsCons, gsNil, gN, sUn, pNeg, pIx, sIf, sAnd, lvB, tru, Option.bind_eq_bind, Option.bind_some, Option.map_some, Option.bind_none, Option.map_none, xWhile, fuelI, e, pToTup]
/-! ### the letters -/
def ltrs : List Str := ["o", "g", "ga", "gb", "p", "h", "r", "l", "ra", "rb", "rc", "la", "lb", "lc", "f", "w", "wa", "wb", "k", "m"]
def ltr (c : Nat) : Str := ltrs.getD c ""
theorem f_part_eq (a h p : Nat) (st : Sto) (hp : p < h) : f_part_with [.d (.int a), .d (.int ((a : Int) + h - 1)), .d (.int ((a : Int) + p))] st = some (.d (if p < (h + 1) / 2 then .tup [.int a, .int ((a : Int) + ((h + 1) / 2 : Nat) - 1), .int 1] else .tup [.int ((a : Int) + (h / 2 : Nat)), .int ((a : Int) + h - 1), .int 0]), st) := by
  unfold f_part_with b_part_with
  have h3 : (3 : Nat) ≤ sizeLine := by decide
  by_cases c : p < (h + 1) / 2
  · have hc : (a : Int) + p ≤ a + ((a : Int) + h - 1 - a + 1) / 2 - 1 + ((a : Int) + h - 1 - a + 1) % 2 := by omega
    simp [fnD, fin, xSeq, xSet, xRet, xRetN, xIf, xNil, xAsg, xAugI, xPar, xExpr, xBreak, setAll, augI, sVar, sC, lget, bOf, bTru, bAnd, bOr, bNot, sBin, kP2, kOr, lvD, pAdd, pSub, pMul, pDiv, pMod, pPow, pInt, pGt, pGe, pLt, pLe, pCmp, sCall, aNil, aCons, kPs, tops, sTup, sLst, sLstC, lvDs, gTu, gsCons, gsNil, gN, sUn, pNeg, pIx, sIf, sAnd, lvB, tru, Option.bind_eq_bind, Option.bind_some, Option.map_some, Option.bind_none, Option.map_none, lg2, hc, c, h3]
    omega
  · have hc : ¬((a : Int) + p ≤ a + ((a : Int) + h - 1 - a + 1) / 2 - 1 + ((a : Int) + h - 1 - a + 1) % 2) := by omega
    simp [fnD, fin, xSeq, xSet, xRet, xRetN, xIf, xNil, xAsg, xAugI, xPar, xExpr, xBreak, setAll, augI, sVar, sC, lget, bOf, bTru, bAnd, bOr, bNot, sBin, kP2, kOr, lvD, pAdd, pSub, pMul, pDiv, pMod, pPow, pInt, pGt, pGe, pLt, pLe, pCmp, sCall, aNil, aCons, kPs, tops, sTup, sLst, sLstC, lvDs, gTu, gsCons, gsNil, gN, sUn, pNeg, pIx, sIf, sAnd, lvB, tru, Option.bind_eq_bind, Option.bind_some, Option.map_some, Option.bind_none, Option.map_none, lg2, hc, c, h3]
    omega
end SM
namespace SM
open PySem L2 DL Lk42
theorem pEq_ii (n : Bool) (i j : Int) : pEq n (.int i) (.int j) = some (.bl (if n then !decide (i = j) else decide (i = j))) := by
  have : PyData.eqv (.int i) (.int j) = decide (i = j) := by
    rw [Bool.eq_iff_iff]
    simp [PyData.eqv]
  simp [pEq, pyOk, toPy, SeqAt.shaped, PyData.canLay0, PyData.depth, this]
theorem pEq_ss (n : Bool) (i j : Str) (hi : PyData.strOk i = true) (hj : PyData.strOk j = true) : pEq n (.str i) (.str j) = some (.bl (if n then !decide (i = j) else decide (i = j))) := by
  have : PyData.eqv (.str i) (.str j) = decide (i = j) := by
    rw [Bool.eq_iff_iff]
    simp [PyData.eqv]
  simp [pEq, pyOk, toPy, SeqAt.shaped, PyData.canLay0, PyData.depth, this, hi, hj]
theorem r0 : pIx k_RIGHT (.int 0) = some (.str "r") := rfl
theorem r1 : pIx k_RIGHT (.int 1) = some (.str "ra") := rfl
theorem r2 : pIx k_RIGHT (.int 2) = some (.str "rb") := rfl
theorem r3 : pIx k_RIGHT (.int 3) = some (.str "rc") := rfl
theorem l0 : pIx k_LEFT (.int 0) = some (.str "l") := rfl
theorem l1 : pIx k_LEFT (.int 1) = some (.str "la") := rfl
theorem l2 : pIx k_LEFT (.int 2) = some (.str "lb") := rfl
theorem l3 : pIx k_LEFT (.int 3) = some (.str "lc") := rfl
theorem f_end_eq (h g : Nat) (fi : Bool) (st : Sto) (h1 : 1 ≤ h) : f_end_state [.d (.int h), .d (.int g), .d (.bl fi)] st = some (.d (.str (ltr (endS h g fi))), st) := by
  unfold f_end_state b_end_state endS
  have e1 : ((g : Int) = h - 1) ↔ g + 1 = h := by omega
  have e2 : ((g : Int) < h - 1) ↔ g + 1 < h := by omega
  by_cases c1 : g + 1 = h
  · simp [fnD, fin, xSeq, xSet, xRet, xRetN, xIf, xNil, xAsg, xAugI, xPar, xExpr, xBreak, setAll, augI, sVar, sC, lget, bOf, bTru, bAnd, bOr, bNot, sBin, kP2, kOr, lvD, pAdd, pSub, pMul, pDiv, pMod, pPow, pInt, pGt, pGe, pLt, pLe, pCmp, sCall, aNil, aCons, kPs, tops, sTup, sLst, sLstC, lvDs, gTu, gsCons, gsNil, gN, sUn, pNeg, sIf, sAnd, lvB, tru, Option.bind_eq_bind, Option.bind_some, Option.map_some, Option.bind_none, Option.map_none, pEq_ii, e1, c1]
    rfl
  · by_cases c2 : g + 1 < h
    · cases fi <;> simp [fnD, fin, xSeq, xSet, xRet, xRetN, xIf, xNil, xAsg, xAugI, xPar, xExpr, xBreak, setAll, augI, sVar, sC, lget, bOf, bTru, bAnd, bOr, bNot, sBin, kP2, kOr, lvD, pAdd, pSub, pMul, pDiv, pMod, pPow, pInt, pGt, pGe, pLt, pLe, pCmp, sCall, aNil, aCons, kPs, tops, sTup, sLst, sLstC, lvDs, gTu, gsCons, gsNil, gN, sUn, pNeg, sIf, sAnd, lvB, tru, Option.bind_eq_bind, Option.bind_some, Option.map_some, Option.bind_none, Option.map_none, pEq_ii, e1, e2, c1, c2] <;> rfl
    · cases fi <;> simp [fnD, fin, xSeq, xSet, xRet, xRetN, xIf, xNil, xAsg, xAugI, xPar, xExpr, xBreak, setAll, augI, sVar, sC, lget, bOf, bTru, bAnd, bOr, bNot, sBin, kP2, kOr, lvD, pAdd, pSub, pMul, pDiv, pMod, pPow, pInt, pGt, pGe, pLt, pLe, pCmp, sCall, aNil, aCons, kPs, tops, sTup, sLst, sLstC, lvDs, gTu, gsCons, gsNil, gN, sUn, pNeg, sIf, sAnd, lvB, tru, Option.bind_eq_bind, Option.bind_some, Option.map_some, Option.bind_none, Option.map_none, pEq_ii, e1, e2, c1, c2] <;> rfl
theorem mod3 (g : Nat) : (g : Int) % 3 = 0 ∧ g % 3 = 0 ∨ (g : Int) % 3 = 1 ∧ g % 3 = 1 ∨ (g : Int) % 3 = 2 ∧ g % 3 = 2 := by omega
theorem f_waveR_eq (h g p : Nat) (st : Sto) (h1 : 1 ≤ h) : f_wave_state [.d (.int h), .d (.int g), .d (.int p), .d k_RIGHT, .d k_LEFT] st = some (.d (.str (ltr (wave h g p))), st) := by
  unfold f_wave_state b_wave_state wave
  have m2 : mulOk 2 ((h : Int) - 1) = true := by unfold mulOk; simp
  by_cases c1 : p = g
  · subst c1
    simp [fnD, fin, xSeq, xSet, xRet, xRetN, xIf, xNil, xAsg, xAugI, xPar, xExpr, xBreak, setAll, augI, sVar, sC, lget, bOf, bTru, bAnd, bOr, bNot, sBin, kP2, kOr, lvD, pAdd, pSub, pMul, pDiv, pMod, pPow, pInt, pGt, pGe, pLt, pLe, pCmp, sCall, aNil, aCons, kPs, tops, sTup, sLst, sLstC, lvDs, gTu, gsCons, gsNil, gN, sUn, pNeg, sIf, sAnd, lvB, tru, Option.bind_eq_bind, Option.bind_some, Option.map_some, Option.bind_none, Option.map_none, pEq_ii, r0, l0]
    rfl
  · have d1 : ¬(p : Int) = g := by omega
    by_cases c2 : p + g = 2 * (h - 1) ∧ h - 1 < g
    · have d2 : (p : Int) + g = 2 * (h - 1) := by omega
      have d3 : (h : Int) - 1 < g := by omega
      simp [fnD, fin, xSeq, xSet, xRet, xRetN, xIf, xNil, xAsg, xAugI, xPar, xExpr, xBreak, setAll, augI, sVar, sC, lget, bOf, bTru, bAnd, bOr, bNot, sBin, kP2, kOr, lvD, pAdd, pSub, pMul, pDiv, pMod, pPow, pInt, pGt, pGe, pLt, pLe, pCmp, sCall, aNil, aCons, kPs, tops, sTup, sLst, sLstC, lvDs, gTu, gsCons, gsNil, gN, sUn, pNeg, sIf, sAnd, lvB, tru, Option.bind_eq_bind, Option.bind_some, Option.map_some, Option.bind_none, Option.map_none, pEq_ii, c1, d1, d2, c2, d3, r0, l0, lg3, m2]
      rfl
    · by_cases c4 : p = g / 3
      · have d4 : (p : Int) = g / 3 := by omega
        have d5 : ¬((g : Int) / 3 = g) := by omega
        rcases mod3 g with ⟨z, y⟩ | ⟨z, y⟩ | ⟨z, y⟩ <;> by_cases c5 : p + g = 2 * (h - 1)
        all_goals first
          | (have c6 : ¬h - 1 < g := fun e => c2 ⟨c5, e⟩
             have d2 : (g : Int) / 3 + g = 2 * (h - 1) := by omega
             have d3 : ¬((h : Int) - 1 < g) := by omega
             rw [if_neg c1, if_neg c2, if_pos c4]
             simp [fnD, fin, xSeq, xSet, xRet, xRetN, xIf, xNil, xAsg, xAugI, xPar, xExpr, xBreak, setAll, augI, sVar, sC, lget, bOf, bTru, bAnd, bOr, bNot, sBin, kP2, kOr, lvD, pAdd, pSub, pMul, pDiv, pMod, pPow, pInt, pGt, pGe, pLt, pLe, pCmp, sCall, aNil, aCons, kPs, tops, sTup, sLst, sLstC, lvDs, gTu, gsCons, gsNil, gN, sUn, pNeg, sIf, sAnd, lvB, tru, Option.bind_eq_bind, Option.bind_some, Option.map_some, Option.bind_none, Option.map_none, pEq_ii, d2, d3, d4, d5, z, y, r1, r2, r3, l1, l2, l3, lg3, m2]
             rfl)
          | (have d2 : ¬((g : Int) / 3 + g = 2 * (h - 1)) := by omega
             rw [if_neg c1, if_neg c2, if_pos c4]
             simp [fnD, fin, xSeq, xSet, xRet, xRetN, xIf, xNil, xAsg, xAugI, xPar, xExpr, xBreak, setAll, augI, sVar, sC, lget, bOf, bTru, bAnd, bOr, bNot, sBin, kP2, kOr, lvD, pAdd, pSub, pMul, pDiv, pMod, pPow, pInt, pGt, pGe, pLt, pLe, pCmp, sCall, aNil, aCons, kPs, tops, sTup, sLst, sLstC, lvDs, gTu, gsCons, gsNil, gN, sUn, pNeg, sIf, sAnd, lvB, tru, Option.bind_eq_bind, Option.bind_some, Option.map_some, Option.bind_none, Option.map_none, pEq_ii, d2, d4, d5, z, y, r1, r2, r3, l1, l2, l3, lg3, m2]
             rfl)
      · have d4 : ¬((p : Int) = g / 3) := by omega
        rw [if_neg c1, if_neg c2, if_neg c4]
        by_cases c5 : p + g = 2 * (h - 1)
        · have c6 : ¬h - 1 < g := fun e => c2 ⟨c5, e⟩
          have d2 : (p : Int) + g = 2 * (h - 1) := by omega
          have d3 : ¬((h : Int) - 1 < g) := by omega
          simp [fnD, fin, xSeq, xSet, xRet, xRetN, xIf, xNil, xAsg, xAugI, xPar, xExpr, xBreak, setAll, augI, sVar, sC, lget, bOf, bTru, bAnd, bOr, bNot, sBin, kP2, kOr, lvD, pAdd, pSub, pMul, pDiv, pMod, pPow, pInt, pGt, pGe, pLt, pLe, pCmp, sCall, aNil, aCons, kPs, tops, sTup, sLst, sLstC, lvDs, gTu, gsCons, gsNil, gN, sUn, pNeg, sIf, sAnd, lvB, tru, Option.bind_eq_bind, Option.bind_some, Option.map_some, Option.bind_none, Option.map_none, pEq_ii, d1, d2, d3, d4, lg3, m2]
          rfl
        · have d2 : ¬((p : Int) + g = 2 * (h - 1)) := by omega
          simp [fnD, fin, xSeq, xSet, xRet, xRetN, xIf, xNil, xAsg, xAugI, xPar, xExpr, xBreak, setAll, augI, sVar, sC, lget, bOf, bTru, bAnd, bOr, bNot, sBin, kP2, kOr, lvD, pAdd, pSub, pMul, pDiv, pMod, pPow, pInt, pGt, pGe, pLt, pLe, pCmp, sCall, aNil, aCons, kPs, tops, sTup, sLst, sLstC, lvDs, gTu, gsCons, gsNil, gN, sUn, pNeg, sIf, sAnd, lvB, tru, Option.bind_eq_bind, Option.bind_some, Option.map_some, Option.bind_none, Option.map_none, pEq_ii, d1, d2, d4, lg3, m2]
          rfl
theorem f_waveL_eq (h g p : Nat) (st : Sto) (h1 : 1 ≤ h) : f_wave_state [.d (.int h), .d (.int g), .d (.int p), .d k_LEFT, .d k_RIGHT] st = some (.d (.str (ltr (mir (wave h g p)))), st) := by
  unfold f_wave_state b_wave_state wave
  have m2 : mulOk 2 ((h : Int) - 1) = true := by unfold mulOk; simp
  by_cases c1 : p = g
  · subst c1
    simp [fnD, fin, xSeq, xSet, xRet, xRetN, xIf, xNil, xAsg, xAugI, xPar, xExpr, xBreak, setAll, augI, sVar, sC, lget, bOf, bTru, bAnd, bOr, bNot, sBin, kP2, kOr, lvD, pAdd, pSub, pMul, pDiv, pMod, pPow, pInt, pGt, pGe, pLt, pLe, pCmp, sCall, aNil, aCons, kPs, tops, sTup, sLst, sLstC, lvDs, gTu, gsCons, gsNil, gN, sUn, pNeg, sIf, sAnd, lvB, tru, Option.bind_eq_bind, Option.bind_some, Option.map_some, Option.bind_none, Option.map_none, pEq_ii, r0, l0]
    rfl
  · have d1 : ¬(p : Int) = g := by omega
    by_cases c2 : p + g = 2 * (h - 1) ∧ h - 1 < g
    · have d2 : (p : Int) + g = 2 * (h - 1) := by omega
      have d3 : (h : Int) - 1 < g := by omega
      simp [fnD, fin, xSeq, xSet, xRet, xRetN, xIf, xNil, xAsg, xAugI, xPar, xExpr, xBreak, setAll, augI, sVar, sC, lget, bOf, bTru, bAnd, bOr, bNot, sBin, kP2, kOr, lvD, pAdd, pSub, pMul, pDiv, pMod, pPow, pInt, pGt, pGe, pLt, pLe, pCmp, sCall, aNil, aCons, kPs, tops, sTup, sLst, sLstC, lvDs, gTu, gsCons, gsNil, gN, sUn, pNeg, sIf, sAnd, lvB, tru, Option.bind_eq_bind, Option.bind_some, Option.map_some, Option.bind_none, Option.map_none, pEq_ii, c1, d1, d2, c2, d3, r0, l0, lg3, m2]
      rfl
    · by_cases c4 : p = g / 3
      · have d4 : (p : Int) = g / 3 := by omega
        have d5 : ¬((g : Int) / 3 = g) := by omega
        rcases mod3 g with ⟨z, y⟩ | ⟨z, y⟩ | ⟨z, y⟩ <;> by_cases c5 : p + g = 2 * (h - 1)
        all_goals first
          | (have c6 : ¬h - 1 < g := fun e => c2 ⟨c5, e⟩
             have d2 : (g : Int) / 3 + g = 2 * (h - 1) := by omega
             have d3 : ¬((h : Int) - 1 < g) := by omega
             rw [if_neg c1, if_neg c2, if_pos c4]
             simp [fnD, fin, xSeq, xSet, xRet, xRetN, xIf, xNil, xAsg, xAugI, xPar, xExpr, xBreak, setAll, augI, sVar, sC, lget, bOf, bTru, bAnd, bOr, bNot, sBin, kP2, kOr, lvD, pAdd, pSub, pMul, pDiv, pMod, pPow, pInt, pGt, pGe, pLt, pLe, pCmp, sCall, aNil, aCons, kPs, tops, sTup, sLst, sLstC, lvDs, gTu, gsCons, gsNil, gN, sUn, pNeg, sIf, sAnd, lvB, tru, Option.bind_eq_bind, Option.bind_some, Option.map_some, Option.bind_none, Option.map_none, pEq_ii, d2, d3, d4, d5, z, y, r1, r2, r3, l1, l2, l3, lg3, m2]
             rfl)
          | (have d2 : ¬((g : Int) / 3 + g = 2 * (h - 1)) := by omega
             rw [if_neg c1, if_neg c2, if_pos c4]
             simp [fnD, fin, xSeq, xSet, xRet, xRetN, xIf, xNil, xAsg, xAugI, xPar, xExpr, xBreak, setAll, augI, sVar, sC, lget, bOf, bTru, bAnd, bOr, bNot, sBin, kP2, kOr, lvD, pAdd, pSub, pMul, pDiv, pMod, pPow, pInt, pGt, pGe, pLt, pLe, pCmp, sCall, aNil, aCons, kPs, tops, sTup, sLst, sLstC, lvDs, gTu, gsCons, gsNil, gN, sUn, pNeg, sIf, sAnd, lvB, tru, Option.bind_eq_bind, Option.bind_some, Option.map_some, Option.bind_none, Option.map_none, pEq_ii, d2, d4, d5, z, y, r1, r2, r3, l1, l2, l3, lg3, m2]
             rfl)
      · have d4 : ¬((p : Int) = g / 3) := by omega
        rw [if_neg c1, if_neg c2, if_neg c4]
        by_cases c5 : p + g = 2 * (h - 1)
        · have c6 : ¬h - 1 < g := fun e => c2 ⟨c5, e⟩
          have d2 : (p : Int) + g = 2 * (h - 1) := by omega
          have d3 : ¬((h : Int) - 1 < g) := by omega
          simp [fnD, fin, xSeq, xSet, xRet, xRetN, xIf, xNil, xAsg, xAugI, xPar, xExpr, xBreak, setAll, augI, sVar, sC, lget, bOf, bTru, bAnd, bOr, bNot, sBin, kP2, kOr, lvD, pAdd, pSub, pMul, pDiv, pMod, pPow, pInt, pGt, pGe, pLt, pLe, pCmp, sCall, aNil, aCons, kPs, tops, sTup, sLst, sLstC, lvDs, gTu, gsCons, gsNil, gN, sUn, pNeg, sIf, sAnd, lvB, tru, Option.bind_eq_bind, Option.bind_some, Option.map_some, Option.bind_none, Option.map_none, pEq_ii, d1, d2, d3, d4, lg3, m2]
          rfl
        · have d2 : ¬((p : Int) + g = 2 * (h - 1)) := by omega
          simp [fnD, fin, xSeq, xSet, xRet, xRetN, xIf, xNil, xAsg, xAugI, xPar, xExpr, xBreak, setAll, augI, sVar, sC, lget, bOf, bTru, bAnd, bOr, bNot, sBin, kP2, kOr, lvD, pAdd, pSub, pMul, pDiv, pMod, pPow, pInt, pGt, pGe, pLt, pLe, pCmp, sCall, aNil, aCons, kPs, tops, sTup, sLst, sLstC, lvDs, gTu, gsCons, gsNil, gN, sUn, pNeg, sIf, sAnd, lvB, tru, Option.bind_eq_bind, Option.bind_some, Option.map_some, Option.bind_none, Option.map_none, pEq_ii, d1, d2, d4, lg3, m2]
          rfl
theorem st1 : pIx k_POSTS (.int 0) = some (.str "g") := rfl
theorem st2 : pIx k_POSTS (.int 1) = some (.str "ga") := rfl
theorem st3 : pIx k_POSTS (.int 2) = some (.str "gb") := rfl
theorem st4 : pIx k_POSTS (.int 3) = some (.str "p") := rfl
theorem lx0 (x y : D) : pIx (.lst [x, y]) (.int 0) = some x := rfl
theorem lx1 (x y : D) : pIx (.lst [x, y]) (.int 1) = some y := rfl
theorem two_le : (2 : Nat) ≤ sizeLine := by decide
theorem post_ix (g : Nat) : (if (3 : Int) < g then (3 : Int) else g) = 0 ∧ post g = 1 ∨ (if (3 : Int) < g then (3 : Int) else g) = 1 ∧ post g = 2 ∨ (if (3 : Int) < g then (3 : Int) else g) = 2 ∧ post g = 3 ∨ (if (3 : Int) < g then (3 : Int) else g) = 3 ∧ post g = 4 := by
  unfold post
  by_cases c0 : g = 0
  · subst c0; simp
  · by_cases c1 : g = 1
    · subst c1; simp
    · by_cases c2 : g = 2
      · subst c2; simp
      · by_cases c3 : (3 : Int) < g
        · simp [c0, c1, c2, c3]
        · have : g = 3 := by omega
          subst this
          simp
theorem f_stretch_eq (a h p g : Nat) (sd fi : Bool) (st : Sto) (hp : p < h) : f_stretch_state [.d (.int a), .d (.int ((a : Int) + h - 1)), .d (.int (if sd = true then 1 else 0)), .d (.int g), .d (.bl fi), .d (.int ((a : Int) + p))] st = some (.d (.str (ltr (if sd = true then mir (A h g fi (h - 1 - p)) else A h g fi p))), st) := by
  unfold f_stretch_state b_stretch_state
  have e1 : (a : Int) + h - 1 - a + 1 = h := by omega
  have e2 : (a : Int) + p - a = p := by omega
  have e3 : (a : Int) + h - 1 - (a + p) = ((h - 1 - p : Nat) : Int) := by omega
  cases sd with
  | false =>
    simp only [Bool.false_eq_true, if_false]
    unfold A
    by_cases c0 : p = 0
    · subst c0
      rcases post_ix g with ⟨z, y⟩ | ⟨z, y⟩ | ⟨z, y⟩ | ⟨z, y⟩ <;> simp [fnD, fin, xSeq, xSet, xRet, xRetN, xIf, xNil, xAsg, xAugI, xPar, xExpr, xBreak, setAll, augI, sVar, sC, lget, bOf, bTru, bAnd, bOr, bNot, sBin, kP2, kOr, lvD, pAdd, pSub, pMul, pDiv, pMod, pPow, pInt, pGt, pGe, pLt, pLe, pCmp, sCall, aNil, aCons, kPs, tops, sTup, sLst, sLstC, lvDs, gTu, gsCons, gsNil, gN, sUn, pNeg, sIf, sAnd, lvB, tru, Option.bind_eq_bind, Option.bind_some, Option.map_some, Option.bind_none, Option.map_none, pEq_ii, e1, two_le, lx0, pMin, z, y, st1, st2, st3, st4] <;> rfl
    · have d0 : ¬(p : Int) = 0 := by omega
      rw [if_neg c0]
      by_cases c1 : p + 1 = h
      · have d1 : ((p : Int) = h - 1) = True := eq_true (by omega)
        rw [if_pos c1]
        simp [fnD, fin, xSeq, xSet, xRet, xRetN, xIf, xNil, xAsg, xAugI, xPar, xExpr, xBreak, setAll, augI, sVar, sC, lget, bOf, bTru, bAnd, bOr, bNot, sBin, kP2, kOr, lvD, pAdd, pSub, pMul, pDiv, pMod, pPow, pInt, pGt, pGe, pLt, pLe, pCmp, sCall, aNil, aCons, kPs, tops, sTup, sLst, sLstC, lvDs, gTu, gsCons, gsNil, gN, sUn, pNeg, sIf, sAnd, lvB, tru, Option.bind_eq_bind, Option.bind_some, Option.map_some, Option.bind_none, Option.map_none, pEq_ii, e1, e2, two_le, lx0, d1, c0, f_end_eq _ _ _ _ (show 1 ≤ h by omega)]
      · have d1 : ¬(p : Int) = h - 1 := by omega
        rw [if_neg c1]
        simp [fnD, fin, xSeq, xSet, xRet, xRetN, xIf, xNil, xAsg, xAugI, xPar, xExpr, xBreak, setAll, augI, sVar, sC, lget, bOf, bTru, bAnd, bOr, bNot, sBin, kP2, kOr, lvD, pAdd, pSub, pMul, pDiv, pMod, pPow, pInt, pGt, pGe, pLt, pLe, pCmp, sCall, aNil, aCons, kPs, tops, sTup, sLst, sLstC, lvDs, gTu, gsCons, gsNil, gN, sUn, pNeg, sIf, sAnd, lvB, tru, Option.bind_eq_bind, Option.bind_some, Option.map_some, Option.bind_none, Option.map_none, pEq_ii, e1, e2, two_le, lx0, d0, c0, d1, f_waveR_eq _ _ _ _ (show 1 ≤ h by omega)]
  | true =>
    simp only [if_true]
    generalize h - 1 - p = q at e3
    unfold A
    by_cases c0 : q = 0
    · subst c0
      rw [if_pos rfl, mir_post]
      have e3' : (a : Int) + h - 1 - (a + p) = 0 := by omega
      rcases post_ix g with ⟨z, y⟩ | ⟨z, y⟩ | ⟨z, y⟩ | ⟨z, y⟩ <;> simp [fnD, fin, xSeq, xSet, xRet, xRetN, xIf, xNil, xAsg, xAugI, xPar, xExpr, xBreak, setAll, augI, sVar, sC, lget, bOf, bTru, bAnd, bOr, bNot, sBin, kP2, kOr, lvD, pAdd, pSub, pMul, pDiv, pMod, pPow, pInt, pGt, pGe, pLt, pLe, pCmp, sCall, aNil, aCons, kPs, tops, sTup, sLst, sLstC, lvDs, gTu, gsCons, gsNil, gN, sUn, pNeg, sIf, sAnd, lvB, tru, Option.bind_eq_bind, Option.bind_some, Option.map_some, Option.bind_none, Option.map_none, pEq_ii, e1, e3', two_le, lx1, pMin, z, y, st1, st2, st3, st4] <;> rfl
    · have d0 : ¬(q : Int) = 0 := by omega
      rw [if_neg c0]
      by_cases c1 : q + 1 = h
      · have d1 : ((q : Int) = h - 1) = True := eq_true (by omega)
        rw [if_pos c1, mir_end]
        simp [fnD, fin, xSeq, xSet, xRet, xRetN, xIf, xNil, xAsg, xAugI, xPar, xExpr, xBreak, setAll, augI, sVar, sC, lget, bOf, bTru, bAnd, bOr, bNot, sBin, kP2, kOr, lvD, pAdd, pSub, pMul, pDiv, pMod, pPow, pInt, pGt, pGe, pLt, pLe, pCmp, sCall, aNil, aCons, kPs, tops, sTup, sLst, sLstC, lvDs, gTu, gsCons, gsNil, gN, sUn, pNeg, sIf, sAnd, lvB, tru, Option.bind_eq_bind, Option.bind_some, Option.map_some, Option.bind_none, Option.map_none, pEq_ii, e1, e3, two_le, lx1, d1, c0, f_end_eq _ _ _ _ (show 1 ≤ h by omega)]
      · have d1 : ¬(q : Int) = h - 1 := by omega
        rw [if_neg c1]
        simp [fnD, fin, xSeq, xSet, xRet, xRetN, xIf, xNil, xAsg, xAugI, xPar, xExpr, xBreak, setAll, augI, sVar, sC, lget, bOf, bTru, bAnd, bOr, bNot, sBin, kP2, kOr, lvD, pAdd, pSub, pMul, pDiv, pMod, pPow, pInt, pGt, pGe, pLt, pLe, pCmp, sCall, aNil, aCons, kPs, tops, sTup, sLst, sLstC, lvDs, gTu, gsCons, gsNil, gN, sUn, pNeg, sIf, sAnd, lvB, tru, Option.bind_eq_bind, Option.bind_some, Option.map_some, Option.bind_none, Option.map_none, pEq_ii, e1, e3, two_le, lx1, d0, c0, d1, f_waveL_eq _ _ _ _ (show 1 ≤ h by omega)]
end SM
namespace SM
open PySem L2 DL Lk42
def seG : SG := gTu 4 (gsCons (gN 7) (gsCons (gN 8) (gsCons (gN 9) (gsCons (gN 10) (gsNil)))))
def seB : SS := xSeq (xIf (bOf (sBin (kP2 pLt) (sVar 2) (sVar 10))) (xBreak) (xNil)) (xSeq (xAsg (sCall f_part_with (aCons (sVar 3) (aCons (sVar 4) (aCons (sVar 1) (aNil))))) (gTu 3 (gsCons (gN 3) (gsCons (gN 4) (gsCons (gN 5) (gsNil)))))) (xSet 6 (sVar 10)))
def side (sd : Bool) : Int := if sd = true then 1 else 0
theorem seG_eq (a b c d : D) (l0 l1 l2 l3 l4 l5 l6 l7 l8 l9 l10 : Option Lv) (st : Sto) : seG (.d (.tup [a, b, c, d])) [l0, l1, l2, l3, l4, l5, l6, l7, l8, l9, l10] st = some ([l0, l1, l2, l3, l4, l5, l6, some (.d a), some (.d b), some (.d c), some (.d d)], st) := by
  simp [seG, fnD, fin, xSeq, xSet, xRet, xRetN, xIf, xNil, xAsg, xAugI, xPar, xExpr, xBreak, setAll, augI, sVar, sC, lget, bOf, bTru, bAnd, bOr, bNot, sBin, kP2, kOr, lvD, pAdd, pSub, pMul, pDiv, pMod, pPow, pInt, pGt, pGe, pLt, pLe, pCmp, sCall, aNil, aCons, kPs, tops, sTup, sLst, sLstC, lvDs, gTu, gsCons, gsNil, gN, sUn, pNeg, sIf, sAnd, lvB, tru, Option.bind_eq_bind, Option.bind_some, Option.map_some, Option.bind_none, Option.map_none]
theorem seB_out (t m : Int) (h : t < m) (l0 l1 l3 l4 l5 l6 l7 l8 l9 : Option Lv) (st : Sto) : seB [l0, l1, some (.d (.int t)), l3, l4, l5, l6, l7, l8, l9, some (.d (.int m))] st = some (.bk, [l0, l1, some (.d (.int t)), l3, l4, l5, l6, l7, l8, l9, some (.d (.int m))], st) := by
  simp [seB, fnD, fin, xSeq, xSet, xRet, xRetN, xIf, xNil, xAsg, xAugI, xPar, xExpr, xBreak, setAll, augI, sVar, sC, lget, bOf, bTru, bAnd, bOr, bNot, sBin, kP2, kOr, lvD, pAdd, pSub, pMul, pDiv, pMod, pPow, pInt, pGt, pGe, pLt, pLe, pCmp, sCall, aNil, aCons, kPs, tops, sTup, sLst, sLstC, lvDs, gTu, gsCons, gsNil, gN, sUn, pNeg, sIf, sAnd, lvB, tru, Option.bind_eq_bind, Option.bind_some, Option.map_some, Option.bind_none, Option.map_none, h]
theorem seB_on (t m : Int) (h : ¬t < m) (x a b : D) (l0 l5 l6 l7 l8 l9 : Option Lv) (st : Sto) (a' b' s' : D) (e : f_part_with [.d a, .d b, .d x] st = some (.d (.tup [a', b', s']), st)) :
    seB [l0, some (.d x), some (.d (.int t)), some (.d a), some (.d b), l5, l6, l7, l8, l9, some (.d (.int m))] st = some (.nx, [l0, some (.d x), some (.d (.int t)), some (.d a'), some (.d b'), some (.d s'), some (.d (.int m)), l7, l8, l9, some (.d (.int m))], st) := by
  simp [seB, fnD, fin, xSeq, xSet, xRet, xRetN, xIf, xNil, xAsg, xAugI, xPar, xExpr, xBreak, setAll, augI, sVar, sC, lget, bOf, bTru, bAnd, bOr, bNot, sBin, kP2, kOr, lvD, pAdd, pSub, pMul, pDiv, pMod, pPow, pInt, pGt, pGe, pLt, pLe, pCmp, sCall, aNil, aCons, kPs, tops, sTup, sLst, sLstC, lvDs, gTu, gsCons, gsNil, gN, sUn, pNeg, sIf, sAnd, lvB, tru, Option.bind_eq_bind, Option.bind_some, Option.map_some, Option.bind_none, Option.map_none, h, e]
theorem se_go (n t : Nat) (st : Sto) : ∀ (h : Nat), 2 ≤ h → ∀ (a p m : Nat) (sd fi : Bool) (x : Nat) (z7 z8 z9 z10 : Option Lv), p < h → m ≤ t → t < m + rbl h → fi = decide (m = 0) → x = a + p → (fi = true → 3 ≤ h) →
    ∃ (a' h' p' m' : Nat) (sd' : Bool) (y7 y8 y9 y10 : Option Lv), p' < h' ∧ m' ≤ t ∧ x = a' + p' ∧
      forGo seG seB (lvls h m) [some (.d (.int n)), some (.d (.int x)), some (.d (.int t)), some (.d (.int a)), some (.d (.int ((a : Int) + h - 1))), some (.d (.int (side sd))), some (.d (.int m)), z7, z8, z9, z10] st
        = some (.nx, [some (.d (.int n)), some (.d (.int x)), some (.d (.int t)), some (.d (.int a')), some (.d (.int ((a' : Int) + h' - 1))), some (.d (.int (side sd'))), some (.d (.int m')), y7, y8, y9, y10], st) ∧
      S h sd fi (t - m) p = if sd' = true then mir (A h' (t - m') (decide (m' = 0)) (h' - 1 - p')) else A h' (t - m') (decide (m' = 0)) p' := by
  intro h
  induction h using Nat.strongRecOn with
  | _ h ih =>
    intro h2 a p m sd fi x z7 z8 z9 z10 hp hm ht hfi hx hf3
    by_cases h3 : 3 ≤ h
    · rw [lvls_3 h3]
      unfold forGo
      rw [seG_eq]
      simp only [Option.bind_some]
      by_cases c : t < m + Mh h
      · have c' : (t : Int) < ((m + Mh h : Nat) : Int) := by omega
        refine ⟨a, h, p, m, sd, some (.d (.int h)), some (.d (.int m)), some (.d (.int ((m : Int) + h - 1))), some (.d (.int ((m + Mh h : Nat) : Int))), hp, hm, hx, ?_, ?_⟩
        · rw [seB_out _ _ c']
          rfl
        · rw [S_loc (by omega) (by omega), hfi]
      · have c' : ¬(t : Int) < ((m + Mh h : Nat) : Int) := by omega
        rw [rbl_3 h3] at ht
        have hM : 1 ≤ Mh h := by unfold Mh; omega
        have fe := f_part_eq a h p st hp
        have hx' : (x : Int) = (a : Int) + p := by omega
        rw [← hx'] at fe
        rw [S_rec h3 (by omega)]
        have es : t - m - Mh h = t - (m + Mh h) := by omega
        rw [es]
        by_cases cp : p < (h + 1) / 2
        · rw [if_pos cp] at fe ⊢
          rw [seB_on _ _ c' _ _ _ _ _ _ _ _ _ _ _ _ _ fe]
          simp only [Option.bind_some]
          exact ih ((h + 1) / 2) (by omega) (by omega) a p (m + Mh h) true false x _ _ _ _ cp (by omega) (by omega) (by rw [eq_comm, decide_eq_false_iff_not]; omega) hx (fun e => by cases e)
        · rw [if_neg cp] at fe ⊢
          rw [seB_on _ _ c' _ _ _ _ _ _ _ _ _ _ _ _ _ fe]
          simp only [Option.bind_some]
          have eb : (a : Int) + h - 1 = ((a + h / 2 : Nat) : Int) + ((h + 1) / 2 : Nat) - 1 := by omega
          rw [eb, show (a : Int) + (h / 2 : Nat) = ((a + h / 2 : Nat) : Int) by omega]
          exact ih ((h + 1) / 2) (by omega) (by omega) (a + h / 2) (p - h / 2) (m + Mh h) false false x _ _ _ _ (by omega) (by omega) (by omega) (by rw [eq_comm, decide_eq_false_iff_not]; omega) (by omega) (fun e => by cases e)
    · rw [lvls_2 h3]
      rw [rbl_2 h3] at ht
      refine ⟨a, h, p, m, sd, z7, z8, z9, z10, hp, hm, hx, rfl, ?_⟩
      have : t - m = 0 := by omega
      rw [this, S_loc (by omega) (by omega), hfi]
/-- what a hand of a row holds, by codes -/
def SN (n t x : Nat) : Nat := if n ≤ 2 then (if n ≤ t then 14 else A n t true x) else S n false true t x
theorem f_seen_eq (n t x : Nat) (st : Sto) (h1 : 1 ≤ n) (hb : n ≤ 2 ^ 1000 + 1) (hx : x < n) : f_seen [.d (.int n), .d (.int x), .d (.int t)] st = some (.d (.str (ltr (SN n t x))), st) := by
  unfold f_seen b_seen SN
  change fnD 3 11 (xSeq (xIf (bOf (sBin (kP2 pGe) (sVar 2) (sCall f_row_beat (aCons (sVar 0) (aNil))))) (xRet (sC k_FIRE)) (xNil)) (xSeq (xPar [3, 4, 5] (aCons (sC (.int 0)) (aCons (sBin (kP2 pSub) (sVar 0) (sC (.int 1))) (aCons (sC (.int 0)) (aNil))))) (xSeq (xSet 6 (sC (.int 0))) (xSeq (xFor (iSeq (sCall f_levels (aCons (sVar 0) (aNil)))) seG seB) (xRet (sCall f_stretch_state (aCons (sVar 3) (aCons (sVar 4) (aCons (sVar 5) (aCons (sBin (kP2 pSub) (sVar 2) (sVar 6)) (aCons (sBin (kP2 (pEq false)) (sVar 6) (sC (.int 0))) (aCons (sVar 1) (aNil))))))))))))) _ _ = _
  have hl := f_levels_eq n
  by_cases h2 : n ≤ 2
  · have hr : ∀ st, f_row_beat [.d (.int n)] st = some (.d (.int n), st) := fun st => by
      unfold f_row_beat b_row_beat
      have : (n : Int) < 3 := by omega
      simp [fnD, fin, xSeq, xSet, xRet, xRetN, xIf, xNil, xAsg, xAugI, xPar, xExpr, xBreak, setAll, augI, sVar, sC, lget, bOf, bTru, bAnd, bOr, bNot, sBin, kP2, kOr, lvD, pAdd, pSub, pMul, pDiv, pMod, pPow, pInt, pGt, pGe, pLt, pLe, pCmp, sCall, aNil, aCons, kPs, tops, sTup, sLst, sLstC, lvDs, gTu, gsCons, gsNil, gN, sUn, pNeg, sIf, sAnd, lvB, tru, Option.bind_eq_bind, Option.bind_some, Option.map_some, Option.bind_none, Option.map_none, this]
    rw [if_pos h2]
    by_cases ht : n ≤ t
    · have ht' : (n : Int) ≤ t := by omega
      rw [if_pos ht]
      simp [fnD, fin, xSeq, xSet, xRet, xRetN, xIf, xNil, xAsg, xAugI, xPar, xExpr, xBreak, setAll, augI, sVar, sC, lget, bOf, bTru, bAnd, bOr, bNot, sBin, kP2, kOr, lvD, pAdd, pSub, pMul, pDiv, pMod, pPow, pInt, pGt, pGe, pLt, pLe, pCmp, sCall, aNil, aCons, kPs, tops, sTup, sLst, sLstC, lvDs, gTu, gsCons, gsNil, gN, sUn, pNeg, sIf, sAnd, lvB, tru, Option.bind_eq_bind, Option.bind_some, Option.map_some, Option.bind_none, Option.map_none, hr, ht', ht]
      rfl
    · have ht' : ¬(n : Int) ≤ t := by omega
      have fe := f_stretch_eq 0 n x t false true st hx
      rw [if_neg ht]
      simp at fe
      simp [fnD, fin, xSeq, xSet, xRet, xRetN, xIf, xNil, xAsg, xAugI, xPar, xExpr, xBreak, setAll, augI, sVar, sC, lget, bOf, bTru, bAnd, bOr, bNot, sBin, kP2, kOr, lvD, pAdd, pSub, pMul, pDiv, pMod, pPow, pInt, pGt, pGe, pLt, pLe, pCmp, sCall, aNil, aCons, kPs, tops, sTup, sLst, sLstC, lvDs, gTu, gsCons, gsNil, gN, sUn, pNeg, sIf, sAnd, lvB, tru, Option.bind_eq_bind, Option.bind_some, Option.map_some, Option.bind_none, Option.map_none, hr, ht', ht, xFor, iSeq, iOr, iLst, iTupD, hl, hb, lvls_2 (show ¬3 ≤ n by omega), forGo, pEq_ii, fe]
  · rw [if_neg h2]
    have hr := f_row_beat_eq n
    by_cases ht : rbl n ≤ t
    · have ht' : (rbl n : Int) ≤ t := by omega
      rw [S_fired n (by omega) _ _ _ (fun _ => by omega) ht]
      simp [fnD, fin, xSeq, xSet, xRet, xRetN, xIf, xNil, xAsg, xAugI, xPar, xExpr, xBreak, setAll, augI, sVar, sC, lget, bOf, bTru, bAnd, bOr, bNot, sBin, kP2, kOr, lvD, pAdd, pSub, pMul, pDiv, pMod, pPow, pInt, pGt, pGe, pLt, pLe, pCmp, sCall, aNil, aCons, kPs, tops, sTup, sLst, sLstC, lvDs, gTu, gsCons, gsNil, gN, sUn, pNeg, sIf, sAnd, lvB, tru, Option.bind_eq_bind, Option.bind_some, Option.map_some, Option.bind_none, Option.map_none, hr, ht', ht, show 3 ≤ n by omega]
      rfl
    · have ht' : ¬(rbl n : Int) ≤ t := by omega
      obtain ⟨a', h', p', m', sd', y7, y8, y9, y10, q1, q2, q3, q4, q5⟩ := se_go n t st n (by omega) 0 x 0 false true x none none none none hx (by omega) (by omega) rfl (by omega) (fun _ => by omega)
      simp [side] at q4
      have fe := f_stretch_eq a' h' p' (t - m') sd' (decide (m' = 0)) st q1
      have e1 : (a' : Int) + p' = x := by omega
      have e2 : ((t - m' : Nat) : Int) = (t : Int) - m' := by omega
      rw [e1, e2, ← q5] at fe
      simp [fnD, fin, xSeq, xSet, xRet, xRetN, xIf, xNil, xAsg, xAugI, xPar, xExpr, xBreak, setAll, augI, sVar, sC, lget, bOf, bTru, bAnd, bOr, bNot, sBin, kP2, kOr, lvD, pAdd, pSub, pMul, pDiv, pMod, pPow, pInt, pGt, pGe, pLt, pLe, pCmp, sCall, aNil, aCons, kPs, tops, sTup, sLst, sLstC, lvDs, gTu, gsCons, gsNil, gN, sUn, pNeg, sIf, sAnd, lvB, tru, Option.bind_eq_bind, Option.bind_some, Option.map_some, Option.bind_none, Option.map_none, hr, ht', ht, show 3 ≤ n by omega, xFor, iSeq, iOr, iLst, iTupD, hl, hb, q4, pEq_ii]
      rw [fe]
      simp
theorem SN_win (n t x : Nat) (h1 : 1 ≤ n) (hx : x < n) : tb (if x = 0 then 20 else SN n t (x - 1)) (SN n t x) (if x + 1 = n then 20 else SN n t (x + 1)) = SN n (t + 1) x := by
  by_cases h2 : n ≤ 2
  · have hn : n = 1 ∨ n = 2 := by omega
    unfold SN
    simp only [if_pos h2]
    by_cases ht : n ≤ t
    · simp only [if_pos ht, if_pos (show n ≤ t + 1 by omega)]
      (repeat' split) <;> rfl
    · rcases hn with rfl | rfl
      · have e1 : t = 0 := by omega
        have e2 : x = 0 := by omega
        subst e1 e2
        rfl
      · have e1 : t = 0 ∨ t = 1 := by omega
        have e2 : x = 0 ∨ x = 1 := by omega
        rcases e1 with rfl | rfl <;> rcases e2 with rfl | rfl <;> rfl
  · have z := main n (by omega) false true t .fin .fin (fun _ => ⟨rfl, rfl, rfl, by omega⟩) (fun e => by cases e) (fun e => by cases e) x hx
    unfold SN
    simp only [if_neg h2]
    exact z
theorem post_lt (g : Nat) : post g < 15 := by unfold post; (repeat' split) <;> decide
theorem A_lt (h g : Nat) (fi : Bool) (p : Nat) : A h g fi p < 15 := by
  unfold A
  split
  · exact post_lt g
  · unfold endS wave
    (repeat' split) <;> decide
theorem mir_lt {a : Nat} (h : a < 15) : mir a < 15 := by
  unfold mir
  (repeat' split) <;> omega
theorem S_lt : ∀ h sd fi g p, S h sd fi g p < 15 := by
  intro h
  induction h using Nat.strongRecOn with
  | _ h ih =>
    intro sd fi g p
    rw [S]
    split
    · rename_i hc
      split
      · exact ih _ (by omega) _ _ _ _
      · exact ih _ (by omega) _ _ _ _
    · split
      · decide
      · split
        · exact mir_lt (A_lt _ _ _ _)
        · exact A_lt _ _ _ _
theorem SN_lt (n t x : Nat) : SN n t x < 15 := by
  unfold SN
  split
  · split
    · decide
    · exact A_lt _ _ _ _
  · exact S_lt _ _ _ _ _
end SM
namespace DL
open PySem
mutual
def beqD : D → D → Bool
  | .non, .non => true
  | .bl a, .bl b => a == b
  | .int a, .int b => a == b
  | .str a, .str b => a.cps.toList == b.cps.toList
  | .tup a, .tup b => beqDs a b
  | .lst a, .lst b => beqDs a b
  | _, _ => false
def beqDs : List D → List D → Bool
  | [], [] => true
  | x :: xs, y :: ys => beqD x y && beqDs xs ys
  | _, _ => false
end
theorem str_of_cps {a b : Str} (h : a.cps.toList = b.cps.toList) : a = b := by
  obtain ⟨a⟩ := a
  obtain ⟨b⟩ := b
  congr 1
  exact Array.ext' h
mutual
theorem beqD_eq : ∀ (x y : D), beqD x y = true → x = y
  | .non, y, h => by cases y <;> first | rfl | (simp [beqD] at h)
  | .bl a, y, h => by cases y <;> first | (simp [beqD] at h; rw [h]) | (simp [beqD] at h)
  | .int a, y, h => by cases y <;> first | (simp [beqD] at h; rw [h]) | (simp [beqD] at h)
  | .str a, y, h => by
    cases y with
    | str b => simp only [beqD, beq_iff_eq] at h; rw [str_of_cps h]
    | _ => simp [beqD] at h
  | .tup a, y, h => by
    cases y with
    | tup b => rw [beqD] at h; rw [beqDs_eq a b h]
    | _ => simp [beqD] at h
  | .lst a, y, h => by
    cases y with
    | lst b => rw [beqD] at h; rw [beqDs_eq a b h]
    | _ => simp [beqD] at h
  | .ro a, y, h => by simp [beqD] at h
  | .dk a, y, h => by simp [beqD] at h
  | .dn a, y, h => by simp [beqD] at h
  | .obj a b, y, h => by simp [beqD] at h
  | .fn a, y, h => by simp [beqD] at h
  | .ty a, y, h => by simp [beqD] at h
theorem beqDs_eq : ∀ (x y : List D), beqDs x y = true → x = y
  | [], [], _ => rfl
  | [], _ :: _, h => by simp [beqDs] at h
  | _ :: _, [], h => by simp [beqDs] at h
  | x :: xs, y :: ys, h => by
    rw [beqDs, Bool.and_eq_true] at h
    rw [beqD_eq x y h.1, beqDs_eq xs ys h.2]
end
end DL
namespace SM
open PySem L2 DL Lk42
def rowD (q : Cod) : D := .tup [.str (ltr q.1), .str (ltr q.2.1), .str (ltr q.2.2.1), .str (ltr q.2.2.2)]
def hrL : SS := xFor (iSeq (sC k_LINES)) (gN 1) (xExpr (sMethT "list" kExt (sVar 0) (aCons (sLc (iSeq (sMethT "str" kSplit (sVar 1) (aCons (sC (.str ", ")) (aNil)))) (gN 2) (bYes) (sCall f_row_told (aCons (sVar 2) (aNil))) [2]) (aNil))))
def isRows : Option (Fl × DL.Loc × Sto) → Bool
  | some (.nx, some (.c 0) :: _, [.lst ds]) => beqDs ds (rows.map rowD)
  | _ => false
theorem isRows_ok : isRows (hrL [some (.c 0), none, none] [.lst []]) = true := by decide +kernel
theorem hrL_eq : ∃ r, hrL [some (.c 0), none, none] [.lst []] = some (.nx, some (.c 0) :: r, [.lst (rows.map rowD)]) := by
  have h := isRows_ok
  unfold isRows at h
  split at h
  · rename_i r ds e
    exact ⟨r, by rw [e, beqDs_eq _ _ h]⟩
  · cases h
theorem sort_ok : sortOk (rows.map rowD) = true := by decide +kernel
theorem rows_len : rows.length = 116 := by decide +kernel
theorem house_eq : f_house_rows [] [] = some (.d (.tup ((rows.map rowD).mergeSort leD)), []) := by
  unfold f_house_rows b_house_rows
  change fnD 0 3 (xSeq (xSet 0 (sLstC (aNil))) (xSeq hrL (xRet (sCall (kPs pToTup) (aCons (sCall (kPs pSorted) (aCons (sVar 0) (aNil))) (aNil)))))) _ _ = _
  obtain ⟨r, e⟩ := hrL_eq
  simp [fnD, fin, xSeq, xSet, xRet, xRetN, xIf, xNil, xAsg, xAugI, xPar, xExpr, xBreak, setAll, augI, sVar, sC, lget, bOf, bTru, bAnd, bOr, bNot, sBin, kP2, kOr, lvD, pAdd, pSub, pMul, pDiv, pMod, pPow, pInt, pGt, pGe, pLt, pLe, pCmp, sCall, aNil, aCons, kPs, tops, sTup, sLst, sLstC, lvDs, gTu, gsCons, gsNil, gN, sUn, pNeg, sIf, sAnd, lvB, tru, Option.bind_eq_bind, Option.bind_some, Option.map_some, Option.bind_none, Option.map_none, e, pSorted, sort_ok, pToTup]
def rs : List Cod := rows.mergeSort fun p q => leD (rowD p) (rowD q)
theorem rs_map : (rows.map rowD).mergeSort leD = rs.map rowD := by
  unfold rs
  rw [List.map_mergeSort (s := leD)]
  intro a _ b _
  rfl
theorem rs_perm : rs.Perm rows := List.mergeSort_perm _ _
def pairD (q : Cod) : D := .tup [.tup [.str (ltr q.1), .str (ltr q.2.1), .str (ltr q.2.2.1)], .str (ltr q.2.2.2)]
def keyq (q : Cod) : NestedKey := .tup [.text (ltr q.1), .text (ltr q.2.1), .text (ltr q.2.2.1)]
def knE : SE := sTup (aCons (sSl (sVar 0) (oNone) (oSome (sC (.int 3)))) (aCons (sBin (kOr (kP2 pIx) kIxN) (sVar 0) (sC (.int 3))) (aNil)))
theorem knE_eq (q : Cod) (st : Sto) : knE [some (.d (rowD q))] st = some (.d (pairD q), st) := by
  have e1 : pSl (rowD q) none (some 3) = some (.tup [.str (ltr q.1), .str (ltr q.2.1), .str (ltr q.2.2.1)]) := rfl
  have e2 : pIx (rowD q) (.int 3) = some (.str (ltr q.2.2.2)) := rfl
  have e3 : lvD st (.d (rowD q)) = some (rowD q) := rfl
  have h2 : (2 : Nat) ≤ sizeLine := by decide
  simp [knE, fnD, fin, xSeq, xSet, xRet, xRetN, xIf, xNil, xAsg, xAugI, xPar, xExpr, xBreak, setAll, augI, sVar, sC, lget, bOf, bTru, bAnd, bOr, bNot, sBin, kP2, kOr, lvD, pAdd, pSub, pMul, pDiv, pMod, pPow, pInt, pGt, pGe, pLt, pLe, pCmp, sCall, aNil, aCons, kPs, tops, sTup, sLst, sLstC, lvDs, gTu, gsCons, gsNil, gN, sUn, pNeg, sIf, sAnd, lvB, tru, Option.bind_eq_bind, Option.bind_some, Option.map_some, Option.bind_none, Option.map_none, sSl, oNone, oSome, e1, e2, pairD, h2]
theorem kn_lc : ∀ (l : List Cod) (st : Sto), lcGo (gN 0) bYes knE [none] (l.map rowD) st = some (l.map pairD, st)
  | [], _ => rfl
  | q :: l, st => by
    rw [List.map_cons, lcGo]
    have e : gN 0 (.d (rowD q)) [none] st = some ([some (.d (rowD q))], st) := rfl
    rw [e]
    simp only [Option.bind_some, bYes, if_true, knE_eq, kn_lc l st, Option.map_some, List.map_cons]
theorem key_eq (a b c : Str) : keyLv (.d (.tup [.str a, .str b, .str c])) = some (.tup [.text a, .text b, .text c]) := by
  have : (NestedKey.tup [.text a, .text b, .text c]).depth ≤ 8 := by
    simp [NestedKey.depth, NestedKey.depthAll]
  simp [keyLv, keyOf, keysOf, this]
theorem pairs_eq : ∀ l : List Cod, pairsOfD (l.map pairD) = some (l.map fun q => (keyq q, .str (ltr q.2.2.2)))
  | [] => rfl
  | q :: l => by
    rw [List.map_cons, pairD, pairsOfD, key_eq, pairs_eq l]
    rfl
end SM
namespace SM
open PySem L2 DL Lk42
def num (q : Cod) : Nat := (q.1 * 32 + q.2.1) * 32 + q.2.2.1
theorem rows_nodup : (rows.map num).Nodup := by decide +kernel
theorem rows_le : ∀ q ∈ rows, q.1 ≤ 20 ∧ q.2.1 ≤ 20 ∧ q.2.2.1 ≤ 20 := by decide +kernel
theorem rows_tb : ∀ q ∈ rows, tb q.1 q.2.1 q.2.2.1 = q.2.2.2 := by decide +kernel
theorem ltr_inj : ∀ a ≤ 20, ∀ b ≤ 20, ltr a = ltr b → a = b := by
  have h : ∀ a : Fin 21, ∀ b : Fin 21, ((ltr a.1).cps.toList == (ltr b.1).cps.toList) = true → a.1 = b.1 := by decide +kernel
  intro a ha b hb e
  exact h ⟨a, by omega⟩ ⟨b, by omega⟩ (by rw [e]; exact beq_self_eq_true _)
theorem keyq_inj {q : Cod} {l s r : Nat} (hq : q ∈ rows) (hl : l ≤ 20) (hs : s ≤ 20) (hr : r ≤ 20) (e : keyq q = .tup [.text (ltr l), .text (ltr s), .text (ltr r)]) : q.1 = l ∧ q.2.1 = s ∧ q.2.2.1 = r := by
  obtain ⟨h1, h2, h3⟩ := rows_le q hq
  unfold keyq at e
  simp only [NestedKey.tup.injEq, List.cons.injEq, NestedKey.text.injEq, and_true] at e
  exact ⟨ltr_inj _ h1 _ hl e.1, ltr_inj _ h2 _ hs e.2.1, ltr_inj _ h3 _ hr e.2.2⟩
def kvq (q : Cod) : NestedKey × D := (keyq q, .str (ltr q.2.2.2))
theorem look_none {kvs : List (NestedKey × D)} {k : NestedKey} (h : ∀ p ∈ kvs, p.1 ≠ k) : lookN kvs k = none := by
  unfold lookN
  rw [List.find?_eq_none.mpr fun p hp => by simpa using h p hp]
  rfl
theorem fold_nodup : ∀ (l acc : List (NestedKey × D)), (∀ p ∈ l, ∀ q ∈ acc, q.1 ≠ p.1) → l.Pairwise (fun a b => a.1 ≠ b.1) → l.foldl (fun acc p => storeN acc p.1 p.2) acc = acc ++ l
  | [], acc, _, _ => by simp
  | p :: l, acc, h, hp => by
    rw [List.foldl_cons]
    have e : storeN acc p.1 p.2 = acc ++ [p] := by
      unfold storeN
      rw [look_none fun q hq => h p (by simp) q hq]
      rfl
    rw [List.pairwise_cons] at hp
    rw [e, fold_nodup l (acc ++ [p]) ?_ hp.2, List.append_assoc, List.singleton_append]
    intro a ha q hq
    rw [List.mem_append, List.mem_singleton] at hq
    rcases hq with hq | rfl
    · exact h a (by simp [ha]) q hq
    · exact hp.1 a ha
theorem rs_pair : (rs.map kvq).Pairwise (fun a b => a.1 ≠ b.1) := by
  rw [List.pairwise_map]
  have h : rs.Pairwise (fun a b => num a ≠ num b) := by
    have z : (rs.map num).Nodup := (rs_perm.map num).nodup_iff.mpr rows_nodup
    unfold List.Nodup at z
    rwa [List.pairwise_map] at z
  refine List.Pairwise.imp_of_mem (fun {a b} ha hb hn e => hn ?_) h
  have hb' := rows_le b (rs_perm.mem_iff.mp hb)
  obtain ⟨e1, e2, e3⟩ := keyq_inj (rs_perm.mem_iff.mp ha) hb'.1 hb'.2.1 hb'.2.2 e
  unfold num
  rw [e1, e2, e3]
theorem known_eq : f__law_known [] [] = some (.d (.dn (rs.map kvq)), []) := by
  unfold f__law_known b__law_known
  change fnD 0 1 (xRet (sCall (kPs pDictN) (aCons (sLc (iSeq (sCall f_house_rows aNil)) (gN 0) (bYes) knE [0]) (aNil)))) _ _ = _
  have hl : rs.length = 116 := by rw [rs_perm.length_eq, rows_len]
  have h1 : (116 : Nat) ≤ sizeLine := by decide
  have hp := pairs_eq rs
  have hf := fold_nodup (rs.map kvq) [] (fun _ _ _ h => by cases h) rs_pair
  have hm : (rs.map fun q => (keyq q, D.str (ltr q.2.2.2))) = rs.map kvq := rfl
  rw [hm] at hp
  rw [List.nil_append] at hf
  have hw : wipeL [none] [0] = [none] := rfl
  simp [fnD, fin, xSeq, xSet, xRet, xRetN, xIf, xNil, xAsg, xAugI, xPar, xExpr, xBreak, setAll, augI, sVar, sC, lget, bOf, bTru, bAnd, bOr, bNot, sBin, kP2, kOr, lvD, pAdd, pSub, pMul, pDiv, pMod, pPow, pInt, pGt, pGe, pLt, pLe, pCmp, sCall, aNil, aCons, kPs, tops, sTup, sLst, sLstC, lvDs, gTu, gsCons, gsNil, gN, sUn, pNeg, sIf, sAnd, lvB, tru, Option.bind_eq_bind, Option.bind_some, Option.map_some, Option.bind_none, Option.map_none, sLc, iSeq, iOr, iLst, iTupD, house_eq, rs_map, hw, kn_lc, hl, h1, pDictN, hp, hf]
theorem lookR_none : ∀ (l : List Cod) (a s r : Nat), (∀ q ∈ l, ¬(q.1 = a ∧ q.2.1 = s ∧ q.2.2.1 = r)) → lookR l a s r = s
  | [], _, _, _, _ => rfl
  | q :: l, a, s, r, h => by
    have h1 := h q (by simp)
    have : (Nat.beq q.1 a && (Nat.beq q.2.1 s && Nat.beq q.2.2.1 r)) = false := by
      rw [Bool.eq_false_iff]
      intro e
      rw [Bool.and_eq_true, Bool.and_eq_true] at e
      exact h1 ⟨Nat.eq_of_beq_eq_true e.1, Nat.eq_of_beq_eq_true e.2.1, Nat.eq_of_beq_eq_true e.2.2⟩
    rw [lookR, this]
    exact lookR_none l a s r fun q hq => h q (by simp [hq])
theorem known_look (l s r : Nat) (hl : l ≤ 20) (hs : s ≤ 20) (hr : r ≤ 20) : (lookN (rs.map kvq) (.tup [.text (ltr l), .text (ltr s), .text (ltr r)])).getD (.str (ltr s)) = .str (ltr (tb l s r)) := by
  cases e : lookN (rs.map kvq) (.tup [.text (ltr l), .text (ltr s), .text (ltr r)]) with
  | none =>
    rw [Option.getD_none]
    unfold tb
    rw [lookR_none]
    intro q hq ⟨h1, h2, h3⟩
    unfold lookN at e
    rw [Option.map_eq_none_iff, List.find?_eq_none] at e
    have z := e (kvq q) (List.mem_map_of_mem (rs_perm.mem_iff.mpr hq))
    apply z
    rw [decide_eq_true_eq]
    unfold kvq keyq
    rw [h1, h2, h3]
  | some x =>
    rw [Option.getD_some]
    unfold lookN at e
    obtain ⟨p, h1, h2⟩ := Option.map_eq_some_iff.mp e
    have hm := List.mem_of_find?_eq_some h1
    have hk := List.find?_some h1
    rw [decide_eq_true_eq] at hk
    obtain ⟨q, hq, rfl⟩ := List.mem_map.mp hm
    have hq := rs_perm.mem_iff.mp hq
    obtain ⟨e1, e2, e3⟩ := keyq_inj hq hl hs hr hk
    rw [← h2, ← e1, ← e2, ← e3, rows_tb q hq]
    rfl
end SM
namespace DL
open PySem L2
/-- something comes of it, and Q holds of it -/
def Ok {α : Type} (o : Option α) (Q : α → Prop) : Prop := ∃ a, o = some a ∧ Q a
theorem Ok.some {α : Type} {a : α} {Q : α → Prop} (h : Q a) : Ok (Option.some a) Q := ⟨a, rfl, h⟩
theorem Ok.imp {α : Type} {o : Option α} {P Q : α → Prop} (h : Ok o P) (k : ∀ a, P a → Q a) : Ok o Q := by
  obtain ⟨a, e, q⟩ := h
  exact ⟨a, e, k a q⟩
theorem Ok.bind {α β : Type} {o : Option α} {f : α → Option β} {P : α → Prop} {Q : β → Prop} (h : Ok o P) (k : ∀ a, P a → Ok (f a) Q) : Ok (o.bind f) Q := by
  obtain ⟨a, rfl, q⟩ := h
  exact k a q
theorem Ok.eq {α : Type} {o o' : Option α} {Q : α → Prop} (e : o = o') (h : Ok o' Q) : Ok o Q := e ▸ h
/-- a def whose body hands back data -/
theorem Ok.fn {np nl : Nat} {b : SS} {rs : List Lv} {st : Sto} {Q : Lv × Sto → Prop} (hl : rs.length = np) (h : Ok (b (rs.map Option.some ++ List.replicate (nl - np) none) st) fun p => ∃ x, p.1 = .rt (.d x) ∧ Q (.d x, p.2.2.take st.length)) : Ok (fnD np nl b rs st) Q := by
  obtain ⟨⟨fl, L, s⟩, e, x, e2, q⟩ := h
  unfold fnD
  rw [if_pos hl, e]
  dsimp only at e2
  subst e2
  exact ⟨_, rfl, q⟩
/-- a loop that keeps P, or hands back early -/
theorem Ok.for_ {g : SG} {b : SS} {P : DL.Loc → Sto → Prop} {R : Fl × DL.Loc × Sto → Prop} : ∀ (xs : List D), (∀ x ∈ xs, ∀ L st, P L st → Ok ((g (.d x) L st).bind fun p => b p.1 p.2) fun q => q.1 = .nx ∧ P q.2.1 q.2.2 ∨ (∃ r, q.1 = .rt r) ∧ R q) →
    ∀ L st, P L st → Ok (forGo g b xs L st) fun q => q.1 = .nx ∧ P q.2.1 q.2.2 ∨ (∃ r, q.1 = .rt r) ∧ R q
  | [], _, L, st, p => ⟨_, rfl, .inl ⟨rfl, p⟩⟩
  | x :: xs, h, L, st, p => by
    obtain ⟨⟨fl, L1, s1⟩, e, q⟩ := h x (by simp) L st p
    obtain ⟨⟨L0, s0⟩, e0, e1⟩ := Option.bind_eq_some_iff.mp e
    rw [forGo]
    dsimp only
    rw [e0]
    simp only [Option.bind_some] at e1 ⊢
    rw [e1]
    rcases q with ⟨q1, q2⟩ | ⟨⟨r, q1⟩, q2⟩
    · dsimp only at q1 q2
      subst q1
      exact Ok.for_ xs (fun y hy => h y (by simp [hy])) L1 s1 q2
    · dsimp only at q1
      subst q1
      exact ⟨_, rfl, .inr ⟨⟨r, rfl⟩, q2⟩⟩
/-- a pot of draws -/
def Pot (i : Nat) (st : Sto) : Prop := ∃ a b : Int, st[i]? = some (.lst [.int a, .int b])
theorem Pot.lt {i : Nat} {st : Sto} (h : Pot i st) : i < st.length := by
  obtain ⟨a, b, e⟩ := h
  exact (List.getElem?_eq_some_iff.mp e).1
theorem Pot.set {i : Nat} {st : Sto} (h : i < st.length) (a b : Int) : Pot i (st.set i (.lst [.int a, .int b])) := ⟨a, b, by rw [List.getElem?_set_self h]⟩
theorem Pot.get {i : Nat} {st : Sto} (h : i < st.length) (c : Cell) : (st.set i c)[i]? = some c := List.getElem?_set_self h
end DL
namespace SM
open PySem L2 DL Lk42
def q_law_take_2 : SS := xRet (sBin (kP2 pMod) (sBin (kP2 pDiv) (sBin (kP2 pMod) (sBin (kP2 pMul) (sBin (kOr (kP2 pIx) kIxN) (sVar 0) (sC (.int 1))) (sBin (kP2 pAdd) (sBin (kP2 pMod) (sBin (kOr (kP2 pIx) kIxN) (sVar 0) (sC (.int 1))) (sC (.int 40009))) (sC (.int 7)))) (sC (.int 2147483629))) (sC (.int 7))) (sVar 1))
def q_law_take_1 : SS := xSeq (xAsg (sBin (kP2 pMod) (sBin (kP2 pAdd) (sBin (kP2 pMul) (sBin (kOr (kP2 pIx) kIxN) (sVar 0) (sC (.int 1))) (sC (.int 48271))) (sC (.int 12345))) (sC (.int 2147483647))) (gSb (sVar 0) (sC (.int 1)) kSetL)) q_law_take_2
def q_law_take_0 : SS := xSeq (xIf (bOf (sBin (kP2 pGt) (sBin (kOr (kP2 pIx) kIxN) (sVar 0) (sC (.int 0))) (sC (.int 0)))) (xSeq (xSet 2 (sBin (kP2 pMod) (sBin (kOr (kP2 pIx) kIxN) (sVar 0) (sC (.int 0))) (sVar 1))) (xSeq (xAsg (sBin (kP2 pDiv) (sBin (kOr (kP2 pIx) kIxN) (sVar 0) (sC (.int 0))) (sVar 1)) (gSb (sVar 0) (sC (.int 0)) kSetL)) (xRet (sVar 2)))) (xNil)) q_law_take_1
theorem q_law_take_eq : b__law_take = q_law_take_0 := rfl
def q_law_number_1G : SG := gN 3
def q_law_number_1B_0 : SS := xSet 2 (sBin (kP2 pAdd) (sBin (kP2 pMul) (sVar 2) (sBin (kP2 pPow) (sC (.int 10)) (sC (.int 9)))) (sCall f__law_take (aCons (sVar 0) (aCons (sBin (kP2 pPow) (sC (.int 10)) (sC (.int 9))) (aNil)))))
def q_law_number_2 : SS := xRet (sBin (kP2 pMod) (sVar 2) (sVar 1))
def q_law_number_1 : SS := xSeq (xFor (iRg1 (aCons (sC (.int 7)) (aNil))) q_law_number_1G q_law_number_1B_0) q_law_number_2
def q_law_number_0 : SS := xSeq (xSet 2 (sC (.int 0))) q_law_number_1
theorem q_law_number_eq : b__law_number = q_law_number_0 := rfl

theorem take_set (st : Sto) (i : Nat) (c : Cell) : List.take st.length (st.set i c) = st.set i c := List.take_of_length_le (by rw [List.length_set]; exact Nat.le_refl _)
theorem ix20 (x y : D) : atI [x, y] 0 = some x := rfl
theorem ix21 (x y : D) : atI [x, y] 1 = some y := rfl
theorem ixn20 : ixN 2 0 = some 0 := rfl
theorem ixn21 : ixN 2 1 = some 1 := rfl
theorem mulSmall {i j : Int} (h1 : -18446744073709551616 < j) (h2 : j < 18446744073709551616) : mulOk i j = true := by
  unfold mulOk
  have : decide (-(2 ^ 64) < j ∧ j < 2 ^ 64) = true := by
    rw [decide_eq_true_eq]
    constructor <;> omega
  rw [this]
  simp
theorem lg7 : Nat.log2 7 < 9000 := by decide +kernel
theorem lgI {m : Int} (h0 : 0 < m) (h : m.natAbs < 2 ^ 9000) : (decide (0 < m ∧ m.natAbs.log2 < 9000)) = true := by
  rw [decide_eq_true_eq]
  exact ⟨h0, lg_lt h⟩
/-- a draw -/
theorem take_ok {i : Nat} {m : Int} {st : Sto} (hp : Pot i st) (h0 : 0 < m) (hm : m.natAbs.log2 < 9000) : ∃ d st', f__law_take [.c i, .d (.int m)] st = some (.d (.int d), st') ∧ 0 ≤ d ∧ d < m ∧ Pot i st' ∧ st'.length = st.length := by
  have hi := hp.lt
  obtain ⟨a, b, e⟩ := hp
  unfold f__law_take
  rw [q_law_take_eq]
  have he : st[i] = .lst [.int a, .int b] := (List.getElem?_eq_some_iff.mp e).2
  by_cases ha : 0 < a
  · refine ⟨a % m, st.set i (.lst [.int (a / m), .int b]), ?_, Int.emod_nonneg _ (by omega), Int.emod_lt_of_pos _ h0, Pot.set hi _ _, List.length_set⟩
    simp [q_law_take_0, fnD, fin, xSeq, xSet, xRet, xRetN, xIf, xNil, xAsg, xAugI, xPar, xExpr, xBreak, setAll, augI, sVar, sC, lget, bOf, bTru, bAnd, bOr, bNot, sBin, kP2, kOr, lvD, pAdd, pSub, pMul, pDiv, pMod, pPow, pInt, pGt, pGe, pLt, pLe, pCmp, sCall, aNil, aCons, kPs, tops, sTup, sLst, sLstC, lvDs, gTu, gsCons, gsNil, gN, sUn, pNeg, sIf, sAnd, lvB, tru, Option.bind_eq_bind, Option.bind_some, Option.map_some, Option.bind_none, Option.map_none, gSb, kSetL, hi, he, ix20, ix21, ixn20, ixn21, pIx, ha, h0, hm, take_set]
  · generalize hb : (b * 48271 + 12345) % 2147483647 = b'
    have hb1 : 0 ≤ b' := by omega
    have hb2 : b' < 2147483647 := by omega
    have m1 : mulOk b 48271 = true := mulSmall (by omega) (by omega)
    have m2 : mulOk b' (b' % 40009 + 7) = true := mulSmall (by omega) (by omega)
    refine ⟨b' * (b' % 40009 + 7) % 2147483629 / 7 % m, st.set i (.lst [.int a, .int b']), ?_, Int.emod_nonneg _ (by omega), Int.emod_lt_of_pos _ h0, Pot.set hi _ _, List.length_set⟩
    simp [q_law_take_0, q_law_take_1, q_law_take_2, fnD, fin, xSeq, xSet, xRet, xRetN, xIf, xNil, xAsg, xAugI, xPar, xExpr, xBreak, setAll, augI, sVar, sC, lget, bOf, bTru, bAnd, bOr, bNot, sBin, kP2, kOr, lvD, pAdd, pSub, pMul, pDiv, pMod, pPow, pInt, pGt, pGe, pLt, pLe, pCmp, sCall, aNil, aCons, kPs, tops, sTup, sLst, sLstC, lvDs, gTu, gsCons, gsNil, gN, sUn, pNeg, sIf, sAnd, lvB, tru, Option.bind_eq_bind, Option.bind_some, Option.map_some, Option.bind_none, Option.map_none, gSb, kSetL, hi, he, ix20, ix21, ixn20, ixn21, pIx, ha, h0, hm, hb, m1, m2, lg7, take_set]
theorem pw9 : ((Builtin.Int.intBits 10 : Int) * 9 ≤ 134217728) = True := eq_true (by decide +kernel)
theorem rg7 : iRg1 (aCons (sC (.int 7)) aNil) = fun L st => some (intsFrom 0 7, st) := by
  funext L st
  simp [iRg1, fnD, fin, xSeq, xSet, xRet, xRetN, xIf, xNil, xAsg, xAugI, xPar, xExpr, xBreak, setAll, augI, sVar, sC, lget, bOf, bTru, bAnd, bOr, bNot, sBin, kP2, kOr, lvD, pAdd, pSub, pMul, pDiv, pMod, pPow, pInt, pGt, pGe, pLt, pLe, pCmp, sCall, aNil, aCons, kPs, tops, sTup, sLst, sLstC, lvDs, gTu, gsCons, gsNil, gN, sUn, pNeg, sIf, sAnd, lvB, tru, Option.bind_eq_bind, Option.bind_some, Option.map_some, Option.bind_none, Option.map_none, rgOk]
theorem number_ok {i : Nat} {m : Int} {st : Sto} (hp : Pot i st) (h0 : 0 < m) : ∃ d st', f__law_number [.c i, .d (.int m)] st = some (.d (.int d), st') ∧ 0 ≤ d ∧ d < m ∧ Pot i st' ∧ st'.length = st.length := by
  unfold f__law_number
  rw [q_law_number_eq]
  have z := Ok.for_ (g := q_law_number_1G) (b := q_law_number_1B_0) (P := fun L s => ∃ (f : Int) (y : Option Lv), L = [some (.c i), some (.d (.int m)), some (.d (.int f)), y] ∧ Pot i s ∧ s.length = st.length) (R := fun _ => False) (intsFrom 0 7) (fun x _ L s => by
    rintro ⟨f, y, rfl, q1, q2⟩
    obtain ⟨d, s', e1, e2, e3, e4, e5⟩ := take_ok q1 (m := 1000000000) (by decide) (by decide +kernel)
    have m1 : mulOk f 1000000000 = true := mulSmall (by omega) (by omega)
    refine ⟨(.nx, [some (.c i), some (.d (.int m)), some (.d (.int (f * 1000000000 + d))), some (.d x)], s'), ?_, .inl ⟨rfl, _, _, rfl, e4, by rw [e5, q2]⟩⟩
    simp [q_law_number_1G, q_law_number_1B_0, fnD, fin, xSeq, xSet, xRet, xRetN, xIf, xNil, xAsg, xAugI, xPar, xExpr, xBreak, setAll, augI, sVar, sC, lget, bOf, bTru, bAnd, bOr, bNot, sBin, kP2, kOr, lvD, pAdd, pSub, pMul, pDiv, pMod, pPow, pInt, pGt, pGe, pLt, pLe, pCmp, sCall, aNil, aCons, kPs, tops, sTup, sLst, sLstC, lvDs, gTu, gsCons, gsNil, gN, sUn, pNeg, sIf, sAnd, lvB, tru, Option.bind_eq_bind, Option.bind_some, Option.map_some, Option.bind_none, Option.map_none, pw9, e1, m1]) [some (.c i), some (.d (.int m)), some (.d (.int 0)), none] st ⟨0, none, rfl, hp, rfl⟩
  obtain ⟨⟨fl, L, s⟩, e, z⟩ := z
  rcases z with ⟨rfl, f, y, h1, h2, h3⟩ | ⟨_, h⟩
  · dsimp only at h1 h2 h3
    subst h1
    refine ⟨f % m, s, ?_, Int.emod_nonneg _ (by omega), Int.emod_lt_of_pos _ h0, h2, h3⟩
    have ht : List.take st.length s = s := List.take_of_length_le (by omega)
    simp [q_law_number_0, q_law_number_1, q_law_number_2, fnD, fin, xSeq, xSet, xRet, xRetN, xIf, xNil, xAsg, xAugI, xPar, xExpr, xBreak, setAll, augI, sVar, sC, lget, bOf, bTru, bAnd, bOr, bNot, sBin, kP2, kOr, lvD, pAdd, pSub, pMul, pDiv, pMod, pPow, pInt, pGt, pGe, pLt, pLe, pCmp, sCall, aNil, aCons, kPs, tops, sTup, sLst, sLstC, lvDs, gTu, gsCons, gsNil, gN, sUn, pNeg, sIf, sAnd, lvB, tru, Option.bind_eq_bind, Option.bind_some, Option.map_some, Option.bind_none, Option.map_none, xFor, rg7, e, h0, ht]
  · exact h.elim
end SM
namespace SM
open PySem L2 DL Lk42
def q_law_halves_1G : SG := gN 7
def q_law_halves_1B_4 : SS := xIf (bOf (sBin (kP2 (pEq false)) (sCall f__law_take (aCons (sVar 0) (aCons (sC (.int 2)) (aNil)))) (sC (.int 0)))) (xSeq (xSet 3 (sBin (kP2 pSub) (sBin (kP2 pAdd) (sVar 2) (sBin (kP2 pDiv) (sBin (kP2 pAdd) (sVar 8) (sC (.int 1))) (sC (.int 2)))) (sC (.int 1)))) (xSet 4 (sVar 3))) (xSeq (xSet 2 (sBin (kP2 pAdd) (sVar 2) (sBin (kP2 pDiv) (sVar 8) (sC (.int 2))))) (xSet 4 (sVar 2)))
def q_law_halves_1B_3 : SS := xSeq (xSet 6 (sBin (kP2 pAdd) (sVar 6) (sC (.int 1)))) q_law_halves_1B_4
def q_law_halves_1B_2 : SS := xSeq (xSet 5 (sBin (kP2 pAdd) (sVar 5) (sBin (kP2 pDiv) (sBin (kP2 pAdd) (sBin (kP2 pMul) (sC (.int 3)) (sBin (kP2 pSub) (sVar 8) (sC (.int 1)))) (sC (.int 1))) (sC (.int 2))))) q_law_halves_1B_3
def q_law_halves_1B_1 : SS := xSeq (xIf (bOf (sBin (kP2 pLt) (sVar 8) (sC (.int 3)))) (xRet (sTup (aCons (sVar 2) (aCons (sVar 3) (aCons (sVar 4) (aCons (sVar 5) (aCons (sVar 6) (aNil)))))))) (xNil)) q_law_halves_1B_2
def q_law_halves_1B_0 : SS := xSeq (xSet 8 (sBin (kP2 pAdd) (sBin (kP2 pSub) (sVar 3) (sVar 2)) (sC (.int 1)))) q_law_halves_1B_1
def q_law_halves_2 : SS := xRet (sTup (aCons (sVar 2) (aCons (sVar 3) (aCons (sVar 4) (aCons (sVar 5) (aCons (sVar 6) (aNil)))))))
def q_law_halves_1 : SS := xSeq (xFor (iRg1 (aCons (sBin (kP2 pMul) (sCall f__law_take (aCons (sVar 0) (aCons (sC (.int 7)) (aNil)))) (sCall f__law_take (aCons (sVar 0) (aCons (sC (.int 34)) (aNil))))) (aNil))) q_law_halves_1G q_law_halves_1B_0) q_law_halves_2
def q_law_halves_0 : SS := xSeq (xAsg (sTup (aCons (sC (.int 0)) (aCons (sBin (kP2 pSub) (sVar 1) (sC (.int 1))) (aCons (sC (.int 0)) (aCons (sC (.int 0)) (aCons (sC (.int 0)) (aNil))))))) (gTu 5 (gsCons (gN 2) (gsCons (gN 3) (gsCons (gN 4) (gsCons (gN 5) (gsCons (gN 6) (gsNil)))))))) q_law_halves_1
theorem q_law_halves_eq : b__law_halves = q_law_halves_0 := rfl
def q_law_spot_12 : SS := xRet (sTup (aCons (sVar 13) (aCons (sCall (kPs pMax) (aCons (sC (.int 0)) (aCons (sBin (kP2 pAdd) (sVar 5) (sVar 10)) (aNil)))) (aNil))))
def q_law_spot_11 : SS := xSeq (xSet 13 (sBin (kP2 pAdd) (sVar 4) (sBin (kP2 pMul) (sVar 8) (sBin (kP2 pSub) (sBin (kP2 pAdd) (sVar 12) (sCall f__law_take (aCons (sVar 0) (aCons (sC (.int 5)) (aNil))))) (sC (.int 2)))))) q_law_spot_12
def q_law_spot_10 : SS := xSeq (xIf (bOf (sBin (kP2 (pEq false)) (sVar 11) (sC (.int 7)))) (xSet 12 (sCall f__law_number (aCons (sVar 0) (aCons (sVar 7) (aNil))))) (xNil)) q_law_spot_11
def q_law_spot_9 : SS := xSeq (xSet 12 (sBin (kOr (kP2 pIx) kIxN) (sLst (aCons (sC (.int 0)) (aCons (sBin (kP2 pSub) (sVar 7) (sC (.int 1))) (aCons (sVar 10) (aCons (sBin (kP2 pSub) (sBin (kP2 pMul) (sC (.int 2)) (sBin (kP2 pSub) (sVar 7) (sC (.int 1)))) (sVar 10)) (aCons (sBin (kP2 pDiv) (sVar 10) (sC (.int 3))) (aCons (sBin (kP2 pDiv) (sBin (kP2 pSub) (sVar 7) (sC (.int 1))) (sC (.int 2))) (aNil)))))))) (sCall f__law_take (aCons (sVar 0) (aCons (sC (.int 6)) (aNil)))))) q_law_spot_10
def q_law_spot_8 : SS := xSeq (xIf (bOf (sBin (kP2 (pEq false)) (sVar 11) (sC (.int 2)))) (xSet 10 (sBin (kP2 pAdd) (sBin (kP2 pSub) (sVar 9) (sC (.int 3))) (sCall f__law_take (aCons (sVar 0) (aCons (sC (.int 5)) (aNil)))))) (xNil)) q_law_spot_9
def q_law_spot_7 : SS := xSeq (xIf (bOf (sBin (kP2 (pEq false)) (sVar 11) (sC (.int 1)))) (xSet 10 (sBin (kP2 pAdd) (sBin (kP2 pSub) (sVar 7) (sC (.int 3))) (sCall f__law_take (aCons (sVar 0) (aCons (sC (.int 5)) (aNil)))))) (xNil)) q_law_spot_8
def q_law_spot_6 : SS := xSeq (xIf (bOf (sBin (kP2 (pEq false)) (sVar 11) (sC (.int 0)))) (xSet 10 (sCall f__law_take (aCons (sVar 0) (aCons (sC (.int 5)) (aNil))))) (xNil)) q_law_spot_7
def q_law_spot_5 : SS := xSeq (xSet 11 (sCall f__law_take (aCons (sVar 0) (aCons (sC (.int 8)) (aNil))))) q_law_spot_6
def q_law_spot_4 : SS := xSeq (xSet 10 (sCall f__law_number (aCons (sVar 0) (aCons (sBin (kP2 pAdd) (sVar 9) (sC (.int 3))) (aNil))))) q_law_spot_5
def q_law_spot_3 : SS := xSeq (xSet 9 (sBin (kP2 pDiv) (sBin (kP2 pAdd) (sBin (kP2 pMul) (sC (.int 3)) (sBin (kP2 pSub) (sVar 7) (sC (.int 1)))) (sC (.int 1))) (sC (.int 2)))) q_law_spot_4
def q_law_spot_2 : SS := xSeq (xSet 8 (sIf (bOf (sBin (kP2 (pEq false)) (sVar 4) (sVar 2))) (sC (.int 1)) (sUn pNeg (sC (.int 1))))) q_law_spot_3
def q_law_spot_1 : SS := xSeq (xSet 7 (sBin (kP2 pAdd) (sBin (kP2 pSub) (sVar 3) (sVar 2)) (sC (.int 1)))) q_law_spot_2
def q_law_spot_0 : SS := xSeq (xAsg (sCall f__law_halves (aCons (sVar 0) (aCons (sVar 1) (aNil)))) (gTu 5 (gsCons (gN 2) (gsCons (gN 3) (gsCons (gN 4) (gsCons (gN 5) (gsCons (gN 6) (gsNil)))))))) q_law_spot_1
theorem q_law_spot_eq : b__law_spot = q_law_spot_0 := rfl
def q_law_many_3 : SS := xRet (sBin (kP2 pAdd) (sC (.int 1)) (sCall f__law_number (aCons (sVar 0) (aCons (sBin (kOr (kP2 pIx) kIxN) (sLst (aCons (sBin (kP2 pPow) (sC (.int 10)) (sC (.int 9))) (aCons (sBin (kP2 pPow) (sC (.int 10)) (sC (.int 60))) (aNil)))) (sCall (kPs pToInt) (aCons (sAnd (sVar 1) (sBin (kP2 (pEq false)) (sVar 2) (sC (.int 2)))) (aNil)))) (aNil)))))
def q_law_many_2 : SS := xSeq (xIf (bOf (sBin (kP2 (pEq false)) (sVar 2) (sC (.int 1)))) (xRet (sCall (kPs pMax) (aCons (sC (.int 1)) (aCons (sBin (kP2 pSub) (sBin (kP2 pAdd) (sBin (kP2 pShl) (sC (.int 1)) (sBin (kP2 pAdd) (sC (.int 1)) (sCall f__law_take (aCons (sVar 0) (aCons (sBin (kOr (kP2 pIx) kIxN) (sLst (aCons (sC (.int 29)) (aCons (sC (.int 198)) (aNil)))) (sCall (kPs pToInt) (aCons (sVar 1) (aNil)))) (aNil)))))) (sCall f__law_take (aCons (sVar 0) (aCons (sC (.int 5)) (aNil))))) (sC (.int 2))) (aNil))))) (xNil)) q_law_many_3
def q_law_many_1 : SS := xSeq (xIf (bOf (sBin (kP2 (pEq false)) (sVar 2) (sC (.int 0)))) (xRet (sBin (kP2 pAdd) (sC (.int 1)) (sCall f__law_take (aCons (sVar 0) (aCons (sC (.int 40)) (aNil)))))) (xNil)) q_law_many_2
def q_law_many_0 : SS := xSeq (xSet 2 (sCall f__law_take (aCons (sVar 0) (aCons (sC (.int 4)) (aNil))))) q_law_many_1
theorem q_law_many_eq : b__law_many = q_law_many_0 := rfl
def q_law_window_right_3 : SS := xRet (sAnd (sCall (kPs pIsi) (aCons (sVar 5) (aCons (sC (.ty "str")) (aNil)))) (sBin (kP2 (pEq false)) (sVar 5) (sCall f__law_behind (aCons (sVar 0) (aCons (sBin (kOr (kP2 pIx) kIxN) (sVar 4) (sC (.int 0))) (aCons (sBin (kOr (kP2 pIx) kIxN) (sVar 4) (sC (.int 1))) (aCons (sBin (kOr (kP2 pIx) kIxN) (sVar 4) (sC (.int 2))) (aNil))))))))
def q_law_window_right_2 : SS := xSeq (xSet 5 (sCall f_seen (aCons (sVar 1) (aCons (sVar 2) (aCons (sBin (kP2 pAdd) (sVar 3) (sC (.int 1))) (aNil)))))) q_law_window_right_3
def q_law_window_right_1 : SS := xSeq (xSet 4 (sLc (iSeq (sTup (aCons (sUn pNeg (sC (.int 1))) (aCons (sC (.int 0)) (aCons (sC (.int 1)) (aNil)))))) (gN 6) (bYes) (sCall f__law_told (aCons (sVar 1) (aCons (sBin (kP2 pAdd) (sVar 2) (sVar 6)) (aCons (sVar 3) (aNil))))) [6])) q_law_window_right_2
def q_law_window_right_0 : SS := xSeq (xIf (bOr (bOf (sBin (kP2 pLt) (sVar 2) (sC (.int 0)))) (bOf (sBin (kP2 pGe) (sVar 2) (sVar 1)))) (xRet (sC (.bl true))) (xNil)) q_law_window_right_1
theorem q_law_window_right_eq : b__law_window_right = q_law_window_right_0 := rfl
def qlaw_1G : SG := gN 2
def qlaw_1B_2G : SG := gN 5
def qlaw_1B_2B_1G : SG := gN 8
def qlaw_1B_2B_1B_0 : SS := xIf (bNot (bTru (sCall f__law_window_right (aCons (sVar 1) (aCons (sVar 4) (aCons (sBin (kP2 pAdd) (sVar 6) (sVar 8)) (aCons (sVar 7) (aNil)))))))) (xRet (sC (.bl false))) (xNil)
def qlaw_1B_2B_1 : SS := xFor (iSeq (sTup (aCons (sUn pNeg (sC (.int 1))) (aCons (sC (.int 0)) (aCons (sC (.int 1)) (aNil)))))) qlaw_1B_2B_1G qlaw_1B_2B_1B_0
def qlaw_1B_2B_0 : SS := xSeq (xAsg (sCall f__law_spot (aCons (sVar 3) (aCons (sVar 4) (aNil)))) (gTu 2 (gsCons (gN 6) (gsCons (gN 7) (gsNil))))) qlaw_1B_2B_1
def qlaw_1B_4 : SS := xIf (bOr (bOf (sBin (kP2 (pEq true)) (sCall f_seen (aCons (sVar 4) (aCons (sVar 6) (aCons (sC (.int 0)) (aNil))))) (sBin (kOr (kP2 pIx) kIxN) (sLst (aCons (sC (.str "o")) (aCons (sC (.str "g")) (aNil)))) (sCall (kPs pToInt) (aCons (sBin (kP2 (pEq false)) (sVar 6) (sC (.int 0))) (aNil)))))) (bOf (sBin (kP2 (pEq true)) (sCall f_seen (aCons (sVar 4) (aCons (sC (.int 0)) (aCons (sC (.int 0)) (aNil))))) (sC (.str "g"))))) (xRet (sC (.bl false))) (xNil)
def qlaw_1B_3 : SS := xSeq (xSet 6 (sCall f__law_number (aCons (sVar 3) (aCons (sVar 4) (aNil))))) qlaw_1B_4
def qlaw_1B_2 : SS := xSeq (xFor (iRg1 (aCons (sC (.int 3)) (aNil))) qlaw_1B_2G qlaw_1B_2B_0) qlaw_1B_3
def qlaw_1B_1 : SS := xSeq (xSet 4 (sCall f__law_many (aCons (sVar 3) (aCons (sBin (kP2 pLt) (sVar 2) (sC (.int 12))) (aNil))))) qlaw_1B_2
def qlaw_1B_0 : SS := xSeq (xSet 3 (sCall f__law_pot (aCons (sVar 0) (aCons (sVar 2) (aNil))))) qlaw_1B_1
def qlaw_2 : SS := xRet (sC (.bl true))
def qlaw_1 : SS := xSeq (xFor (iRg1 (aCons (sBin (kP2 pAdd) (sCall (kPs pLen) (aCons (sSl (sVar 0) (oNone) (oSome (sC (.int 40)))) (aNil))) (sC (.int 1))) (aNil))) qlaw_1G qlaw_1B_0) qlaw_2
def qlaw_0 : SS := xSeq (xSet 1 (sCall f__law_known aNil)) qlaw_1
theorem qlaw_eq : b_law = qlaw_0 := rfl

theorem atI_ints (ns : List Int) (j : Int) (h0 : 0 ≤ j) (h1 : j < ns.length) : ∃ x : Int, atI (ns.map D.int) j = some (.int x) := by
  have hj : j.toNat < ns.length := by omega
  refine ⟨ns[j.toNat], ?_⟩
  unfold atI ixN
  rw [List.length_map, if_pos h0, if_pos h1, Option.bind_some, List.getElem?_map, List.getElem?_eq_getElem hj]
  rfl
theorem pw60 : ((Builtin.Int.intBits 10 : Int) * 60 ≤ 134217728) = True := eq_true (by decide +kernel)
theorem pw16 : ((Builtin.Int.intBits 1000000000000000000000000000000000000000000000000000000000000 : Int) * 16 ≤ 134217728) = True := eq_true (by decide +kernel)
theorem pw18 : ((Builtin.Int.intBits 10 : Int) * 18 ≤ 134217728) = True := eq_true (by decide +kernel)
theorem mulP (i : Int) (P : Prop) [Decidable P] : mulOk i (if P then 1 else 0) = true := by split <;> exact mulSmall (by decide) (by decide)
theorem mulSmall' {i j : Int} (h1 : -18446744073709551616 < i) (h2 : i < 18446744073709551616) : mulOk i j = true := by
  unfold mulOk
  have : decide (-(2 ^ 64) < i ∧ i < 2 ^ 64) = true := by
    rw [decide_eq_true_eq]
    constructor <;> omega
  rw [this]
  simp
def potA (c k : Int) : D := .lst []
theorem pot_ok (ns : List Int) (k : Int) (st : Sto) (h0 : 0 ≤ k) (h1 : k ≤ 1000) : ∃ a b : Int, f__law_pot [.d (.ro (ns.map D.int)), .d (.int k)] st = some (.c st.length, st ++ [.lst [.int a, .int b]]) := by
  have m2 : mulOk 7919 k = true := mulSmall (by omega) (by omega)
  have m3 : mulOk (7919 * k) k = true := mulSmall (by omega) (by omega)
  have h2 : (2 : Nat) ≤ sizeLine := by decide
  unfold f__law_pot b__law_pot
  by_cases hn : ns.length = 0
  · have e : ns = [] := List.length_eq_zero_iff.mp hn
    subst e
    have m4 : ∀ x : Int, mulOk x 48271 = true := fun x => mulSmall (by omega) (by omega)
    exact ⟨_, _, by simp [fnD, fin, xSeq, xSet, xRet, xRetN, xIf, xNil, xAsg, xAugI, xPar, xExpr, xBreak, setAll, augI, sVar, sC, lget, bOf, bTru, bAnd, bOr, bNot, sBin, kP2, kOr, lvD, pAdd, pSub, pMul, pDiv, pMod, pPow, pInt, pGt, pGe, pLt, pLe, pCmp, sCall, aNil, aCons, kPs, tops, sTup, sLst, sLstC, lvDs, gTu, gsCons, gsNil, gN, sUn, pNeg, sIf, sAnd, lvB, tru, Option.bind_eq_bind, Option.bind_some, Option.map_some, Option.bind_none, Option.map_none, pLen, pAbs, pToInt, pw60, pw16, pw18, mulSmall', m2, m3, m4, h2]; exact ⟨rfl, rfl⟩⟩
  · obtain ⟨x, e⟩ := atI_ints ns (k % ns.length) (Int.emod_nonneg _ (by omega)) (Int.emod_lt_of_pos _ (by omega))
    have e' : pIx (.ro (ns.map D.int)) (.int (k % ns.length)) = some (.int x) := e
    have hp : 0 < ns.length := by omega
    have hp' : ns ≠ [] := fun e => hn (by rw [e]; rfl)
    have m4 : ∀ x : Int, mulOk x 48271 = true := fun x => mulSmall (by omega) (by omega)
    exact ⟨_, _, by simp [fnD, fin, xSeq, xSet, xRet, xRetN, xIf, xNil, xAsg, xAugI, xPar, xExpr, xBreak, setAll, augI, sVar, sC, lget, bOf, bTru, bAnd, bOr, bNot, sBin, kP2, kOr, lvD, pAdd, pSub, pMul, pDiv, pMod, pPow, pInt, pGt, pGe, pLt, pLe, pCmp, sCall, aNil, aCons, kPs, tops, sTup, sLst, sLstC, lvDs, gTu, gsCons, gsNil, gN, sUn, pNeg, sIf, sAnd, lvB, tru, Option.bind_eq_bind, Option.bind_some, Option.map_some, Option.bind_none, Option.map_none, pLen, pAbs, pToInt, pw60, pw16, pw18, mulP, m2, m3, m4, h2, hp, hp', e']; exact ⟨rfl, rfl⟩⟩
def HvQ (i k : Nat) : D → Sto → Prop := fun x s => ∃ b e p c l : Int, x = .tup [.int b, .int e, .int p, .int c, .int l] ∧ b ≤ e ∧ Pot i s ∧ s.length = k
theorem five_le : (5 : Nat) ≤ sizeLine := by decide
theorem hvB {i k : Nat} (n b e p c l : Int) (y7 y8 : Option Lv) (st : Sto) (hb : b ≤ e) (hp : Pot i st) (hk : st.length = k) :
    Ok (q_law_halves_1B_0 [some (.c i), some (.d (.int n)), some (.d (.int b)), some (.d (.int e)), some (.d (.int p)), some (.d (.int c)), some (.d (.int l)), y7, y8] st)
      fun q => q.1 = .nx ∧ (∃ (b e p c l : Int) (y7 y8 : Option Lv), q.2.1 = [some (.c i), some (.d (.int n)), some (.d (.int b)), some (.d (.int e)), some (.d (.int p)), some (.d (.int c)), some (.d (.int l)), y7, y8] ∧ b ≤ e ∧ Pot i q.2.2 ∧ q.2.2.length = k) ∨ (∃ r, q.1 = .rt r) ∧ ∃ x, q.1 = .rt (.d x) ∧ HvQ i k x q.2.2 := by
  by_cases h3 : e - b + 1 < 3
  · refine ⟨(.rt (.d (.tup [.int b, .int e, .int p, .int c, .int l])), [some (.c i), some (.d (.int n)), some (.d (.int b)), some (.d (.int e)), some (.d (.int p)), some (.d (.int c)), some (.d (.int l)), y7, some (.d (.int (e - b + 1)))], st), ?_, .inr ⟨⟨_, rfl⟩, _, rfl, _, _, _, _, _, rfl, hb, hp, hk⟩⟩
    simp [q_law_halves_1B_0, q_law_halves_1B_1, fnD, fin, xSeq, xSet, xRet, xRetN, xIf, xNil, xAsg, xAugI, xPar, xExpr, xBreak, setAll, augI, sVar, sC, lget, bOf, bTru, bAnd, bOr, bNot, sBin, kP2, kOr, lvD, pAdd, pSub, pMul, pDiv, pMod, pPow, pInt, pGt, pGe, pLt, pLe, pCmp, sCall, aNil, aCons, kPs, tops, sTup, sLst, sLstC, lvDs, gTu, gsCons, gsNil, gN, sUn, pNeg, sIf, sAnd, lvB, tru, Option.bind_eq_bind, Option.bind_some, Option.map_some, Option.bind_none, Option.map_none, h3, five_le]
  · obtain ⟨d, s', e1, e2, e3, e4, e5⟩ := take_ok hp (m := 2) (by decide) (by decide +kernel)
    have m3 : mulOk 3 (e - b + 1 - 1) = true := mulSmall' (by decide) (by decide)
    by_cases hd : d = 0
    · refine ⟨(.nx, [some (.c i), some (.d (.int n)), some (.d (.int b)), some (.d (.int (b + (e - b + 1 + 1) / 2 - 1))), some (.d (.int (b + (e - b + 1 + 1) / 2 - 1))), some (.d (.int (c + (3 * (e - b + 1 - 1) + 1) / 2))), some (.d (.int (l + 1))), y7, some (.d (.int (e - b + 1)))], s'), ?_, .inl ⟨rfl, _, _, _, _, _, _, _, rfl, by omega, e4, by rw [e5, hk]⟩⟩
      simp [q_law_halves_1B_0, q_law_halves_1B_1, q_law_halves_1B_2, q_law_halves_1B_3, q_law_halves_1B_4, fnD, fin, xSeq, xSet, xRet, xRetN, xIf, xNil, xAsg, xAugI, xPar, xExpr, xBreak, setAll, augI, sVar, sC, lget, bOf, bTru, bAnd, bOr, bNot, sBin, kP2, kOr, lvD, pAdd, pSub, pMul, pDiv, pMod, pPow, pInt, pGt, pGe, pLt, pLe, pCmp, sCall, aNil, aCons, kPs, tops, sTup, sLst, sLstC, lvDs, gTu, gsCons, gsNil, gN, sUn, pNeg, sIf, sAnd, lvB, tru, Option.bind_eq_bind, Option.bind_some, Option.map_some, Option.bind_none, Option.map_none, h3, pEq_ii, lg2, e1, hd, mul3]
    · refine ⟨(.nx, [some (.c i), some (.d (.int n)), some (.d (.int (b + (e - b + 1) / 2))), some (.d (.int e)), some (.d (.int (b + (e - b + 1) / 2))), some (.d (.int (c + (3 * (e - b + 1 - 1) + 1) / 2))), some (.d (.int (l + 1))), y7, some (.d (.int (e - b + 1)))], s'), ?_, .inl ⟨rfl, _, _, _, _, _, _, _, rfl, by omega, e4, by rw [e5, hk]⟩⟩
      simp [q_law_halves_1B_0, q_law_halves_1B_1, q_law_halves_1B_2, q_law_halves_1B_3, q_law_halves_1B_4, fnD, fin, xSeq, xSet, xRet, xRetN, xIf, xNil, xAsg, xAugI, xPar, xExpr, xBreak, setAll, augI, sVar, sC, lget, bOf, bTru, bAnd, bOr, bNot, sBin, kP2, kOr, lvD, pAdd, pSub, pMul, pDiv, pMod, pPow, pInt, pGt, pGe, pLt, pLe, pCmp, sCall, aNil, aCons, kPs, tops, sTup, sLst, sLstC, lvDs, gTu, gsCons, gsNil, gN, sUn, pNeg, sIf, sAnd, lvB, tru, Option.bind_eq_bind, Option.bind_some, Option.map_some, Option.bind_none, Option.map_none, h3, pEq_ii, lg2, e1, hd, mul3]
theorem rg_ok {x : Int} (h0 : 0 ≤ x) (h1 : x < 1000) : rgOk x = true := by
  unfold rgOk
  rw [decide_eq_true_eq]
  constructor <;> omega
theorem take_st {k : Nat} {s : Sto} (h : s.length = k) : List.take k s = s := List.take_of_length_le (by omega)
theorem halves_ok {i : Nat} {n : Int} {st : Sto} (hp : Pot i st) (h1 : 1 ≤ n) : ∃ (x : D) (st' : Sto), f__law_halves [.c i, .d (.int n)] st = some (.d x, st') ∧ HvQ i st.length x st' := by
  obtain ⟨d1, s1, a1, a2, a3, a4, a5⟩ := take_ok hp (m := 7) (by decide) (by decide +kernel)
  obtain ⟨d2, s2, b1, b2, b3, b4, b5⟩ := take_ok a4 (m := 34) (by decide) (by decide +kernel)
  have m1 : mulOk d1 d2 = true := mulSmall (by omega) (by omega)
  have hr : 0 ≤ d1 * d2 ∧ d1 * d2 < 1000 := by
    have : d1 = 0 ∨ d1 = 1 ∨ d1 = 2 ∨ d1 = 3 ∨ d1 = 4 ∨ d1 = 5 ∨ d1 = 6 := by omega
    rcases this with rfl | rfl | rfl | rfl | rfl | rfl | rfl <;> omega
  have r1 := rg_ok hr.1 hr.2
  have z := Ok.for_ (g := q_law_halves_1G) (b := q_law_halves_1B_0) (P := fun L s => ∃ (b e p c l : Int) (y7 y8 : Option Lv), L = [some (.c i), some (.d (.int n)), some (.d (.int b)), some (.d (.int e)), some (.d (.int p)), some (.d (.int c)), some (.d (.int l)), y7, y8] ∧ b ≤ e ∧ Pot i s ∧ s.length = st.length) (R := fun q => ∃ x, q.1 = .rt (.d x) ∧ HvQ i st.length x q.2.2) (DL.intsFrom 0 (d1 * d2).toNat) (fun x _ L s => by
    rintro ⟨b, e, p, c, l, y7, y8, rfl, q1, q2, q3⟩
    refine Ok.eq (o' := q_law_halves_1B_0 [some (.c i), some (.d (.int n)), some (.d (.int b)), some (.d (.int e)), some (.d (.int p)), some (.d (.int c)), some (.d (.int l)), some (.d x), y8] s) rfl (hvB n b e p c l _ _ s q1 q2 q3)) [some (.c i), some (.d (.int n)), some (.d (.int 0)), some (.d (.int (n - 1))), some (.d (.int 0)), some (.d (.int 0)), some (.d (.int 0)), none, none] s2 ⟨0, n - 1, 0, 0, 0, none, none, rfl, by omega, b4, by omega⟩
  unfold f__law_halves
  rw [q_law_halves_eq]
  obtain ⟨⟨fl, L, s⟩, e, z⟩ := z
  rcases z with ⟨rfl, b, e', p, c, l, y7, y8, z1, z2, z3, z4⟩ | ⟨_, x, z1, z2⟩
  · dsimp only at z1 z2 z3 z4
    subst z1
    refine ⟨_, s, ?_, b, e', p, c, l, rfl, z2, z3, z4⟩
    simp [q_law_halves_0, q_law_halves_1, q_law_halves_2, fnD, fin, xSeq, xSet, xRet, xRetN, xIf, xNil, xAsg, xAugI, xPar, xExpr, xBreak, setAll, augI, sVar, sC, lget, bOf, bTru, bAnd, bOr, bNot, sBin, kP2, kOr, lvD, pAdd, pSub, pMul, pDiv, pMod, pPow, pInt, pGt, pGe, pLt, pLe, pCmp, sCall, aNil, aCons, kPs, tops, sTup, sLst, sLstC, lvDs, gTu, gsCons, gsNil, gN, sUn, pNeg, sIf, sAnd, lvB, tru, Option.bind_eq_bind, Option.bind_some, Option.map_some, Option.bind_none, Option.map_none, five_le, xFor, iRg1, a1, b1, m1, r1, e, take_st z4]
  · dsimp only at z1 z2
    subst z1
    obtain ⟨b, e', p, c, l, z3, z4, z5, z6⟩ := z2
    refine ⟨x, s, ?_, b, e', p, c, l, z3, z4, z5, z6⟩
    simp [q_law_halves_0, q_law_halves_1, q_law_halves_2, fnD, fin, xSeq, xSet, xRet, xRetN, xIf, xNil, xAsg, xAugI, xPar, xExpr, xBreak, setAll, augI, sVar, sC, lget, bOf, bTru, bAnd, bOr, bNot, sBin, kP2, kOr, lvD, pAdd, pSub, pMul, pDiv, pMod, pPow, pInt, pGt, pGe, pLt, pLe, pCmp, sCall, aNil, aCons, kPs, tops, sTup, sLst, sLstC, lvDs, gTu, gsCons, gsNil, gN, sUn, pNeg, sIf, sAnd, lvB, tru, Option.bind_eq_bind, Option.bind_some, Option.map_some, Option.bind_none, Option.map_none, five_le, xFor, iRg1, a1, b1, m1, r1, e, take_st z6]
end SM
namespace SM
open PySem L2 DL Lk42
def SpQ (i k : Nat) : Fl × DL.Loc × Sto → Prop := fun q => ∃ x t : Int, q.1 = .rt (.d (.tup [.int x, .int t])) ∧ 0 ≤ t ∧ Pot i q.2.2 ∧ q.2.2.length = k
abbrev SpL (i : Nat) (n b e p c l s w m g k d : Int) (z : Option Lv) : DL.Loc := [some (.c i), some (.d (.int n)), some (.d (.int b)), some (.d (.int e)), some (.d (.int p)), some (.d (.int c)), some (.d (.int l)), some (.d (.int s)), some (.d (.int w)), some (.d (.int m)), some (.d (.int g)), some (.d (.int k)), some (.d (.int d)), z]
theorem sp12 {i N : Nat} (n b e p c l s w m g k d x : Int) (st : Sto) (hp : Pot i st) (hN : st.length = N) : Ok (q_law_spot_12 (SpL i n b e p c l s w m g k d (some (.d (.int x)))) st) (SpQ i N) := by
  refine ⟨(.rt (.d (.tup [.int x, .int (if c + g > 0 then c + g else 0)])), SpL i n b e p c l s w m g k d (some (.d (.int x))), st), ?_, x, _, rfl, by split <;> omega, hp, hN⟩
  simp [q_law_spot_12, SpL, fnD, fin, xSeq, xSet, xRet, xRetN, xIf, xNil, xAsg, xAugI, xPar, xExpr, xBreak, setAll, augI, sVar, sC, lget, bOf, bTru, bAnd, bOr, bNot, sBin, kP2, kOr, lvD, pAdd, pSub, pMul, pDiv, pMod, pPow, pInt, pGt, pGe, pLt, pLe, pCmp, sCall, aNil, aCons, kPs, tops, sTup, sLst, sLstC, lvDs, gTu, gsCons, gsNil, gN, sUn, pNeg, sIf, sAnd, lvB, tru, Option.bind_eq_bind, Option.bind_some, Option.map_some, Option.bind_none, Option.map_none, pMax, two_le]
theorem sp11 {i N : Nat} (n b e p c l s w m g k d : Int) (z : Option Lv) (st : Sto) (hp : Pot i st) (hN : st.length = N) (hw : w = 1 ∨ w = -1) : Ok (q_law_spot_11 (SpL i n b e p c l s w m g k d z) st) (SpQ i N) := by
  obtain ⟨d1, s1, a1, a2, a3, a4, a5⟩ := take_ok hp (m := 5) (by decide) (by decide +kernel)
  have m1 : mulOk w (d + d1 - 2) = true := mulSmall' (by omega) (by omega)
  refine Ok.eq (o' := q_law_spot_12 (SpL i n b e p c l s w m g k d (some (.d (.int (p + w * (d + d1 - 2)))))) s1) ?_ (sp12 n b e p c l s w m g k d _ s1 a4 (by omega))
  simp [q_law_spot_11, SpL, fnD, fin, xSeq, xSet, xRet, xRetN, xIf, xNil, xAsg, xAugI, xPar, xExpr, xBreak, setAll, augI, sVar, sC, lget, bOf, bTru, bAnd, bOr, bNot, sBin, kP2, kOr, lvD, pAdd, pSub, pMul, pDiv, pMod, pPow, pInt, pGt, pGe, pLt, pLe, pCmp, sCall, aNil, aCons, kPs, tops, sTup, sLst, sLstC, lvDs, gTu, gsCons, gsNil, gN, sUn, pNeg, sIf, sAnd, lvB, tru, Option.bind_eq_bind, Option.bind_some, Option.map_some, Option.bind_none, Option.map_none, a1, m1]
theorem sp10 {i N : Nat} (n b e p c l s w m g k d : Int) (z : Option Lv) (st : Sto) (hp : Pot i st) (hN : st.length = N) (hw : w = 1 ∨ w = -1) (hs : 1 ≤ s) : Ok (q_law_spot_10 (SpL i n b e p c l s w m g k d z) st) (SpQ i N) := by
  by_cases hk : k = 7
  · obtain ⟨d1, s1, a1, a2, a3, a4, a5⟩ := number_ok hp (m := s) (by omega)
    refine Ok.eq (o' := q_law_spot_11 (SpL i n b e p c l s w m g k d1 z) s1) ?_ (sp11 n b e p c l s w m g k _ _ s1 a4 (by omega) hw)
    simp [q_law_spot_10, SpL, fnD, fin, xSeq, xSet, xRet, xRetN, xIf, xNil, xAsg, xAugI, xPar, xExpr, xBreak, setAll, augI, sVar, sC, lget, bOf, bTru, bAnd, bOr, bNot, sBin, kP2, kOr, lvD, pAdd, pSub, pMul, pDiv, pMod, pPow, pInt, pGt, pGe, pLt, pLe, pCmp, sCall, aNil, aCons, kPs, tops, sTup, sLst, sLstC, lvDs, gTu, gsCons, gsNil, gN, sUn, pNeg, sIf, sAnd, lvB, tru, Option.bind_eq_bind, Option.bind_some, Option.map_some, Option.bind_none, Option.map_none, pEq_ii, a1, hk]
  · refine Ok.eq (o' := q_law_spot_11 (SpL i n b e p c l s w m g k d z) st) ?_ (sp11 n b e p c l s w m g k _ _ st hp hN hw)
    simp [q_law_spot_10, SpL, fnD, fin, xSeq, xSet, xRet, xRetN, xIf, xNil, xAsg, xAugI, xPar, xExpr, xBreak, setAll, augI, sVar, sC, lget, bOf, bTru, bAnd, bOr, bNot, sBin, kP2, kOr, lvD, pAdd, pSub, pMul, pDiv, pMod, pPow, pInt, pGt, pGe, pLt, pLe, pCmp, sCall, aNil, aCons, kPs, tops, sTup, sLst, sLstC, lvDs, gTu, gsCons, gsNil, gN, sUn, pNeg, sIf, sAnd, lvB, tru, Option.bind_eq_bind, Option.bind_some, Option.map_some, Option.bind_none, Option.map_none, pEq_ii, hk]
theorem ix6 (a b c d e f : D) (j : Int) (h0 : 0 ≤ j) (h1 : j < 6) : pIx (.lst [a, b, c, d, e, f]) (.int j) = some (if j = 0 then a else if j = 1 then b else if j = 2 then c else if j = 3 then d else if j = 4 then e else f) := by
  have : j = 0 ∨ j = 1 ∨ j = 2 ∨ j = 3 ∨ j = 4 ∨ j = 5 := by omega
  rcases this with rfl | rfl | rfl | rfl | rfl | rfl <;> rfl
theorem six_le : (6 : Nat) ≤ sizeLine := by decide
theorem sp9 {i N : Nat} (n b e p c l s w m g k : Int) (y z : Option Lv) (st : Sto) (hp : Pot i st) (hN : st.length = N) (hw : w = 1 ∨ w = -1) (hs : 1 ≤ s) : Ok (q_law_spot_9 [some (.c i), some (.d (.int n)), some (.d (.int b)), some (.d (.int e)), some (.d (.int p)), some (.d (.int c)), some (.d (.int l)), some (.d (.int s)), some (.d (.int w)), some (.d (.int m)), some (.d (.int g)), some (.d (.int k)), y, z] st) (SpQ i N) := by
  obtain ⟨d1, s1, a1, a2, a3, a4, a5⟩ := take_ok hp (m := 6) (by decide) (by decide +kernel)
  have m1 : mulOk 2 (s - 1) = true := mulSmall' (by omega) (by omega)
  have hx := ix6 (.int 0) (.int (s - 1)) (.int g) (.int (2 * (s - 1) - g)) (.int (g / 3)) (.int ((s - 1) / 2)) d1 a2 a3
  have hd : (if d1 = 0 then D.int 0 else if d1 = 1 then .int (s - 1) else if d1 = 2 then .int g else if d1 = 3 then .int (2 * (s - 1) - g) else if d1 = 4 then .int (g / 3) else .int ((s - 1) / 2)) = .int (if d1 = 0 then 0 else if d1 = 1 then s - 1 else if d1 = 2 then g else if d1 = 3 then 2 * (s - 1) - g else if d1 = 4 then g / 3 else (s - 1) / 2) := by
    (repeat' split) <;> rfl
  rw [hd] at hx
  generalize (if d1 = 0 then 0 else if d1 = 1 then s - 1 else if d1 = 2 then g else if d1 = 3 then 2 * (s - 1) - g else if d1 = 4 then g / 3 else (s - 1) / 2) = d' at hx
  refine Ok.eq (o' := q_law_spot_10 (SpL i n b e p c l s w m g k d' z) s1) ?_ (sp10 n b e p c l s w m g k _ _ s1 a4 (by omega) hw hs)
  simp [q_law_spot_9, SpL, fnD, fin, xSeq, xSet, xRet, xRetN, xIf, xNil, xAsg, xAugI, xPar, xExpr, xBreak, setAll, augI, sVar, sC, lget, bOf, bTru, bAnd, bOr, bNot, sBin, kP2, kOr, lvD, pAdd, pSub, pMul, pDiv, pMod, pPow, pInt, pGt, pGe, pLt, pLe, pCmp, sCall, aNil, aCons, kPs, tops, sTup, sLst, sLstC, lvDs, gTu, gsCons, gsNil, gN, sUn, pNeg, sIf, sAnd, lvB, tru, Option.bind_eq_bind, Option.bind_some, Option.map_some, Option.bind_none, Option.map_none, a1, m1, lg2, lg3, hx, six_le]
abbrev SpM (i : Nat) (n b e p c l s w m g k : Int) (y z : Option Lv) : DL.Loc := [some (.c i), some (.d (.int n)), some (.d (.int b)), some (.d (.int e)), some (.d (.int p)), some (.d (.int c)), some (.d (.int l)), some (.d (.int s)), some (.d (.int w)), some (.d (.int m)), some (.d (.int g)), some (.d (.int k)), y, z]
theorem sp8 {i N : Nat} (n b e p c l s w m g k : Int) (y z : Option Lv) (st : Sto) (hp : Pot i st) (hN : st.length = N) (hw : w = 1 ∨ w = -1) (hs : 1 ≤ s) : Ok (q_law_spot_8 (SpM i n b e p c l s w m g k y z) st) (SpQ i N) := by
  by_cases hk : k = 2
  · obtain ⟨d1, s1, a1, a2, a3, a4, a5⟩ := take_ok hp (m := 5) (by decide) (by decide +kernel)
    refine Ok.eq (o' := q_law_spot_9 (SpM i n b e p c l s w m (m - 3 + d1) k y z) s1) ?_ (sp9 n b e p c l s w m _ k _ _ s1 a4 (by omega) hw hs)
    simp [q_law_spot_8, SpM, fnD, fin, xSeq, xSet, xRet, xRetN, xIf, xNil, xAsg, xAugI, xPar, xExpr, xBreak, setAll, augI, sVar, sC, lget, bOf, bTru, bAnd, bOr, bNot, sBin, kP2, kOr, lvD, pAdd, pSub, pMul, pDiv, pMod, pPow, pInt, pGt, pGe, pLt, pLe, pCmp, sCall, aNil, aCons, kPs, tops, sTup, sLst, sLstC, lvDs, gTu, gsCons, gsNil, gN, sUn, pNeg, sIf, sAnd, lvB, tru, Option.bind_eq_bind, Option.bind_some, Option.map_some, Option.bind_none, Option.map_none, pEq_ii, a1, hk]
  · refine Ok.eq (o' := q_law_spot_9 (SpM i n b e p c l s w m g k y z) st) ?_ (sp9 n b e p c l s w m g k _ _ st hp hN hw hs)
    simp [q_law_spot_8, SpM, fnD, fin, xSeq, xSet, xRet, xRetN, xIf, xNil, xAsg, xAugI, xPar, xExpr, xBreak, setAll, augI, sVar, sC, lget, bOf, bTru, bAnd, bOr, bNot, sBin, kP2, kOr, lvD, pAdd, pSub, pMul, pDiv, pMod, pPow, pInt, pGt, pGe, pLt, pLe, pCmp, sCall, aNil, aCons, kPs, tops, sTup, sLst, sLstC, lvDs, gTu, gsCons, gsNil, gN, sUn, pNeg, sIf, sAnd, lvB, tru, Option.bind_eq_bind, Option.bind_some, Option.map_some, Option.bind_none, Option.map_none, pEq_ii, hk]
theorem sp7 {i N : Nat} (n b e p c l s w m g k : Int) (y z : Option Lv) (st : Sto) (hp : Pot i st) (hN : st.length = N) (hw : w = 1 ∨ w = -1) (hs : 1 ≤ s) : Ok (q_law_spot_7 (SpM i n b e p c l s w m g k y z) st) (SpQ i N) := by
  by_cases hk : k = 1
  · obtain ⟨d1, s1, a1, a2, a3, a4, a5⟩ := take_ok hp (m := 5) (by decide) (by decide +kernel)
    refine Ok.eq (o' := q_law_spot_8 (SpM i n b e p c l s w m (s - 3 + d1) k y z) s1) ?_ (sp8 n b e p c l s w m _ k _ _ s1 a4 (by omega) hw hs)
    simp [q_law_spot_7, SpM, fnD, fin, xSeq, xSet, xRet, xRetN, xIf, xNil, xAsg, xAugI, xPar, xExpr, xBreak, setAll, augI, sVar, sC, lget, bOf, bTru, bAnd, bOr, bNot, sBin, kP2, kOr, lvD, pAdd, pSub, pMul, pDiv, pMod, pPow, pInt, pGt, pGe, pLt, pLe, pCmp, sCall, aNil, aCons, kPs, tops, sTup, sLst, sLstC, lvDs, gTu, gsCons, gsNil, gN, sUn, pNeg, sIf, sAnd, lvB, tru, Option.bind_eq_bind, Option.bind_some, Option.map_some, Option.bind_none, Option.map_none, pEq_ii, a1, hk]
  · refine Ok.eq (o' := q_law_spot_8 (SpM i n b e p c l s w m g k y z) st) ?_ (sp8 n b e p c l s w m g k _ _ st hp hN hw hs)
    simp [q_law_spot_7, SpM, fnD, fin, xSeq, xSet, xRet, xRetN, xIf, xNil, xAsg, xAugI, xPar, xExpr, xBreak, setAll, augI, sVar, sC, lget, bOf, bTru, bAnd, bOr, bNot, sBin, kP2, kOr, lvD, pAdd, pSub, pMul, pDiv, pMod, pPow, pInt, pGt, pGe, pLt, pLe, pCmp, sCall, aNil, aCons, kPs, tops, sTup, sLst, sLstC, lvDs, gTu, gsCons, gsNil, gN, sUn, pNeg, sIf, sAnd, lvB, tru, Option.bind_eq_bind, Option.bind_some, Option.map_some, Option.bind_none, Option.map_none, pEq_ii, hk]
theorem sp6 {i N : Nat} (n b e p c l s w m g k : Int) (y z : Option Lv) (st : Sto) (hp : Pot i st) (hN : st.length = N) (hw : w = 1 ∨ w = -1) (hs : 1 ≤ s) : Ok (q_law_spot_6 (SpM i n b e p c l s w m g k y z) st) (SpQ i N) := by
  by_cases hk : k = 0
  · obtain ⟨d1, s1, a1, a2, a3, a4, a5⟩ := take_ok hp (m := 5) (by decide) (by decide +kernel)
    refine Ok.eq (o' := q_law_spot_7 (SpM i n b e p c l s w m d1 k y z) s1) ?_ (sp7 n b e p c l s w m _ k _ _ s1 a4 (by omega) hw hs)
    simp [q_law_spot_6, SpM, fnD, fin, xSeq, xSet, xRet, xRetN, xIf, xNil, xAsg, xAugI, xPar, xExpr, xBreak, setAll, augI, sVar, sC, lget, bOf, bTru, bAnd, bOr, bNot, sBin, kP2, kOr, lvD, pAdd, pSub, pMul, pDiv, pMod, pPow, pInt, pGt, pGe, pLt, pLe, pCmp, sCall, aNil, aCons, kPs, tops, sTup, sLst, sLstC, lvDs, gTu, gsCons, gsNil, gN, sUn, pNeg, sIf, sAnd, lvB, tru, Option.bind_eq_bind, Option.bind_some, Option.map_some, Option.bind_none, Option.map_none, pEq_ii, a1, hk]
  · refine Ok.eq (o' := q_law_spot_7 (SpM i n b e p c l s w m g k y z) st) ?_ (sp7 n b e p c l s w m g k _ _ st hp hN hw hs)
    simp [q_law_spot_6, SpM, fnD, fin, xSeq, xSet, xRet, xRetN, xIf, xNil, xAsg, xAugI, xPar, xExpr, xBreak, setAll, augI, sVar, sC, lget, bOf, bTru, bAnd, bOr, bNot, sBin, kP2, kOr, lvD, pAdd, pSub, pMul, pDiv, pMod, pPow, pInt, pGt, pGe, pLt, pLe, pCmp, sCall, aNil, aCons, kPs, tops, sTup, sLst, sLstC, lvDs, gTu, gsCons, gsNil, gN, sUn, pNeg, sIf, sAnd, lvB, tru, Option.bind_eq_bind, Option.bind_some, Option.map_some, Option.bind_none, Option.map_none, pEq_ii, hk]
theorem spot_ok {i : Nat} {n : Int} {st : Sto} (hp : Pot i st) (h1 : 1 ≤ n) : ∃ (x t : Int) (st' : Sto), f__law_spot [.c i, .d (.int n)] st = some (.d (.tup [.int x, .int t]), st') ∧ 0 ≤ t ∧ Pot i st' ∧ st'.length = st.length := by
  obtain ⟨x, s1, e1, b, e, p, c, l, rfl, hb, hp1, hl1⟩ := halves_ok hp h1
  have m3 := mul3 (e - b + 1 - 1)
  obtain ⟨g, s2, a1, a2, a3, a4, a5⟩ := number_ok hp1 (m := (3 * (e - b + 1 - 1) + 1) / 2 + 3) (by omega)
  obtain ⟨k, s3, b1, b2, b3, b4, b5⟩ := take_ok a4 (m := 8) (by decide) (by decide +kernel)
  have z := sp6 (N := st.length) n b e p c l (e - b + 1) (if p = b then 1 else -1) ((3 * (e - b + 1 - 1) + 1) / 2) g k none none s3 b4 (by omega) (by split <;> simp) (by omega)
  obtain ⟨⟨fl, L, s⟩, e2, x, t, e3, e4, e5, e6⟩ := z
  dsimp only at e3 e5 e6
  subst e3
  refine ⟨x, t, s, ?_, e4, e5, e6⟩
  unfold f__law_spot
  rw [q_law_spot_eq]
  have ht := take_st e6
  by_cases hpb : p = b
  · subst hpb
    rw [if_pos rfl] at e2
    simp [q_law_spot_0, q_law_spot_1, q_law_spot_2, q_law_spot_3, q_law_spot_4, q_law_spot_5, SpM, fnD, fin, xSeq, xSet, xRet, xRetN, xIf, xNil, xAsg, xAugI, xPar, xExpr, xBreak, setAll, augI, sVar, sC, lget, bOf, bTru, bAnd, bOr, bNot, sBin, kP2, kOr, lvD, pAdd, pSub, pMul, pDiv, pMod, pPow, pInt, pGt, pGe, pLt, pLe, pCmp, sCall, aNil, aCons, kPs, tops, sTup, sLst, sLstC, lvDs, gTu, gsCons, gsNil, gN, sUn, pNeg, sIf, sAnd, lvB, tru, Option.bind_eq_bind, Option.bind_some, Option.map_some, Option.bind_none, Option.map_none, e1, pEq_ii, lg2, mul3] at e2 ⊢
    simp at a1
    simp [fnD, fin, xSeq, xSet, xRet, xRetN, xIf, xNil, xAsg, xAugI, xPar, xExpr, xBreak, setAll, augI, sVar, sC, lget, bOf, bTru, bAnd, bOr, bNot, sBin, kP2, kOr, lvD, pAdd, pSub, pMul, pDiv, pMod, pPow, pInt, pGt, pGe, pLt, pLe, pCmp, sCall, aNil, aCons, kPs, tops, sTup, sLst, sLstC, lvDs, gTu, gsCons, gsNil, gN, sUn, pNeg, sIf, sAnd, lvB, tru, Option.bind_eq_bind, Option.bind_some, Option.map_some, Option.bind_none, Option.map_none, a1, b1, e2, ht]
  · rw [if_neg hpb] at e2
    simp [q_law_spot_0, q_law_spot_1, q_law_spot_2, q_law_spot_3, q_law_spot_4, q_law_spot_5, SpM, fnD, fin, xSeq, xSet, xRet, xRetN, xIf, xNil, xAsg, xAugI, xPar, xExpr, xBreak, setAll, augI, sVar, sC, lget, bOf, bTru, bAnd, bOr, bNot, sBin, kP2, kOr, lvD, pAdd, pSub, pMul, pDiv, pMod, pPow, pInt, pGt, pGe, pLt, pLe, pCmp, sCall, aNil, aCons, kPs, tops, sTup, sLst, sLstC, lvDs, gTu, gsCons, gsNil, gN, sUn, pNeg, sIf, sAnd, lvB, tru, Option.bind_eq_bind, Option.bind_some, Option.map_some, Option.bind_none, Option.map_none, e1, pEq_ii, lg2, mul3, hpb] at e2 ⊢
    simp at a1
    simp [fnD, fin, xSeq, xSet, xRet, xRetN, xIf, xNil, xAsg, xAugI, xPar, xExpr, xBreak, setAll, augI, sVar, sC, lget, bOf, bTru, bAnd, bOr, bNot, sBin, kP2, kOr, lvD, pAdd, pSub, pMul, pDiv, pMod, pPow, pInt, pGt, pGe, pLt, pLe, pCmp, sCall, aNil, aCons, kPs, tops, sTup, sLst, sLstC, lvDs, gTu, gsCons, gsNil, gN, sUn, pNeg, sIf, sAnd, lvB, tru, Option.bind_eq_bind, Option.bind_some, Option.map_some, Option.bind_none, Option.map_none, a1, b1, e2, ht]
end SM
namespace SM
open PySem L2 DL Lk42
theorem ixl2 (a b : D) (c : Bool) : pIx (.lst [a, b]) (.int (if c = true then 1 else 0)) = some (if c = true then b else a) := by cases c <;> rfl
theorem big : (10 : Int) ^ 60 + 1 ≤ 2 ^ 1000 + 1 := by decide +kernel
theorem pow_le {a b : Nat} (h : a ≤ b) : (2 : Int) ^ a ≤ 2 ^ b := by
  have := Nat.pow_le_pow_right (n := 2) (by decide) h
  exact_mod_cast this
theorem many_ok {i : Nat} {g : Bool} {st : Sto} (hp : Pot i st) : ∃ (n : Int) (st' : Sto), f__law_many [.c i, .d (.bl g)] st = some (.d (.int n), st') ∧ 1 ≤ n ∧ n ≤ 2 ^ 1000 + 1 ∧ Pot i st' ∧ st'.length = st.length := by
  obtain ⟨d, s1, e1, e2, e3, e4, e5⟩ := take_ok hp (m := 4) (by decide) (by decide +kernel)
  unfold f__law_many
  rw [q_law_many_eq]
  have hb : (1000 : Int) ≤ 2 ^ 1000 := by decide +kernel
  by_cases h0 : d = 0
  · obtain ⟨d1, s2, a1, a2, a3, a4, a5⟩ := take_ok e4 (m := 40) (by decide) (by decide +kernel)
    refine ⟨1 + d1, s2, ?_, by omega, by omega, a4, by omega⟩
    simp [q_law_many_0, q_law_many_1, fnD, fin, xSeq, xSet, xRet, xRetN, xIf, xNil, xAsg, xAugI, xPar, xExpr, xBreak, setAll, augI, sVar, sC, lget, bOf, bTru, bAnd, bOr, bNot, sBin, kP2, kOr, lvD, pAdd, pSub, pMul, pDiv, pMod, pPow, pInt, pGt, pGe, pLt, pLe, pCmp, sCall, aNil, aCons, kPs, tops, sTup, sLst, sLstC, lvDs, gTu, gsCons, gsNil, gN, sUn, pNeg, sIf, sAnd, lvB, tru, Option.bind_eq_bind, Option.bind_some, Option.map_some, Option.bind_none, Option.map_none, e1, h0, pEq_ii, a1, take_st (show s2.length = st.length by omega)]
  · by_cases h1 : d = 1
    · have hm : ∀ m : Int, m = (if g = true then 198 else 29) → 0 < m ∧ m.natAbs.log2 < 9000 ∧ m ≤ 198 := by
        intro m e
        subst e
        cases g <;> decide +kernel
      obtain ⟨m1, m2, m3⟩ := hm _ rfl
      obtain ⟨d1, s2, a1, a2, a3, a4, a5⟩ := take_ok e4 m1 m2
      obtain ⟨d2, s3, b1, b2, b3, b4, b5⟩ := take_ok a4 (m := 5) (by decide) (by decide +kernel)
      have hx := ixl2 (.int 29) (.int 198) g
      have hy : (if g = true then D.int 198 else D.int 29) = .int (if g = true then 198 else 29) := by cases g <;> rfl
      rw [hy] at hx
      generalize (if g = true then (198 : Int) else 29) = m at *
      have hs : 0 ≤ 1 + d1 ∧ 1 + d1 ≤ 1000000 := by omega
      have hq : (2 : Int) ^ (1 + d1).toNat ≤ 2 ^ 200 := pow_le (by omega)
      have hc : (2 : Int) ^ 200 + 1000 ≤ 2 ^ 1000 := by decide +kernel
      refine ⟨if 2 ^ (1 + d1).toNat + d2 - 2 > 1 then 2 ^ (1 + d1).toNat + d2 - 2 else 1, s3, ?_, by split <;> omega, by split <;> omega, b4, by omega⟩
      simp [q_law_many_0, q_law_many_1, q_law_many_2, fnD, fin, xSeq, xSet, xRet, xRetN, xIf, xNil, xAsg, xAugI, xPar, xExpr, xBreak, setAll, augI, sVar, sC, lget, bOf, bTru, bAnd, bOr, bNot, sBin, kP2, kOr, lvD, pAdd, pSub, pMul, pDiv, pMod, pPow, pInt, pGt, pGe, pLt, pLe, pCmp, sCall, aNil, aCons, kPs, tops, sTup, sLst, sLstC, lvDs, gTu, gsCons, gsNil, gN, sUn, pNeg, sIf, sAnd, lvB, tru, Option.bind_eq_bind, Option.bind_some, Option.map_some, Option.bind_none, Option.map_none, e1, h1, pEq_ii, pToInt, pShl, hx, two_le, a1, b1, hs, pMax, take_st (show s3.length = st.length by omega)]
    · have hx := ixl2 (.int 1000000000) (.int 1000000000000000000000000000000000000000000000000000000000000) (g && decide (d = 2))
      have hy : (if (g && decide (d = 2)) = true then D.int 1000000000000000000000000000000000000000000000000000000000000 else D.int 1000000000) = .int (if (g && decide (d = 2)) = true then 1000000000000000000000000000000000000000000000000000000000000 else 1000000000) := by cases g && decide (d = 2) <;> rfl
      rw [hy] at hx
      have hm : ∀ m : Int, m = (if (g && decide (d = 2)) = true then 1000000000000000000000000000000000000000000000000000000000000 else 1000000000) → 0 < m ∧ m ≤ 2 ^ 1000 := by
        intro m e
        subst e
        cases g && decide (d = 2) <;> decide +kernel
      obtain ⟨m1, m2⟩ := hm _ rfl
      obtain ⟨d1, s2, a1, a2, a3, a4, a5⟩ := number_ok e4 m1
      generalize (if (g && decide (d = 2)) = true then (1000000000000000000000000000000000000000000000000000000000000 : Int) else 1000000000) = m at *
      refine ⟨1 + d1, s2, ?_, by omega, by omega, a4, by omega⟩
      cases g with
      | false =>
        simp [lx0] at hx
        subst hx
        simp [q_law_many_0, q_law_many_1, q_law_many_2, q_law_many_3, fnD, fin, xSeq, xSet, xRet, xRetN, xIf, xNil, xAsg, xAugI, xPar, xExpr, xBreak, setAll, augI, sVar, sC, lget, bOf, bTru, bAnd, bOr, bNot, sBin, kP2, kOr, lvD, pAdd, pSub, pMul, pDiv, pMod, pPow, pInt, pGt, pGe, pLt, pLe, pCmp, sCall, aNil, aCons, kPs, tops, sTup, sLst, sLstC, lvDs, gTu, gsCons, gsNil, gN, sUn, pNeg, sIf, sAnd, lvB, tru, Option.bind_eq_bind, Option.bind_some, Option.map_some, Option.bind_none, Option.map_none, e1, h0, h1, pEq_ii, pToInt, lx0, lx1, pw9, pw60, two_le, a1, take_st (show s2.length = st.length by omega)]
      | true =>
        by_cases h2 : d = 2
        · simp [h2, lx1] at hx
          subst hx
          simp [q_law_many_0, q_law_many_1, q_law_many_2, q_law_many_3, fnD, fin, xSeq, xSet, xRet, xRetN, xIf, xNil, xAsg, xAugI, xPar, xExpr, xBreak, setAll, augI, sVar, sC, lget, bOf, bTru, bAnd, bOr, bNot, sBin, kP2, kOr, lvD, pAdd, pSub, pMul, pDiv, pMod, pPow, pInt, pGt, pGe, pLt, pLe, pCmp, sCall, aNil, aCons, kPs, tops, sTup, sLst, sLstC, lvDs, gTu, gsCons, gsNil, gN, sUn, pNeg, sIf, sAnd, lvB, tru, Option.bind_eq_bind, Option.bind_some, Option.map_some, Option.bind_none, Option.map_none, e1, h2, pEq_ii, pToInt, lx0, lx1, pw9, pw60, two_le, a1, take_st (show s2.length = st.length by omega)]
        · simp [h2, lx0] at hx
          subst hx
          simp [q_law_many_0, q_law_many_1, q_law_many_2, q_law_many_3, fnD, fin, xSeq, xSet, xRet, xRetN, xIf, xNil, xAsg, xAugI, xPar, xExpr, xBreak, setAll, augI, sVar, sC, lget, bOf, bTru, bAnd, bOr, bNot, sBin, kP2, kOr, lvD, pAdd, pSub, pMul, pDiv, pMod, pPow, pInt, pGt, pGe, pLt, pLe, pCmp, sCall, aNil, aCons, kPs, tops, sTup, sLst, sLstC, lvDs, gTu, gsCons, gsNil, gN, sUn, pNeg, sIf, sAnd, lvB, tru, Option.bind_eq_bind, Option.bind_some, Option.map_some, Option.bind_none, Option.map_none, e1, h0, h1, h2, pEq_ii, pToInt, lx0, lx1, pw9, pw60, two_le, a1, take_st (show s2.length = st.length by omega)]
/-- what a place holds, nobody beyond the ends -/
def told (n t : Nat) (x : Int) : Nat := if 0 ≤ x ∧ x < n then SN n t x.toNat else 20
theorem told_le (n t : Nat) (x : Int) : told n t x ≤ 20 := by
  unfold told
  split
  · have := SN_lt n t x.toNat; omega
  · exact Nat.le_refl _
theorem told_eq (n t : Nat) (x : Int) (st : Sto) (h1 : 1 ≤ n) (hb : n ≤ 2 ^ 1000 + 1) : f__law_told [.d (.int n), .d (.int x), .d (.int t)] st = some (.d (.str (ltr (told n t x))), st) := by
  unfold f__law_told b__law_told told
  by_cases h : 0 ≤ x ∧ x < n
  · have e := f_seen_eq n t x.toNat st h1 hb (by omega)
    rw [show ((x.toNat : Nat) : Int) = x by omega] at e
    have h2 : ¬x < 0 := by omega
    have h3 : ¬(n : Int) ≤ x := by omega
    rw [if_pos h]
    simp [fnD, fin, xSeq, xSet, xRet, xRetN, xIf, xNil, xAsg, xAugI, xPar, xExpr, xBreak, setAll, augI, sVar, sC, lget, bOf, bTru, bAnd, bOr, bNot, sBin, kP2, kOr, lvD, pAdd, pSub, pMul, pDiv, pMod, pPow, pInt, pGt, pGe, pLt, pLe, pCmp, sCall, aNil, aCons, kPs, tops, sTup, sLst, sLstC, lvDs, gTu, gsCons, gsNil, gN, sUn, pNeg, sIf, sAnd, lvB, tru, Option.bind_eq_bind, Option.bind_some, Option.map_some, Option.bind_none, Option.map_none, h2, h3, e]
  · rw [if_neg h]
    by_cases h2 : x < 0
    · simp [fnD, fin, xSeq, xSet, xRet, xRetN, xIf, xNil, xAsg, xAugI, xPar, xExpr, xBreak, setAll, augI, sVar, sC, lget, bOf, bTru, bAnd, bOr, bNot, sBin, kP2, kOr, lvD, pAdd, pSub, pMul, pDiv, pMod, pPow, pInt, pGt, pGe, pLt, pLe, pCmp, sCall, aNil, aCons, kPs, tops, sTup, sLst, sLstC, lvDs, gTu, gsCons, gsNil, gN, sUn, pNeg, sIf, sAnd, lvB, tru, Option.bind_eq_bind, Option.bind_some, Option.map_some, Option.bind_none, Option.map_none, h2]
      rfl
    · have h3 : (n : Int) ≤ x := by omega
      simp [fnD, fin, xSeq, xSet, xRet, xRetN, xIf, xNil, xAsg, xAugI, xPar, xExpr, xBreak, setAll, augI, sVar, sC, lget, bOf, bTru, bAnd, bOr, bNot, sBin, kP2, kOr, lvD, pAdd, pSub, pMul, pDiv, pMod, pPow, pInt, pGt, pGe, pLt, pLe, pCmp, sCall, aNil, aCons, kPs, tops, sTup, sLst, sLstC, lvDs, gTu, gsCons, gsNil, gN, sUn, pNeg, sIf, sAnd, lvB, tru, Option.bind_eq_bind, Option.bind_some, Option.map_some, Option.bind_none, Option.map_none, h2, h3]
      rfl
theorem behind_eq (K : List (NestedKey × D)) (a b c : Str) (st : Sto) : f__law_behind [.d (.dn K), .d (.str a), .d (.str b), .d (.str c)] st = some (.d ((lookN K (.tup [.text a, .text b, .text c])).getD (.str b)), st) := by
  have h3 : (3 : Nat) ≤ sizeLine := by decide
  simp [f__law_behind, b__law_behind, fnD, fin, xSeq, xSet, xRet, xRetN, xIf, xNil, xAsg, xAugI, xPar, xExpr, xBreak, setAll, augI, sVar, sC, lget, bOf, bTru, bAnd, bOr, bNot, sBin, kP2, kOr, lvD, pAdd, pSub, pMul, pDiv, pMod, pPow, pInt, pGt, pGe, pLt, pLe, pCmp, sCall, aNil, aCons, kPs, tops, sTup, sLst, sLstC, lvDs, gTu, gsCons, gsNil, gN, sUn, pNeg, sIf, sAnd, lvB, tru, Option.bind_eq_bind, Option.bind_some, Option.map_some, Option.bind_none, Option.map_none, sMethN, dnOf, kGetN, h3, key_eq]
theorem ltr_ok : ∀ a ≤ 20, PyData.strOk (ltr a) = true := by decide +kernel
theorem isStr : isSub "str" "str" = some true := by decide +kernel
theorem win_ok (K : List (NestedKey × D)) (hK : ∀ l s r, l ≤ 20 → s ≤ 20 → r ≤ 20 → (lookN K (.tup [.text (ltr l), .text (ltr s), .text (ltr r)])).getD (.str (ltr s)) = .str (ltr (tb l s r))) (n t : Nat) (x : Int) (st : Sto) (h1 : 1 ≤ n) (hb : n ≤ 2 ^ 1000 + 1) :
    f__law_window_right [.d (.dn K), .d (.int n), .d (.int x), .d (.int t)] st = some (.d (.bl true), st) := by
  unfold f__law_window_right
  rw [q_law_window_right_eq]
  by_cases h : 0 ≤ x ∧ x < n
  · have h2 : ¬x < 0 := by omega
    have h3 : ¬(n : Int) ≤ x := by omega
    have hs := f_seen_eq n (t + 1) x.toNat st h1 hb (by omega)
    rw [show ((x.toNat : Nat) : Int) = x by omega, show ((t + 1 : Nat) : Int) = (t : Int) + 1 by omega] at hs
    have t1 := told_eq n t (x + -1) st h1 hb
    have t2 := told_eq n t x st h1 hb
    have t3 := told_eq n t (x + 1) st h1 hb
    have hw := SN_win n t x.toNat h1 (by omega)
    have w1 : told n t (x + -1) = if x.toNat = 0 then 20 else SN n t (x.toNat - 1) := by
      unfold told
      by_cases c : x.toNat = 0
      · rw [if_pos c, if_neg (by omega)]
      · rw [if_neg c, if_pos (by omega)]
        congr 1
        omega
    have w2 : told n t x = SN n t x.toNat := by unfold told; rw [if_pos h]
    have w3 : told n t (x + 1) = if x.toNat + 1 = n then 20 else SN n t (x.toNat + 1) := by
      unfold told
      by_cases c : x.toNat + 1 = n
      · rw [if_pos c, if_neg (by omega)]
      · rw [if_neg c, if_pos (by omega)]
        congr 1
        omega
    rw [← w1, ← w2, ← w3] at hw
    have k1 := hK _ _ _ (told_le n t (x + -1)) (told_le n t x) (told_le n t (x + 1))
    rw [hw] at k1
    have o1 := ltr_ok _ (show SN n (t + 1) x.toNat ≤ 20 by have := SN_lt n (t + 1) x.toNat; omega)
    have h4 : (3 : Nat) ≤ sizeLine := by decide
    have j0 : ∀ a b c : D, pIx (.lst [a, b, c]) (.int 0) = some a := fun _ _ _ => rfl
    have j1 : ∀ a b c : D, pIx (.lst [a, b, c]) (.int 1) = some b := fun _ _ _ => rfl
    have j2 : ∀ a b c : D, pIx (.lst [a, b, c]) (.int 2) = some c := fun _ _ _ => rfl
    have p1 := pEq_ss false (ltr (SN n (t + 1) x.toNat)) (ltr (SN n (t + 1) x.toNat)) o1 o1
    simp [q_law_window_right_0, q_law_window_right_1, q_law_window_right_2, q_law_window_right_3, fnD, fin, xSeq, xSet, xRet, xRetN, xIf, xNil, xAsg, xAugI, xPar, xExpr, xBreak, setAll, augI, sVar, sC, lget, bOf, bTru, bAnd, bOr, bNot, sBin, kP2, kOr, lvD, pAdd, pSub, pMul, pDiv, pMod, pPow, pInt, pGt, pGe, pLt, pLe, pCmp, sCall, aNil, aCons, kPs, tops, sTup, sLst, sLstC, lvDs, gTu, gsCons, gsNil, gN, sUn, pNeg, sIf, sAnd, lvB, tru, Option.bind_eq_bind, Option.bind_some, Option.map_some, Option.bind_none, Option.map_none, h2, h3, sLc, iSeq, iOr, iLst, iTupD, wipeL, lcGo, bYes, t1, t2, t3, h4, hs, pIsi, tyName, isStr, behind_eq, j0, j1, j2, k1, p1]
  · by_cases h2 : x < 0
    · simp [q_law_window_right_0, fnD, fin, xSeq, xSet, xRet, xRetN, xIf, xNil, xAsg, xAugI, xPar, xExpr, xBreak, setAll, augI, sVar, sC, lget, bOf, bTru, bAnd, bOr, bNot, sBin, kP2, kOr, lvD, pAdd, pSub, pMul, pDiv, pMod, pPow, pInt, pGt, pGe, pLt, pLe, pCmp, sCall, aNil, aCons, kPs, tops, sTup, sLst, sLstC, lvDs, gTu, gsCons, gsNil, gN, sUn, pNeg, sIf, sAnd, lvB, tru, Option.bind_eq_bind, Option.bind_some, Option.map_some, Option.bind_none, Option.map_none, h2]
    · have h3 : (n : Int) ≤ x := by omega
      simp [q_law_window_right_0, fnD, fin, xSeq, xSet, xRet, xRetN, xIf, xNil, xAsg, xAugI, xPar, xExpr, xBreak, setAll, augI, sVar, sC, lget, bOf, bTru, bAnd, bOr, bNot, sBin, kP2, kOr, lvD, pAdd, pSub, pMul, pDiv, pMod, pPow, pInt, pGt, pGe, pLt, pLe, pCmp, sCall, aNil, aCons, kPs, tops, sTup, sLst, sLstC, lvDs, gTu, gsCons, gsNil, gN, sUn, pNeg, sIf, sAnd, lvB, tru, Option.bind_eq_bind, Option.bind_some, Option.map_some, Option.bind_none, Option.map_none, h2, h3]
theorem SN_0 (n x : Nat) (hx : x < n) : SN n 0 x = if x = 0 then 1 else 0 := by
  unfold SN
  have ha : A n 0 true x = if x = 0 then 1 else 0 := by
    unfold A
    by_cases c : x = 0
    · rw [if_pos c, if_pos c]
      rfl
    · rw [if_neg c, if_neg c]
      unfold endS wave
      simp only [true_and]
      (repeat' (split <;> try (exfalso; omega))) <;> rfl
  by_cases h2 : n ≤ 2
  · rw [if_pos h2, if_neg (by omega), ha]
  · rw [if_neg h2, S_loc (by unfold Mh; omega) (by omega), if_neg Bool.false_ne_true, ha]
theorem mem_ints : ∀ (m : Nat) (lo : Int) (x : D), x ∈ DL.intsFrom lo m → ∃ k : Int, x = .int k ∧ lo ≤ k ∧ k < lo + m
  | 0, _, _, h => by cases h
  | m + 1, lo, x, h => by
    rw [DL.intsFrom, List.mem_cons] at h
    rcases h with rfl | h
    · exact ⟨lo, rfl, by omega, by omega⟩
    · obtain ⟨k, e, h1, h2⟩ := mem_ints m (lo + 1) x h
      exact ⟨k, e, by omega, by omega⟩
theorem last_ok (n x : Nat) (i : Nat) (ro kn k : D) (z5 z7 z8 : Option Lv) (st : Sto) (h1 : 1 ≤ n) (hb : n ≤ 2 ^ 1000 + 1) (hx : x < n) :
    qlaw_1B_4 [some (.d ro), some (.d kn), some (.d k), some (.c i), some (.d (.int n)), z5, some (.d (.int x)), z7, z8] st = some (.nx, [some (.d ro), some (.d kn), some (.d k), some (.c i), some (.d (.int n)), z5, some (.d (.int x)), z7, z8], st) := by
  have s1 := f_seen_eq n 0 x st h1 hb hx
  have s2 := f_seen_eq n 0 0 st h1 hb (by omega)
  rw [SN_0 n x hx] at s1
  rw [SN_0 n 0 (by omega), if_pos rfl] at s2
  have g1 : ltr 1 = ("g" : Str) := rfl
  have g0 : ltr 0 = ("o" : Str) := rfl
  have p1 := pEq_ss true (ltr 1) (ltr 1) (ltr_ok 1 (by decide)) (ltr_ok 1 (by decide))
  have p0 := pEq_ss true (ltr 0) (ltr 0) (ltr_ok 0 (by decide)) (ltr_ok 0 (by decide))
  rw [g1] at p1 s2
  rw [g0] at p0
  rw [show ((0 : Nat) : Int) = 0 from rfl] at s1 s2
  by_cases c : x = 0
  · subst c
    rw [if_pos rfl, g1] at s1
    rw [show ((0 : Nat) : Int) = 0 from rfl] at s1
    simp [qlaw_1B_4, fnD, fin, xSeq, xSet, xRet, xRetN, xIf, xNil, xAsg, xAugI, xPar, xExpr, xBreak, setAll, augI, sVar, sC, lget, bOf, bTru, bAnd, bOr, bNot, sBin, kP2, kOr, lvD, pAdd, pSub, pMul, pDiv, pMod, pPow, pInt, pGt, pGe, pLt, pLe, pCmp, sCall, aNil, aCons, kPs, tops, sTup, sLst, sLstC, lvDs, gTu, gsCons, gsNil, gN, sUn, pNeg, sIf, sAnd, lvB, tru, Option.bind_eq_bind, Option.bind_some, Option.map_some, Option.bind_none, Option.map_none, s1, pEq_ii, pToInt, two_le, lx1, p1]
  · have c' : ¬(x : Int) = 0 := by omega
    rw [if_neg c, g0] at s1
    simp [qlaw_1B_4, fnD, fin, xSeq, xSet, xRet, xRetN, xIf, xNil, xAsg, xAugI, xPar, xExpr, xBreak, setAll, augI, sVar, sC, lget, bOf, bTru, bAnd, bOr, bNot, sBin, kP2, kOr, lvD, pAdd, pSub, pMul, pDiv, pMod, pPow, pInt, pGt, pGe, pLt, pLe, pCmp, sCall, aNil, aCons, kPs, tops, sTup, sLst, sLstC, lvDs, gTu, gsCons, gsNil, gN, sUn, pNeg, sIf, sAnd, lvB, tru, Option.bind_eq_bind, Option.bind_some, Option.map_some, Option.bind_none, Option.map_none, s1, s2, pEq_ii, pToInt, c, c', two_le, lx0, p1, p0]
end SM
namespace SM
open PySem L2 DL Lk42
abbrev LwL (ro kn : D) (z2 z3 z4 z5 z6 z7 z8 : Option Lv) : DL.Loc := [some (.d ro), some (.d kn), z2, z3, z4, z5, z6, z7, z8]
theorem three_le : (3 : Nat) ≤ sizeLine := by decide
theorem at_ok (K : List (NestedKey × D)) (hK : ∀ l s r, l ≤ 20 → s ≤ 20 → r ≤ 20 → (lookN K (.tup [.text (ltr l), .text (ltr s), .text (ltr r)])).getD (.str (ltr s)) = .str (ltr (tb l s r))) (n t : Nat) (x : Int) (st : Sto) (h1 : 1 ≤ n) (hb : n ≤ 2 ^ 1000 + 1)
    (ro : D) (z2 z3 z5 z8 : Option Lv) (a : Int) : (qlaw_1B_2B_1G (.d (.int a)) (LwL ro (.dn K) z2 z3 (some (.d (.int n))) z5 (some (.d (.int x))) (some (.d (.int t))) z8) st).bind (fun p => qlaw_1B_2B_1B_0 p.1 p.2) = some (.nx, LwL ro (.dn K) z2 z3 (some (.d (.int n))) z5 (some (.d (.int x))) (some (.d (.int t))) (some (.d (.int a))), st) := by
  have w := win_ok K hK n t (x + a) st h1 hb
  simp [qlaw_1B_2B_1G, qlaw_1B_2B_1B_0, LwL, fnD, fin, xSeq, xSet, xRet, xRetN, xIf, xNil, xAsg, xAugI, xPar, xExpr, xBreak, setAll, augI, sVar, sC, lget, bOf, bTru, bAnd, bOr, bNot, sBin, kP2, kOr, lvD, pAdd, pSub, pMul, pDiv, pMod, pPow, pInt, pGt, pGe, pLt, pLe, pCmp, sCall, aNil, aCons, kPs, tops, sTup, sLst, sLstC, lvDs, gTu, gsCons, gsNil, gN, sUn, pNeg, sIf, sAnd, lvB, tru, Option.bind_eq_bind, Option.bind_some, Option.map_some, Option.bind_none, Option.map_none, w]
theorem turn_ok (K : List (NestedKey × D)) (hK : ∀ l s r, l ≤ 20 → s ≤ 20 → r ≤ 20 → (lookN K (.tup [.text (ltr l), .text (ltr s), .text (ltr r)])).getD (.str (ltr s)) = .str (ltr (tb l s r))) (n : Nat) (st : Sto) (h1 : 1 ≤ n) (hb : n ≤ 2 ^ 1000 + 1)
    (i : Nat) (hp : Pot i st) (ro : D) (z2 z5 z6 z7 z8 : Option Lv) (a : D) :
    Ok ((qlaw_1B_2G (.d a) (LwL ro (.dn K) z2 (some (.c i)) (some (.d (.int n))) z5 z6 z7 z8) st).bind fun p => qlaw_1B_2B_0 p.1 p.2) fun q => q.1 = .nx ∧ (∃ z5 z6 z7 z8, q.2.1 = LwL ro (.dn K) z2 (some (.c i)) (some (.d (.int n))) z5 z6 z7 z8) ∧ Pot i q.2.2 := by
  obtain ⟨x, t, s1, e1, e2, e3, e4⟩ := spot_ok hp (n := (n : Int)) (by omega)
  obtain ⟨t, rfl⟩ : ∃ t' : Nat, t = t' := ⟨t.toNat, by omega⟩
  have c1 := at_ok K hK n t x s1 h1 hb ro z2 (some (.c i)) (some (.d a)) z8 (-1)
  have c2 := at_ok K hK n t x s1 h1 hb ro z2 (some (.c i)) (some (.d a)) (some (.d (.int (-1)))) 0
  have c3 := at_ok K hK n t x s1 h1 hb ro z2 (some (.c i)) (some (.d a)) (some (.d (.int 0))) 1
  refine ⟨(.nx, LwL ro (.dn K) z2 (some (.c i)) (some (.d (.int n))) (some (.d a)) (some (.d (.int x))) (some (.d (.int t))) (some (.d (.int 1))), s1), ?_, rfl, ⟨_, _, _, _, rfl⟩, e3⟩
  have go : ∀ (y : Int) (ys : List D) (L L' : DL.Loc), (qlaw_1B_2B_1G (.d (.int y)) L s1).bind (fun p => qlaw_1B_2B_1B_0 p.1 p.2) = some (.nx, L', s1) → forGo qlaw_1B_2B_1G qlaw_1B_2B_1B_0 (.int y :: ys) L s1 = forGo qlaw_1B_2B_1G qlaw_1B_2B_1B_0 ys L' s1 := by
    intro y ys L L' e
    obtain ⟨⟨L0, s0⟩, e0, e5⟩ := Option.bind_eq_some_iff.mp e
    rw [forGo]
    dsimp only
    rw [e0]
    simp only [Option.bind_some] at e5 ⊢
    rw [e5]
    rfl
  have f : forGo qlaw_1B_2B_1G qlaw_1B_2B_1B_0 [.int (-1), .int 0, .int 1] (LwL ro (.dn K) z2 (some (.c i)) (some (.d (.int n))) (some (.d a)) (some (.d (.int x))) (some (.d (.int t))) z8) s1 = some (.nx, LwL ro (.dn K) z2 (some (.c i)) (some (.d (.int n))) (some (.d a)) (some (.d (.int x))) (some (.d (.int t))) (some (.d (.int 1))), s1) := by
    rw [go _ _ _ _ c1, go _ _ _ _ c2, go _ _ _ _ c3]
    rfl
  simp only [LwL] at f ⊢
  simp [qlaw_1B_2G, qlaw_1B_2B_0, qlaw_1B_2B_1, fnD, fin, xSeq, xSet, xRet, xRetN, xIf, xNil, xAsg, xAugI, xPar, xExpr, xBreak, setAll, augI, sVar, sC, lget, bOf, bTru, bAnd, bOr, bNot, sBin, kP2, kOr, lvD, pAdd, pSub, pMul, pDiv, pMod, pPow, pInt, pGt, pGe, pLt, pLe, pCmp, sCall, aNil, aCons, kPs, tops, sTup, sLst, sLstC, lvDs, gTu, gsCons, gsNil, gN, sUn, pNeg, sIf, sAnd, lvB, tru, Option.bind_eq_bind, Option.bind_some, Option.map_some, Option.bind_none, Option.map_none, e1, xFor, iSeq, iOr, iLst, iTupD, three_le, f]
theorem each_ok (K : List (NestedKey × D)) (hK : ∀ l s r, l ≤ 20 → s ≤ 20 → r ≤ 20 → (lookN K (.tup [.text (ltr l), .text (ltr s), .text (ltr r)])).getD (.str (ltr s)) = .str (ltr (tb l s r))) (ns : List Int) (k : Int) (h0 : 0 ≤ k) (hk : k ≤ 1000) (st : Sto) (z2 z3 z4 z5 z6 z7 z8 : Option Lv) :
    Ok ((qlaw_1G (.d (.int k)) (LwL (.ro (ns.map D.int)) (.dn K) z2 z3 z4 z5 z6 z7 z8) st).bind fun p => qlaw_1B_0 p.1 p.2) fun q => q.1 = .nx ∧ ∃ z2 z3 z4 z5 z6 z7 z8, q.2.1 = LwL (.ro (ns.map D.int)) (.dn K) z2 z3 z4 z5 z6 z7 z8 := by
  obtain ⟨a, b, e1⟩ := pot_ok ns k st h0 hk
  have hp : Pot st.length (st ++ [.lst [.int a, .int b]]) := ⟨a, b, by simp⟩
  obtain ⟨n, s1, a1, a2, a3, a4, a5⟩ := many_ok (g := decide (k < 12)) hp
  obtain ⟨n, rfl⟩ : ∃ n' : Nat, n = n' := ⟨n.toNat, by omega⟩
  have hn1 : 1 ≤ n := by omega
  have hnb : n ≤ 2 ^ 1000 + 1 := by exact_mod_cast a3
  have z := Ok.for_ (g := qlaw_1B_2G) (b := qlaw_1B_2B_0) (P := fun L s => (∃ z5 z6 z7 z8, L = LwL (.ro (ns.map D.int)) (.dn K) (some (.d (.int k))) (some (.c st.length)) (some (.d (.int n))) z5 z6 z7 z8) ∧ Pot st.length s) (R := fun _ => False) (DL.intsFrom 0 3) (fun x _ L s => by
    rintro ⟨⟨z5, z6, z7, z8, rfl⟩, q⟩
    exact (turn_ok K hK n s hn1 hnb st.length q _ _ _ _ _ _ _).imp fun q h => .inl ⟨h.1, h.2⟩) (LwL (.ro (ns.map D.int)) (.dn K) (some (.d (.int k))) (some (.c st.length)) (some (.d (.int n))) z5 z6 z7 z8) s1 ⟨⟨_, _, _, _, rfl⟩, a4⟩
  obtain ⟨⟨fl, L, s2⟩, e, z⟩ := z
  rcases z with ⟨rfl, ⟨y5, y6, y7, y8, z1⟩, z2⟩ | ⟨_, h⟩
  · dsimp only at z1 z2
    subst z1
    obtain ⟨x, s3, b1, b2, b3, b4, b5⟩ := number_ok z2 (m := (n : Int)) (by omega)
    obtain ⟨x, rfl⟩ : ∃ x' : Nat, x = x' := ⟨x.toNat, by omega⟩
    have l := last_ok n x st.length (.ro (ns.map D.int)) (.dn K) (.int k) y5 y7 y8 s3 hn1 hnb (by omega)
    refine ⟨(.nx, LwL (.ro (ns.map D.int)) (.dn K) (some (.d (.int k))) (some (.c st.length)) (some (.d (.int n))) y5 (some (.d (.int x))) y7 y8, s3), ?_, rfl, some (.d (.int k)), some (.c st.length), some (.d (.int n)), y5, some (.d (.int x)), y7, y8, rfl⟩
    · have rg3 : rgOk 3 = true := by decide
      simp only [LwL] at e l ⊢
      simp [qlaw_1G, qlaw_1B_0, qlaw_1B_1, qlaw_1B_2, qlaw_1B_3, fnD, fin, xSeq, xSet, xRet, xRetN, xIf, xNil, xAsg, xAugI, xPar, xExpr, xBreak, setAll, augI, sVar, sC, lget, bOf, bTru, bAnd, bOr, bNot, sBin, kP2, kOr, lvD, pAdd, pSub, pMul, pDiv, pMod, pPow, pInt, pGt, pGe, pLt, pLe, pCmp, sCall, aNil, aCons, kPs, tops, sTup, sLst, sLstC, lvDs, gTu, gsCons, gsNil, gN, sUn, pNeg, sIf, sAnd, lvB, tru, Option.bind_eq_bind, Option.bind_some, Option.map_some, Option.bind_none, Option.map_none, e1, a1, xFor, iRg1, rg3, e, b1, l]
  · exact h.elim
theorem fn_top {np nl : Nat} {b : SS} {rs : List Lv} {L L' : DL.Loc} {x : D} {s : Sto} (hl : rs.length = np) (hL : rs.map some ++ List.replicate (nl - np) none = L) (h : b L [] = some (.rt (.d x), L', s)) : fnD np nl b rs [] = some (.d x, []) := by
  unfold fnD
  rw [if_pos hl, hL, h]
  rfl
theorem step0 (F : SF) (R : SS) (x : D) (hF : F [] [] = some (.d x, [])) (ro : D) : xSeq (xSet 1 (sCall F aNil)) R [some (.d ro), none, none, none, none, none, none, none, none] [] = R (LwL ro x none none none none none none none) [] := by
  simp [fnD, fin, xSeq, xSet, xRet, xRetN, xIf, xNil, xAsg, xAugI, xPar, xExpr, xBreak, setAll, augI, sVar, sC, lget, bOf, bTru, bAnd, bOr, bNot, sBin, kP2, kOr, lvD, pAdd, pSub, pMul, pDiv, pMod, pPow, pInt, pGt, pGe, pLt, pLe, pCmp, sCall, aNil, aCons, kPs, tops, sTup, sLst, sLstC, lvDs, gTu, gsCons, gsNil, gN, sUn, pNeg, sIf, sAnd, lvB, tru, Option.bind_eq_bind, Option.bind_some, Option.map_some, Option.bind_none, Option.map_none, hF]
theorem first_ok (x : D) (hF : f__law_known [] [] = some (.d x, [])) (ro : D) : qlaw_0 [some (.d ro), none, none, none, none, none, none, none, none] [] = qlaw_1 (LwL ro x none none none none none none none) [] := step0 f__law_known qlaw_1 x hF ro
theorem rg1_of {f : SE} {L : DL.Loc} {st st' : Sto} {j : Int} (h : f L st = some (.d (.int j), st')) (hr : rgOk j = true) : iRg1 (aCons f aNil) L st = some (DL.intsFrom 0 j.toNat, st') := by
  unfold iRg1 aCons
  rw [h]
  show (if rgOk j = true then _ else _) = _
  rw [if_pos hr]
theorem bin_add {f : SE} {L : DL.Loc} {st st' : Sto} {i k : Int} (h : f L st = some (.d (.int i), st')) : sBin (kP2 pAdd) f (sC (.int k)) L st = some (.d (.int (i + k)), st') := by
  unfold sBin
  rw [h]
  rfl
theorem cut_ok (ds q : List D) (L : DL.Loc) (hcut : cutD ds none (some 40) = q) (hr : rgOk ((q.length : Int) + 1) = true) : iRg1 (aCons (sBin (kP2 pAdd) (sCall (kPs pLen) (aCons (sSl (sVar 0) (oNone) (oSome (sC (.int 40)))) (aNil))) (sC (.int 1))) (aNil)) (some (.d (.ro ds)) :: L) [] = some (DL.intsFrom 0 ((q.length : Int) + 1).toNat, []) := by
  have e1 : sSl (sVar 0) (oNone) (oSome (sC (.int 40))) (some (.d (.ro ds)) :: L) [] = some (.d (.lst q), []) := by
    rw [← hcut]
    rfl
  have e2 : sCall (kPs pLen) (aCons (sSl (sVar 0) (oNone) (oSome (sC (.int 40)))) (aNil)) (some (.d (.ro ds)) :: L) [] = some (.d (.int q.length), []) := by
    unfold sCall aCons
    rw [e1]
    rfl
  exact rg1_of (bin_add e2) hr
theorem for_rt {i : SI} {g : SG} {b : SS} {R : SS} {L L' : DL.Loc} {st s st' : Sto} {ds : List D} (h1 : i L st = some (ds, st')) (h2 : forGo g b ds L st' = some (.nx, L', s)) : xSeq (xFor i g b) R L st = R L' s := by
  unfold xSeq xFor
  rw [h1]
  dsimp only [Option.bind_some]
  rw [h2]
  rfl
theorem rest_ok (K : List (NestedKey × D)) (hK : ∀ l s r, l ≤ 20 → s ≤ 20 → r ≤ 20 → (lookN K (.tup [.text (ltr l), .text (ltr s), .text (ltr r)])).getD (.str (ltr s)) = .str (ltr (tb l s r)))
    (ns : List Int) (h : ns.length ≤ 63) : ∃ L s, qlaw_1 (LwL (.ro (ns.map D.int)) (.dn K) none none none none none none none) [] = some (.rt (.d (.bl true)), L, s) := by
  have hq : (cutD (ns.map D.int) none (some 40)).length ≤ 63 := by
    unfold cutD
    rw [List.length_take, List.length_drop, List.length_map]
    omega
  generalize hcut : cutD (ns.map D.int) none (some 40) = q at hq
  have hr : rgOk ((q.length : Int) + 1) = true := rg_ok (by omega) (by omega)
  have z := Ok.for_ (g := qlaw_1G) (b := qlaw_1B_0) (P := fun L _ => ∃ z2 z3 z4 z5 z6 z7 z8, L = LwL (.ro (ns.map D.int)) (.dn K) z2 z3 z4 z5 z6 z7 z8) (R := fun _ => False) (DL.intsFrom 0 ((q.length : Int) + 1).toNat) (fun x hx L s => by
    rintro ⟨z2, z3, z4, z5, z6, z7, z8, rfl⟩
    obtain ⟨k, rfl, k1, k2⟩ := mem_ints _ _ _ hx
    exact (each_ok K (fun l s r => hK l s r) ns k k1 (by omega) s _ _ _ _ _ _ _).imp fun q h => .inl h) (LwL (.ro (ns.map D.int)) (.dn K) none none none none none none none) [] ⟨_, _, _, _, _, _, _, rfl⟩
  obtain ⟨⟨fl, L, s2⟩, e, z⟩ := z
  rcases z with ⟨rfl, z2, z3, z4, z5, z6, z7, z8, z1⟩ | ⟨_, h⟩
  · dsimp only at z1
    subst z1
    refine ⟨LwL (.ro (ns.map D.int)) (.dn K) z2 z3 z4 z5 z6 z7 z8, s2, ?_⟩
    exact for_rt (cut_ok _ q _ hcut hr) e
  · exact h.elim
theorem law_ok_K (K : List (NestedKey × D)) (hK : ∀ l s r, l ≤ 20 → s ≤ 20 → r ≤ 20 → (lookN K (.tup [.text (ltr l), .text (ltr s), .text (ltr r)])).getD (.str (ltr s)) = .str (ltr (tb l s r))) (hkn : f__law_known [] [] = some (.d (.dn K), []))
    (ns : List Int) (h : ns.length ≤ 63) : fnD 1 9 qlaw_0 [.d (.ro (ns.map .int))] [] = some (.d (.bl true), []) := by
  obtain ⟨L, s, e⟩ := rest_ok K hK ns h
  rw [← first_ok _ hkn] at e
  exact fn_top rfl rfl e
theorem f_law_eq : f_law = fnD 1 9 qlaw_0 := by
  unfold f_law
  rw [qlaw_eq]
theorem law_ok (ns : List Int) (h : ns.length ≤ 63) : f_law [.d (.ro (ns.map .int))] [] = some (.d (.bl true), []) := by
  rw [f_law_eq]
  exact law_ok_K (rs.map kvq) known_look known_eq ns h
end SM
namespace Lk42
open DL
theorem law_holds (ns : List Int) (h : ns.length ≤ 63) : f_law [.d (.ro (ns.map .int))] [] = some (.d (.bl true), []) := SM.law_ok ns h
end Lk42
namespace Lk42
open PySem L2 DL
end Lk42
open PySem PySem.W PyProof.Rows
set_option maxHeartbeats 0 in
theorem PySem.Challenge.cw_firetogether_k42_whole_windows_of_seen_holds : PySem.Challenge.rw_firetogether_k42_whole_windows_of_seen.Holds := by
  w_on; o_law; k_head; (case hw => w_witness2)
  k_fill
  refine L2.walk_of (l := PySem.Challenge.rw_firetogether_k42_whole_windows_of_seen) (n := 63) (k := 6) (x := "_law_script") (CX := fun _ => L2.CX0) (sp := fun w => DL.spLaw _) rfl (by decide) rfl ⟨rfl, by decide, by decide⟩ (fun w h Y => PySem.W.kIn_of Y) ?F (fun _ _ a ns hl _ hS => ⟨a, ns, rfl, hS, hl, fun _ => rfl⟩) (fun _ _ _ _ _ h => h)
  case F =>
    intro w mg fa h KX G hmg
    refine' Lk42.all_mk KX G hmg Lk42.law_holds ?a0 ?l0 ?c0 ?k0 ?a1 ?l1 ?c1 ?k1 ?a2 ?l2 ?c2 ?k2 ?a3 ?l3 ?c3 ?k3 ?a4 ?l4 ?c4 ?k4 ?a5 ?l5 ?c5 ?k5 ?a6 ?l6 ?c6 ?k6 ?a7 ?l7 ?c7 ?k7 ?a8 ?l8 ?c8 ?k8 ?a9 ?l9 ?c9 ?k9 ?a10 ?l10 ?c10 ?k10 ?a11 ?l11 ?c11 ?k11 ?a12 ?l12 ?c12 ?k12 ?a13 ?l13 ?c13 ?k13 ?a14 ?l14 ?c14 ?k14 ?a15 ?l15 ?c15 ?k15 ?a16 ?l16 ?c16 ?k16 ?a17 ?l17 ?c17 ?k17 ?a18 ?l18 ?c18 ?k18 ?a19 ?l19 ?c19 ?k19 ?a20 ?l20 ?c20 ?k20 ?a21 ?l21 ?c21 ?k21 ?z_abs ?z_dict ?z_divmod ?z_int ?z_isinstance ?z_len ?z_max ?z_min ?z_range ?z_sorted ?z_str ?z_tuple ?g_QUIET ?g_FIRE ?g_LINES ?h_LINES ?u_LINES ?v_LINES ?w_LINES ?x_LINES ?g_LEAST_CUT ?g_RIGHT ?h_RIGHT ?u_RIGHT ?v_RIGHT ?w_RIGHT ?x_RIGHT ?g_LEFT ?h_LEFT ?u_LEFT ?v_LEFT ?w_LEFT ?x_LEFT ?g_POSTS ?h_POSTS ?u_POSTS ?v_POSTS ?w_POSTS ?x_POSTS
    (case a0 => k_is)
    (case l0 => k_is)
    (case c0 => k_is)
    (case k0 => k_is)
    (case a1 => k_is)
    (case l1 => k_is)
    (case c1 => k_is)
    (case k1 => k_is)
    (case a2 => k_is)
    (case l2 => k_is)
    (case c2 => k_is)
    (case k2 => k_is)
    (case a3 => k_is)
    (case l3 => k_is)
    (case c3 => k_is)
    (case k3 => k_is)
    (case a4 => k_is)
    (case l4 => k_is)
    (case c4 => k_is)
    (case k4 => k_is)
    (case a5 => k_is)
    (case l5 => k_is)
    (case c5 => k_is)
    (case k5 => k_is)
    (case a6 => k_is)
    (case l6 => k_is)
    (case c6 => k_is)
    (case k6 => k_is)
    (case a7 => k_is)
    (case l7 => k_is)
    (case c7 => k_is)
    (case k7 => k_is)
    (case a8 => k_is)
    (case l8 => k_is)
    (case c8 => k_is)
    (case k8 => k_is)
    (case a9 => k_is)
    (case l9 => k_is)
    (case c9 => k_is)
    (case k9 => k_is)
    (case a10 => k_is)
    (case l10 => k_is)
    (case c10 => k_is)
    (case k10 => k_is)
    (case a11 => k_is)
    (case l11 => k_is)
    (case c11 => k_is)
    (case k11 => k_is)
    (case a12 => k_is)
    (case l12 => k_is)
    (case c12 => k_is)
    (case k12 => k_is)
    (case a13 => k_is)
    (case l13 => k_is)
    (case c13 => k_is)
    (case k13 => k_is)
    (case a14 => k_is)
    (case l14 => k_is)
    (case c14 => k_is)
    (case k14 => k_is)
    (case a15 => k_is)
    (case l15 => k_is)
    (case c15 => k_is)
    (case k15 => k_is)
    (case a16 => k_is)
    (case l16 => k_is)
    (case c16 => k_is)
    (case k16 => k_is)
    (case a17 => k_is)
    (case l17 => k_is)
    (case c17 => k_is)
    (case k17 => k_is)
    (case a18 => k_is)
    (case l18 => k_is)
    (case c18 => k_is)
    (case k18 => k_is)
    (case a19 => k_is)
    (case l19 => k_is)
    (case c19 => k_is)
    (case k19 => k_is)
    (case a20 => k_is)
    (case l20 => k_is)
    (case c20 => k_is)
    (case k20 => k_is)
    (case a21 => k_is)
    (case l21 => k_is)
    (case c21 => k_is)
    (case k21 => k_is)
    (case z_abs => k_is)
    (case z_dict => k_is)
    (case z_divmod => k_is)
    (case z_int => k_is)
    (case z_isinstance => k_is)
    (case z_len => k_is)
    (case z_max => k_is)
    (case z_min => k_is)
    (case z_range => k_is)
    (case z_sorted => k_is)
    (case z_str => k_is)
    (case z_tuple => k_is)
    (case g_QUIET => k_is)
    (case g_FIRE => k_is)
    (case g_LINES => k_is)
    (case h_LINES => k_is)
    (case u_LINES => rfl)
    (case v_LINES => rfl)
    (case w_LINES => decide)
    (case x_LINES => exact .cons DL.kr_str (.cons DL.kr_str (.cons DL.kr_str (.cons DL.kr_str (.cons DL.kr_str (.cons DL.kr_str (.cons DL.kr_str (.cons DL.kr_str (.cons DL.kr_str (.cons DL.kr_str (.cons DL.kr_str (.cons DL.kr_str (.cons DL.kr_str (.cons DL.kr_str (.cons DL.kr_str (.cons DL.kr_str (.cons DL.kr_str (.cons DL.kr_str (.cons DL.kr_str (.cons DL.kr_str (.cons DL.kr_str (.nil))))))))))))))))))))))
    (case g_LEAST_CUT => k_is)
    (case g_RIGHT => k_is)
    (case h_RIGHT => k_is)
    (case u_RIGHT => rfl)
    (case v_RIGHT => rfl)
    (case w_RIGHT => decide)
    (case x_RIGHT => exact .cons DL.kr_str (.cons DL.kr_str (.cons DL.kr_str (.cons DL.kr_str (.nil)))))
    (case g_LEFT => k_is)
    (case h_LEFT => k_is)
    (case u_LEFT => rfl)
    (case v_LEFT => rfl)
    (case w_LEFT => decide)
    (case x_LEFT => exact .cons DL.kr_str (.cons DL.kr_str (.cons DL.kr_str (.cons DL.kr_str (.nil)))))
    (case g_POSTS => k_is)
    (case h_POSTS => k_is)
    (case u_POSTS => rfl)
    (case v_POSTS => rfl)
    (case w_POSTS => decide)
    (case x_POSTS => exact .cons DL.kr_str (.cons DL.kr_str (.cons DL.kr_str (.cons DL.kr_str (.nil)))))
