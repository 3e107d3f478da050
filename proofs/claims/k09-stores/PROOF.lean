import PyProof.Rows.All
import Wide.All
import OpenK.AllK
import Wide.FinOn
import HandS.ForMost
import HandS.Exc
import HandS.Iter
import KE.KEqNest
import PyProof.NeKinds
import HandS.DictEq
import HandS.Wide
import HandS.ForExc
import HandS.CallSlots
import HandS.Property
import HandS.Comp
import HandS.DictComp
import HandS.More
import HandS.IsInst
import HandS.RaiseMore
import HandS.Small
import HandS.TupAny
import HandS.SortInts
import HandS.Star
import HandS.Style
import HandS.Defaults
import HandS.Head0
import HandS.Head1
import HandS.Head2
import HandS.HeadEnd
import HandS.HeadHook1
import HandS.HeadHook2
import PySem.Challenge.RW_unseenstores_k09_stores
section
set_option Elab.async false
set_option linter.all false
set_option maxRecDepth 100000
set_option maxHeartbeats 4000000
/-! U1: pure data D, how the abstract heap bears it (Rep), slots with their kinds, environments (RelEnv), steps between states (StepS). -/
namespace U
open PySem L2

/-- pure data: what a Python value is worth; obj c fs: an instance of the class number c, its fields in their order -/
inductive D where
  | non | bl (b : Bool) | int (i : Int) | str (x : Str)
  | tup (xs : List D) | lst (xs : List D) | dic (kvs : List (Key × D)) | obj (c : Nat) (fs : List D) | scr (ns : List Int)

/-- the world of a program: the written part, the classes by number: where each stands, its fields' names -/
structure Wd where
  K : PySem.W.Frag
  cad : Nat → Addr
  fns : Nat → List Str

abbrev AP1 := Addr → Prop
mutual
/-- the value v bears the datum, in the abstract heap H, by objects that Z does not hold -/
def Rep (w : Wd) (Z : AP1) (H : Hp) : D → V → Prop
  | .non, v => v = .non
  | .bl b, v => v = .bl b
  | .int i, v => v = .int i
  | .str x, v => v = .str x
  | .tup xs, v => ∃ a vs, v = .ref a ∧ ¬ Z a ∧ H a = some (.tup vs) ∧ Reps w Z H xs vs
  | .lst xs, v => ∃ a vs, v = .ref a ∧ ¬ Z a ∧ H a = some (.lst vs) ∧ Reps w Z H xs vs
  | .dic xs, v => ∃ a vs, v = .ref a ∧ ¬ Z a ∧ Rd H a (.dK vs) ∧ RepK w Z H xs vs
  | .obj c xs, v => ∃ a dx vs, v = .ref a ∧ ¬ Z a ∧ H a = some (.ins (w.cad c) dx ((w.fns c).zip vs)) ∧ Reps w Z H xs vs
  | .scr ns, v => ∃ a, v = .ref a ∧ (SqL w.K (fun _ => none) a (ns.map V.int) ∨ (¬ Z a ∧ Rd H a (.lst (ns.map V.int))))
def Reps (w : Wd) (Z : AP1) (H : Hp) : List D → List V → Prop
  | [], vs => vs = []
  | x :: xs, vs => ∃ v r, vs = v :: r ∧ Rep w Z H x v ∧ Reps w Z H xs r
def RepK (w : Wd) (Z : AP1) (H : Hp) : List (Key × D) → List (Key × V) → Prop
  | [], vs => vs = []
  | p :: xs, vs => ∃ v r, vs = v :: r ∧ RepP w Z H p v ∧ RepK w Z H xs r
def RepP (w : Wd) (Z : AP1) (H : Hp) : Key × D → Key × V → Prop
  | (k, d), v => v.1 = k ∧ Rep w Z H d v.2
end

/-- what stands is kept: what is outside Z stays outside Z', read alike -/
structure Ext (Z : AP1) (H : Hp) (Z' : AP1) (H' : Hp) : Prop where
  z : ∀ a o, H a = some o → ¬ Z a → ¬ Z' a
  rd : ∀ a u, ¬ Z a → (∀ o u', u ≠ .frz o u') → Rd H a u → Rd H' a u
  ins : ∀ a C dx fs, ¬ Z a → H a = some (.ins C dx fs) → H' a = some (.ins C dx fs)
  lst : ∀ a vs, ¬ Z a → H a = some (.lst vs) → H' a = some (.lst vs)
  tup : ∀ a vs, ¬ Z a → H a = some (.tup vs) → H' a = some (.tup vs)

theorem rd_some {H : Hp} {a : Addr} {u : HO} (h : Rd H a u) : ∃ o, H a = some o := by
  rcases h with h | ⟨o, h⟩ <;> exact ⟨_, h⟩

section
variable {w : Wd} {Z Z' : AP1} {H H' : Hp}
mutual
theorem Rep.ext (e : Ext Z H Z' H') : ∀ {d : D} {v : V}, Rep w Z H d v → Rep w Z' H' d v
  | .non, _, h => h
  | .bl _, _, h => h
  | .int _, _, h => h
  | .str _, _, h => h
  | .tup xs, _, h => by
    obtain ⟨a, vs, h1, h2, h3, h4⟩ := h
    exact ⟨a, vs, h1, e.z a _ h3 h2, e.tup a _ h2 h3, Reps.ext e h4⟩
  | .lst xs, _, h => by
    obtain ⟨a, vs, h1, h2, h3, h4⟩ := h
    exact ⟨a, vs, h1, e.z a _ h3 h2, e.lst a _ h2 h3, Reps.ext e h4⟩
  | .dic xs, _, h => by
    obtain ⟨a, vs, h1, h2, h3, h4⟩ := h
    obtain ⟨o, ho⟩ := rd_some h3
    exact ⟨a, vs, h1, e.z a o ho h2, e.rd a _ h2 (fun _ _ z => nomatch z) h3, RepK.ext e h4⟩
  | .obj c xs, _, h => by
    obtain ⟨a, dx, vs, h1, h2, h3, h4⟩ := h
    exact ⟨a, dx, vs, h1, e.z a _ h3 h2, e.ins a _ _ _ h2 h3, Reps.ext e h4⟩
  | .scr ns, _, h => by
    obtain ⟨a, h1, h2 | ⟨h2, h3⟩⟩ := h
    · exact ⟨a, h1, .inl h2⟩
    · obtain ⟨o, ho⟩ := rd_some h3
      exact ⟨a, h1, .inr ⟨e.z a _ ho h2, e.rd a _ h2 (fun _ _ z => nomatch z) h3⟩⟩
theorem Reps.ext (e : Ext Z H Z' H') : ∀ {xs : List D} {vs : List V}, Reps w Z H xs vs → Reps w Z' H' xs vs
  | [], _, h => h
  | _ :: _, _, h => by
    obtain ⟨v, r, h1, h2, h3⟩ := h
    exact ⟨v, r, h1, Rep.ext e h2, Reps.ext e h3⟩
theorem RepK.ext (e : Ext Z H Z' H') : ∀ {xs : List (Key × D)} {vs : List (Key × V)}, RepK w Z H xs vs → RepK w Z' H' xs vs
  | [], _, h => h
  | _ :: _, _, h => by
    obtain ⟨v, r, h1, h2, h3⟩ := h
    exact ⟨v, r, h1, RepP.ext e h2, RepK.ext e h3⟩
theorem RepP.ext (e : Ext Z H Z' H') : ∀ {p : Key × D} {v : Key × V}, RepP w Z H p v → RepP w Z' H' p v
  | (_, _), _, h => ⟨h.1, Rep.ext e h.2⟩
end
end

theorem Ext.refl {Z : AP1} {H : Hp} : Ext Z H Z H := ⟨fun _ _ _ h => h, fun _ _ _ _ h => h, fun _ _ _ _ _ h => h, fun _ _ _ h => h, fun _ _ _ h => h⟩
/-- a greater heap, a smaller Z -/
theorem Ext.of {Z Z' : AP1} {H H' : Hp} (hz : ∀ a o, H a = some o → Z' a → Z a) (hk : ∀ a o, ¬ Z a → H a = some o → H' a = some o) : Ext Z H Z' H' where
  z := fun a o h n z => n (hz a o h z)
  rd := fun a u n _ h => by
    rcases h with h | ⟨o, h⟩
    · exact .inl (hk _ _ n h)
    · exact .inr ⟨o, hk _ _ n h⟩
  ins := fun a C dx fs n h => hk _ _ n h
  lst := fun a vs n h => hk _ _ n h
  tup := fun a vs n h => hk _ _ n h

/-! ### lists -/
section
variable {w : Wd} {Z Z' : AP1} {H H' : Hp}
theorem Reps.length : ∀ {xs : List D} {vs : List V}, Reps w Z H xs vs → vs.length = xs.length
  | [], _, h => by subst h; rfl
  | _ :: _, _, h => by
    obtain ⟨v, r, rfl, _, h3⟩ := h
    simp [Reps.length h3]
theorem Reps.get : ∀ {xs : List D} {vs : List V} {i : Nat} {d : D}, Reps w Z H xs vs → xs[i]? = some d → ∃ v, vs[i]? = some v ∧ Rep w Z H d v
  | [], _, _, _, _, e => by simp at e
  | x :: _, _, 0, d, h, e => by
    obtain ⟨v, r, rfl, h2, _⟩ := h
    simp at e; subst e
    exact ⟨v, rfl, h2⟩
  | _ :: _, _, i + 1, d, h, e => by
    obtain ⟨v, r, rfl, _, h3⟩ := h
    obtain ⟨v', h1, h2⟩ := Reps.get (i := i) h3 (by simpa using e)
    exact ⟨v', by simpa using h1, h2⟩
theorem Reps.app : ∀ {xs ys : List D} {vs us : List V}, Reps w Z H xs vs → Reps w Z H ys us → Reps w Z H (xs ++ ys) (vs ++ us)
  | [], _, _, _, h, h' => by subst h; exact h'
  | _ :: _, _, _, _, h, h' => by
    obtain ⟨v, r, rfl, h2, h3⟩ := h
    exact ⟨v, _, rfl, h2, Reps.app h3 h'⟩
theorem Reps.one {d : D} {v : V} (h : Rep w Z H d v) : Reps w Z H [d] [v] := ⟨v, [], rfl, h, rfl⟩
theorem Reps.take : ∀ {xs : List D} {vs : List V} (n : Nat), Reps w Z H xs vs → Reps w Z H (xs.take n) (vs.take n)
  | _, _, 0, _ => by simp [Reps]
  | [], _, n + 1, h => by subst h; simp [Reps]
  | _ :: _, _, n + 1, h => by
    obtain ⟨v, r, rfl, h2, h3⟩ := h
    exact ⟨v, _, rfl, h2, Reps.take n h3⟩
theorem Reps.drop : ∀ {xs : List D} {vs : List V} (n : Nat), Reps w Z H xs vs → Reps w Z H (xs.drop n) (vs.drop n)
  | _, _, 0, h => by simpa using h
  | [], _, n + 1, h => by subst h; simp [Reps]
  | _ :: _, _, n + 1, h => by
    obtain ⟨v, r, rfl, h2, h3⟩ := h
    simpa using Reps.drop n h3
theorem Reps.set : ∀ {xs : List D} {vs : List V} (i : Nat) {d : D} {v : V}, Reps w Z H xs vs → Rep w Z H d v → Reps w Z H (xs.set i d) (vs.set i v)
  | [], _, i, d, v, h, _ => by subst h; simp [Reps]
  | _ :: _, _, 0, d, v, h, hd => by
    obtain ⟨v', r, rfl, h2, h3⟩ := h
    exact ⟨v, r, rfl, hd, h3⟩
  | _ :: _, _, i + 1, d, v, h, hd => by
    obtain ⟨v', r, rfl, h2, h3⟩ := h
    exact ⟨v', _, rfl, h2, Reps.set i h3 hd⟩
theorem Reps.eraseIdx : ∀ {xs : List D} {vs : List V} (i : Nat), Reps w Z H xs vs → Reps w Z H (xs.eraseIdx i) (vs.eraseIdx i)
  | [], _, i, h => by subst h; simp [Reps]
  | _ :: _, _, 0, h => by
    obtain ⟨v', r, rfl, h2, h3⟩ := h
    exact h3
  | _ :: _, _, i + 1, h => by
    obtain ⟨v', r, rfl, h2, h3⟩ := h
    exact ⟨v', _, rfl, h2, Reps.eraseIdx i h3⟩
theorem Reps.ints : ∀ {ns : List Int} {vs : List V}, Reps w Z H (ns.map D.int) vs → vs = ns.map V.int
  | [], _, h => h
  | n :: ns, _, h => by
    obtain ⟨v, r, rfl, h2, h3⟩ := h
    rw [Reps.ints h3]
    have : v = .int n := h2
    rw [this]
    all_goals rfl
theorem Reps.of_ints : ∀ (ns : List Int), Reps w Z H (ns.map D.int) (ns.map V.int)
  | [] => rfl
  | n :: ns => ⟨_, _, rfl, rfl, Reps.of_ints ns⟩
theorem Reps.strs : ∀ {ns : List Str} {vs : List V}, Reps w Z H (ns.map D.str) vs → vs = ns.map V.str
  | [], _, h => h
  | n :: ns, _, h => by
    obtain ⟨v, r, rfl, h2, h3⟩ := h
    rw [Reps.strs h3]
    have : v = .str n := h2
    rw [this]
    all_goals rfl
theorem Reps.of_strs : ∀ (ns : List Str), Reps w Z H (ns.map D.str) (ns.map V.str)
  | [] => rfl
  | n :: ns => ⟨_, _, rfl, rfl, Reps.of_strs ns⟩
theorem RepK.length : ∀ {xs : List (Key × D)} {vs : List (Key × V)}, RepK w Z H xs vs → vs.length = xs.length
  | [], _, h => by subst h; rfl
  | _ :: _, _, h => by
    obtain ⟨v, r, rfl, _, h3⟩ := h
    simp [RepK.length h3]
theorem RepK.keys : ∀ {xs : List (Key × D)} {vs : List (Key × V)}, RepK w Z H xs vs → vs.map (·.1) = xs.map (·.1)
  | [], _, h => by subst h; rfl
  | (k, d) :: _, _, h => by
    obtain ⟨v, r, rfl, h2, h3⟩ := h
    have : v.1 = k := h2.1
    simp [RepK.keys h3, this]
theorem RepK.get : ∀ {xs : List (Key × D)} {vs : List (Key × V)} {i : Nat} {k : Key} {d : D}, RepK w Z H xs vs → xs[i]? = some (k, d) → ∃ v, vs[i]? = some (k, v) ∧ Rep w Z H d v
  | [], _, _, _, _, _, e => by simp at e
  | (k', d') :: _, _, 0, k, d, h, e => by
    obtain ⟨⟨k2, v⟩, r, rfl, h2, _⟩ := h
    simp at e
    obtain ⟨rfl, rfl⟩ := e
    have : k2 = k' := h2.1
    subst this
    exact ⟨v, rfl, h2.2⟩
  | _ :: _, _, i + 1, k, d, h, e => by
    obtain ⟨v, r, rfl, _, h3⟩ := h
    obtain ⟨v', h1, h2⟩ := RepK.get (i := i) h3 (by simpa using e)
    exact ⟨v', by simpa using h1, h2⟩
theorem RepK.app : ∀ {xs ys : List (Key × D)} {vs us : List (Key × V)}, RepK w Z H xs vs → RepK w Z H ys us → RepK w Z H (xs ++ ys) (vs ++ us)
  | [], _, _, _, h, h' => by subst h; exact h'
  | _ :: _, _, _, _, h, h' => by
    obtain ⟨v, r, rfl, h2, h3⟩ := h
    exact ⟨v, _, rfl, h2, RepK.app h3 h'⟩
/-- the value at a key; a key put, in its place or at the end; a key taken out -/
def lookD (kvs : List (Key × D)) (k : Key) : Option D := (kvs.find? fun kv => decide (kv.1 = k)).map (·.2)
def putD (kvs : List (Key × D)) (k : Key) (d : D) : List (Key × D) :=
  if (kvs.any fun kv => decide (kv.1 = k)) = true then kvs.map (fun kv => if kv.1 = k then (kv.1, d) else kv) else kvs ++ [(k, d)]
def dropD (kvs : List (Key × D)) (k : Key) : List (Key × D) := kvs.filter fun kv => decide (kv.1 ≠ k)
def mergeD (kvs more : List (Key × D)) : List (Key × D) := more.foldl (fun acc kv => putD acc kv.1 kv.2) kvs
theorem RepK.cons {k : Key} {d : D} {v : V} {xs : List (Key × D)} {vs : List (Key × V)} (h : Rep w Z H d v) (h' : RepK w Z H xs vs) : RepK w Z H ((k, d) :: xs) ((k, v) :: vs) := ⟨_, _, rfl, ⟨rfl, h⟩, h'⟩
theorem RepK.val {k : Key} : ∀ {xs : List (Key × D)} {vs : List (Key × V)}, RepK w Z H xs vs → (∃ d v, lookD xs k = some d ∧ valV vs k = some v ∧ Rep w Z H d v) ∨ (lookD xs k = none ∧ valV vs k = none)
  | [], _, h => by subst h; exact .inr ⟨rfl, rfl⟩
  | (k', d) :: xs, _, h => by
    obtain ⟨⟨k2, v⟩, r, rfl, ⟨h1, h2⟩, h3⟩ := h
    have : k2 = k' := h1
    subst this
    by_cases e : k2 = k
    · exact .inl ⟨d, v, by simp [lookD, List.find?_cons, e], by simp [valV, List.find?_cons, e], h2⟩
    · rcases RepK.val (k := k) h3 with ⟨d', v', a, b, c⟩ | ⟨a, b⟩
      · exact .inl ⟨d', v', by simpa [lookD, List.find?_cons, e] using a, by simpa [valV, List.find?_cons, e] using b, c⟩
      · exact .inr ⟨by simpa [lookD, List.find?_cons, e] using a, by simpa [valV, List.find?_cons, e] using b⟩
theorem RepK.any {k : Key} {xs : List (Key × D)} {vs : List (Key × V)} (h : RepK w Z H xs vs) : (vs.any fun kv => decide (kv.1 = k)) = (xs.any fun kv => decide (kv.1 = k)) := by
  have e := RepK.keys h
  have a1 : (vs.any fun kv => decide (kv.1 = k)) = ((vs.map (·.1)).any fun x => decide (x = k)) := by rw [List.any_map]; rfl
  have a2 : (xs.any fun kv => decide (kv.1 = k)) = ((xs.map (·.1)).any fun x => decide (x = k)) := by rw [List.any_map]; rfl
  rw [a1, a2, e]
theorem RepK.mapset {k : Key} {d : D} {v : V} (hd : Rep w Z H d v) : ∀ {xs : List (Key × D)} {vs : List (Key × V)}, RepK w Z H xs vs →
    RepK w Z H (xs.map (fun kv => if kv.1 = k then (kv.1, d) else kv)) (vs.map (fun kv => if kv.1 = k then (kv.1, v) else kv))
  | [], _, h => by subst h; rfl
  | (k', d') :: xs, _, h => by
    obtain ⟨⟨k2, v'⟩, r, rfl, ⟨h1, h2⟩, h3⟩ := h
    have : k2 = k' := h1
    subst this
    rw [List.map_cons, List.map_cons]
    by_cases e : k2 = k
    · rw [if_pos e, if_pos e]
      exact ⟨_, _, rfl, ⟨rfl, hd⟩, RepK.mapset hd h3⟩
    · rw [if_neg e, if_neg e]
      exact ⟨_, _, rfl, ⟨rfl, h2⟩, RepK.mapset hd h3⟩
theorem RepK.put {k : Key} {d : D} {v : V} {xs : List (Key × D)} {vs : List (Key × V)} (h : RepK w Z H xs vs) (hd : Rep w Z H d v) : RepK w Z H (putD xs k d) (putK vs k v) := by
  unfold putD putK
  rw [RepK.any h]
  split
  · exact RepK.mapset hd h
  · exact RepK.app h ⟨_, _, rfl, ⟨rfl, hd⟩, rfl⟩
theorem RepK.drop {k : Key} : ∀ {xs : List (Key × D)} {vs : List (Key × V)}, RepK w Z H xs vs → RepK w Z H (dropD xs k) (dropK vs k)
  | [], _, h => by subst h; rfl
  | (k', d') :: xs, _, h => by
    obtain ⟨⟨k2, v'⟩, r, rfl, ⟨h1, h2⟩, h3⟩ := h
    have : k2 = k' := h1
    subst this
    have ih := RepK.drop (k := k) h3
    unfold dropD dropK at ih ⊢
    rw [List.filter_cons, List.filter_cons]
    by_cases e : k2 = k
    · simp only [e, ne_eq, not_true, decide_false, Bool.false_eq_true, if_false]; exact ih
    · simp only [e, ne_eq, not_false_eq_true, decide_true, if_true]; exact ⟨_, _, rfl, ⟨rfl, h2⟩, ih⟩
theorem putD_length (kvs : List (Key × D)) (k : Key) (d : D) : (putD kvs k d).length ≤ kvs.length + 1 := by
  unfold putD
  split
  · simp
  · simp
theorem mergeD_length : ∀ (more kvs : List (Key × D)), (mergeD kvs more).length ≤ kvs.length + more.length
  | [], kvs => by simp [mergeD]
  | (k, d) :: r, kvs => by
    have h := mergeD_length r (putD kvs k d)
    have h2 := putD_length kvs k d
    show (mergeD (putD kvs k d) r).length ≤ _
    simp only [List.length_cons]
    omega
end
end U
end

section
set_option Elab.async false
set_option linter.all false
set_option maxRecDepth 100000
set_option maxHeartbeats 4000000
set_option autoImplicit false
/-! U2: slots and their kinds, frames (Fm), the relation RelF between a frame and the abstract state, steps. -/
namespace U
open PySem L2

inductive Kd where
  | frz | own | bor | ro
  deriving DecidableEq
structure Slot where
  k : Kd
  d : D
abbrev Fm := List (Option Slot)

def adr (σ : St) (i : Nat) (a : Addr) : Prop := σ[i]? = some (some (V.ref a))
def OwnA (fm : Fm) (σ : St) (a : Addr) : Prop := ∃ i d, fm[i]? = some (some ⟨.own, d⟩) ∧ adr σ i a
def Zx (Zo : AP1) (fm : Fm) (σ : St) : AP1 := fun a => Zo a ∨ OwnA fm σ a
def WrA (fm : Fm) (σ : St) (a : Addr) : Prop := ∃ i s, fm[i]? = some (some s) ∧ (s.k = .own ∨ s.k = .bor) ∧ adr σ i a
/-- Zo and p -/
def Zp (Zo : AP1) (p : Addr) : AP1 := fun a => Zo a ∨ a = p

/-- at a stands the datum itself, to be written -/
def TopX (w : Wd) (Z : AP1) (H : Hp) : D → Addr → Prop
  | .lst xs, a => ∃ vs, H a = some (.lst vs) ∧ Reps w Z H xs vs
  | .dic xs, a => ∃ vs, H a = some (.dK vs) ∧ RepK w Z H xs vs
  | .obj c xs, a => ∃ dx vs, H a = some (.ins (w.cad c) dx ((w.fns c).zip vs)) ∧ Reps w Z H xs vs
  | _, _ => False
/-- v bears the datum, to be read -/
def TopR (w : Wd) (Z : AP1) (H : Hp) : D → V → Prop
  | .non, v => v = .non
  | .bl b, v => v = .bl b
  | .int i, v => v = .int i
  | .str x, v => v = .str x
  | .tup xs, v => ∃ a vs, v = .ref a ∧ H a = some (.tup vs) ∧ Reps w Z H xs vs
  | .lst xs, v => ∃ a vs, v = .ref a ∧ H a = some (.lst vs) ∧ Reps w Z H xs vs
  | .dic xs, v => ∃ a vs, v = .ref a ∧ Rd H a (.dK vs) ∧ RepK w Z H xs vs
  | .obj c xs, v => ∃ a dx vs, v = .ref a ∧ H a = some (.ins (w.cad c) dx ((w.fns c).zip vs)) ∧ Reps w Z H xs vs
  | .scr ns, v => ∃ a, v = .ref a ∧ SqL w.K H a (ns.map V.int)
section
variable {w : Wd} {Z Z' : AP1} {H H' : Hp} {d : D} {v : V} {a : Addr}
theorem Rep.top (h : Rep w Z H d v) : TopR w Z H d v := by
  cases d with
  | tup xs => obtain ⟨a, vs, h1, _, h3, h4⟩ := h; exact ⟨a, vs, h1, h3, h4⟩
  | lst xs => obtain ⟨a, vs, h1, _, h3, h4⟩ := h; exact ⟨a, vs, h1, h3, h4⟩
  | dic xs => obtain ⟨a, vs, h1, _, h3, h4⟩ := h; exact ⟨a, vs, h1, h3, h4⟩
  | obj c xs => obtain ⟨a, dx, vs, h1, _, h3, h4⟩ := h; exact ⟨a, dx, vs, h1, h3, h4⟩
  | scr ns =>
    obtain ⟨a, h1, h2 | ⟨_, h3⟩⟩ := h
    · refine ⟨a, h1, ?_⟩
      rcases h2 with (h2 | ⟨o, h2⟩) | h2
      · cases h2
      · cases h2
      · exact .inr h2
    · exact ⟨a, h1, .inl h3⟩
  | _ => exact h
theorem TopX.top (h : TopX w Z H d a) : TopR w Z H d (.ref a) := by
  cases d with
  | lst xs => obtain ⟨vs, h1, h2⟩ := h; exact ⟨a, vs, rfl, h1, h2⟩
  | dic xs => obtain ⟨vs, h1, h2⟩ := h; exact ⟨a, vs, rfl, .inl h1, h2⟩
  | obj c xs => obtain ⟨dx, vs, h1, h2⟩ := h; exact ⟨a, dx, vs, rfl, h1, h2⟩
  | _ => exact False.elim h
theorem TopX.rep (h : TopX w Z H d a) (n : ¬ Z a) : Rep w Z H d (.ref a) := by
  cases d with
  | lst xs => obtain ⟨vs, h1, h2⟩ := h; exact ⟨a, vs, rfl, n, h1, h2⟩
  | dic xs => obtain ⟨vs, h1, h2⟩ := h; exact ⟨a, vs, rfl, n, .inl h1, h2⟩
  | obj c xs => obtain ⟨dx, vs, h1, h2⟩ := h; exact ⟨a, dx, vs, rfl, n, h1, h2⟩
  | _ => exact False.elim h
theorem TopX.some (h : TopX w Z H d a) : ∃ o, H a = some o := by
  cases d with
  | lst xs => obtain ⟨vs, h1, h2⟩ := h; exact ⟨_, h1⟩
  | dic xs => obtain ⟨vs, h1, h2⟩ := h; exact ⟨_, h1⟩
  | obj c xs => obtain ⟨dx, vs, h1, h2⟩ := h; exact ⟨_, h1⟩
  | _ => exact False.elim h
theorem TopX.ext (e : Ext Z H Z' H') (ha : H' a = H a) (h : TopX w Z H d a) : TopX w Z' H' d a := by
  cases d with
  | lst xs => obtain ⟨vs, h1, h2⟩ := h; exact ⟨vs, ha.trans h1, h2.ext e⟩
  | dic xs => obtain ⟨vs, h1, h2⟩ := h; exact ⟨vs, ha.trans h1, h2.ext e⟩
  | obj c xs => obtain ⟨dx, vs, h1, h2⟩ := h; exact ⟨dx, vs, ha.trans h1, h2.ext e⟩
  | _ => exact False.elim h
theorem TopR.ext (e : Ext Z H Z' H') (ha : ∀ a, v = .ref a → H' a = H a) (h : TopR w Z H d v) : TopR w Z' H' d v := by
  have rd : ∀ {a u}, v = .ref a → Rd H a u → Rd H' a u := fun {a u} e r => by unfold Rd at r ⊢; rw [ha a e]; exact r
  cases d with
  | tup xs => obtain ⟨a, vs, h1, h3, h4⟩ := h; exact ⟨a, vs, h1, (ha a h1).trans h3, h4.ext e⟩
  | lst xs => obtain ⟨a, vs, h1, h3, h4⟩ := h; exact ⟨a, vs, h1, (ha a h1).trans h3, h4.ext e⟩
  | dic xs => obtain ⟨a, vs, h1, h3, h4⟩ := h; exact ⟨a, vs, h1, rd h1 h3, h4.ext e⟩
  | obj c xs => obtain ⟨a, dx, vs, h1, h3, h4⟩ := h; exact ⟨a, dx, vs, h1, (ha a h1).trans h3, h4.ext e⟩
  | scr ns =>
    obtain ⟨a, h1, h2⟩ := h
    refine ⟨a, h1, ?_⟩
    rcases h2 with h2 | h2
    · exact .inl (rd h1 h2)
    · exact .inr h2
  | _ => exact h
/-- not the script -/
def D.ns : D → Bool
  | .scr _ => false
  | _ => true
theorem TopR.ref_some (h : TopR w Z H d (.ref a)) (hn : d.ns = true) : ∃ o, H a = some o := by
  cases d with
  | scr ns => cases hn
  | tup xs => obtain ⟨a', vs, h1, h3, h4⟩ := h; cases h1; exact ⟨_, h3⟩
  | lst xs => obtain ⟨a', vs, h1, h3, h4⟩ := h; cases h1; exact ⟨_, h3⟩
  | dic xs => obtain ⟨a', vs, h1, h3, h4⟩ := h; cases h1; exact rd_some h3
  | obj c xs => obtain ⟨a', dx, vs, h1, h3, h4⟩ := h; cases h1; exact ⟨_, h3⟩
  | non => cases (show V.ref a = .non from h)
  | bl b => cases (show V.ref a = .bl b from h)
  | int b => cases (show V.ref a = .int b from h)
  | str b => cases (show V.ref a = .str b from h)
end

def SlotOk (w : Wd) (Zo Z : AP1) (H : Hp) (s : Slot) (v : V) : Prop := match s.k with
  | .frz => Rep w Z H s.d v
  | .own => ∃ a, v = .ref a ∧ ¬ Zo a ∧ TopX w Z H s.d a
  | .bor => ∃ a, v = .ref a ∧ Zo a ∧ TopX w Z H s.d a
  | .ro => ∃ a, v = .ref a ∧ s.d.ns = true ∧ TopR w Z H s.d v

structure RelF (w : Wd) (Zo : AP1) (fm : Fm) (σ : St) (H : Hp) : Prop where
  len : fm.length = σ.length
  ok : ∀ (i : Nat) (s : Slot), fm[i]? = some (some s) → ∃ v, σ[i]? = some (some v) ∧ SlotOk w Zo (Zx Zo fm σ) H s v
  uniq : ∀ (i j : Nat) (s t : Slot) (a : Addr), i ≠ j → fm[i]? = some (some s) → fm[j]? = some (some t) → (s.k = .own ∨ s.k = .bor) → t.k ≠ .frz → adr σ i a → adr σ j a → False
  live : ∀ a, Zo a → ∃ o, H a = some o

structure StepS (fm : Fm) (σ : St) (H : Hp) (fm' : Fm) (σ' : St) (H' : Hp) : Prop where
  bor : ∀ (i : Nat) (d : D), fm[i]? = some (some ⟨.bor, d⟩) → ∃ d', fm'[i]? = some (some ⟨.bor, d'⟩) ∧ σ'[i]? = σ[i]?
  rob : ∀ (i : Nat) (d : D), fm'[i]? = some (some ⟨.ro, d⟩) → fm[i]? = some (some ⟨.ro, d⟩) ∧ σ'[i]? = σ[i]?
  bob : ∀ (i : Nat) (d : D), fm'[i]? = some (some ⟨.bor, d⟩) → ∃ d', fm[i]? = some (some ⟨.bor, d'⟩) ∧ σ'[i]? = σ[i]?
  wr : ∀ (a : Addr), WrA fm' σ' a → WrA fm σ a ∨ H a = none
  keep : ∀ (a : Addr) (o : HO), H a = some o → ¬ WrA fm σ a → H' a = some o
  there : ∀ (a : Addr) (o : HO), H a = some o → ∃ o', H' a = some o'

section
variable {w : Wd} {Zo Zo' : AP1} {fm fm1 fm2 fm' : Fm} {σ σ1 σ2 σ' : St} {H H1 H2 H' : Hp}
theorem StepS.refl : StepS fm σ H fm σ H := ⟨fun _ d h => ⟨d, h, rfl⟩, fun _ _ h => ⟨h, rfl⟩, fun _ d h => ⟨d, h, rfl⟩, fun _ h => .inl h, fun _ _ h _ => h, fun _ o h => ⟨o, h⟩⟩
theorem StepS.trans (a : StepS fm σ H fm1 σ1 H1) (b : StepS fm1 σ1 H1 fm2 σ2 H2) : StepS fm σ H fm2 σ2 H2 where
  bor := fun i d h => by
    obtain ⟨d1, h1, e1⟩ := a.bor i d h
    obtain ⟨d2, h2, e2⟩ := b.bor i d1 h1
    exact ⟨d2, h2, e2.trans e1⟩
  rob := fun i d h => by
    obtain ⟨h1, e1⟩ := b.rob i d h
    obtain ⟨h2, e2⟩ := a.rob i d h1
    exact ⟨h2, e1.trans e2⟩
  bob := fun i d h => by
    obtain ⟨d1, h1, e1⟩ := b.bob i d h
    obtain ⟨d2, h2, e2⟩ := a.bob i d1 h1
    exact ⟨d2, h2, e1.trans e2⟩
  wr := fun x h => by
    rcases b.wr x h with h | h
    · exact a.wr x h
    · refine .inr ?_
      cases q : H x with
      | none => rfl
      | some o =>
        obtain ⟨o', e⟩ := a.there x o q
        rw [h] at e; cases e
  keep := fun x o h n => b.keep x o (a.keep x o h n) fun z => by
    rcases a.wr x z with z | z
    · exact n z
    · rw [h] at z; cases z
  there := fun x o h => by
    obtain ⟨o1, h1⟩ := a.there x o h
    exact b.there x o1 h1
/-- only the heap grows -/
theorem StepS.grow (k : ∀ a o, H a = some o → H' a = some o) : StepS fm σ H fm σ H' :=
  ⟨fun _ d h => ⟨d, h, rfl⟩, fun _ _ h => ⟨h, rfl⟩, fun _ d h => ⟨d, h, rfl⟩, fun _ h => .inl h, fun a o h _ => k a o h, fun a o h => ⟨o, k a o h⟩⟩

theorem OwnA.wr {a : Addr} (h : OwnA fm σ a) : WrA fm σ a := let ⟨i, d, h1, h2⟩ := h; ⟨i, _, h1, .inl rfl, h2⟩
/-- what may be written is outside what is read -/
theorem RelF.wrz (r : RelF w Zo fm σ H) {a : Addr} (h : WrA fm σ a) : Zx Zo fm σ a := by
  obtain ⟨i, s, h1, h2, h3⟩ := h
  obtain ⟨k, d⟩ := s
  rcases h2 with h2 | h2
  · have h2 : k = .own := h2
    subst h2
    exact .inr ⟨i, d, h1, h3⟩
  · have h2 : k = .bor := h2
    subst h2
    obtain ⟨v, e, ok⟩ := r.ok i _ h1
    obtain ⟨b, e2, z, _⟩ : ∃ a, v = .ref a ∧ Zo a ∧ TopX w (Zx Zo fm σ) H d a := ok
    rw [e2] at e
    have q : σ[i]? = some (some (V.ref a)) := h3
    rw [e] at q
    cases q
    exact .inl z
/-- every excluded object stands -/
theorem RelF.zsome (r : RelF w Zo fm σ H) {a : Addr} (h : Zx Zo fm σ a) : ∃ o, H a = some o := by
  rcases h with h | ⟨i, d, h1, h2⟩
  · exact r.live a h
  · obtain ⟨v, e, ok⟩ := r.ok i _ h1
    obtain ⟨b, e2, _, t⟩ : ∃ a, v = .ref a ∧ ¬ Zo a ∧ TopX w (Zx Zo fm σ) H d a := ok
    rw [e2] at e
    have q : σ[i]? = some (some (V.ref a)) := h2
    rw [e] at q
    cases q
    exact t.some
theorem RelF.nz (r : RelF w Zo fm σ H) {p : Addr} (h : H p = none) : ¬ Zx Zo fm σ p := fun z => by
  obtain ⟨o, e⟩ := r.zsome z
  rw [h] at e; cases e

/-- the heap grows, new objects may be excluded -/
theorem RelF.grow (r : RelF w Zo fm σ H) (k : ∀ a o, H a = some o → H' a = some o) (hz : ∀ a, Zo a → Zo' a) (hz' : ∀ a, Zo' a → Zo a ∨ (H a = none ∧ ∃ o, H' a = some o)) : RelF w Zo' fm σ H' := by
  have e : Ext (Zx Zo fm σ) H (Zx Zo' fm σ) H' := Ext.of (fun a o h z => by
    rcases z with z | z
    · rcases hz' a z with z | z
      · exact .inl z
      · rw [z.1] at h; cases h
    · exact .inr z) (fun a o _ h => k a o h)
  have ke : ∀ {a : Addr} {o : HO}, H a = some o → H' a = H a := fun {a o} h => by rw [h]; exact k a o h
  refine ⟨r.len, fun i s h => ?_, r.uniq, fun a z => ?_⟩
  · obtain ⟨v, hv, ok⟩ := r.ok i s h
    refine ⟨v, hv, ?_⟩
    obtain ⟨kd, d⟩ := s
    cases kd with
    | frz => exact Rep.ext e (show Rep w _ H d v from ok)
    | own =>
      obtain ⟨a, h1, h2, h3⟩ : ∃ a, v = .ref a ∧ ¬ Zo a ∧ TopX w (Zx Zo fm σ) H d a := ok
      obtain ⟨o, ho⟩ := h3.some
      refine ⟨a, h1, fun z => ?_, h3.ext e (ke ho)⟩
      rcases hz' a z with z | z
      · exact h2 z
      · rw [z.1] at ho; cases ho
    | bor =>
      obtain ⟨a, h1, h2, h3⟩ : ∃ a, v = .ref a ∧ Zo a ∧ TopX w (Zx Zo fm σ) H d a := ok
      obtain ⟨o, ho⟩ := h3.some
      exact ⟨a, h1, hz a h2, h3.ext e (ke ho)⟩
    | ro =>
      obtain ⟨a, h1, hn, h2⟩ : ∃ a, v = .ref a ∧ d.ns = true ∧ TopR w (Zx Zo fm σ) H d v := ok
      subst h1
      obtain ⟨o, ho⟩ := TopR.ref_some h2 hn
      exact ⟨a, rfl, hn, h2.ext e fun b hb => by cases hb; exact ke ho⟩
  · rcases hz' a z with z | z
    · obtain ⟨o, ho⟩ := r.live a z
      exact ⟨o, k a o ho⟩
    · exact z.2
/-- fewer are excluded from outside -/
theorem RelF.shrink (r : RelF w Zo fm σ H) (hz : ∀ a, Zo' a → Zo a) (hb : ∀ (i : Nat) (d : D) (a : Addr), fm[i]? = some (some ⟨.bor, d⟩) → adr σ i a → Zo a → Zo' a) : RelF w Zo' fm σ H := by
  have e : Ext (Zx Zo fm σ) H (Zx Zo' fm σ) H := Ext.of (fun a o h z => by
    rcases z with z | z
    · exact .inl (hz a z)
    · exact .inr z) (fun a o _ h => h)
  refine ⟨r.len, fun i s h => ?_, r.uniq, fun a z => r.live a (hz a z)⟩
  obtain ⟨v, hv, ok⟩ := r.ok i s h
  refine ⟨v, hv, ?_⟩
  obtain ⟨kd, d⟩ := s
  cases kd with
  | frz => exact Rep.ext e (show Rep w _ H d v from ok)
  | own =>
    obtain ⟨a, h1, h2, h3⟩ : ∃ a, v = .ref a ∧ ¬ Zo a ∧ TopX w (Zx Zo fm σ) H d a := ok
    exact ⟨a, h1, fun z => h2 (hz a z), h3.ext e rfl⟩
  | bor =>
    obtain ⟨a, h1, h2, h3⟩ : ∃ a, v = .ref a ∧ Zo a ∧ TopX w (Zx Zo fm σ) H d a := ok
    exact ⟨a, h1, hb i d a h (by rw [h1] at hv; exact hv) h2, h3.ext e rfl⟩
  | ro =>
    obtain ⟨a, h1, hn, h2⟩ : ∃ a, v = .ref a ∧ d.ns = true ∧ TopR w (Zx Zo fm σ) H d v := ok
    exact ⟨a, h1, hn, h2.ext e fun b hb => rfl⟩
/-- a frozen thing stays through a step -/
theorem Rep.step {d : D} {v : V} (r : RelF w Zo fm σ H) (r' : RelF w Zo fm' σ' H') (st : StepS fm σ H fm' σ' H') (h : Rep w (Zx Zo fm σ) H d v) : Rep w (Zx Zo fm' σ') H' d v :=
  h.ext (Ext.of (fun a o ho z => by
    rcases z with z | z
    · exact .inl z
    · rcases st.wr a z.wr with z | z
      · exact r.wrz z
      · rw [ho] at z; cases z) (fun a o n ho => st.keep a o ho fun z => n (r.wrz z)))
theorem Reps.step {d : List D} {v : List V} (r : RelF w Zo fm σ H) (r' : RelF w Zo fm' σ' H') (st : StepS fm σ H fm' σ' H') (h : Reps w (Zx Zo fm σ) H d v) : Reps w (Zx Zo fm' σ') H' d v :=
  h.ext (Ext.of (fun a o ho z => by
    rcases z with z | z
    · exact .inl z
    · rcases st.wr a z.wr with z | z
      · exact r.wrz z
      · rw [ho] at z; cases z) (fun a o n ho => st.keep a o ho fun z => n (r.wrz z)))
theorem RepK.step {d : List (Key × D)} {v : List (Key × V)} (r : RelF w Zo fm σ H) (r' : RelF w Zo fm' σ' H') (st : StepS fm σ H fm' σ' H') (h : RepK w (Zx Zo fm σ) H d v) : RepK w (Zx Zo fm' σ') H' d v :=
  h.ext (Ext.of (fun a o ho z => by
    rcases z with z | z
    · exact .inl z
    · rcases st.wr a z.wr with z | z
      · exact r.wrz z
      · rw [ho] at z; cases z) (fun a o n ho => st.keep a o ho fun z => n (r.wrz z)))
end
end U
end

section
set_option Elab.async false
set_option linter.all false
set_option maxRecDepth 100000
set_option maxHeartbeats 4000000
set_option autoImplicit false
/-! U3: results, what an expression's run is to show (PostE), the judgement SE; freezing, storing. -/
namespace U
open PySem L2

inductive R where
  | frz (d : D) | tmp (d : D) | var (i : Nat)
structure Exn where
  c : Nat
  fs : List D
inductive Out (α : Type) where
  | ok (a : α) | ex (x : Exn)
abbrev M (α : Type) := Fm → Option (Out α × Fm)

/-- no slot but frozen ones tells p -/
def Nad (fm : Fm) (σ : St) (p : Addr) : Prop := ∀ (i : Nat) (s : Slot), fm[i]? = some (some s) → s.k ≠ .frz → ¬ adr σ i p
/-- a new object at p that nobody else has -/
structure TmpOk (w : Wd) (Zo : AP1) (fm : Fm) (σ : St) (H0 H : Hp) (d : D) (p : Addr) : Prop where
  new : H0 p = none
  nz : ¬ Zo p
  nad : Nad fm σ p
  top : TopX w (Zx (Zp Zo p) fm σ) H d p
  rel : RelF w (Zp Zo p) fm σ H
def RelR (w : Wd) (Zo : AP1) (fm : Fm) (σ : St) (H0 H : Hp) : R → V → Prop
  | .frz d, v => RelF w Zo fm σ H ∧ Rep w (Zx Zo fm σ) H d v
  | .tmp d, v => ∃ p, v = .ref p ∧ TmpOk w Zo fm σ H0 H d p
  | .var i, v => RelF w Zo fm σ H ∧ σ[i]? = some (some v) ∧ ∃ s, fm[i]? = some (some s)
/-- an exception as it lies -/
def RelX (w : Wd) (Z : AP1) (H : Hp) (x : Exn) (cls : Value) (d : Option Addr) : Prop :=
  cls = .ref (w.cad x.c) ∧ ((x.fs = [] ∧ d = none) ∨ ∃ dx fsV vs, d = some dx ∧ H dx = some (.xd fsV) ∧ (∀ (j : Nat) (f : Str), (w.fns x.c)[j]? = some f → fsV.lookup f = vs[j]?) ∧ Reps w Z H x.fs vs)

def PostE (w : Wd) (W : WX) (Zo : AP1) (σ : St) (H : Hp) (fm : Fm) (out : Out R) (fm' : Fm) (Q : VK) : Prop := match out with
  | .ok r => ∀ v H', StepS fm σ H fm' σ H' → RelR w Zo fm' σ H H' r v → Q v H'
  | .ex x => ∀ cls d H', StepS fm σ H fm' σ H' → RelF w Zo fm' σ H' → RelX w (Zx Zo fm' σ) H' x cls d → W cls d σ H'
def PostD (w : Wd) (W : WX) (Zo : AP1) (σ : St) (H : Hp) (fm : Fm) (out : Out D) (fm' : Fm) (Q : VK) : Prop := match out with
  | .ok r => ∀ v H', StepS fm σ H fm' σ H' → RelF w Zo fm' σ H' → Rep w (Zx Zo fm' σ) H' r v → Q v H'
  | .ex x => ∀ cls d H', StepS fm σ H fm' σ H' → RelF w Zo fm' σ H' → RelX w (Zx Zo fm' σ) H' x cls d → W cls d σ H'
def PostT (w : Wd) (W : WX) (Zo : AP1) (σ : St) (H : Hp) (fm : Fm) (out : Out Bool) (fm' : Fm) (Q : Bool → Hp → Prop) : Prop := match out with
  | .ok b => ∀ H', StepS fm σ H fm' σ H' → RelF w Zo fm' σ H' → Q b H'
  | .ex x => ∀ cls d H', StepS fm σ H fm' σ H' → RelF w Zo fm' σ H' → RelX w (Zx Zo fm' σ) H' x cls d → W cls d σ H'

/-- the weakest readings -/
def wE (X : Cx) (e : Expr) : TE := fun σ H Q => ∀ pins s, Inv X pins σ H s → wpAny (model X.prog X.w) X.A (eval e X.env) (L2.EP X pins σ Q) X.xe s
theorem pe_w {X : Cx} {e : Expr} : PE X e (wE X e) := ⟨fun pins s _ _ _ I h => h pins s I⟩
theorem wE_of {X : Cx} {e : Expr} {t : TE} (h : PE X e t) {σ : St} {H : Hp} {Q : VK} (q : t σ H Q) : wE X e σ H Q := fun pins s I => h.run pins s σ H Q I q
def wT (X : Cx) (e : Expr) : TT := fun σ H Q => ∀ pins s, Inv X pins σ H s → wpAny (model X.prog X.w) X.A (isTrue e X.env (eval e X.env)) (TP X pins σ Q) X.xe s
theorem pt_w {X : Cx} {e : Expr} : PT X e (wT X e) := ⟨fun pins s _ _ _ I h => h pins s I⟩
theorem wT_of {X : Cx} {e : Expr} {t : TT} (h : PT X e t) {σ : St} {H : Hp} {Q : Bool → Hp → Prop} (q : t σ H Q) : wT X e σ H Q := fun pins s I => h.run pins s σ H Q I q

def SE (X : Cx) (w : Wd) (W : WX) (e : Expr) (m : M R) : Prop :=
  ∀ Zo fm σ H out fm' Q, RelF w Zo fm σ H → m fm = some (out, fm') → PostE w W Zo σ H fm out fm' Q → wE X e σ H Q
/-- .. whose value is frozen -/
def SD (X : Cx) (w : Wd) (W : WX) (e : Expr) (m : M D) : Prop :=
  ∀ Zo fm σ H out fm' Q, RelF w Zo fm σ H → m fm = some (out, fm') → PostD w W Zo σ H fm out fm' Q → wE X e σ H Q
def ST (X : Cx) (w : Wd) (W : WX) (e : Expr) (m : M Bool) : Prop :=
  ∀ Zo fm σ H out fm' Q, RelF w Zo fm σ H → m fm = some (out, fm') → PostT w W Zo σ H fm out fm' Q → wT X e σ H Q

section
variable {w : Wd} {Zo : AP1} {fm fm' fm1 fm2 : Fm} {σ σ' : St} {H H' H0 H1 H2 : Hp} {d : D} {v : V} {p : Addr} {i : Nat}

theorem Zx.sub_set {s : Option Slot} (hs : ∀ d, s ≠ some ⟨.own, d⟩) {a : Addr} (h : Zx Zo (fm.set i s) σ a) : Zx Zo fm σ a := by
  rcases h with h | ⟨j, d, h1, h2⟩
  · exact .inl h
  · by_cases hj : i = j
    · subst hj
      by_cases hl : i < fm.length
      · rw [List.getElem?_set_self hl] at h1
        cases h1
        exact absurd rfl (hs _)
      · rw [List.getElem?_eq_none (by simpa using hl)] at h1; cases h1
    · rw [List.getElem?_set_ne hj] at h1
      exact .inr ⟨j, d, h1, h2⟩

/-- fewer are excluded, the heap is the same -/
theorem ext_sub {Z Z' : AP1} (h : ∀ a, Z' a → Z a) : Ext Z H Z' H := Ext.of (fun a _ _ z => h a z) fun _ _ _ e => e

/-- an own slot is frozen -/
theorem RelF.freeze (r : RelF w Zo fm σ H) (h : fm[i]? = some (some ⟨.own, d⟩)) :
    RelF w Zo (fm.set i (some ⟨.frz, d⟩)) σ H ∧ (∀ v, σ[i]? = some (some v) → Rep w (Zx Zo (fm.set i (some ⟨.frz, d⟩)) σ) H d v) := by
  have hl : i < fm.length := (List.getElem?_eq_some_iff.mp h).1
  obtain ⟨v, hv, ok⟩ := r.ok i _ h
  obtain ⟨a, h1, h2, h3⟩ : ∃ a, v = .ref a ∧ ¬ Zo a ∧ TopX w (Zx Zo fm σ) H d a := ok
  subst h1
  have e : Ext (Zx Zo fm σ) H (Zx Zo (fm.set i (some ⟨.frz, d⟩)) σ) H := ext_sub fun a z => z.sub_set fun d q => by cases q
  have na : ¬ Zx Zo (fm.set i (some ⟨.frz, d⟩)) σ a := by
    rintro (z | ⟨j, d', z1, z2⟩)
    · exact h2 z
    · by_cases hj : i = j
      · subst hj
        rw [List.getElem?_set_self hl] at z1
        cases z1
      · rw [List.getElem?_set_ne hj] at z1
        exact r.uniq i j _ _ a hj h z1 (.inl rfl) (fun z => nomatch z) hv z2
  have rp : Rep w (Zx Zo (fm.set i (some ⟨.frz, d⟩)) σ) H d (.ref a) := (h3.ext e rfl).rep na
  refine ⟨⟨by rw [List.length_set]; exact r.len, fun j s hj => ?_, fun j k s t b hjk hj hk hs ht => ?_, r.live⟩, fun v' hv' => ?_⟩
  · by_cases hij : i = j
    · subst hij
      rw [List.getElem?_set_self hl] at hj
      cases hj
      exact ⟨_, hv, rp⟩
    · rw [List.getElem?_set_ne hij] at hj
      obtain ⟨v', hv', ok'⟩ := r.ok j s hj
      refine ⟨v', hv', ?_⟩
      obtain ⟨kd, d'⟩ := s
      cases kd with
      | frz => exact Rep.ext e (show Rep w _ H d' v' from ok')
      | own =>
        obtain ⟨b, b1, b2, b3⟩ : ∃ a, v' = .ref a ∧ ¬ Zo a ∧ TopX w (Zx Zo fm σ) H d' a := ok'
        exact ⟨b, b1, b2, b3.ext e rfl⟩
      | bor =>
        obtain ⟨b, b1, b2, b3⟩ : ∃ a, v' = .ref a ∧ Zo a ∧ TopX w (Zx Zo fm σ) H d' a := ok'
        exact ⟨b, b1, b2, b3.ext e rfl⟩
      | ro =>
        obtain ⟨b, b1, bn, b2⟩ : ∃ a, v' = .ref a ∧ d'.ns = true ∧ TopR w (Zx Zo fm σ) H d' v' := ok'
        exact ⟨b, b1, bn, b2.ext e fun _ _ => rfl⟩
  · have key : ∀ (j : Nat) (s : Slot), (fm.set i (some ⟨.frz, d⟩))[j]? = some (some s) → ∃ s', fm[j]? = some (some s') ∧ ((s.k = .own ∨ s.k = .bor) → (s'.k = .own ∨ s'.k = .bor)) ∧ (s.k ≠ .frz → s'.k ≠ .frz) := fun j s q => by
      by_cases hij : i = j
      · subst hij
        rw [List.getElem?_set_self hl] at q
        cases q
        exact ⟨_, h, fun _ => .inl rfl, fun z => absurd rfl z⟩
      · rw [List.getElem?_set_ne hij] at q
        exact ⟨s, q, fun z => z, fun z => z⟩
    obtain ⟨s', e1, e2, _⟩ := key j s hj
    obtain ⟨t', e3, _, e4⟩ := key k t hk
    exact r.uniq j k s' t' b hjk e1 e3 (e2 hs) (e4 ht)
  · rw [hv] at hv'
    cases hv'
    exact rp
theorem StepS.freeze (h : fm[i]? = some (some ⟨.own, d⟩)) : StepS fm σ H (fm.set i (some ⟨.frz, d⟩)) σ H := by
  have hl : i < fm.length := (List.getElem?_eq_some_iff.mp h).1
  have other : ∀ (j : Nat) (s : Slot), s.k ≠ .frz → (fm.set i (some ⟨.frz, d⟩))[j]? = some (some s) → fm[j]? = some (some s) := fun j s hs q => by
    by_cases hij : i = j
    · subst hij
      rw [List.getElem?_set_self hl] at q
      cases q
      exact absurd rfl hs
    · rw [List.getElem?_set_ne hij] at q
      exact q
  refine ⟨fun j d' q => ⟨d', ?_, rfl⟩, fun j d' q => ⟨other j _ (fun z => nomatch z) q, rfl⟩, fun j d' q => ⟨d', other j _ (fun z => nomatch z) q, rfl⟩, fun a z => ?_, fun a o q _ => q, fun a o q => ⟨o, q⟩⟩
  · have hij : i ≠ j := fun z => by subst z; rw [h] at q; cases q
    rw [List.getElem?_set_ne hij]; exact q
  · obtain ⟨j, s, z1, z2, z3⟩ := z
    refine .inl ⟨j, s, other j s (fun z => ?_) z1, z2, z3⟩
    rw [z] at z2
    rcases z2 with z2 | z2 <;> cases z2

/-- the datum of a result -/
def R.get (fm : Fm) : R → Option D
  | .frz d => some d
  | .tmp d => some d
  | .var i => match fm[i]? with
    | some (some s) => some s.d
    | _ => none
/-- a result goes into a thing that stays: frozen -/
def R.eat (fm : Fm) : R → Option (D × Fm)
  | .frz d => some (d, fm)
  | .tmp d => some (d, fm)
  | .var i => match fm[i]? with
    | some (some ⟨.own, d⟩) => some (d, fm.set i (some ⟨.frz, d⟩))
    | some (some ⟨.frz, d⟩) => some (d, fm)
    | _ => none

theorem TmpOk.relO (t : TmpOk w Zo fm σ H0 H d p) : RelF w Zo fm σ H := t.rel.shrink (fun a z => .inl z) fun j d' a q e z => by
  rcases z with z | z
  · exact z
  · subst z
    exact absurd e (t.nad j _ q (fun z => nomatch z))
theorem RelR.rel {r : R} (h : RelR w Zo fm σ H0 H r v) : RelF w Zo fm σ H := by
  cases r with
  | frz d => exact h.1
  | tmp d => obtain ⟨p, _, t⟩ := h; exact t.relO
  | var i => exact h.1
theorem TmpOk.rep (t : TmpOk w Zo fm σ H0 H d p) : Rep w (Zx Zo fm σ) H d (.ref p) := by
  refine TopX.rep (t.top.ext (ext_sub fun a z => ?_) rfl) ?_
  · rcases z with z | z
    · exact .inl (.inl z)
    · exact .inr z
  · rintro (z | ⟨j, d', z1, z2⟩)
    · exact t.nz z
    · exact t.nad j _ z1 (fun z => nomatch z) z2
theorem RelF.see (r : RelF w Zo fm σ H) {s : Slot} (h : fm[i]? = some (some s)) (hv : σ[i]? = some (some v)) : TopR w (Zx Zo fm σ) H s.d v := by
  obtain ⟨v', hv', ok⟩ := r.ok i s h
  rw [hv] at hv'
  cases hv'
  obtain ⟨k, d⟩ := s
  cases k with
  | frz => exact Rep.top ok
  | own =>
    obtain ⟨a, h1, _, h3⟩ : ∃ a, v = .ref a ∧ ¬ Zo a ∧ TopX w (Zx Zo fm σ) H d a := ok
    rw [h1]; exact h3.top
  | bor =>
    obtain ⟨a, h1, _, h3⟩ : ∃ a, v = .ref a ∧ Zo a ∧ TopX w (Zx Zo fm σ) H d a := ok
    rw [h1]; exact h3.top
  | ro =>
    obtain ⟨a, h1, _, h3⟩ : ∃ a, v = .ref a ∧ d.ns = true ∧ TopR w (Zx Zo fm σ) H d v := ok
    exact h3
/-- what a result is worth, to be read -/
theorem RelR.see {r : R} (h : RelR w Zo fm σ H0 H r v) (g : r.get fm = some d) : TopR w (Zx Zo fm σ) H d v := by
  cases r with
  | frz d' =>
    cases g
    exact h.2.top
  | tmp d' =>
    cases g
    obtain ⟨p, rfl, t⟩ := h
    exact t.rep.top
  | var i =>
    obtain ⟨h1, h2, s, h3⟩ := h
    simp only [R.get, h3] at g
    cases g
    exact h1.see h3 h2
theorem RelR.eat {r : R} (h : RelR w Zo fm σ H0 H r v) (g : r.eat fm = some (d, fm')) : RelF w Zo fm' σ H ∧ Rep w (Zx Zo fm' σ) H d v ∧ StepS fm σ H fm' σ H := by
  cases r with
  | frz d' =>
    cases g
    exact ⟨h.1, h.2, .refl⟩
  | tmp d' =>
    cases g
    obtain ⟨p, rfl, t⟩ := h
    exact ⟨t.relO, t.rep, .refl⟩
  | var i =>
    obtain ⟨h1, h2, ⟨k, d'⟩, h3⟩ := h
    simp only [R.eat, h3] at g
    cases k with
    | own =>
      cases g
      obtain ⟨q1, q2⟩ := h1.freeze h3
      exact ⟨q1, q2 v h2, StepS.freeze h3⟩
    | frz =>
      cases g
      obtain ⟨v', hv', ok⟩ := h1.ok i _ h3
      rw [h2] at hv'
      cases hv'
      exact ⟨h1, ok, .refl⟩
    | bor => cases g
    | ro => cases g
end

/-! ### the simplest expressions -/
def eC (d : D) : M R := fun fm => some (.ok (.frz d), fm)
def eVar (i : Nat) : M R := fun fm => match fm[i]? with
  | some (some ⟨.frz, d⟩) => some (.ok (.frz d), fm)
  | some (some _) => some (.ok (.var i), fm)
  | _ => none
/-- frozen -/
def eEat (m : M R) : M D := fun fm => match m fm with
  | some (.ok r, fm1) => (match r.eat fm1 with
    | some (d, fm2) => some (.ok d, fm2)
    | none => none)
  | some (.ex x, fm1) => some (.ex x, fm1)
  | none => none
def eFrz (m : M D) : M R := fun fm => match m fm with
  | some (.ok d, fm1) => some (.ok (.frz d), fm1)
  | some (.ex x, fm1) => some (.ex x, fm1)
  | none => none
section
variable {X : Cx} {w : Wd} {W : WX} {e : Expr}
theorem se_C {d : D} {v : V} (h : PE X e (tC v)) (hd : ∀ Z H, Rep w Z H d v) : SE X w W e (eC d) := by
  intro Zo fm σ H out fm' Q r hm post
  cases hm
  exact wE_of h (post v H .refl ⟨r, hd _ _⟩)
theorem se_var {i : Nat} (h : PE X e (tVar i)) : SE X w W e (eVar i) := by
  intro Zo fm σ H out fm' Q r hm post
  unfold eVar at hm
  split at hm
  · rename_i d hd
    cases hm
    obtain ⟨v, hv, ok⟩ := r.ok i _ hd
    exact wE_of h ⟨v, hv, post v H .refl ⟨r, ok⟩⟩
  · rename_i s _ hs
    cases hm
    obtain ⟨v, hv, ok⟩ := r.ok i _ hs
    exact wE_of h ⟨v, hv, post v H .refl ⟨r, hv, s, hs⟩⟩
  · cases hm
theorem sd_eat {m : M R} (h : SE X w W e m) : SD X w W e (eEat m) := by
  intro Zo fm σ H out fm' Q r hm post
  unfold eEat at hm
  split at hm
  · rename_i r1 fm1 h1
    split at hm
    · rename_i d fm2 h2
      cases hm
      refine h Zo fm σ H _ _ Q r h1 fun v H' st rr => ?_
      obtain ⟨q1, q2, q3⟩ := rr.eat h2
      exact post v H' (st.trans q3) q1 q2
    · cases hm
  · rename_i x fm1 h1
    cases hm
    exact h Zo fm σ H _ _ Q r h1 post
  · cases hm
theorem se_frz {m : M D} (h : SD X w W e m) : SE X w W e (eFrz m) := by
  intro Zo fm σ H out fm' Q r hm post
  unfold eFrz at hm
  split at hm
  · rename_i d fm1 h1
    cases hm
    exact h Zo fm σ H _ _ Q r h1 fun v H' st rf rp => post v H' st ⟨rf, rp⟩
  · rename_i x fm1 h1
    cases hm
    exact h Zo fm σ H _ _ Q r h1 post
  · cases hm
end
end U
end

section
set_option Elab.async false
set_option linter.all false
set_option maxRecDepth 100000
set_option maxHeartbeats 400000
set_option autoImplicit false
/-! U4: == and != of data. -/
namespace U
open PySem L2
mutual
/-- Python's == -/
def beqD : D → D → Bool
  | .non, .non => true
  | .bl a, .bl b => a == b
  | .bl a, .int j => (if a then 1 else 0) == j
  | .int i, .bl b => i == (if b then 1 else 0)
  | .int i, .int j => i == j
  | .str x, .str y => x == y
  | .tup xs, .tup ys => beqL xs ys
  | .lst xs, .lst ys => beqL xs ys
  | .dic ks, .dic ls => ks.length == ls.length && beqK ks ls
  | _, _ => false
termination_by structural x => x
def beqL : List D → List D → Bool
  | [], [] => true
  | x :: xs, y :: ys => beqD x y && beqL xs ys
  | _, _ => false
termination_by structural x => x
def beqK : List (Key × D) → List (Key × D) → Bool
  | [], _ => true
  | p :: r, ls => beqP p ls && beqK r ls
termination_by structural x => x
def beqP : Key × D → List (Key × D) → Bool
  | (k, d), ls => match lookD ls k with
    | some e => beqD d e
    | none => false
termination_by structural x => x
end
theorem beqK_cons (k : Key) (d : D) (r ls : List (Key × D)) : beqK ((k, d) :: r) ls = ((match lookD ls k with
    | some e => beqD d e
    | none => false) && beqK r ls) := rfl
/-- scalars -/
def D.sc : D → Bool
  | .non | .bl _ | .int _ | .str _ => true
  | _ => false
/-- the rules know this comparison, nested less than n deep; nd: no dicts -/
def okE (nd : Bool) : Nat → D → D → Bool
  | 0, d, e => d.sc && e.sc
  | n + 1, .tup xs, .tup ys => (xs.zip ys).all fun p => okE nd n p.1 p.2
  | n + 1, .lst xs, .lst ys => xs.length != ys.length || (xs.zip ys).all fun p => okE nd n p.1 p.2
  | n + 1, .dic ks, .dic ls => !nd && ks.all fun p => match lookD ls p.1 with
    | some e => okE nd n p.2 e
    | none => true
  | _ + 1, .tup _, .lst _ => true
  | _ + 1, .lst _, .tup _ => true
  | _ + 1, .tup _, e => e.sc
  | _ + 1, .lst _, e => e.sc
  | _ + 1, d, .tup _ => d.sc
  | _ + 1, d, .lst _ => d.sc
  | _ + 1, d, e => d.sc && e.sc

theorem beqL_len : ∀ {xs ys : List D}, xs.length ≠ ys.length → beqL xs ys = false
  | [], [], h => absurd rfl h
  | [], _ :: _, _ => by unfold beqL; rfl
  | _ :: _, [], _ => by unfold beqL; rfl
  | x :: xs, y :: ys, h => by
    unfold beqL
    rw [beqL_len (xs := xs) (ys := ys) (by simpa using h), Bool.and_false]
/-- place by place -/
def eAt (xs ys : List D) (j : Nat) : Bool := match xs[j]?, ys[j]? with
  | some x, some y => beqD x y
  | _, _ => true
theorem beqL_all : ∀ (xs ys : List D), xs.length = ys.length → beqL xs ys = (List.range xs.length).all (eAt xs ys)
  | [], [], _ => by unfold beqL; rfl
  | [], _ :: _, h => by simp at h
  | _ :: _, [], h => by simp at h
  | x :: xs, y :: ys, h => by
    unfold beqL
    rw [beqL_all xs ys (by simpa using h), List.length_cons, List.range_succ_eq_map, List.all_cons, List.all_map]
    rfl
theorem beqL_min : ∀ (xs ys : List D), beqL xs ys = ((List.range (min xs.length ys.length)).all (eAt xs ys) && xs.length == ys.length)
  | [], [] => by unfold beqL; rfl
  | [], _ :: _ => by unfold beqL; simp
  | _ :: _, [] => by unfold beqL; simp
  | x :: xs, y :: ys => by
    unfold beqL
    rw [beqL_min xs ys, List.length_cons, List.length_cons, Nat.succ_min_succ, List.range_succ_eq_map, List.all_cons, List.all_map, Bool.and_assoc]
    congr 2
    rw [Bool.eq_iff_iff]
    simp

section
variable {w : Wd} {Z : AP1} {H : Hp}
theorem Reps.at {xs : List D} {vs : List V} (h : Reps w Z H xs vs) {i : Nat} {v : V} (e : vs[i]? = some v) : ∃ d, xs[i]? = some d ∧ Rep w Z H d v := by
  have hl := Reps.length h
  have hi : i < xs.length := by rw [← hl]; exact (List.getElem?_eq_some_iff.mp e).1
  obtain ⟨v', h1, h2⟩ := Reps.get (i := i) (d := xs[i]) h (by simp [hi])
  rw [e] at h1
  cases h1
  exact ⟨_, by simp [hi], h2⟩
end
section
variable {X : Cx} {pins : List (Addr × Obj)} {σ : St} {H : Hp} {s : Shared} {w : Wd} {Z : AP1}
open PySem.W (EqTree)
open PySem.SeqAt
theorem list_of (I : Inv X pins σ H s) {a : Addr} {vs : List V} (h : H a = some (.lst vs)) : ∃ its : List Value, Vals vs its ∧ s.heap.IsList a its.toArray := by
  obtain ⟨its, r, p, _⟩ := I.list (SqL.of h)
  exact ⟨its, r, p.isList⟩
theorem tup_of (I : Inv X pins σ H s) {a : Addr} {vs : List V} (h : H a = some (.tup vs)) : ∃ its : List Value, Vals vs its ∧ s.heap.IsTuple a its.toArray := by
  obtain ⟨its, r, p, _⟩ := I.tuple (SqT.of h)
  exact ⟨its, r, p⟩

theorem kv_keys {us : List (Key × V)} {vv : List (Key × Value)} (kv : KV us vv) : us.map (·.1) = vv.map (·.1) := by
  unfold KV at kv
  induction kv with
  | nil => rfl
  | cons h _ ih => rw [List.map_cons, List.map_cons, ih, h.1] <;> rfl
theorem valV_mem {k : Key} {v : V} : ∀ {us : List (Key × V)}, (us.map (·.1)).Nodup → (k, v) ∈ us → valV us k = some v
  | z :: zs, nd2, mem => by
    rw [List.map_cons, List.nodup_cons] at nd2
    rcases List.mem_cons.mp mem with e | e
    · rw [← e]; exact valV_pos rfl
    · have : ¬ z.1 = k := fun q => nd2.1 (by rw [q]; exact List.mem_map.mpr ⟨_, e, rfl⟩)
      rw [valV_neg this]
      exact valV_mem nd2.2 e
theorem valueAt_mem {k : Key} {v : Value} : ∀ {us : List (Key × Value)}, (us.map (·.1)).Nodup → (k, v) ∈ us → valueAt us k = some v
  | z :: zs, nd2, mem => by
    rw [List.map_cons, List.nodup_cons] at nd2
    unfold valueAt
    rcases List.mem_cons.mp mem with e | e
    · rw [← e, List.find?_cons]; simp
    · have : ¬ z.1 = k := fun q => nd2.1 (by rw [q]; exact List.mem_map.mpr ⟨_, e, rfl⟩)
      rw [List.find?_cons, decide_eq_false this]
      exact valueAt_mem nd2.2 e
theorem lookD_mem {p : Key × D} : ∀ {us : List (Key × D)}, (us.map (·.1)).Nodup → p ∈ us → lookD us p.1 = some p.2
  | z :: zs, nd2, mem => by
    rw [List.map_cons, List.nodup_cons] at nd2
    unfold lookD
    rcases List.mem_cons.mp mem with e | e
    · rw [← e, List.find?_cons]; simp
    · have : ¬ z.1 = p.1 := fun q => nd2.1 (by rw [q]; exact List.mem_map.mpr ⟨_, e, rfl⟩)
      rw [List.find?_cons, decide_eq_false this]
      exact lookD_mem nd2.2 e
theorem dk_nodup (I : Inv X pins σ H s) {a : Addr} {us : List (Key × V)} (h : Rd H a (.dK us)) : (us.map (·.1)).Nodup := by
  obtain ⟨_, _, vv, kv, o, es, ep, q⟩ := dk_rd I.hok h
  have q1 : s.heap.DictAt (mixKind X.prog X.w) a vv ep := ⟨o, es, q⟩
  rw [kv_keys kv]
  exact q1.nodup
/-- the same value: equal -/
theorem beq_same (I : Inv X pins σ H s) (nd : Bool) : ∀ (n : Nat) (d e : D) (v : V), Rep w Z H d v → Rep w Z H e v → okE nd n d e = true → beqD d e = true := by
  intro n
  induction n with
  | zero =>
    intro d e v h1 h2 ok
    cases d <;> cases e <;> first
      | (simp [okE, D.sc] at ok; done)
      | (have a := (show v = _ from h1); have b := (show v = _ from h2); rw [a] at b; first | (cases b; done) | (cases b; simp [beqD]))
  | succ n ih =>
    intro d e v h1 h2 ok
    have scal : d.sc = true → e.sc = true → beqD d e = true := fun q1 q2 => by
      cases d <;> cases e <;> first
        | (simp [D.sc] at q1; done)
        | (simp [D.sc] at q2; done)
        | (have a := (show v = _ from h1); have b := (show v = _ from h2); rw [a] at b; first | (cases b; done) | (cases b; simp [beqD]))
    have lists : ∀ (xs ys : List D) (vs : List V), Reps w Z H xs vs → Reps w Z H ys vs → ((xs.zip ys).all fun p => okE nd n p.1 p.2) = true → beqL xs ys = true := by
      intro xs
      induction xs with
      | nil =>
        intro ys vs r1 r2 _
        have : vs = [] := r1
        subst this
        cases ys with
        | nil => unfold beqL; rfl
        | cons y ys => obtain ⟨_, _, q, _⟩ := r2; cases q
      | cons x xs ihl =>
        intro ys vs r1 r2 q
        obtain ⟨v1, r, rfl, a1, a2⟩ := r1
        cases ys with
        | nil => have : v1 :: r = [] := r2; cases this
        | cons y ys =>
          obtain ⟨v2, r', q', b1, b2⟩ := r2
          cases q'
          rw [List.zip_cons_cons, List.all_cons, Bool.and_eq_true] at q
          unfold beqL
          rw [ih x y v1 a1 b1 q.1, ihl ys r a2 b2 q.2]; rfl
    cases d with
    | tup xs =>
      obtain ⟨a, vs, rfl, _, ha, hr⟩ := h1
      cases e with
      | tup ys =>
        obtain ⟨b, us, q, _, hb, hs⟩ := h2
        cases q
        rw [ha] at hb; cases hb
        unfold beqD
        exact lists xs ys vs hr hs ok
      | lst ys =>
        obtain ⟨b, us, q, _, hb, hs⟩ := h2
        cases q
        rw [ha] at hb; cases hb
      | non => cases (show V.ref a = _ from h2)
      | bl _ => cases (show V.ref a = _ from h2)
      | int _ => cases (show V.ref a = _ from h2)
      | str _ => cases (show V.ref a = _ from h2)
      | _ => simp [okE, D.sc] at ok
    | lst xs =>
      obtain ⟨a, vs, rfl, _, ha, hr⟩ := h1
      cases e with
      | lst ys =>
        obtain ⟨b, us, q, _, hb, hs⟩ := h2
        cases q
        rw [ha] at hb; cases hb
        have hl : xs.length = ys.length := by rw [← Reps.length hr, ← Reps.length hs]
        unfold beqD
        refine lists xs ys vs hr hs ?_
        simp only [okE, hl, bne_self_eq_false, Bool.false_or] at ok
        exact ok
      | tup ys =>
        obtain ⟨b, us, q, _, hb, hs⟩ := h2
        cases q
        rw [ha] at hb; cases hb
      | non => cases (show V.ref a = _ from h2)
      | bl _ => cases (show V.ref a = _ from h2)
      | int _ => cases (show V.ref a = _ from h2)
      | str _ => cases (show V.ref a = _ from h2)
      | _ => simp [okE, D.sc] at ok
    | dic ks =>
      cases e with
      | dic ls =>
        obtain ⟨a, vs, rfl, _, ha, hr⟩ := h1
        obtain ⟨b, us, q, _, hb, hs⟩ := h2
        cases q
        have e1 : us = vs := by
          have c1 := ha.ok I.hok
          have c2 := hb.ok I.hok
          rcases ha with ha | ⟨o, ha⟩ <;> rcases hb with hb | ⟨o', hb⟩ <;> (rw [ha] at hb; first | (cases hb; done) | (cases hb; rfl))
        subst e1
        have nd2 := dk_nodup I ha
        unfold beqD
        have hl : ks.length = ls.length := by rw [← RepK.length hr, ← RepK.length hs]
        simp only [okE, Bool.and_eq_true, List.all_eq_true] at ok
        have go : ∀ (ks' : List (Key × D)) (us' : List (Key × V)), RepK w Z H ks' us' → (∀ p ∈ us', p ∈ us) → (∀ p ∈ ks', p ∈ ks) → beqK ks' ls = true := by
          intro ks'
          induction ks' with
          | nil => intro us' _ _ _; unfold beqK; rfl
          | cons p r ihk =>
            intro us' rk m1 m2
            obtain ⟨k, d⟩ := p
            obtain ⟨⟨k2, v⟩, r', rfl, ⟨p1, p2⟩, p3⟩ := rk
            have p1 : k2 = k := p1
            subst p1
            unfold beqK beqP
            have hv : valV us k2 = some v := valV_mem nd2 (m1 (k2, v) List.mem_cons_self)
            rcases RepK.val (k := k2) hs with ⟨d2, v2, q1, q2, q3⟩ | ⟨q1, q2⟩
            · rw [hv] at q2; cases q2
              rw [q1]
              have okd := ok.2 (k2, d) (m2 _ List.mem_cons_self)
              simp only [q1] at okd
              simp only [ih d d2 v p2 q3 okd, Bool.true_and]
              exact ihk r' p3 (fun p hp => m1 p (List.mem_cons_of_mem _ hp)) fun p hp => m2 p (List.mem_cons_of_mem _ hp)
            · rw [hv] at q2; cases q2
        rw [hl, go ks us hr (fun _ h => h) fun _ h => h]
        simp
      | tup ys => simp [okE, D.sc] at ok
      | lst ys => simp [okE, D.sc] at ok
      | _ => simp [okE, D.sc] at ok
    | obj c fs => cases e <;> simp [okE, D.sc] at ok
    | scr ns => cases e <;> simp [okE, D.sc] at ok
    | non => cases e <;> first | (exact scal rfl rfl) | (simp [okE, D.sc] at ok; done) | (obtain ⟨b, us, q, _⟩ := h2; have : v = .non := h1; rw [this] at q; cases q)
    | bl _ => cases e <;> first | (exact scal rfl rfl) | (simp [okE, D.sc] at ok; done) | (obtain ⟨b, us, q, _⟩ := h2; have : v = .bl _ := h1; rw [this] at q; cases q)
    | int _ => cases e <;> first | (exact scal rfl rfl) | (simp [okE, D.sc] at ok; done) | (obtain ⟨b, us, q, _⟩ := h2; have : v = .int _ := h1; rw [this] at q; cases q)
    | str _ => cases e <;> first | (exact scal rfl rfl) | (simp [okE, D.sc] at ok; done) | (obtain ⟨b, us, q, _⟩ := h2; have : v = .str _ := h1; rw [this] at q; cases q)

/-- two scalars -/
theorem eqAt_sc {A : Around} : ∀ {d e : D} {v y : V} {u1 u2 : Value}, TopR w Z H d v → TopR w Z H e y → RelV v u1 → RelV y u2 → d.sc = true → e.sc = true → EqAt A s u1 u2 (beqD d e)
  | .non, .non, _, _, _, _, h1, h2, r1, r2, _, _ => by
    cases h1; cases h2
    cases r1
    cases r2
    exact EqAt.same _
  | .non, .bl b, _, _, _, _, h1, h2, r1, r2, _, _ => by
    cases h1; cases h2
    cases r1
    cases r2
    exact EqAt.none_bool b
  | .non, .int b, _, _, _, _, h1, h2, r1, r2, _, _ => by
    cases h1; cases h2
    cases r1
    obtain ⟨t2, rfl⟩ := r2
    exact EqAt.none_int b t2
  | .non, .str b, _, _, _, _, h1, h2, r1, r2, _, _ => by
    cases h1; cases h2
    cases r1
    obtain ⟨t2, rfl⟩ := r2
    exact EqAt.none_str b t2
  | .bl a, .non, _, _, _, _, h1, h2, r1, r2, _, _ => by
    cases h1; cases h2
    cases r1
    cases r2
    exact EqAt.bool_none a
  | .bl a, .bl b, _, _, _, _, h1, h2, r1, r2, _, _ => by
    cases h1; cases h2
    cases r1
    cases r2
    exact EqAt.bool_bool a b
  | .bl a, .int b, _, _, _, _, h1, h2, r1, r2, _, _ => by
    cases h1; cases h2
    cases r1
    obtain ⟨t2, rfl⟩ := r2
    exact EqAt.bool_int a b t2
  | .bl a, .str b, _, _, _, _, h1, h2, r1, r2, _, _ => by
    cases h1; cases h2
    cases r1
    obtain ⟨t2, rfl⟩ := r2
    exact EqAt.bool_str a b t2
  | .int a, .non, _, _, _, _, h1, h2, r1, r2, _, _ => by
    cases h1; cases h2
    obtain ⟨t1, rfl⟩ := r1
    cases r2
    exact EqAt.int_none a t1
  | .int a, .bl b, _, _, _, _, h1, h2, r1, r2, _, _ => by
    cases h1; cases h2
    obtain ⟨t1, rfl⟩ := r1
    cases r2
    exact EqAt.int_bool a t1 b
  | .int a, .int b, _, _, _, _, h1, h2, r1, r2, _, _ => by
    cases h1; cases h2
    obtain ⟨t1, rfl⟩ := r1
    obtain ⟨t2, rfl⟩ := r2
    exact EqAt.int_int a t1 b t2
  | .int a, .str b, _, _, _, _, h1, h2, r1, r2, _, _ => by
    cases h1; cases h2
    obtain ⟨t1, rfl⟩ := r1
    obtain ⟨t2, rfl⟩ := r2
    exact EqAt.int_str a t1 b t2
  | .str a, .non, _, _, _, _, h1, h2, r1, r2, _, _ => by
    cases h1; cases h2
    obtain ⟨t1, rfl⟩ := r1
    cases r2
    exact EqAt.str_none a t1
  | .str a, .bl b, _, _, _, _, h1, h2, r1, r2, _, _ => by
    cases h1; cases h2
    obtain ⟨t1, rfl⟩ := r1
    cases r2
    exact EqAt.str_bool a t1 b
  | .str a, .int b, _, _, _, _, h1, h2, r1, r2, _, _ => by
    cases h1; cases h2
    obtain ⟨t1, rfl⟩ := r1
    obtain ⟨t2, rfl⟩ := r2
    exact EqAt.str_int a t1 b t2
  | .str a, .str b, _, _, _, _, h1, h2, r1, r2, _, _ => by
    cases h1; cases h2
    obtain ⟨t1, rfl⟩ := r1
    obtain ⟨t2, rfl⟩ := r2
    exact EqAt.str_str a t1 b t2
  | .tup _, _, _, _, _, _, _, _, _, _, q, _ => nomatch q
  | .lst _, _, _, _, _, _, _, _, _, _, q, _ => nomatch q
  | .dic _, _, _, _, _, _, _, _, _, _, q, _ => nomatch q
  | .obj _ _, _, _, _, _, _, _, _, _, _, q, _ => nomatch q
  | .scr _, _, _, _, _, _, _, _, _, _, q, _ => nomatch q
  | _, .tup _, _, _, _, _, _, _, _, _, _, q => nomatch q
  | _, .lst _, _, _, _, _, _, _, _, _, _, q => nomatch q
  | _, .dic _, _, _, _, _, _, _, _, _, _, q => nomatch q
  | _, .obj _ _, _, _, _, _, _, _, _, _, _, q => nomatch q
  | _, .scr _, _, _, _, _, _, _, _, _, _, q => nomatch q
theorem rcAt_sc {A : Around} : ∀ {d e : D} {v y : V} {u1 u2 : Value}, TopR w Z H d v → TopR w Z H e y → RelV v u1 → RelV y u2 → d.sc = true → e.sc = true → RcAt A s u1 u2 (beqD d e)
  | .non, .non, _, _, _, _, h1, h2, r1, r2, _, _ => by
    cases h1; cases h2
    cases r1
    cases r2
    exact RcAt.none_none 
  | .non, .bl b, _, _, _, _, h1, h2, r1, r2, _, _ => by
    cases h1; cases h2
    cases r1
    cases r2
    exact RcAt.none_bool b
  | .non, .int b, _, _, _, _, h1, h2, r1, r2, _, _ => by
    cases h1; cases h2
    cases r1
    obtain ⟨t2, rfl⟩ := r2
    exact RcAt.none_int b t2
  | .non, .str b, _, _, _, _, h1, h2, r1, r2, _, _ => by
    cases h1; cases h2
    cases r1
    obtain ⟨t2, rfl⟩ := r2
    exact RcAt.none_str b t2
  | .bl a, .non, _, _, _, _, h1, h2, r1, r2, _, _ => by
    cases h1; cases h2
    cases r1
    cases r2
    exact RcAt.bool_none a
  | .bl a, .bl b, _, _, _, _, h1, h2, r1, r2, _, _ => by
    cases h1; cases h2
    cases r1
    cases r2
    exact RcAt.bool_bool a b
  | .bl a, .int b, _, _, _, _, h1, h2, r1, r2, _, _ => by
    cases h1; cases h2
    cases r1
    obtain ⟨t2, rfl⟩ := r2
    exact RcAt.bool_int a b t2
  | .bl a, .str b, _, _, _, _, h1, h2, r1, r2, _, _ => by
    cases h1; cases h2
    cases r1
    obtain ⟨t2, rfl⟩ := r2
    exact RcAt.bool_str a b t2
  | .int a, .non, _, _, _, _, h1, h2, r1, r2, _, _ => by
    cases h1; cases h2
    obtain ⟨t1, rfl⟩ := r1
    cases r2
    exact RcAt.int_none a t1
  | .int a, .bl b, _, _, _, _, h1, h2, r1, r2, _, _ => by
    cases h1; cases h2
    obtain ⟨t1, rfl⟩ := r1
    cases r2
    exact RcAt.int_bool a t1 b
  | .int a, .int b, _, _, _, _, h1, h2, r1, r2, _, _ => by
    cases h1; cases h2
    obtain ⟨t1, rfl⟩ := r1
    obtain ⟨t2, rfl⟩ := r2
    exact RcAt.int_int a t1 b t2
  | .int a, .str b, _, _, _, _, h1, h2, r1, r2, _, _ => by
    cases h1; cases h2
    obtain ⟨t1, rfl⟩ := r1
    obtain ⟨t2, rfl⟩ := r2
    exact RcAt.int_str a t1 b t2
  | .str a, .non, _, _, _, _, h1, h2, r1, r2, _, _ => by
    cases h1; cases h2
    obtain ⟨t1, rfl⟩ := r1
    cases r2
    exact RcAt.str_none a t1
  | .str a, .bl b, _, _, _, _, h1, h2, r1, r2, _, _ => by
    cases h1; cases h2
    obtain ⟨t1, rfl⟩ := r1
    cases r2
    exact RcAt.str_bool a t1 b
  | .str a, .int b, _, _, _, _, h1, h2, r1, r2, _, _ => by
    cases h1; cases h2
    obtain ⟨t1, rfl⟩ := r1
    obtain ⟨t2, rfl⟩ := r2
    exact RcAt.str_int a t1 b t2
  | .str a, .str b, _, _, _, _, h1, h2, r1, r2, _, _ => by
    cases h1; cases h2
    obtain ⟨t1, rfl⟩ := r1
    obtain ⟨t2, rfl⟩ := r2
    exact RcAt.str_str a t1 b t2
  | .tup _, _, _, _, _, _, _, _, _, _, q, _ => nomatch q
  | .lst _, _, _, _, _, _, _, _, _, _, q, _ => nomatch q
  | .dic _, _, _, _, _, _, _, _, _, _, q, _ => nomatch q
  | .obj _ _, _, _, _, _, _, _, _, _, _, q, _ => nomatch q
  | .scr _, _, _, _, _, _, _, _, _, _, q, _ => nomatch q
  | _, .tup _, _, _, _, _, _, _, _, _, _, q => nomatch q
  | _, .lst _, _, _, _, _, _, _, _, _, _, q => nomatch q
  | _, .dic _, _, _, _, _, _, _, _, _, _, q => nomatch q
  | _, .obj _ _, _, _, _, _, _, _, _, _, _, q => nomatch q
  | _, .scr _, _, _, _, _, _, _, _, _, _, q => nomatch q
theorem rcNe_sc {A : Around} : ∀ {d e : D} {v y : V} {u1 u2 : Value}, TopR w Z H d v → TopR w Z H e y → RelV v u1 → RelV y u2 → d.sc = true → e.sc = true → RcNeAt A s u1 u2 (!beqD d e)
  | .non, .non, _, _, _, _, h1, h2, r1, r2, _, _ => by
    cases h1; cases h2
    cases r1
    cases r2
    exact RcNeAt.none_none 
  | .non, .bl b, _, _, _, _, h1, h2, r1, r2, _, _ => by
    cases h1; cases h2
    cases r1
    cases r2
    exact RcNeAt.none_bool b
  | .non, .int b, _, _, _, _, h1, h2, r1, r2, _, _ => by
    cases h1; cases h2
    cases r1
    obtain ⟨t2, rfl⟩ := r2
    exact RcNeAt.none_int b t2
  | .non, .str b, _, _, _, _, h1, h2, r1, r2, _, _ => by
    cases h1; cases h2
    cases r1
    obtain ⟨t2, rfl⟩ := r2
    exact RcNeAt.none_str b t2
  | .bl a, .non, _, _, _, _, h1, h2, r1, r2, _, _ => by
    cases h1; cases h2
    cases r1
    cases r2
    exact RcNeAt.bool_none a
  | .bl a, .bl b, _, _, _, _, h1, h2, r1, r2, _, _ => by
    cases h1; cases h2
    cases r1
    cases r2
    exact RcNeAt.bool_bool a b
  | .bl a, .int b, _, _, _, _, h1, h2, r1, r2, _, _ => by
    cases h1; cases h2
    cases r1
    obtain ⟨t2, rfl⟩ := r2
    exact RcNeAt.bool_int a b t2
  | .bl a, .str b, _, _, _, _, h1, h2, r1, r2, _, _ => by
    cases h1; cases h2
    cases r1
    obtain ⟨t2, rfl⟩ := r2
    exact RcNeAt.bool_str a b t2
  | .int a, .non, _, _, _, _, h1, h2, r1, r2, _, _ => by
    cases h1; cases h2
    obtain ⟨t1, rfl⟩ := r1
    cases r2
    exact RcNeAt.int_none a t1
  | .int a, .bl b, _, _, _, _, h1, h2, r1, r2, _, _ => by
    cases h1; cases h2
    obtain ⟨t1, rfl⟩ := r1
    cases r2
    exact RcNeAt.int_bool a t1 b
  | .int a, .int b, _, _, _, _, h1, h2, r1, r2, _, _ => by
    cases h1; cases h2
    obtain ⟨t1, rfl⟩ := r1
    obtain ⟨t2, rfl⟩ := r2
    exact RcNeAt.int_int a t1 b t2
  | .int a, .str b, _, _, _, _, h1, h2, r1, r2, _, _ => by
    cases h1; cases h2
    obtain ⟨t1, rfl⟩ := r1
    obtain ⟨t2, rfl⟩ := r2
    exact RcNeAt.int_str a t1 b t2
  | .str a, .non, _, _, _, _, h1, h2, r1, r2, _, _ => by
    cases h1; cases h2
    obtain ⟨t1, rfl⟩ := r1
    cases r2
    exact RcNeAt.str_none a t1
  | .str a, .bl b, _, _, _, _, h1, h2, r1, r2, _, _ => by
    cases h1; cases h2
    obtain ⟨t1, rfl⟩ := r1
    cases r2
    exact RcNeAt.str_bool a t1 b
  | .str a, .int b, _, _, _, _, h1, h2, r1, r2, _, _ => by
    cases h1; cases h2
    obtain ⟨t1, rfl⟩ := r1
    obtain ⟨t2, rfl⟩ := r2
    exact RcNeAt.str_int a t1 b t2
  | .str a, .str b, _, _, _, _, h1, h2, r1, r2, _, _ => by
    cases h1; cases h2
    obtain ⟨t1, rfl⟩ := r1
    obtain ⟨t2, rfl⟩ := r2
    exact RcNeAt.str_str a t1 b t2
  | .tup _, _, _, _, _, _, _, _, _, _, q, _ => nomatch q
  | .lst _, _, _, _, _, _, _, _, _, _, q, _ => nomatch q
  | .dic _, _, _, _, _, _, _, _, _, _, q, _ => nomatch q
  | .obj _ _, _, _, _, _, _, _, _, _, _, q, _ => nomatch q
  | .scr _, _, _, _, _, _, _, _, _, _, q, _ => nomatch q
  | _, .tup _, _, _, _, _, _, _, _, _, _, q => nomatch q
  | _, .lst _, _, _, _, _, _, _, _, _, _, q => nomatch q
  | _, .dic _, _, _, _, _, _, _, _, _, _, q => nomatch q
  | _, .obj _ _, _, _, _, _, _, _, _, _, _, q => nomatch q
  | _, .scr _, _, _, _, _, _, _, _, _, _, q => nomatch q
/-- a list or a tuple beside a scalar -/
theorem lst_sc {A : Around} {a : Addr} {its : Array Value} (hl : s.heap.IsList a its) (hu : A.units < cLine) : ∀ {e : D} {y : V} {u2 : Value}, TopR w Z H e y → RelV y u2 → e.sc = true → EqAt A s (.ref a) u2 false ∧ RcAt A s (.ref a) u2 false ∧ RcNeAt A s (.ref a) u2 true ∧ EqAt A s u2 (.ref a) false ∧ RcAt A s u2 (.ref a) false ∧ RcNeAt A s u2 (.ref a) true
  | .non, _, _, h2, r2, _ => by
    cases h2
    cases r2
    exact ⟨EqAt.list_none  hl hu, RcAt.list_none  hl hu, RcNeAt.list_none  hl hu, EqAt.none_list  hl hu, RcAt.none_list  hl hu, RcNeAt.none_list  hl hu⟩
  | .bl b, _, _, h2, r2, _ => by
    cases h2
    cases r2
    exact ⟨EqAt.list_bool b hl hu, RcAt.list_bool b hl hu, RcNeAt.list_bool b hl hu, EqAt.bool_list b hl hu, RcAt.bool_list b hl hu, RcNeAt.bool_list b hl hu⟩
  | .int b, _, _, h2, r2, _ => by
    cases h2
    obtain ⟨t2, rfl⟩ := r2
    exact ⟨EqAt.list_int b t2 hl hu, RcAt.list_int b t2 hl hu, RcNeAt.list_int b t2 hl hu, EqAt.int_list b t2 hl hu, RcAt.int_list b t2 hl hu, RcNeAt.int_list b t2 hl hu⟩
  | .str b, _, _, h2, r2, _ => by
    cases h2
    obtain ⟨t2, rfl⟩ := r2
    exact ⟨EqAt.list_str b t2 hl hu, RcAt.list_str b t2 hl hu, RcNeAt.list_str b t2 hl hu, EqAt.str_list b t2 hl hu, RcAt.str_list b t2 hl hu, RcNeAt.str_list b t2 hl hu⟩
  | .tup _, _, _, _, _, q => nomatch q
  | .lst _, _, _, _, _, q => nomatch q
  | .dic _, _, _, _, _, q => nomatch q
  | .obj _ _, _, _, _, _, q => nomatch q
  | .scr _, _, _, _, _, q => nomatch q
theorem tup_sc {A : Around} {a : Addr} {its : Array Value} (hl : s.heap.IsTuple a its) (hu : A.units < cLine) : ∀ {e : D} {y : V} {u2 : Value}, TopR w Z H e y → RelV y u2 → e.sc = true → EqAt A s (.ref a) u2 false ∧ RcAt A s (.ref a) u2 false ∧ RcNeAt A s (.ref a) u2 true ∧ EqAt A s u2 (.ref a) false ∧ RcAt A s u2 (.ref a) false ∧ RcNeAt A s u2 (.ref a) true
  | .non, _, _, h2, r2, _ => by
    cases h2
    cases r2
    exact ⟨EqAt.tuple_none  hl hu, RcAt.tuple_none  hl hu, RcNeAt.tuple_none  hl hu, EqAt.none_tuple  hl hu, RcAt.none_tuple  hl hu, RcNeAt.none_tuple  hl hu⟩
  | .bl b, _, _, h2, r2, _ => by
    cases h2
    cases r2
    exact ⟨EqAt.tuple_bool b hl hu, RcAt.tuple_bool b hl hu, RcNeAt.tuple_bool b hl hu, EqAt.bool_tuple b hl hu, RcAt.bool_tuple b hl hu, RcNeAt.bool_tuple b hl hu⟩
  | .int b, _, _, h2, r2, _ => by
    cases h2
    obtain ⟨t2, rfl⟩ := r2
    exact ⟨EqAt.tuple_int b t2 hl hu, RcAt.tuple_int b t2 hl hu, RcNeAt.tuple_int b t2 hl hu, EqAt.int_tuple b t2 hl hu, RcAt.int_tuple b t2 hl hu, RcNeAt.int_tuple b t2 hl hu⟩
  | .str b, _, _, h2, r2, _ => by
    cases h2
    obtain ⟨t2, rfl⟩ := r2
    exact ⟨EqAt.tuple_str b t2 hl hu, RcAt.tuple_str b t2 hl hu, RcNeAt.tuple_str b t2 hl hu, EqAt.str_tuple b t2 hl hu, RcAt.str_tuple b t2 hl hu, RcNeAt.str_tuple b t2 hl hu⟩
  | .tup _, _, _, _, _, q => nomatch q
  | .lst _, _, _, _, _, q => nomatch q
  | .dic _, _, _, _, _, q => nomatch q
  | .obj _ _, _, _, _, _, q => nomatch q
  | .scr _, _, _, _, _, q => nomatch q
theorem zip_all {nd : Bool} {n : Nat} {xs ys : List D} (h : ((xs.zip ys).all fun p => okE nd n p.1 p.2) = true) {j : Nat} {x y : D} (hx : xs[j]? = some x) (hy : ys[j]? = some y) : okE nd n x y = true := by
  refine List.all_eq_true.mp h (x, y) (List.mem_of_getElem? (i := j) ?_)
  rw [List.getElem?_zip_eq_some]
  exact ⟨hx, hy⟩
theorem vals_at {vs : List V} {us : List Value} (r : Vals vs us) {j : Nat} (h : j < us.length) : ∃ v, vs[j]? = some v ∧ RelV v us[j] := by
  have hl := r.length
  obtain ⟨u, h1, h2⟩ := r.get (i := j) (x := vs[j]'(by omega)) (by simp [hl, h])
  have : us[j] = u := by simpa [h] using h1
  exact ⟨vs[j]'(by omega), by simp [hl, h], by rw [this]; exact h2⟩
theorem eAt_some {xs ys : List D} {j : Nat} {x y : D} (hx : xs[j]? = some x) (hy : ys[j]? = some y) : eAt xs ys j = beqD x y := by simp [eAt, hx, hy]

def hitK (ks ls : List (Key × D)) (k : Key) : Bool := match lookD ks k, lookD ls k with
  | some d, some e => beqD d e
  | _, _ => true
/-- == of data, dicts among them -/
theorem eqTree (I : Inv X pins σ H s) : ∀ (n : Nat) (d e : D) (v y : V) (u1 u2 : Value), Rep w Z H d v → Rep w Z H e y → RelV v u1 → RelV y u2 → okE false n d e = true → EqTree X.prog X.w s n u1 u2 (beqD d e) := by
  intro n
  induction n with
  | zero =>
    intro d e v y u1 u2 h1 h2 r1 r2 ok
    simp only [okE, Bool.and_eq_true] at ok
    exact .leaf fun A _ => eqAt_sc h1.top h2.top r1 r2 ok.1 ok.2
  | succ n ih =>
    intro d e v y u1 u2 h1 h2 r1 r2 ok
    have scal : d.sc = true → e.sc = true → EqTree X.prog X.w s (n + 1) u1 u2 (beqD d e) := fun q1 q2 => .leaf fun A _ => eqAt_sc h1.top h2.top r1 r2 q1 q2
    have items : ∀ {xs ys : List D} {vs us : List V} {i1 i2 : List Value}, Reps w Z H xs vs → Reps w Z H ys us → Vals vs i1 → Vals us i2 → ((xs.zip ys).all fun p => okE false n p.1 p.2) = true →
        ∀ j (h1 : j < i1.toArray.size) (h2 : j < i2.toArray.size), EqTree X.prog X.w s n i1.toArray[j] i2.toArray[j] (eAt xs ys j) := by
      intro xs ys vs us i1 i2 a1 a2 b1 b2 q j h1 h2
      obtain ⟨v, p1, p2⟩ := vals_at b1 (j := j) (by simpa using h1)
      obtain ⟨y, p3, p4⟩ := vals_at b2 (j := j) (by simpa using h2)
      obtain ⟨d, p5, p6⟩ := Reps.at a1 p1
      obtain ⟨e, p7, p8⟩ := Reps.at a2 p3
      rw [eAt_some p5 p7]
      simpa using ih d e v y _ _ p6 p8 p2 p4 (zip_all q p5 p7)
    by_cases same : v = y ∧ d.sc = false
    · obtain ⟨rfl, hsc⟩ := same
      have e1 : u1 = u2 := by
        cases d <;> first
          | (simp [D.sc] at hsc; done)
          | (obtain ⟨a, q⟩ := h1; have q' : v = .ref a := by first | exact q.1 | (obtain ⟨_, q, _⟩ := q; exact q) | (obtain ⟨_, _, q, _⟩ := q; exact q)
             subst q'
             cases r1
             cases r2
             rfl)
      subst e1
      rw [beq_same I false (n + 1) d e v h1 h2 ok]
      exact .same
    · have ne : ∀ {a b : Addr}, d.sc = false → v = .ref a → y = .ref b → a ≠ b := fun {a b} hs e1 e2 z => same ⟨by rw [e1, e2, z], hs⟩
      cases d with
      | tup xs =>
        obtain ⟨a, vs, e1, _, ha, hr⟩ := id h1
        cases e with
        | tup ys =>
          obtain ⟨b, us, e2, _, hb, hs⟩ := id h2
          have hne := ne rfl e1 e2
          subst e1; subst e2
          cases r1; cases r2
          obtain ⟨i1, v1, l1⟩ := tup_of I ha
          obtain ⟨i2, v2, l2⟩ := tup_of I hb
          have t := EqTree.tuples hne l1 l2 (items hr hs v1 v2 ok)
          have k1 : i1.toArray.size = xs.length := by rw [List.size_toArray, ← v1.length, Reps.length hr]
          have k2 : i2.toArray.size = ys.length := by rw [List.size_toArray, ← v2.length, Reps.length hs]
          rw [k1, k2] at t
          unfold beqD
          rw [beqL_min]
          exact t
        | lst ys =>
          obtain ⟨b, us, e2, _, hb, hs⟩ := id h2
          subst e1; subst e2
          cases r1; cases r2
          obtain ⟨i1, v1, l1⟩ := tup_of I ha
          obtain ⟨i2, v2, l2⟩ := list_of I hb
          exact .leaf fun A hu => EqAt.tuple_list l1 l2 (by omega)
        | non | bl _ | int _ | str _ =>
          subst e1
          cases r1
          obtain ⟨i1, v1, l1⟩ := tup_of I ha
          exact .leaf fun A hu => (tup_sc l1 (by omega) h2.top r2 rfl).1
        | _ => simp [okE, D.sc] at ok
      | lst xs =>
        obtain ⟨a, vs, e1, _, ha, hr⟩ := id h1
        cases e with
        | lst ys =>
          obtain ⟨b, us, e2, _, hb, hs⟩ := id h2
          have hne := ne rfl e1 e2
          subst e1; subst e2
          cases r1; cases r2
          obtain ⟨i1, v1, l1⟩ := list_of I ha
          obtain ⟨i2, v2, l2⟩ := list_of I hb
          have k1 : i1.toArray.size = xs.length := by rw [List.size_toArray, ← v1.length, Reps.length hr]
          have k2 : i2.toArray.size = ys.length := by rw [List.size_toArray, ← v2.length, Reps.length hs]
          unfold beqD
          by_cases hl : xs.length = ys.length
          · simp only [okE, hl, bne_self_eq_false, Bool.false_or] at ok
            have t := EqTree.lists hne l1 l2 (by rw [k1, k2, hl]) (items hr hs v1 v2 ok)
            rw [k1] at t
            rw [beqL_all _ _ hl]
            exact t
          · rw [beqL_len hl]
            exact EqTree.listsLen hne l1 l2 (by rw [k1, k2]; simpa using hl)
        | tup ys =>
          obtain ⟨b, us, e2, _, hb, hs⟩ := id h2
          subst e1; subst e2
          cases r1; cases r2
          obtain ⟨i1, v1, l1⟩ := list_of I ha
          obtain ⟨i2, v2, l2⟩ := tup_of I hb
          exact .leaf fun A hu => EqAt.list_tuple l1 l2 (by omega)
        | non | bl _ | int _ | str _ =>
          subst e1
          cases r1
          obtain ⟨i1, v1, l1⟩ := list_of I ha
          exact .leaf fun A hu => (lst_sc l1 (by omega) h2.top r2 rfl).1
        | _ => simp [okE, D.sc] at ok
      | dic ks =>
        cases e with
        | dic ls =>
          obtain ⟨a, us, e1, _, ha, hr⟩ := id h1
          obtain ⟨b, ws, e2, _, hb, hs⟩ := id h2
          have hne := ne rfl e1 e2
          subst e1; subst e2
          cases r1; cases r2
          obtain ⟨_, sa, va, kva, da⟩ := dk_rd I.hok ha
          obtain ⟨_, sb, vb, kvb, db⟩ := dk_rd I.hok hb
          simp only [okE, Bool.not_false, Bool.true_and, List.all_eq_true] at ok
          have nda := dk_nodup I ha
          have t := EqTree.dicts (n := n) (e := hitK ks ls) hne sa sb da db (fun k v y hm hv => by
              have lk : valueAt va k = some v := valueAt_mem (by rw [← kv_keys kva]; exact nda) hm
              have c1 := kva.val k
              have c2 := kvb.val k
              rw [lk] at c1
              rw [hv] at c2
              rcases RepK.val (k := k) hr with ⟨d1, x1, p1, p2, p3⟩ | ⟨p1, p2⟩
              · rcases RepK.val (k := k) hs with ⟨d2, x2, p4, p5, p6⟩ | ⟨p4, p5⟩
                · rw [p2] at c1
                  rw [p5] at c2
                  simp only [hitK, p1, p4]
                  have mem : (k, d1) ∈ ks := by
                    unfold lookD at p1
                    obtain ⟨z, q1, q2⟩ := Option.map_eq_some_iff.mp p1
                    have m1 := List.mem_of_find?_eq_some q1
                    have m2 := List.find?_some q1
                    have : z = (k, d1) := by
                      obtain ⟨z1, z2⟩ := z
                      have : z1 = k := by simpa using m2
                      cases q2
                      rw [this]
                    rw [← this]; exact m1
                  have o := ok (k, d1) mem
                  simp only [p4] at o
                  exact ih d1 d2 x1 x2 v y p3 p6 c1 c2 o
                · rw [p5] at c2; exact c2.elim
              · rw [p2] at c1; exact c1.elim)
          have hb1 : (va.length == vb.length && va.all fun p => (valueAt vb p.1).isSome && hitK ks ls p.1) = beqD (.dic ks) (.dic ls) := by
            have l1 : va.length = ks.length := by rw [← Paired.length kva, RepK.length hr]
            have l2 : vb.length = ls.length := by rw [← Paired.length kvb, RepK.length hs]
            unfold beqD
            rw [l1, l2]
            congr 1
            have kk : ks.map (·.1) = va.map (·.1) := by rw [← RepK.keys hr]; exact kv_keys kva
            have nd : (ks.map (·.1)).Nodup := by rw [← RepK.keys hr]; exact nda
            have vsome : ∀ k, (valueAt vb k).isSome = (lookD ls k).isSome := fun k => by
              have c := kvb.val k
              rcases RepK.val (k := k) hs with ⟨d2, x2, p4, p5, p6⟩ | ⟨p4, p5⟩
              · rw [p5] at c
                obtain ⟨u, e, _⟩ := RelO.some_of c
                rw [e, p4] <;> rfl
              · rw [p5] at c
                rw [RelO.none_of c, p4] <;> rfl
            have st1 : (va.all fun p => (valueAt vb p.1).isSome && hitK ks ls p.1) = ((ks.map (·.1)).all fun k => (lookD ls k).isSome && hitK ks ls k) := by
              rw [kk, List.all_map]
              congr 1
              funext p
              simp [vsome]
            rw [st1, List.all_map]
            have go : ∀ ks' : List (Key × D), (∀ p ∈ ks', lookD ks p.1 = some p.2) → (ks'.all ((fun k => (lookD ls k).isSome && hitK ks ls k) ∘ (fun x : Key × D => x.1))) = beqK ks' ls := by
              intro ks'
              induction ks' with
              | nil => intro _; unfold beqK; rfl
              | cons p r ihk =>
                intro hp
                obtain ⟨k, d⟩ := p
                rw [List.all_cons, ihk fun p q => hp p (List.mem_cons_of_mem _ q)]
                rw [beqK_cons]
                congr 1
                have q1 := hp (k, d) List.mem_cons_self
                simp only at q1
                simp only [Function.comp, hitK, q1]
                cases lookD ls k with
                | none => rfl
                | some e => simp
            refine go ks fun p hp => ?_
            exact lookD_mem nd hp
          rw [← hb1]
          exact t
        | tup ys => simp [okE, D.sc] at ok
        | lst ys => simp [okE, D.sc] at ok
        | _ => simp [okE, D.sc] at ok
      | obj c fs => cases e <;> simp [okE, D.sc] at ok
      | scr ns => cases e <;> simp [okE, D.sc] at ok
      | non | bl _ | int _ | str _ =>
        cases e with
        | tup ys =>
          obtain ⟨b, us, e2, _, hb, hs⟩ := id h2
          subst e2
          cases r2
          obtain ⟨i2, v2, l2⟩ := tup_of I hb
          exact .leaf fun A hu => (tup_sc l2 (by omega) h1.top r1 rfl).2.2.2.1
        | lst ys =>
          obtain ⟨b, us, e2, _, hb, hs⟩ := id h2
          subst e2
          cases r2
          obtain ⟨i2, v2, l2⟩ := list_of I hb
          exact .leaf fun A hu => (lst_sc l2 (by omega) h1.top r1 rfl).2.2.2.1
        | non | bl _ | int _ | str _ => exact scal rfl rfl
        | _ => simp [okE, D.sc] at ok

/-- == of data without dicts -/
theorem eqAtD (I : Inv X pins σ H s) : ∀ (n : Nat) (d e : D) (v y : V) (u1 u2 : Value), Rep w Z H d v → Rep w Z H e y → RelV v u1 → RelV y u2 → okE true n d e = true → ∀ A : Around, A.units + n < cLine → EqAt A s u1 u2 (beqD d e) := by
  intro n
  induction n with
  | zero =>
    intro d e v y u1 u2 h1 h2 r1 r2 ok A _
    simp only [okE, Bool.and_eq_true] at ok
    exact eqAt_sc h1.top h2.top r1 r2 ok.1 ok.2
  | succ n ih =>
    intro d e v y u1 u2 h1 h2 r1 r2 ok A hu
    have scal : d.sc = true → e.sc = true → EqAt A s u1 u2 (beqD d e) := fun q1 q2 => eqAt_sc h1.top h2.top r1 r2 q1 q2
    have items : ∀ {xs ys : List D} {vs us : List V} {i1 i2 : List Value}, Reps w Z H xs vs → Reps w Z H ys us → Vals vs i1 → Vals us i2 → ((xs.zip ys).all fun p => okE true n p.1 p.2) = true →
        ∀ j (h1 : j < i1.toArray.size) (h2 : j < i2.toArray.size), EqAt A.in1 s i1.toArray[j] i2.toArray[j] (eAt xs ys j) := by
      intro xs ys vs us i1 i2 a1 a2 b1 b2 q j h1 h2
      obtain ⟨v, p1, p2⟩ := vals_at b1 (j := j) (by simpa using h1)
      obtain ⟨y, p3, p4⟩ := vals_at b2 (j := j) (by simpa using h2)
      obtain ⟨d, p5, p6⟩ := Reps.at a1 p1
      obtain ⟨e, p7, p8⟩ := Reps.at a2 p3
      rw [eAt_some p5 p7]
      simpa using ih d e v y _ _ p6 p8 p2 p4 (zip_all q p5 p7) A.in1 (by show A.units + 1 + n < cLine; omega)
    by_cases same : v = y ∧ d.sc = false
    · obtain ⟨rfl, hsc⟩ := same
      have e1 : u1 = u2 := by
        cases d <;> first
          | (simp [D.sc] at hsc; done)
          | (obtain ⟨a, q⟩ := h1; have q' : v = .ref a := by first | exact q.1 | (obtain ⟨_, q, _⟩ := q; exact q) | (obtain ⟨_, _, q, _⟩ := q; exact q)
             subst q'
             cases r1
             cases r2
             rfl)
      subst e1
      rw [beq_same I true (n + 1) d e v h1 h2 ok]
      exact EqAt.same _
    · have ne : ∀ {a b : Addr}, d.sc = false → v = .ref a → y = .ref b → a ≠ b := fun {a b} hs e1 e2 z => same ⟨by rw [e1, e2, z], hs⟩
      cases d with
      | tup xs =>
        obtain ⟨a, vs, e1, _, ha, hr⟩ := id h1
        cases e with
        | tup ys =>
          obtain ⟨b, us, e2, _, hb, hs⟩ := id h2
          have hne := ne rfl e1 e2
          subst e1; subst e2
          cases r1; cases r2
          obtain ⟨i1, v1, l1⟩ := tup_of I ha
          obtain ⟨i2, v2, l2⟩ := tup_of I hb
          have t := EqAt.of_refs hne (RcAt.tuples (A := A) l1 l2 (by omega) (items hr hs v1 v2 ok))
          have k1 : i1.toArray.size = xs.length := by rw [List.size_toArray, ← v1.length, Reps.length hr]
          have k2 : i2.toArray.size = ys.length := by rw [List.size_toArray, ← v2.length, Reps.length hs]
          rw [k1, k2] at t
          unfold beqD
          rw [beqL_min]
          exact t
        | lst ys =>
          obtain ⟨b, us, e2, _, hb, hs⟩ := id h2
          subst e1; subst e2
          cases r1; cases r2
          obtain ⟨i1, v1, l1⟩ := tup_of I ha
          obtain ⟨i2, v2, l2⟩ := list_of I hb
          exact EqAt.tuple_list l1 l2 (by omega)
        | non | bl _ | int _ | str _ =>
          subst e1
          cases r1
          obtain ⟨i1, v1, l1⟩ := tup_of I ha
          exact (tup_sc l1 (by omega) h2.top r2 rfl).1
        | _ => simp [okE, D.sc] at ok
      | lst xs =>
        obtain ⟨a, vs, e1, _, ha, hr⟩ := id h1
        cases e with
        | lst ys =>
          obtain ⟨b, us, e2, _, hb, hs⟩ := id h2
          have hne := ne rfl e1 e2
          subst e1; subst e2
          cases r1; cases r2
          obtain ⟨i1, v1, l1⟩ := list_of I ha
          obtain ⟨i2, v2, l2⟩ := list_of I hb
          have k1 : i1.toArray.size = xs.length := by rw [List.size_toArray, ← v1.length, Reps.length hr]
          have k2 : i2.toArray.size = ys.length := by rw [List.size_toArray, ← v2.length, Reps.length hs]
          unfold beqD
          by_cases hl : xs.length = ys.length
          · simp only [okE, hl, bne_self_eq_false, Bool.false_or] at ok
            have t := EqAt.of_refs hne (RcAt.lists (A := A) l1 l2 (by rw [k1, k2, hl]) (by omega) (items hr hs v1 v2 ok))
            rw [k1] at t
            rw [beqL_all _ _ hl]
            exact t
          · rw [beqL_len hl]
            exact EqAt.of_refs hne (RcAt.lists_lengths l1 l2 (by rw [k1, k2]; simpa using hl) (by omega))
        | tup ys =>
          obtain ⟨b, us, e2, _, hb, hs⟩ := id h2
          subst e1; subst e2
          cases r1; cases r2
          obtain ⟨i1, v1, l1⟩ := list_of I ha
          obtain ⟨i2, v2, l2⟩ := tup_of I hb
          exact EqAt.list_tuple l1 l2 (by omega)
        | non | bl _ | int _ | str _ =>
          subst e1
          cases r1
          obtain ⟨i1, v1, l1⟩ := list_of I ha
          exact (lst_sc l1 (by omega) h2.top r2 rfl).1
        | _ => simp [okE, D.sc] at ok
      | dic ks => cases e <;> simp [okE, D.sc] at ok
      | obj c fs => cases e <;> simp [okE, D.sc] at ok
      | scr ns => cases e <;> simp [okE, D.sc] at ok
      | non | bl _ | int _ | str _ =>
        cases e with
        | tup ys =>
          obtain ⟨b, us, e2, _, hb, hs⟩ := id h2
          subst e2
          cases r2
          obtain ⟨i2, v2, l2⟩ := tup_of I hb
          exact (tup_sc l2 (by omega) h1.top r1 rfl).2.2.2.1
        | lst ys =>
          obtain ⟨b, us, e2, _, hb, hs⟩ := id h2
          subst e2
          cases r2
          obtain ⟨i2, v2, l2⟩ := list_of I hb
          exact (lst_sc l2 (by omega) h1.top r1 rfl).2.2.2.1
        | non | bl _ | int _ | str _ => exact scal rfl rfl
        | _ => simp [okE, D.sc] at ok
end
end U
end

section
set_option Elab.async false
set_option linter.all false
set_option maxRecDepth 100000
set_option maxHeartbeats 400000
set_option autoImplicit false
/-! U5: operators on data (OpD), binary expressions. -/
namespace U
open PySem L2

abbrev HK (H H' : Hp) : Prop := ∀ a o, H a = some o → H' a = some o
theorem HK.upd {H : Hp} {p : Addr} {o : HO} (n : H p = none) : HK H (upd H p o) := fun a u e => by rw [upd_ne (ne_of_none e n)]; exact e

section
variable {w : Wd} {Zo : AP1} {fm fm1 fm2 : Fm} {σ : St} {H H0 H1 H2 H' : Hp} {p : Addr} {d : D} {v : V} {r : R}
theorem RelF.nad (r : RelF w Zo fm σ H) (n : H p = none) : Nad fm σ p := fun i s hs hk ha => by
  obtain ⟨v, hv, ok⟩ := r.ok i s hs
  have q : σ[i]? = some (some (V.ref p)) := ha
  rw [hv] at q
  cases q
  obtain ⟨k, d⟩ := s
  cases k with
  | frz => exact hk rfl
  | own =>
    obtain ⟨a, h1, _, h3⟩ : ∃ a, V.ref p = .ref a ∧ ¬ Zo a ∧ TopX w (Zx Zo fm σ) H d a := ok
    cases h1
    obtain ⟨o, e⟩ := h3.some
    rw [n] at e; cases e
  | bor =>
    obtain ⟨a, h1, _, h3⟩ : ∃ a, V.ref p = .ref a ∧ Zo a ∧ TopX w (Zx Zo fm σ) H d a := ok
    cases h1
    obtain ⟨o, e⟩ := h3.some
    rw [n] at e; cases e
  | ro =>
    obtain ⟨a, h1, hn, h3⟩ : ∃ a, V.ref p = .ref a ∧ d.ns = true ∧ TopR w (Zx Zo fm σ) H d (.ref p) := ok
    obtain ⟨o, e⟩ := h3.ref_some hn
    rw [n] at e; cases e
/-- the heap grows -/
theorem ext_k {Z : AP1} (k : HK H H') : Ext Z H Z H' := Ext.of (fun a _ _ z => z) fun a o _ e => k a o e
theorem ext_p {Z : AP1} (n : H p = none) (k : HK H H') : Ext (Zx Zo fm σ) H (Zx (Zp Zo p) fm σ) H' := Ext.of (fun a o e z => by
    rcases z with (z | z) | z
    · exact .inl z
    · rw [z, n] at e; cases e
    · exact .inr z) fun a o _ e => k a o e
theorem RelF.hk (r : RelF w Zo fm σ H) (k : HK H H') : RelF w Zo fm σ H' := r.grow k (fun _ z => z) fun _ z => .inl z
/-- a new object, owned by the result -/
theorem tmp_new {o : HO} (r : RelF w Zo fm σ H) (n : H p = none) (t : TopX w (Zx (Zp Zo p) fm σ) (upd H p o) d p) : RelR w Zo fm σ H (upd H p o) (.tmp d) (.ref p) := by
  refine ⟨p, rfl, n, fun z => ?_, r.nad n, t, r.grow (HK.upd n) (fun a z => .inl z) fun a z => ?_⟩
  · obtain ⟨o', e⟩ := r.live p z
    rw [n] at e; cases e
  · rcases z with z | z
    · exact .inl z
    · subst z; exact .inr ⟨n, o, upd_same⟩
theorem tmp_lst {xs : List D} {vs : List V} (r : RelF w Zo fm σ H) (n : H p = none) (h : Reps w (Zx Zo fm σ) H xs vs) : RelR w Zo fm σ H (upd H p (.lst vs)) (.tmp (.lst xs)) (.ref p) :=
  tmp_new r n ⟨vs, upd_same, h.ext (ext_p (Z := Zx Zo fm σ) n (HK.upd n))⟩
theorem tmp_dic {xs : List (Key × D)} {vs : List (Key × V)} (r : RelF w Zo fm σ H) (n : H p = none) (h : RepK w (Zx Zo fm σ) H xs vs) : RelR w Zo fm σ H (upd H p (.dK vs)) (.tmp (.dic xs)) (.ref p) :=
  tmp_new r n ⟨vs, upd_same, h.ext (ext_p (Z := Zx Zo fm σ) n (HK.upd n))⟩
theorem frz_tup {xs : List D} {vs : List V} (r : RelF w Zo fm σ H) (n : H p = none) (h : Reps w (Zx Zo fm σ) H xs vs) : RelR w Zo fm σ H (upd H p (.tup vs)) (.frz (.tup xs)) (.ref p) :=
  ⟨r.hk (HK.upd n), p, vs, rfl, r.nz n, upd_same, h.ext (ext_k (HK.upd n))⟩
theorem RelR.back {fm' : Fm} {σ1 σ' : St} (st : StepS fm σ H fm1 σ1 H1) (h : RelR w Zo fm' σ' H1 H2 r v) : RelR w Zo fm' σ' H H2 r v := by
  cases r with
  | frz d => exact h
  | tmp d =>
    obtain ⟨p, e, t⟩ := h
    refine ⟨p, e, ?_, t.nz, t.nad, t.top, t.rel⟩
    cases q : H p with
    | none => rfl
    | some o =>
      obtain ⟨o', e'⟩ := st.there p o q
      rw [t.new] at e'; cases e'
  | var i => exact h

/-- a temporary is no longer to be owned -/
def R.soft : R → R
  | .tmp d => .frz d
  | r => r
theorem soft_see (h : RelR w Zo fm1 σ H0 H1 r v) (st : StepS fm1 σ H1 fm2 σ H2) (rf : RelF w Zo fm2 σ H2) (g : r.soft.get fm2 = some d) : TopR w (Zx Zo fm2 σ) H2 d v := by
  cases r with
  | frz d' =>
    cases g
    exact (Rep.step h.1 rf st h.2).top
  | tmp d' =>
    cases g
    obtain ⟨p, rfl, t⟩ := h
    exact (Rep.step t.relO rf st t.rep).top
  | var i =>
    obtain ⟨h1, h2, s, h3⟩ := h
    have g : (match fm2[i]? with
      | some (some s) => some s.d
      | _ => none) = some d := g
    split at g
    · rename_i s' hs
      cases g
      exact rf.see hs h2
    · cases g
end

/-- a two-place operation: what it is worth on data -/
def OpD (X : Cx) (w : Wd) (f : Value → Value → Sem Value) (g : D → D → Option R) : Prop :=
  ∀ (Zo : AP1) (fm : Fm) (σ : St) (H : Hp) (x y : V) (dx dy : D) (r : R) (v u : Value) (Q : VK) (pins : List (Addr × Obj)) (s : Shared),
    RelF w Zo fm σ H → TopR w (Zx Zo fm σ) H dx x → TopR w (Zx Zo fm σ) H dy y → g dx dy = some r → (∀ v' H', HK H H' → RelR w Zo fm σ H H' r v' → Q v' H') →
    Inv X pins σ H s → RelV x v → RelV y u → wpAny (model X.prog X.w) X.A (f v u) (L2.EP X pins σ Q) X.xe s
/-- from a rule of the layer -/
theorem opd_of {X : Cx} {w : Wd} {f : Value → Value → Sem Value} {g : D → D → Option R} {r0 : R2} (h : OpR X f r0)
    (hr : ∀ (Zo : AP1) (fm : Fm) (σ : St) (H : Hp) (x y : V) (dx dy : D) (r : R) (Q : VK), RelF w Zo fm σ H → TopR w (Zx Zo fm σ) H dx x → TopR w (Zx Zo fm σ) H dy y → g dx dy = some r →
      (∀ v' H', HK H H' → RelR w Zo fm σ H H' r v' → Q v' H') → r0 x y H Q) : OpD X w f g :=
  fun Zo fm σ H x y dx dy r v u Q pins s rf hx hy hg post I rx ry => h pins s σ H x y v u Q I rx ry (hr Zo fm σ H x y dx dy r Q rf hx hy hg post)
theorem post_frz {w : Wd} {Zo : AP1} {fm : Fm} {σ : St} {H : Hp} {d : D} {v : V} {Q : VK} (rf : RelF w Zo fm σ H) (post : ∀ v' H', HK H H' → RelR w Zo fm σ H H' (.frz d) v' → Q v' H') (h : Rep w (Zx Zo fm σ) H d v) : Q v H :=
  post v H (fun _ _ e => e) ⟨rf, h⟩

/-! ### arithmetic -/
def dAdd : D → D → Option R
  | .int i, .int j => some (.frz (.int (i + j)))
  | .str x, .str y => if x.length + y.length ≤ sizeLine then some (.frz (.str (x ++ y))) else none
  | .lst xs, .lst ys => if xs.length + ys.length ≤ sizeLine then some (.tmp (.lst (xs ++ ys))) else none
  | _, _ => none
def dSub : D → D → Option R
  | .int i, .int j => some (.frz (.int (i - j)))
  | _, _ => none
instance (i j : Int) : Decidable (CMulW i j) := by unfold CMulW; infer_instance
instance (i j : Int) : Decidable (CDivW i j) := by unfold CDivW; infer_instance
def dMul : D → D → Option R
  | .int i, .int j => if CMulW i j then some (.frz (.int (i * j))) else none
  | _, _ => none
def dDiv : D → D → Option R
  | .int i, .int j => if CDivW i j then some (.frz (.int (i / j))) else none
  | _, _ => none
def dMod : D → D → Option R
  | .int i, .int j => if 0 < j then some (.frz (.int (i % j))) else none
  | _, _ => none
instance (i j : Int) : Decidable (CPow i j) := by unfold CPow; infer_instance
def dPow : D → D → Option R
  | .int i, .int j => if CPow i j then some (.frz (.int (i ^ j.toNat))) else none
  | _, _ => none
def dCmp (p : Int → Int → Bool) : D → D → Option R
  | .int i, .int j => some (.frz (.bl (p i j)))
  | _, _ => none
section
variable {X : Cx} {w : Wd}
/-- ints in -/
theorem opd_int {f : Value → Value → Sem Value} {C : Int → Int → Prop} {k : Int → Int → V} {g : D → D → Option R} {kd : Int → Int → D} (h : OpR X f (rI C k))
    (hg : ∀ d e r, g d e = some r → ∃ i j, d = .int i ∧ e = .int j ∧ C i j ∧ r = .frz (kd i j)) (hk : ∀ i j Z H, Rep w Z H (kd i j) (k i j)) : OpD X w f g :=
  opd_of h fun Zo fm σ H x y dx dy r Q rf hx hy hgr post => by
    obtain ⟨i, j, rfl, rfl, c, rfl⟩ := hg _ _ _ hgr
    exact ⟨i, j, hx, hy, c, post_frz rf post (hk i j _ _)⟩
theorem opd_int0 {f : Value → Value → Sem Value} {k : Int → Int → V} {g : D → D → Option R} {kd : Int → Int → D} (h : OpR X f (rI0 k))
    (hg : ∀ d e r, g d e = some r → ∃ i j, d = .int i ∧ e = .int j ∧ r = .frz (kd i j)) (hk : ∀ i j Z H, Rep w Z H (kd i j) (k i j)) : OpD X w f g :=
  opd_of h fun Zo fm σ H x y dx dy r Q rf hx hy hgr post => by
    obtain ⟨i, j, rfl, rfl, rfl⟩ := hg _ _ _ hgr
    exact ⟨i, j, hx, hy, post_frz rf post (hk i j _ _)⟩
theorem opd_sub : OpD X w (binaryOp .Sub) dSub := opd_int0 op_sub (kd := fun i j => .int (i - j)) (fun d e r h => by
  unfold dSub at h; split at h <;> cases h; exact ⟨_, _, rfl, rfl, rfl⟩) fun _ _ _ _ => rfl
theorem opd_mul : OpD X w (binaryOp .Mult) dMul := opd_int op_mulW (kd := fun i j => .int (i * j)) (fun d e r h => by
  unfold dMul at h; split at h
  · split at h <;> cases h; exact ⟨_, _, rfl, rfl, by assumption, rfl⟩
  · cases h) fun _ _ _ _ => rfl
theorem opd_div : OpD X w (binaryOp .FloorDiv) dDiv := opd_int op_fdivW (kd := fun i j => .int (i / j)) (fun d e r h => by
  unfold dDiv at h; split at h
  · split at h <;> cases h; exact ⟨_, _, rfl, rfl, by assumption, rfl⟩
  · cases h) fun _ _ _ _ => rfl
theorem opd_mod : OpD X w (binaryOp .Mod) dMod := opd_int op_mod (kd := fun i j => .int (i % j)) (fun d e r h => by
  unfold dMod at h; split at h
  · split at h <;> cases h; exact ⟨_, _, rfl, rfl, by assumption, rfl⟩
  · cases h) fun _ _ _ _ => rfl
theorem opd_pow : OpD X w (binaryOp .Pow) dPow := opd_int op_pow (kd := fun i j => .int (i ^ j.toNat)) (fun d e r h => by
  unfold dPow at h; split at h
  · split at h <;> cases h; exact ⟨_, _, rfl, rfl, by assumption, rfl⟩
  · cases h) fun _ _ _ _ => rfl
theorem opd_cmp {op : CmpOp} {p : Int → Int → Bool} (h : OpR X (compareOp op) (rI0 fun i j => .bl (p i j))) : OpD X w (compareOp op) (dCmp p) := opd_int0 h (kd := fun i j => .bl (p i j)) (fun d e r h => by
  unfold dCmp at h; split at h <;> cases h; exact ⟨_, _, rfl, rfl, rfl⟩) fun _ _ _ _ => rfl
theorem opd_lt : OpD X w (compareOp .Lt) (dCmp fun i j => decide (i < j)) := opd_cmp op_lt
theorem opd_le : OpD X w (compareOp .LtE) (dCmp fun i j => decide (i ≤ j)) := opd_cmp op_le
theorem opd_gt : OpD X w (compareOp .Gt) (dCmp fun i j => decide (j < i)) := opd_cmp op_gt
theorem opd_ge : OpD X w (compareOp .GtE) (dCmp fun i j => decide (j ≤ i)) := opd_cmp op_ge
theorem opd_add : OpD X w (binaryOp .Add) dAdd := opd_of ((op_add.or op_add_str).or op_cat) fun Zo fm σ H x y dx dy r Q rf hx hy hgr post => by
  unfold dAdd at hgr
  split at hgr
  · cases hgr
    exact .inl (.inl ⟨_, _, hx, hy, post_frz rf post rfl⟩)
  · split at hgr
    · cases hgr
      exact .inl (.inr ⟨_, _, hx, hy, by assumption, post_frz rf post rfl⟩)
    · cases hgr
  · split at hgr
    · cases hgr
      obtain ⟨a, vs, rfl, ha, hr⟩ := hx
      obtain ⟨b, us, rfl, hb, hs⟩ := hy
      refine .inr ⟨a, b, vs, us, rfl, rfl, ha, hb, by rw [hr.length, hs.length]; assumption, fun p n => post _ _ (HK.upd n) (tmp_lst rf n (hr.app hs))⟩
    · cases hgr
  · cases hgr
/-- is None -/
def D.isN : D → Bool
  | .non => true
  | _ => false
def dIs (neg : Bool) : D → D → Option R
  | d, .non => some (.frz (.bl (neg != d.isN)))
  | _, _ => none
theorem top_non {Z : AP1} {H : Hp} {d : D} {v : V} (h : TopR w Z H d v) : decide (v = .non) = d.isN := by
  cases d with
  | non => cases (show v = .non from h); rfl
  | bl b => cases (show v = .bl b from h); rfl
  | int b => cases (show v = .int b from h); rfl
  | str b => cases (show v = .str b from h); rfl
  | tup xs => obtain ⟨a, _, rfl, _⟩ := h; rfl
  | lst xs => obtain ⟨a, _, rfl, _⟩ := h; rfl
  | dic xs => obtain ⟨a, _, rfl, _⟩ := h; rfl
  | obj c xs => obtain ⟨a, _, _, rfl, _⟩ := h; rfl
  | scr xs => obtain ⟨a, rfl, _⟩ := h; rfl
theorem opd_is : OpD X w (compareOp .Is) (dIs false) := opd_of op_isN fun Zo fm σ H x y dx dy r Q rf hx hy hgr post => by
  have e := top_non hx
  unfold dIs at hgr
  split at hgr
  · cases hgr; exact ⟨hy, post_frz rf post (by rw [e]; show V.bl _ = V.bl _; simp)⟩
  · cases hgr
theorem opd_isnot : OpD X w (compareOp .IsNot) (dIs true) := opd_of op_notN fun Zo fm σ H x y dx dy r Q rf hx hy hgr post => by
  have e := top_non hx
  unfold dIs at hgr
  split at hgr
  · cases hgr; exact ⟨hy, post_frz rf post (by rw [e]; show V.bl _ = V.bl _; simp)⟩
  · cases hgr
end
end U
end

section
set_option Elab.async false
set_option linter.all false
set_option maxRecDepth 100000
set_option maxHeartbeats 400000
set_option autoImplicit false
/-! U6: ==, !=, in, not in, subscripts of data. -/
namespace U
open PySem L2
open PySem.SeqAt
def dEq (d e : D) : Option R := if okE false 12 d e = true then some (.frz (.bl (beqD d e))) else none
def okN (n : Nat) : D → D → Bool
  | .dic ks, .dic ls => ks.all fun p => match lookD ls p.1 with
    | some e => okE true n p.2 e
    | none => true
  | d, e => okE true (n + 1) d e
def dNe (d e : D) : Option R := if okN 11 d e = true then some (.frz (.bl (!beqD d e))) else none
section
variable {X : Cx} {w : Wd} {Z : AP1} {H : Hp} {pins : List (Addr × Obj)} {σ : St} {s : Shared}
theorem top_any {d : D} {v : V} (h : TopR w Z H d v) (hs : d.ns = true) (hc : ∀ c fs, d ≠ .obj c fs) : Rep w (fun _ => False) H d v := by
  have e : Ext Z H (fun _ => False) H := Ext.of (fun _ _ _ z => z.elim) fun _ _ _ e => e
  cases d with
  | tup xs => obtain ⟨a, vs, h1, h3, h4⟩ := h; exact ⟨a, vs, h1, fun z => z, h3, h4.ext e⟩
  | lst xs => obtain ⟨a, vs, h1, h3, h4⟩ := h; exact ⟨a, vs, h1, fun z => z, h3, h4.ext e⟩
  | dic xs => obtain ⟨a, vs, h1, h3, h4⟩ := h; exact ⟨a, vs, h1, fun z => z, h3, h4.ext e⟩
  | obj c xs => exact absurd rfl (hc _ _)
  | scr ns => cases hs
  | _ => exact h
/-- the places of a list or tuple, by eqTree | eqAtD -/
theorem treesAt (I : Inv X pins σ H s) {n : Nat} {xs ys : List D} {vs us : List V} {i1 i2 : List Value} (a1 : Reps w Z H xs vs) (a2 : Reps w Z H ys us) (b1 : Vals vs i1) (b2 : Vals us i2) (q : ((xs.zip ys).all fun p => okE false n p.1 p.2) = true) :
    ∀ j (h1 : j < i1.toArray.size) (h2 : j < i2.toArray.size), PySem.W.EqTree X.prog X.w s n i1.toArray[j] i2.toArray[j] (eAt xs ys j) := by
  intro j h1 h2
  obtain ⟨v, p1, p2⟩ := vals_at b1 (j := j) (by simpa using h1)
  obtain ⟨y, p3, p4⟩ := vals_at b2 (j := j) (by simpa using h2)
  obtain ⟨d, p5, p6⟩ := Reps.at a1 p1
  obtain ⟨e, p7, p8⟩ := Reps.at a2 p3
  rw [eAt_some p5 p7]
  simpa using eqTree I n d e v y _ _ p6 p8 p2 p4 (zip_all q p5 p7)
theorem eqsAt (I : Inv X pins σ H s) {n : Nat} {A : Around} (hu : A.units + (n + 1) < cLine) {xs ys : List D} {vs us : List V} {i1 i2 : List Value} (a1 : Reps w Z H xs vs) (a2 : Reps w Z H ys us) (b1 : Vals vs i1) (b2 : Vals us i2) (q : ((xs.zip ys).all fun p => okE true n p.1 p.2) = true) :
    ∀ j (h1 : j < i1.toArray.size) (h2 : j < i2.toArray.size), EqAt A.in1 s i1.toArray[j] i2.toArray[j] (eAt xs ys j) := by
  intro j h1 h2
  obtain ⟨v, p1, p2⟩ := vals_at b1 (j := j) (by simpa using h1)
  obtain ⟨y, p3, p4⟩ := vals_at b2 (j := j) (by simpa using h2)
  obtain ⟨d, p5, p6⟩ := Reps.at a1 p1
  obtain ⟨e, p7, p8⟩ := Reps.at a2 p3
  rw [eAt_some p5 p7]
  simpa using eqAtD I n d e v y _ _ p6 p8 p2 p4 (zip_all q p5 p7) A.in1 (by show A.units + 1 + n < cLine; omega)
/-- the pairs of two dicts -/
theorem hit_len {ks ls : List (Key × D)} {us ws : List (Key × V)} {va vb : List (Key × Value)} (hr : RepK w Z H ks us) (hs : RepK w Z H ls ws) (kva : KV us va) (kvb : KV ws vb) (nda : (us.map (·.1)).Nodup) :
    (va.length == vb.length && va.all fun p => (valueAt vb p.1).isSome && hitK ks ls p.1) = beqD (.dic ks) (.dic ls) := by
  have l1 : va.length = ks.length := by rw [← Paired.length kva, RepK.length hr]
  have l2 : vb.length = ls.length := by rw [← Paired.length kvb, RepK.length hs]
  show _ = (ks.length == ls.length && beqK ks ls)
  rw [l1, l2]
  congr 1
  have kk : ks.map (·.1) = va.map (·.1) := by rw [← RepK.keys hr]; exact kv_keys kva
  have nd : (ks.map (·.1)).Nodup := by rw [← RepK.keys hr]; exact nda
  have vsome : ∀ k, (valueAt vb k).isSome = (lookD ls k).isSome := fun k => by
    have c := kvb.val k
    rcases RepK.val (k := k) hs with ⟨d2, x2, p4, p5, p6⟩ | ⟨p4, p5⟩
    · rw [p5] at c
      obtain ⟨u, e, _⟩ := RelO.some_of c
      rw [e, p4] <;> rfl
    · rw [p5] at c
      rw [RelO.none_of c, p4] <;> rfl
  have st1 : (va.all fun p => (valueAt vb p.1).isSome && hitK ks ls p.1) = ((ks.map (·.1)).all fun k => (lookD ls k).isSome && hitK ks ls k) := by
    rw [kk, List.all_map]
    congr 1
    funext p
    simp [vsome]
  rw [st1, List.all_map]
  have go : ∀ ks' : List (Key × D), (∀ p ∈ ks', lookD ks p.1 = some p.2) → (ks'.all ((fun k => (lookD ls k).isSome && hitK ks ls k) ∘ (fun x : Key × D => x.1))) = beqK ks' ls := by
    intro ks'
    induction ks' with
    | nil => intro _; rfl
    | cons p r ihk =>
      intro hp
      obtain ⟨k, d⟩ := p
      rw [List.all_cons, ihk fun p q => hp p (List.mem_cons_of_mem _ q)]
      rw [beqK_cons]
      congr 1
      have q1 := hp (k, d) List.mem_cons_self
      simp only at q1
      simp only [Function.comp, hitK, q1]
      cases lookD ls k with
      | none => rfl
      | some e => simp
  exact go ks fun p hp => lookD_mem nd hp
/-- what two dicts hold at a key -/
theorem dic_at {ks ls : List (Key × D)} {us ws : List (Key × V)} {va vb : List (Key × Value)} (hr : RepK w Z H ks us) (hs : RepK w Z H ls ws) (kva : KV us va) (kvb : KV ws vb) (nda : (us.map (·.1)).Nodup) {k : Key} {v y : Value} (hm : (k, v) ∈ va) (hv : valueAt vb k = some y) :
    ∃ d1 d2 x1 x2, (k, d1) ∈ ks ∧ lookD ls k = some d2 ∧ hitK ks ls k = beqD d1 d2 ∧ Rep w Z H d1 x1 ∧ Rep w Z H d2 x2 ∧ RelV x1 v ∧ RelV x2 y := by
  have lk : valueAt va k = some v := valueAt_mem (by rw [← kv_keys kva]; exact nda) hm
  have c1 := kva.val k
  have c2 := kvb.val k
  rw [lk] at c1
  rw [hv] at c2
  rcases RepK.val (k := k) hr with ⟨d1, x1, p1, p2, p3⟩ | ⟨p1, p2⟩
  · rcases RepK.val (k := k) hs with ⟨d2, x2, p4, p5, p6⟩ | ⟨p4, p5⟩
    · rw [p2] at c1
      rw [p5] at c2
      refine ⟨d1, d2, x1, x2, ?_, p4, by simp only [hitK, p1, p4], p3, p6, c1, c2⟩
      unfold lookD at p1
      obtain ⟨z, q1, q2⟩ := Option.map_eq_some_iff.mp p1
      have m1 := List.mem_of_find?_eq_some q1
      have m2 := List.find?_some q1
      have : z = (k, d1) := by
        obtain ⟨z1, z2⟩ := z
        have : z1 = k := by simpa using m2
        cases q2
        rw [this]
      rw [← this]; exact m1
    · rw [p5] at c2; exact c2.elim
  · rw [p2] at c1; exact c1.elim

theorem eq_run (I : Inv X pins σ H s) (hu : X.A.units + 64 < cLine) {d e : D} {x y : V} {v u : Value} (h1 : TopR w Z H d x) (h2 : TopR w Z H e y) (rx : RelV x v) (ry : RelV y u) (ok : okE false 12 d e = true)
    {Q : Value → Shared → Prop} {E : Value → Shared → Prop} (q : Q (.bool (beqD d e)) s) : wpAny (model X.prog X.w) X.A (compareOp .Eq v u) Q E s := by
  have rc : ∀ {b}, RcAt X.A s v u b → b = beqD d e → wpAny (model X.prog X.w) X.A (compareOp .Eq v u) Q E s := fun {b} h z => h X.prog X.w E Q (by rw [z]; exact q)
  by_cases sc : d.sc = true ∧ e.sc = true
  · exact rc (rcAt_sc h1 h2 rx ry sc.1 sc.2) rfl
  · cases d with
    | tup xs =>
      obtain ⟨a, vs, rfl, ha, hr⟩ := h1
      cases rx
      obtain ⟨i1, v1, l1⟩ := tup_of I ha
      have k1 : i1.toArray.size = xs.length := by rw [List.size_toArray, ← v1.length, Reps.length hr]
      cases e with
      | tup ys =>
        obtain ⟨b, us, rfl, hb, hs⟩ := h2
        cases ry
        obtain ⟨i2, v2, l2⟩ := tup_of I hb
        have k2 : i2.toArray.size = ys.length := by rw [List.size_toArray, ← v2.length, Reps.length hs]
        refine PySem.W.eq_tuplesT l1 l2 (treesAt I (n := 11) hr hs v1 v2 ok) (by omega) ?_
        rw [k1, k2]
        have e : beqD (.tup xs) (.tup ys) = _ := beqL_min xs ys
        rw [← e]
        exact q
      | lst ys =>
        obtain ⟨b, us, rfl, hb, hs⟩ := h2
        cases ry
        obtain ⟨i2, v2, l2⟩ := list_of I hb
        exact rc (RcAt.tuple_list l1 l2 (by omega)) rfl
      | non | bl _ | int _ | str _ => exact rc (tup_sc l1 (by omega) h2 ry rfl).2.1 rfl
      | _ => simp [okE, D.sc] at ok
    | lst xs =>
      obtain ⟨a, vs, rfl, ha, hr⟩ := h1
      cases rx
      obtain ⟨i1, v1, l1⟩ := list_of I ha
      have k1 : i1.toArray.size = xs.length := by rw [List.size_toArray, ← v1.length, Reps.length hr]
      cases e with
      | lst ys =>
        obtain ⟨b, us, rfl, hb, hs⟩ := h2
        cases ry
        obtain ⟨i2, v2, l2⟩ := list_of I hb
        have k2 : i2.toArray.size = ys.length := by rw [List.size_toArray, ← v2.length, Reps.length hs]
        by_cases hl : xs.length = ys.length
        · simp only [okE, hl, bne_self_eq_false, Bool.false_or] at ok
          refine PySem.W.eq_listsT l1 l2 (by rw [k1, k2, hl]) (treesAt I (n := 11) hr hs v1 v2 ok) (by omega) ?_
          rw [k1]
          have e : beqD (.lst xs) (.lst ys) = _ := beqL_all xs ys hl
          rw [← e]
          exact q
        · exact rc (RcAt.lists_lengths l1 l2 (by rw [k1, k2]; simpa using hl) (by omega)) (beqL_len hl).symm
      | tup ys =>
        obtain ⟨b, us, rfl, hb, hs⟩ := h2
        cases ry
        obtain ⟨i2, v2, l2⟩ := tup_of I hb
        exact rc (RcAt.list_tuple l1 l2 (by omega)) rfl
      | non | bl _ | int _ | str _ => exact rc (lst_sc l1 (by omega) h2 ry rfl).2.1 rfl
      | _ => simp [okE, D.sc] at ok
    | dic ks =>
      cases e with
      | dic ls =>
        obtain ⟨a, us, rfl, ha, hr⟩ := h1
        obtain ⟨b, ws, rfl, hb, hs⟩ := h2
        cases rx; cases ry
        obtain ⟨_, sa, va, kva, da⟩ := dk_rd I.hok ha
        obtain ⟨_, sb, vb, kvb, db⟩ := dk_rd I.hok hb
        simp only [okE, Bool.not_false, Bool.true_and, List.all_eq_true] at ok
        refine PySem.W.eq_dictsT (n := 11) (e := hitK ks ls) sa sb da db (fun k v y hm hv => ?_) (by omega) (by rw [hit_len hr hs kva kvb (dk_nodup I ha)]; exact q)
        obtain ⟨d1, d2, x1, x2, m, l, hh, r1, r2, q1, q2⟩ := dic_at hr hs kva kvb (dk_nodup I ha) hm hv
        rw [hh]
        have o := ok (k, d1) m
        simp only [l] at o
        exact eqTree I 11 d1 d2 x1 x2 v y r1 r2 q1 q2 o
      | tup ys => simp [okE, D.sc] at ok
      | lst ys => simp [okE, D.sc] at ok
      | _ => simp [okE, D.sc] at ok
    | obj c fs => cases e <;> simp [okE, D.sc] at ok
    | scr ns => cases e <;> simp [okE, D.sc] at ok
    | non | bl _ | int _ | str _ =>
      cases e with
      | tup ys =>
        obtain ⟨b, us, rfl, hb, hs⟩ := h2
        cases ry
        obtain ⟨i2, v2, l2⟩ := tup_of I hb
        exact rc (tup_sc l2 (by omega) h1 rx rfl).2.2.2.2.1 rfl
      | lst ys =>
        obtain ⟨b, us, rfl, hb, hs⟩ := h2
        cases ry
        obtain ⟨i2, v2, l2⟩ := list_of I hb
        exact rc (lst_sc l2 (by omega) h1 rx rfl).2.2.2.2.1 rfl
      | non | bl _ | int _ | str _ => exact absurd ⟨rfl, rfl⟩ sc
      | _ => simp [okE, D.sc] at ok
theorem keqHits_of {A : Around} {kb : List (Key × Value)} {e : Key → Bool} : ∀ (r : List (Key × Value)), (∀ k v y, (k, v) ∈ r → valueAt kb k = some y → EqAt A s v y (e k)) →
    PySem.W.KeqHits A s kb r (r.all fun p => (valueAt kb p.1).isSome && e p.1)
  | [], _ => .nil
  | (k, v) :: r, h => by
    cases hv : valueAt kb k with
    | none =>
      have q : (((k, v) :: r).all fun p => (valueAt kb p.1).isSome && e p.1) = false := by simp [hv]
      rw [q]
      exact .miss hv
    | some y =>
      have q : (((k, v) :: r).all fun p => (valueAt kb p.1).isSome && e p.1) = (e k && r.all fun p => (valueAt kb p.1).isSome && e p.1) := by simp [hv]
      rw [q]
      exact .hit hv (h k v y List.mem_cons_self hv) (keqHits_of r fun k' v' y' hm hv' => h k' v' y' (List.mem_cons_of_mem _ hm) hv')
theorem ne_run (I : Inv X pins σ H s) (hu : X.A.units + 64 < cLine) {d e : D} {x y : V} {v u : Value} (h1 : TopR w Z H d x) (h2 : TopR w Z H e y) (rx : RelV x v) (ry : RelV y u) (ok : okN 11 d e = true)
    {Q : Value → Shared → Prop} {E : Value → Shared → Prop} (q : Q (.bool (!beqD d e)) s) : wpAny (model X.prog X.w) X.A (compareOp .NotEq v u) Q E s := by
  have rc : ∀ {b}, RcNeAt X.A s v u b → b = !beqD d e → wpAny (model X.prog X.w) X.A (compareOp .NotEq v u) Q E s := fun {b} h z => h X.prog X.w E Q (by rw [← z] at q; exact q)
  by_cases sc : d.sc = true ∧ e.sc = true
  · exact rc (rcNe_sc h1 h2 rx ry sc.1 sc.2) rfl
  · cases d with
    | tup xs =>
      obtain ⟨a, vs, rfl, ha, hr⟩ := h1
      cases rx
      obtain ⟨i1, v1, l1⟩ := tup_of I ha
      have k1 : i1.toArray.size = xs.length := by rw [List.size_toArray, ← v1.length, Reps.length hr]
      cases e with
      | tup ys =>
        obtain ⟨b, us, rfl, hb, hs⟩ := h2
        cases ry
        obtain ⟨i2, v2, l2⟩ := tup_of I hb
        have k2 : i2.toArray.size = ys.length := by rw [List.size_toArray, ← v2.length, Reps.length hs]
        refine rc (RcNeAt.tuples l1 l2 (by omega) (eqsAt I (n := 11) (by omega) hr hs v1 v2 ok)) ?_
        rw [k1, k2]
        have e : beqD (.tup xs) (.tup ys) = _ := beqL_min xs ys
        rw [← e]
      | lst ys =>
        obtain ⟨b, us, rfl, hb, hs⟩ := h2
        cases ry
        obtain ⟨i2, v2, l2⟩ := list_of I hb
        exact rc (RcNeAt.tuple_list l1 l2 (by omega)) rfl
      | non | bl _ | int _ | str _ => exact rc (tup_sc l1 (by omega) h2 ry rfl).2.2.1 rfl
      | _ => simp [okN, okE, D.sc] at ok
    | lst xs =>
      obtain ⟨a, vs, rfl, ha, hr⟩ := h1
      cases rx
      obtain ⟨i1, v1, l1⟩ := list_of I ha
      have k1 : i1.toArray.size = xs.length := by rw [List.size_toArray, ← v1.length, Reps.length hr]
      cases e with
      | lst ys =>
        obtain ⟨b, us, rfl, hb, hs⟩ := h2
        cases ry
        obtain ⟨i2, v2, l2⟩ := list_of I hb
        have k2 : i2.toArray.size = ys.length := by rw [List.size_toArray, ← v2.length, Reps.length hs]
        by_cases hl : xs.length = ys.length
        · simp only [okN, okE, hl, bne_self_eq_false, Bool.false_or] at ok
          refine rc (RcNeAt.lists l1 l2 (by rw [k1, k2, hl]) (by omega) (eqsAt I (n := 11) (by omega) hr hs v1 v2 ok)) ?_
          rw [k1]
          have e : beqD (.lst xs) (.lst ys) = _ := beqL_all xs ys hl
          rw [← e]
        · exact rc (RcNeAt.lists_lengths l1 l2 (by rw [k1, k2]; simpa using hl) (by omega)) (by rw [show beqD (.lst xs) (.lst ys) = false from beqL_len hl]; rfl)
      | tup ys =>
        obtain ⟨b, us, rfl, hb, hs⟩ := h2
        cases ry
        obtain ⟨i2, v2, l2⟩ := tup_of I hb
        exact rc (RcNeAt.list_tuple l1 l2 (by omega)) rfl
      | non | bl _ | int _ | str _ => exact rc (lst_sc l1 (by omega) h2 ry rfl).2.2.1 rfl
      | _ => simp [okN, okE, D.sc] at ok
    | dic ks =>
      cases e with
      | dic ls =>
        obtain ⟨a, us, rfl, ha, hr⟩ := h1
        obtain ⟨b, ws, rfl, hb, hs⟩ := h2
        cases rx; cases ry
        obtain ⟨_, sa, va, kva, da⟩ := dk_rd I.hok ha
        obtain ⟨_, sb, vb, kvb, db⟩ := dk_rd I.hok hb
        simp only [okN, List.all_eq_true] at ok
        refine PySem.W.keq_ne sa sb da db (by omega) (fun _ => keqHits_of (e := hitK ks ls) va fun k v y hm hv => ?_) (by rw [hit_len hr hs kva kvb (dk_nodup I ha)]; exact q)
        obtain ⟨d1, d2, x1, x2, m, l, hh, r1, r2, q1, q2⟩ := dic_at hr hs kva kvb (dk_nodup I ha) hm hv
        rw [hh]
        have o := ok (k, d1) m
        simp only [l] at o
        exact eqAtD I 11 d1 d2 x1 x2 v y r1 r2 q1 q2 o X.A.in1 (by show X.A.units + 1 + 11 < cLine; omega)
      | tup ys => simp [okN, okE, D.sc] at ok
      | lst ys => simp [okN, okE, D.sc] at ok
      | _ => simp [okN, okE, D.sc] at ok
    | obj c fs => cases e <;> simp [okN, okE, D.sc] at ok
    | scr ns => cases e <;> simp [okN, okE, D.sc] at ok
    | non | bl _ | int _ | str _ =>
      cases e with
      | tup ys =>
        obtain ⟨b, us, rfl, hb, hs⟩ := h2
        cases ry
        obtain ⟨i2, v2, l2⟩ := tup_of I hb
        exact rc (tup_sc l2 (by omega) h1 rx rfl).2.2.2.2.2 rfl
      | lst ys =>
        obtain ⟨b, us, rfl, hb, hs⟩ := h2
        cases ry
        obtain ⟨i2, v2, l2⟩ := list_of I hb
        exact rc (lst_sc l2 (by omega) h1 rx rfl).2.2.2.2.2 rfl
      | non | bl _ | int _ | str _ => exact absurd ⟨rfl, rfl⟩ sc
      | _ => simp [okN, okE, D.sc] at ok
theorem opd_eq (hu : X.A.units + 64 < cLine) : OpD X w (compareOp .Eq) dEq := by
  intro Zo fm σ H x y dx dy r v u Q pins s rf hx hy hg post I rx ry
  unfold dEq at hg
  split at hg
  · cases hg
    refine eq_run I hu hx hy rx ry (by assumption) ⟨.bl _, H, I, rfl, post_frz rf post rfl⟩
  · cases hg
theorem opd_ne (hu : X.A.units + 64 < cLine) : OpD X w (compareOp .NotEq) dNe := by
  intro Zo fm σ H x y dx dy r v u Q pins s rf hx hy hg post I rx ry
  unfold dNe at hg
  split at hg
  · cases hg
    refine ne_run I hu hx hy rx ry (by assumption) ⟨.bl _, H, I, rfl, post_frz rf post rfl⟩
  · cases hg
end
end U
end

section
set_option Elab.async false
set_option linter.all false
set_option maxRecDepth 100000
set_option maxHeartbeats 400000
set_option autoImplicit false
/-! U7: expressions: operators, comparisons, tests, and/or/not, if else, tuples, lists, subscripts. -/
namespace U
open PySem L2
open PyProof.Rows (isTrue_plain isTrue_and isTrue_or isTrue_not isTrue_and_nil isTrue_or_nil)

def bindM {α β : Type} (m : M α) (k : α → M β) : M β := fun fm => match m fm with
  | some (.ok a, fm1) => k a fm1
  | some (.ex x, fm1) => some (.ex x, fm1)
  | none => none
def retM {α : Type} (a : α) : M α := fun fm => some (.ok a, fm)

def PostX (w : Wd) (W : WX) (Zo : AP1) (σ : St) (H : Hp) (fm : Fm) {α : Type} (out : Out α) (fm' : Fm) : Prop :=
  ∀ x, out = .ex x → ∀ cls d H', StepS fm σ H fm' σ H' → RelF w Zo fm' σ H' → RelX w (Zx Zo fm' σ) H' x cls d → W cls d σ H'
section
variable {w : Wd} {W : WX} {Zo : AP1} {σ : St} {H H1 : Hp} {fm fm1 fm' : Fm}
theorem PostE.x {out : Out R} {Q : VK} (p : PostE w W Zo σ H fm out fm' Q) : PostX w W Zo σ H fm out fm' := fun x e => by subst e; exact p
theorem PostD.x {out : Out D} {Q : VK} (p : PostD w W Zo σ H fm out fm' Q) : PostX w W Zo σ H fm out fm' := fun x e => by subst e; exact p
theorem PostT.x {out : Out Bool} {Q : Bool → Hp → Prop} (p : PostT w W Zo σ H fm out fm' Q) : PostX w W Zo σ H fm out fm' := fun x e => by subst e; exact p
theorem PostX.step {α : Type} {out : Out α} (p : PostX w W Zo σ H fm out fm') (st : StepS fm σ H fm1 σ H1) : PostX w W Zo σ H1 fm1 out fm' := fun x e cls d H' st' rf rx => p x e cls d H' (st.trans st') rf rx
end
section
variable {X : Cx} {w : Wd} {W : WX} {e : Expr} {Zo : AP1} {σ : St} {H : Hp} {fm fm' : Fm}
theorem se_bind {α : Type} {ma : M R} {k : R → M α} (h : SE X w W e ma) {out : Out α} {G : VK} (rf : RelF w Zo fm σ H) (hm : bindM ma k fm = some (out, fm')) (px : PostX w W Zo σ H fm out fm')
    (go : ∀ r fm1 v H1, StepS fm σ H fm1 σ H1 → RelR w Zo fm1 σ H H1 r v → PostX w W Zo σ H1 fm1 out fm' → k r fm1 = some (out, fm') → G v H1) : wE X e σ H G := by
  unfold bindM at hm
  split at hm
  · rename_i r fm1 h1
    exact h Zo fm σ H _ fm1 G rf h1 fun v H1 st rr => go r fm1 v H1 st rr (px.step st) hm
  · rename_i x fm1 h1
    cases hm
    exact h Zo fm σ H _ _ G rf h1 (px x rfl)
  · cases hm
theorem sd_bind {α : Type} {ma : M D} {k : D → M α} (h : SD X w W e ma) {out : Out α} {G : VK} (rf : RelF w Zo fm σ H) (hm : bindM ma k fm = some (out, fm')) (px : PostX w W Zo σ H fm out fm')
    (go : ∀ r fm1 v H1, StepS fm σ H fm1 σ H1 → RelF w Zo fm1 σ H1 → Rep w (Zx Zo fm1 σ) H1 r v → PostX w W Zo σ H1 fm1 out fm' → k r fm1 = some (out, fm') → G v H1) : wE X e σ H G := by
  unfold bindM at hm
  split at hm
  · rename_i r fm1 h1
    exact h Zo fm σ H _ fm1 G rf h1 fun v H1 st rr rp => go r fm1 v H1 st rr rp (px.step st) hm
  · rename_i x fm1 h1
    cases hm
    exact h Zo fm σ H _ _ G rf h1 (px x rfl)
  · cases hm
theorem st_bind {α : Type} {ma : M Bool} {k : Bool → M α} (h : ST X w W e ma) {out : Out α} {G : Bool → Hp → Prop} (rf : RelF w Zo fm σ H) (hm : bindM ma k fm = some (out, fm')) (px : PostX w W Zo σ H fm out fm')
    (go : ∀ b fm1 H1, StepS fm σ H fm1 σ H1 → RelF w Zo fm1 σ H1 → PostX w W Zo σ H1 fm1 out fm' → k b fm1 = some (out, fm') → G b H1) : wT X e σ H G := by
  unfold bindM at hm
  split at hm
  · rename_i r fm1 h1
    exact h Zo fm σ H _ fm1 G rf h1 fun H1 st rr => go r fm1 H1 st rr (px.step st) hm
  · rename_i x fm1 h1
    cases hm
    exact h Zo fm σ H _ _ G rf h1 (px x rfl)
  · cases hm
end

/-! ### binary operators and comparisons -/
def op2 (g : D → D → Option R) (r1 r2 : R) : M R := fun fm => match r1.soft.get fm, r2.soft.get fm with
  | some d1, some d2 => (match g d1 d2 with
    | some r => some (.ok r, fm)
    | none => none)
  | _, _ => none
def eBin (g : D → D → Option R) (ma mb : M R) : M R := bindM ma fun r1 => bindM mb fun r2 => op2 g r1 r2
section
variable {X : Cx} {w : Wd} {W : WX} {a b : Expr} {ma mb : M R} {pos : Pos} {f : Value → Value → Sem Value} {g : D → D → Option R}
theorem bin_core (ha : SE X w W a ma) (hb : SE X w W b mb) (ho : OpD X w f g) {Zo : AP1} {fm : Fm} {σ : St} {H : Hp} {out : Out R} {fm' : Fm} {Q : VK} (rf : RelF w Zo fm σ H) (hm : eBin g ma mb fm = some (out, fm')) (post : PostE w W Zo σ H fm out fm' Q) :
    wE X a σ H fun x H1 => wE X b σ H1 fun y H2 => ∀ pins s v u, Inv X pins σ H2 s → RelV x v → RelV y u → wpAny (model X.prog X.w) X.A (f v u) (L2.EP X pins σ Q) X.xe s := by
  refine se_bind ha rf hm post.x fun r1 fm1 v1 H1 st1 rr1 px1 hk => se_bind hb rr1.rel hk px1 fun r2 fm2 v2 H2 st2 rr2 px2 hk2 => ?_
  intro pins s v u I rx ry
  unfold op2 at hk2
  split at hk2
  · rename_i d1 d2 g1 g2
    split at hk2
    · rename_i r hr
      cases hk2
      exact ho Zo _ σ H2 v1 v2 d1 d2 r v u Q pins s rr2.rel (soft_see rr1 st2 rr2.rel g1) (soft_see rr2 .refl rr2.rel g2) hr
        (fun v' H' k rr => post v' H' (st1.trans (st2.trans (.grow k))) (rr.back (st1.trans st2))) I rx ry
    · cases hk2
  · cases hk2
theorem se_bin {op : Operator} (ho : OpD X w (binaryOp op) g) (ha : SE X w W a ma) (hb : SE X w W b mb) : SE X w W (.BinOp a op b pos) (eBin g ma mb) := by
  intro Zo fm σ H out fm' Q rf hm post pins s I
  exact wpAny_BinOp (binT pe_w pe_w I (bin_core ha hb ho rf hm post) fun v u s2 x y H2 I2 rx ry q => q pins s2 v u I2 rx ry)
theorem se_cmp {op : CmpOp} (ho : OpD X w (compareOp op) g) (ha : SE X w W a ma) (hb : SE X w W b mb) (hn : behindInMarks op b = false) : SE X w W (.Compare a [op] [b] pos) (eBin g ma mb) := by
  intro Zo fm σ H out fm' Q rf hm post pins s I
  exact wpAny_Compare1 (binT pe_w pe_w I (bin_core ha hb ho rf hm post) fun v u s2 x y H2 I2 rx ry q => q pins s2 v u I2 rx ry) hn
/-- as a test: the answer is a bool -/
def D.bool? : D → Option Bool
  | .bl b => some b
  | _ => none
def R.bool? : R → Option Bool
  | .frz (.bl b) => some b
  | _ => none
def tOfE (m : M R) : M Bool := fun fm => match m fm with
  | some (.ok r, fm1) => (match r.bool? with
    | some b => some (.ok b, fm1)
    | none => none)
  | some (.ex x, fm1) => some (.ex x, fm1)
  | none => none
theorem bool_of {r : R} {b : Bool} (h : r.bool? = some b) : r = .frz (.bl b) := by
  cases r with
  | frz d => cases d <;> first | (cases h; rfl) | (exact nomatch h)
  | tmp d => cases h
  | var i => cases h
theorem post_tOfE {m : M R} {Zo : AP1} {fm : Fm} {σ : St} {H : Hp} {out : Out Bool} {fm' : Fm} {Q : Bool → Hp → Prop} (hm : tOfE m fm = some (out, fm')) (post : PostT w W Zo σ H fm out fm' Q) :
    ∃ out1, m fm = some (out1, fm') ∧ PostE w W Zo σ H fm out1 fm' (fun v H' => ∃ k, v = .bl k ∧ Q k H') := by
  unfold tOfE at hm
  split at hm
  · rename_i r fm1 h1
    split at hm
    · rename_i b hb
      cases hm
      refine ⟨_, h1, fun v H' st rr => ?_⟩
      rw [bool_of hb] at rr
      exact ⟨b, rr.2, post H' st rr.1⟩
    · cases hm
  · rename_i x fm1 h1
    cases hm
    exact ⟨_, h1, post⟩
  · cases hm
theorem st_cmp {op : CmpOp} (ho : OpD X w (compareOp op) g) (ha : SE X w W a ma) (hb : SE X w W b mb) (hn : behindInMarks op b = false) : ST X w W (.Compare a [op] [b] pos) (tOfE (eBin g ma mb)) := by
  intro Zo fm σ H out fm' Q rf hm post pins s I
  obtain ⟨out1, h1, p1⟩ := post_tOfE hm post
  refine wpAny_isTrue_Compare1 (binT pe_w pe_w I (bin_core ha hb ho rf h1 p1) fun v u s2 x y H2 I2 rx ry q => thn (q pins s2 v u I2 rx ry) fun c s3 ⟨z, H3, I3, r3, k, e, q3⟩ => ?_) hn
  subst e
  cases r3
  exact wpAny_truthy_bool ⟨H3, I3, q3⟩
/-- an expression whose value is a bool, as a test (a name, a call, a subscript, an attribute: he by fun _ => rfl) -/
theorem st_val {e : Expr} {m : M R} (h : SE X w W e m) (he : ∀ whole, isTrue e X.env whole = (do let v ← whole; standAt e.pos; holding [v] (truthy v)) := by intro _; rfl) : ST X w W e (tOfE m) := by
  intro Zo fm σ H out fm' Q rf hm post pins s I
  obtain ⟨out1, h1, p1⟩ := post_tOfE hm post
  refine isTrue_plain (thn (h Zo fm σ H out1 fm' _ rf h1 p1 pins s I) fun v s1 ⟨x, H1, I1, r1, k, e, q1⟩ => ?_) (he _)
  subst e
  cases r1
  exact wpAny_truthy_bool ⟨H1, I1, q1⟩
/-- by its truth -/
def D.tru : D → Option Bool
  | .non => some false
  | .bl b => some b
  | .int i => some (i != 0)
  | .str x => if x.length ≤ sizeLine then some ((x.length : Int) != 0) else none
  | .tup xs => some (!xs.isEmpty)
  | .lst xs => some (!xs.isEmpty)
  | .dic xs => some (!xs.isEmpty)
  | _ => none
end

/-! ### and, or, not, if else -/
def tAndM (m k : M Bool) : M Bool := bindM m fun b => if b = true then k else retM false
def tOrM (m k : M Bool) : M Bool := bindM m fun b => if b = true then retM true else k
def tNotM (m : M Bool) : M Bool := bindM m fun b => retM (!b)
def eOfT (m : M Bool) : M R := bindM m fun b => retM (.frz (.bl b))
def eIte (c : M Bool) (a b : M R) : M R := bindM c fun k => if k = true then a else b
def eNot (m : M R) : M R := bindM (tOfE m) fun b => retM (.frz (.bl (!b)))
def eAnd (m k : M R) : M R := bindM (tOfE m) fun b => if b = true then k else retM (.frz (.bl false))
def eOr (m k : M R) : M R := bindM (tOfE m) fun b => if b = true then retM (.frz (.bl true)) else k
section
variable {X : Cx} {w : Wd} {W : WX} {a b c : Expr} {ma mb : M R} {ta tb tc : M Bool} {pos : Pos} {rest : List Expr}
/-- a test whatever its 'whole' is -/
def SW (X : Cx) (w : Wd) (W : WX) (e : Expr) (m : M Bool) : Prop :=
  ∀ whole Zo fm σ H out fm' Q, RelF w Zo fm σ H → m fm = some (out, fm') → PostT w W Zo σ H fm out fm' Q → ∀ pins s, Inv X pins σ H s → wpAny (model X.prog X.w) X.A (isTrue e X.env whole) (TP X pins σ Q) X.xe s
theorem SW.st {e : Expr} {m : M Bool} (h : SW X w W e m) : ST X w W e m := fun Zo fm σ H out fm' Q rf hm post pins s I => h _ Zo fm σ H out fm' Q rf hm post pins s I
theorem sw_and1 (ha : ST X w W a ta) : SW X w W (.BoolOp .And [a] pos) ta := by
  intro wh Zo fm σ H out fm' Q rf hm post pins s I
  refine isTrue_and (thn (ha Zo fm σ H out fm' Q rf hm post pins s I) fun c s1 e => ?_)
  cases c with
  | true => exact isTrue_and_nil e
  | false => exact e
theorem sw_or1 (ha : ST X w W a ta) : SW X w W (.BoolOp .Or [a] pos) ta := by
  intro wh Zo fm σ H out fm' Q rf hm post pins s I
  refine isTrue_or (thn (ha Zo fm σ H out fm' Q rf hm post pins s I) fun c s1 e => ?_)
  cases c with
  | false => exact isTrue_or_nil e
  | true => exact e
theorem sw_and (ha : ST X w W a ta) (hb : SW X w W (.BoolOp .And (b :: rest) pos) tb) : SW X w W (.BoolOp .And (a :: b :: rest) pos) (tAndM ta tb) := by
  intro wh Zo fm σ H out fm' Q rf hm post pins s I
  refine isTrue_and (thn (st_bind (G := fun kb H1 => ∀ s1, Inv X pins σ H1 s1 → if kb = true then wpAny (model X.prog X.w) X.A (isTrue (.BoolOp .And (b :: rest) pos) X.env wh) (TP X pins σ Q) X.xe s1 else TP X pins σ Q false s1) ha rf hm post.x
    (fun k fm1 H1 st1 rf1 px1 hk s1 I1 => ?_) pins s I) fun c s1 ⟨H1, I1, q1⟩ => ?_)
  · cases k with
    | true =>
      simp only [if_true] at hk ⊢
      refine hb wh Zo fm1 σ H1 out fm' Q rf1 hk ?_ pins s1 I1
      cases out with
      | ok r => exact fun H' st rf' => post H' (st1.trans st) rf'
      | ex x => exact px1 x rfl
    | false =>
      simp only [Bool.false_eq_true, if_false] at hk ⊢
      cases hk
      exact ⟨H1, I1, post H1 st1 rf1⟩
  · have q := q1 s1 I1
    cases c with
    | true => exact q
    | false => exact q
theorem sw_or (ha : ST X w W a ta) (hb : SW X w W (.BoolOp .Or (b :: rest) pos) tb) : SW X w W (.BoolOp .Or (a :: b :: rest) pos) (tOrM ta tb) := by
  intro wh Zo fm σ H out fm' Q rf hm post pins s I
  refine isTrue_or (thn (st_bind (G := fun kb H1 => ∀ s1, Inv X pins σ H1 s1 → if kb = true then TP X pins σ Q true s1 else wpAny (model X.prog X.w) X.A (isTrue (.BoolOp .Or (b :: rest) pos) X.env wh) (TP X pins σ Q) X.xe s1) ha rf hm post.x
    (fun k fm1 H1 st1 rf1 px1 hk s1 I1 => ?_) pins s I) fun c s1 ⟨H1, I1, q1⟩ => ?_)
  · cases k with
    | false =>
      simp only [Bool.false_eq_true, if_false] at hk ⊢
      refine hb wh Zo fm1 σ H1 out fm' Q rf1 hk ?_ pins s1 I1
      cases out with
      | ok r => exact fun H' st rf' => post H' (st1.trans st) rf'
      | ex x => exact px1 x rfl
    | true =>
      simp only [if_true] at hk ⊢
      cases hk
      exact ⟨H1, I1, post H1 st1 rf1⟩
  · have q := q1 s1 I1
    cases c with
    | true => exact q
    | false => exact q
theorem st_not (ha : ST X w W a ta) : ST X w W (.UnaryOp .Not a pos) (tNotM ta) := by
  intro Zo fm σ H out fm' Q rf hm post pins s I
  exact isTrue_not (st_bind (G := fun c H1 => Q (!c) H1) ha rf hm post.x (fun k fm1 H1 st1 rf1 px1 hk => by cases hk; exact post H1 st1 rf1) pins s I)
theorem se_ite (hc : ST X w W c tc) (ha : SE X w W a ma) (hb : SE X w W b mb) : SE X w W (.IfExp c a b pos) (eIte tc ma mb) := by
  intro Zo fm σ H out fm' Q rf hm post pins s I
  refine wpAny_IfExp (thn (st_bind (G := fun k H1 => ∀ s1, Inv X pins σ H1 s1 → if k = true then wpAny (model X.prog X.w) X.A (eval a X.env) (L2.EP X pins σ Q) X.xe s1 else wpAny (model X.prog X.w) X.A (eval b X.env) (L2.EP X pins σ Q) X.xe s1) hc rf hm post.x
    (fun k fm1 H1 st1 rf1 px1 hk s1 I1 => ?_) pins s I) fun k s1 ⟨H1, I1, q1⟩ => ?_)
  · have p1 : PostE w W Zo σ H1 fm1 out fm' Q := by
      cases out with
      | ok r => exact fun v H' st rr => post v H' (st1.trans st) (rr.back st1)
      | ex x => exact px1 x rfl
    cases k with
    | true =>
      simp only [if_true] at hk ⊢
      exact ha Zo fm1 σ H1 out fm' Q rf1 hk p1 pins s1 I1
    | false =>
      simp only [Bool.false_eq_true, if_false] at hk ⊢
      exact hb Zo fm1 σ H1 out fm' Q rf1 hk p1 pins s1 I1
  · have q := q1 s1 I1
    cases k with
    | true => exact q
    | false => exact q
end
end U
end

section
set_option Elab.async false
set_option linter.all false
set_option maxRecDepth 100000
set_option maxHeartbeats 400000
set_option autoImplicit false
/-! U8: argument lists, displays, built-in calls, subscripts. -/
namespace U
open PySem L2

/-- a result that is kept while others are reckoned -/
def SeenR (w : Wd) (Zo : AP1) (fm : Fm) (σ : St) (H : Hp) : R → V → Prop
  | .frz d, v => Rep w (Zx Zo fm σ) H d v
  | .var i, v => σ[i]? = some (some v)
  | .tmp _, _ => False
def SeenL (w : Wd) (Zo : AP1) (fm : Fm) (σ : St) (H : Hp) : List R → List V → Prop
  | [], vs => vs = []
  | r :: rs, vs => ∃ v us, vs = v :: us ∧ SeenR w Zo fm σ H r v ∧ SeenL w Zo fm σ H rs us
def TopL (w : Wd) (Z : AP1) (H : Hp) : List D → List V → Prop
  | [], vs => vs = []
  | d :: ds, vs => ∃ v us, vs = v :: us ∧ TopR w Z H d v ∧ TopL w Z H ds us
def getAll (fm : Fm) : List R → Option (List D)
  | [] => some []
  | r :: rs => match r.get fm, getAll fm rs with
    | some d, some ds => some (d :: ds)
    | _, _ => none
def eArgs : List (M R) → M (List R)
  | [] => retM []
  | m :: ms => bindM m fun r => bindM (eArgs ms) fun rs => retM (r.soft :: rs)
def eDs : List (M R) → M (List D)
  | [] => retM []
  | m :: ms => bindM (eEat m) fun d => bindM (eDs ms) fun ds => retM (d :: ds)
section
variable {w : Wd} {Zo : AP1} {fm fm1 fm2 : Fm} {σ : St} {H H0 H1 H2 : Hp} {r : R} {v : V}
theorem RelR.seen (h : RelR w Zo fm σ H0 H r v) : SeenR w Zo fm σ H r.soft v := by
  cases r with
  | frz d => exact h.2
  | tmp d => obtain ⟨p, rfl, t⟩ := h; exact t.rep
  | var i => exact h.2.1
theorem SeenR.step (rf : RelF w Zo fm1 σ H1) (rf2 : RelF w Zo fm2 σ H2) (st : StepS fm1 σ H1 fm2 σ H2) (h : SeenR w Zo fm1 σ H1 r v) : SeenR w Zo fm2 σ H2 r v := by
  cases r with
  | frz d => exact Rep.step rf rf2 st h
  | tmp d => exact h
  | var i => exact h
theorem SeenL.step (rf : RelF w Zo fm1 σ H1) (rf2 : RelF w Zo fm2 σ H2) (st : StepS fm1 σ H1 fm2 σ H2) : ∀ {rs : List R} {vs : List V}, SeenL w Zo fm1 σ H1 rs vs → SeenL w Zo fm2 σ H2 rs vs
  | [], _, h => h
  | _ :: _, _, h => by
    obtain ⟨v, us, e, h1, h2⟩ := h
    exact ⟨v, us, e, h1.step rf rf2 st, SeenL.step rf rf2 st h2⟩
theorem SeenR.top {d : D} (rf : RelF w Zo fm σ H) (h : SeenR w Zo fm σ H r v) (g : r.get fm = some d) : TopR w (Zx Zo fm σ) H d v := by
  cases r with
  | frz d' => cases g; exact Rep.top h
  | tmp d' => exact h.elim
  | var i =>
    have g : (match fm[i]? with
      | some (some s) => some s.d
      | _ => none) = some d := g
    split at g
    · rename_i s hs
      cases g
      exact rf.see hs h
    · cases g
theorem SeenL.tops (rf : RelF w Zo fm σ H) : ∀ {rs : List R} {vs : List V} {ds : List D}, SeenL w Zo fm σ H rs vs → getAll fm rs = some ds → TopL w (Zx Zo fm σ) H ds vs
  | [], _, _, h, g => by cases g; exact h
  | r :: rs, _, ds, h, g => by
    obtain ⟨v, us, rfl, h1, h2⟩ := h
    unfold getAll at g
    split at g
    · rename_i d ds' g1 g2
      cases g
      exact ⟨v, us, rfl, h1.top rf g1, SeenL.tops rf h2 g2⟩
    · cases g
end

def wA (X : Cx) (es : List Expr) : TA := fun σ H Q => ∀ (pos : Pos) (pins : List (Addr × Obj)) (s : Shared), Inv X pins σ H s → wpAny (model X.prog X.w) X.A (spliced (backTo pos (starEach es X.env))) (L2.AP X pins σ Q) X.xe s
theorem pa_w {X : Cx} {es : List Expr} : PA X es (wA X es) := ⟨fun pos pins s _ _ _ I h => h pos pins s I⟩
/-- arguments, displays' items: from the left -/
def SA (X : Cx) (w : Wd) (W : WX) (es : List Expr) (ms : List (M R)) : Prop :=
  ∀ {α : Type} (k : List R → M α) Zo fm σ H (out : Out α) fm' (G : List V → Hp → Prop), RelF w Zo fm σ H → bindM (eArgs ms) k fm = some (out, fm') → PostX w W Zo σ H fm out fm' →
    (∀ rs fm1 vs H1, StepS fm σ H fm1 σ H1 → RelF w Zo fm1 σ H1 → SeenL w Zo fm1 σ H1 rs vs → PostX w W Zo σ H1 fm1 out fm' → k rs fm1 = some (out, fm') → G vs H1) → wA X es σ H G
/-- .. frozen -/
def SAD (X : Cx) (w : Wd) (W : WX) (es : List Expr) (ms : List (M R)) : Prop :=
  ∀ {α : Type} (k : List D → M α) Zo fm σ H (out : Out α) fm' (G : List V → Hp → Prop), RelF w Zo fm σ H → bindM (eDs ms) k fm = some (out, fm') → PostX w W Zo σ H fm out fm' →
    (∀ ds fm1 vs H1, StepS fm σ H fm1 σ H1 → RelF w Zo fm1 σ H1 → Reps w (Zx Zo fm1 σ) H1 ds vs → PostX w W Zo σ H1 fm1 out fm' → k ds fm1 = some (out, fm') → G vs H1) → wA X es σ H G
theorem bind_assoc {α β γ : Type} (m : M α) (k : α → M β) (l : β → M γ) : bindM (bindM m k) l = bindM m fun a => bindM (k a) l := by
  funext fm
  unfold bindM
  cases m fm with
  | none => rfl
  | some p =>
    obtain ⟨o, fm1⟩ := p
    cases o <;> rfl
theorem bind_ret {α β : Type} (a : α) (k : α → M β) : bindM (retM a) k = k a := rfl
section
variable {X : Cx} {w : Wd} {W : WX} {e : Expr} {es : List Expr} {m : M R} {ms : List (M R)}
theorem sa_nil : SA X w W [] [] := by
  intro α k Zo fm σ H out fm' G rf hm px go pos pins s I
  exact Calls.spliced_nil ⟨[], H, I, .nil, go [] fm [] H .refl rf rfl px hm⟩
theorem sa_cons (h : SE X w W e m) (hr : SA X w W es ms) (hs : starEach (e :: es) X.env = (false, eval e X.env) :: starEach es X.env := by rfl) : SA X w W (e :: es) (m :: ms) := by
  intro α k Zo fm σ H out fm' G rf hm px go
  have hm : bindM m (fun r => bindM (eArgs ms) fun rs => k (r.soft :: rs)) fm = some (out, fm') := by
    rw [← hm]
    show _ = bindM (bindM m fun r => bindM (eArgs ms) fun rs => retM (r.soft :: rs)) k fm
    rw [bind_assoc]
    congr 1
    funext r
    rw [bind_assoc]
    rfl
  intro pos pins s I
  refine (pa_cons (X := X) (e := e) (es := es) pe_w pa_w hs).run pos pins s σ H _ I ?_
  refine se_bind h rf hm px fun r fm1 v H1 st1 rr px1 hk => hr _ Zo fm1 σ H1 out fm' _ rr.rel hk px1 fun rs fm2 vs H2 st2 rf2 sl px2 hk2 => ?_
  exact go (r.soft :: rs) fm2 _ H2 (st1.trans st2) rf2 ⟨v, vs, rfl, rr.seen.step rr.rel rf2 st2, sl⟩ px2 hk2
theorem sad_nil : SAD X w W [] [] := by
  intro α k Zo fm σ H out fm' G rf hm px go pos pins s I
  exact Calls.spliced_nil ⟨[], H, I, .nil, go [] fm [] H .refl rf rfl px hm⟩
theorem sad_cons (h : SE X w W e m) (hr : SAD X w W es ms) (hs : starEach (e :: es) X.env = (false, eval e X.env) :: starEach es X.env := by rfl) : SAD X w W (e :: es) (m :: ms) := by
  intro α k Zo fm σ H out fm' G rf hm px go
  have hm : bindM (eEat m) (fun r => bindM (eDs ms) fun rs => k (r :: rs)) fm = some (out, fm') := by
    rw [← hm]
    show _ = bindM (bindM (eEat m) fun r => bindM (eDs ms) fun rs => retM (r :: rs)) k fm
    rw [bind_assoc]
    congr 1
    funext r
    rw [bind_assoc]
    rfl
  intro pos pins s I
  refine (pa_cons (X := X) (e := e) (es := es) pe_w pa_w hs).run pos pins s σ H _ I ?_
  refine sd_bind (sd_eat h) rf hm px fun d fm1 v H1 st1 rf1 rp px1 hk => hr _ Zo fm1 σ H1 out fm' _ rf1 hk px1 fun ds fm2 vs H2 st2 rf2 sl px2 hk2 => ?_
  exact go (d :: ds) fm2 _ H2 (st1.trans st2) rf2 ⟨v, vs, rfl, Rep.step rf1 rf2 st2 rp, sl⟩ px2 hk2
end

/-! ### tuples, lists -/
def eTup (ms : List (M R)) : M R := bindM (eDs ms) fun ds fm => if ds.length ≤ sizeLine then some (.ok (.frz (.tup ds)), fm) else none
def eLst (ms : List (M R)) : M R := bindM (eDs ms) fun ds fm => if ds.length ≤ sizeLine then some (.ok (.tmp (.lst ds)), fm) else none
section
variable {X : Cx} {w : Wd} {W : WX} {e : Expr} {es : List Expr} {m : M R} {ms : List (M R)} {pos : Pos}
theorem se_tup {x1} (h : SAD X w W es ms) : SE X w W (.Tuple es x1 pos) (eTup ms) := by
  intro Zo fm σ H out fm' Q rf hm post
  refine wE_of (pe_tup (pa_w (es := es))) (h _ Zo fm σ H out fm' _ rf hm post.x fun ds fm1 vs H1 st rf1 rp px hk => ?_)
  split at hk
  · cases hk
    exact ⟨by rw [rp.length]; assumption, fun p n => post _ _ (st.trans (.grow (HK.upd n))) (frz_tup rf1 n rp)⟩
  · cases hk
theorem se_lst (h : SAD X w W es ms) : SE X w W (.List es pos) (eLst ms) := by
  intro Zo fm σ H out fm' Q rf hm post
  refine wE_of (pe_lst (pa_w (es := es))) (h _ Zo fm σ H out fm' _ rf hm post.x fun ds fm1 vs H1 st rf1 rp px hk => ?_)
  split at hk
  · cases hk
    exact ⟨by rw [rp.length]; assumption, fun p n => post _ _ (st.trans (.grow (HK.upd n))) ((tmp_lst rf1 n rp).back st)⟩
  · cases hk
end

/-! ### built-in functions and types -/
/-- a built-in by what it is worth on data -/
def CallD (X : Cx) (w : Wd) (f : Value) (g : List D → Option R) : Prop :=
  ∀ (Zo : AP1) (fm : Fm) (σ : St) (H : Hp) (ds : List D) (vs : List V) (us : List Value) (r : R) (Q : VK) (pins : List (Addr × Obj)) (s : Shared),
    RelF w Zo fm σ H → TopL w (Zx Zo fm σ) H ds vs → g ds = some r → (∀ v' H', HK H H' → RelR w Zo fm σ H H' r v' → Q v' H') →
    Inv X pins σ H s → Vals vs us → wpAny (model X.prog X.w) X.A (call f us) (L2.EP X pins σ Q) X.xe s
theorem calld_of {X : Cx} {w : Wd} {f : Value} {g : List D → Option R} {r0 : List V → Hp → VK → Prop} (h : CallR X f r0)
    (hr : ∀ (Zo : AP1) (fm : Fm) (σ : St) (H : Hp) (ds : List D) (vs : List V) (r : R) (Q : VK), RelF w Zo fm σ H → TopL w (Zx Zo fm σ) H ds vs → g ds = some r →
      (∀ v' H', HK H H' → RelR w Zo fm σ H H' r v' → Q v' H') → r0 vs H Q) : CallD X w f g :=
  fun Zo fm σ H ds vs us r Q pins s rf ht hg post I rv => h pins s σ H vs us Q I rv (hr Zo fm σ H ds vs r Q rf ht hg post)
def opL (g : List D → Option R) (rs : List R) : M R := fun fm => match getAll fm rs with
  | some ds => (match g ds with
    | some r => some (.ok r, fm)
    | none => none)
  | none => none
def eCallB (g : List D → Option R) (ms : List (M R)) : M R := bindM (eArgs ms) (opL g)
section
variable {X : Cx} {w : Wd} {W : WX} {e : Expr} {es : List Expr} {m : M R} {ms : List (M R)} {p pos : Pos} {x : Str} {id T : String} {g : List D → Option R}
theorem callB_core {f : Value} (hc : CallD X w f g) (ha : SA X w W es ms) {Zo : AP1} {fm : Fm} {σ : St} {H : Hp} {out : Out R} {fm' : Fm} {Q : VK} (rf : RelF w Zo fm σ H) (hm : eCallB g ms fm = some (out, fm')) (post : PostE w W Zo σ H fm out fm' Q) :
    wA X es σ H fun vs H1 => ∀ pins s us, Inv X pins σ H1 s → Vals vs us → wpAny (model X.prog X.w) X.A (call f us) (L2.EP X pins σ Q) X.xe s := by
  refine ha _ Zo fm σ H out fm' _ rf hm post.x fun rs fm1 vs H1 st rf1 sl px hk pins s us I rv => ?_
  unfold opL at hk
  split at hk
  · rename_i ds hds
    split at hk
    · rename_i r hr
      cases hk
      exact hc Zo _ σ H1 ds vs us r Q pins s rf1 (sl.tops rf1 hds) hr (fun v' H' k rr => post v' H' (st.trans (.grow k)) (rr.back st)) I rv
    · cases hk
  · cases hk
theorem se_callB (hc : CallD X w (.builtin id) g) (hg : Gl X x) (hm0 : X.mg x = none) (hv : bootBuiltins x = some (.builtin id)) (ha : SA X w W (e :: es) ms) (hn : x ≠ "__name__" := by decide) (hdb : (x == ("__debug__" : Str)) = false := by decide)
    (he : starEach (e :: es) X.env = (false, eval e X.env) :: starEach es X.env := by rfl) (hpl : (backTo pos (starEach es X.env)).any (·.1) = false := by rfl) : SE X w W (.Call (.Name x p) (e :: es) [] pos) (eCallB g ms) := by
  intro Zo fm σ H out fm' Q rf hm post pins s I
  refine wpAny_Call_Name_kw (ld_blt I hg hm0 hv ?_ hn hdb)
  exact PyProof.Rows.callWith_builtin1 (thn (callB_core hc ha rf hm post pos pins s I) fun us s1 ⟨vs, H1, I1, r1, q1⟩ => q1 pins s1 us I1 r1) he hpl
theorem se_callT (hc : CallD X w (.type T) g) (hg : Gl X x) (hm0 : X.mg x = none) (hv : bootBuiltins x = some (.type T)) (ha : SA X w W (e :: es) ms) (hn : x ≠ "__name__" := by decide) (hdb : (x == ("__debug__" : Str)) = false := by decide)
    (he : starEach (e :: es) X.env = (false, eval e X.env) :: starEach es X.env := by rfl) (hpl : (backTo pos (starEach es X.env)).any (·.1) = false := by rfl) : SE X w W (.Call (.Name x p) (e :: es) [] pos) (eCallB g ms) := by
  intro Zo fm σ H out fm' Q rf hm post pins s I
  refine wpAny_Call_Name_kw (ld_blt I hg hm0 hv ?_ hn hdb)
  exact PyProof.Rows.callWith_type1 (thn (callB_core hc ha rf hm post pos pins s I) fun us s1 ⟨vs, H1, I1, r1, q1⟩ => q1 pins s1 us I1 r1) he hpl
end
theorem topL1 {w : Wd} {Z : AP1} {H : Hp} {d : D} {vs : List V} (h : TopL w Z H [d] vs) : ∃ v, vs = [v] ∧ TopR w Z H d v := by
  obtain ⟨v, us, rfl, h1, h2⟩ := h
  have : us = [] := h2
  exact ⟨v, by rw [this], h1⟩
theorem topL2 {w : Wd} {Z : AP1} {H : Hp} {d e : D} {vs : List V} (h : TopL w Z H [d, e] vs) : ∃ v u, vs = [v, u] ∧ TopR w Z H d v ∧ TopR w Z H e u := by
  obtain ⟨v, us, rfl, h1, h2⟩ := h
  obtain ⟨u, rfl, h3⟩ := topL1 h2
  exact ⟨v, u, rfl, h1, h3⟩
/-! len, int, str of a text, bool, list, tuple, sum, min, sorted -/
def dLen : List D → Option R
  | [.str x] => if x.length ≤ sizeLine then some (.frz (.int x.length)) else none
  | [.lst xs] => some (.frz (.int xs.length))
  | [.tup xs] => some (.frz (.int xs.length))
  | [.scr xs] => some (.frz (.int xs.length))
  | _ => none
def dInt : List D → Option R
  | [.int i] => some (.frz (.int i))
  | _ => none
def dList : List D → Option R
  | [.lst xs] => some (.tmp (.lst xs))
  | [.tup xs] => some (.tmp (.lst xs))
  | _ => none
def dTuple : List D → Option R
  | [.lst xs] => some (.frz (.tup xs))
  | _ => none
def ints? : List D → Option (List Int)
  | [] => some []
  | .int i :: r => (ints? r).map (i :: ·)
  | _ => none
def strs? : List D → Option (List Str)
  | [] => some []
  | .str i :: r => (strs? r).map (i :: ·)
  | _ => none
theorem ints_map : ∀ {xs : List D} {ns : List Int}, ints? xs = some ns → xs = ns.map D.int
  | [], _, h => by cases h; rfl
  | .int i :: r, ns, h => by
    unfold ints? at h
    obtain ⟨ms, h1, rfl⟩ := Option.map_eq_some_iff.mp h
    rw [ints_map h1]; rfl
theorem strs_map : ∀ {xs : List D} {ns : List Str}, strs? xs = some ns → xs = ns.map D.str
  | [], _, h => by cases h; rfl
  | .str i :: r, ns, h => by
    unfold strs? at h
    obtain ⟨ms, h1, rfl⟩ := Option.map_eq_some_iff.mp h
    rw [strs_map h1]; rfl
theorem ints_of (ns : List Int) : ints? (ns.map D.int) = some ns := by
  induction ns with
  | nil => rfl
  | cons n ns ih => simp [ints?, ih]
theorem strs_of (ns : List Str) : strs? (ns.map D.str) = some ns := by
  induction ns with
  | nil => rfl
  | cons n ns ih => simp [strs?, ih]
def dSum : List D → Option R
  | [.lst xs] => (ints? xs).map fun ns => .frz (.int ns.sum)
  | _ => none
def minI : List Int → Int
  | [] => 0
  | [n] => n
  | n :: r => min n (minI r)
def maxI : List Int → Int
  | [] => 0
  | [n] => n
  | n :: r => max n (maxI r)
def dMin : List D → Option R
  | [.lst xs] => (match ints? xs with
    | some (n :: ns) => some (.frz (.int (minI (n :: ns))))
    | _ => none)
  | [.int i, .int j] => some (.frz (.int (if j < i then j else i)))
  | _ => none
def dMax : List D → Option R
  | [.lst xs] => (match ints? xs with
    | some (n :: ns) => some (.frz (.int (maxI (n :: ns))))
    | _ => none)
  | [.int i, .int j] => some (.frz (.int (if j > i then j else i)))
  | _ => none
theorem minI_mem : ∀ (n : Int) (r : List Int), minI (n :: r) ∈ n :: r
  | n, [] => by simp [minI]
  | n, m :: r => by
    have ih := minI_mem m r
    show min n (minI (m :: r)) ∈ _
    rcases Int.le_total n (minI (m :: r)) with h | h
    · rw [Int.min_eq_left h]; exact List.mem_cons_self
    · rw [Int.min_eq_right h]; exact List.mem_cons_of_mem _ ih
theorem minI_le : ∀ (n : Int) (r : List Int) (y : Int), y ∈ n :: r → minI (n :: r) ≤ y
  | n, [], y, h => by simp at h; subst h; exact Int.le_refl _
  | n, m :: r, y, h => by
    show min n (minI (m :: r)) ≤ y
    rcases List.mem_cons.mp h with h | h
    · subst h; exact Int.min_le_left _ _
    · exact Int.le_trans (Int.min_le_right _ _) (minI_le m r y h)
theorem maxI_mem : ∀ (n : Int) (r : List Int), maxI (n :: r) ∈ n :: r
  | n, [] => by simp [maxI]
  | n, m :: r => by
    have ih := maxI_mem m r
    show max n (maxI (m :: r)) ∈ _
    rcases Int.le_total n (maxI (m :: r)) with h | h
    · rw [Int.max_eq_right h]; exact List.mem_cons_of_mem _ ih
    · rw [Int.max_eq_left h]; exact List.mem_cons_self
theorem maxI_le : ∀ (n : Int) (r : List Int) (y : Int), y ∈ n :: r → y ≤ maxI (n :: r)
  | n, [], y, h => by simp at h; subst h; exact Int.le_refl _
  | n, m :: r, y, h => by
    show y ≤ max n (maxI (m :: r))
    rcases List.mem_cons.mp h with h | h
    · subst h; exact Int.le_max_left _ _
    · exact Int.le_trans (maxI_le m r y h) (Int.le_max_right _ _)
section
variable {X : Cx} {w : Wd}
theorem cd_len (hw : X.K = w.K) : CallD X w (.builtin "len") dLen := calld_of call_len fun Zo fm σ H ds vs r Q rf ht hg post => by
  unfold dLen at hg
  split at hg
  · split at hg
    · cases hg
      obtain ⟨v, rfl, h⟩ := topL1 ht
      exact ⟨_, _, rfl, by rw [show v = _ from h]; exact ⟨by assumption, rfl⟩, post_frz rf post rfl⟩
    · cases hg
  · cases hg
    obtain ⟨v, rfl, a, us, rfl, ha, hr⟩ := topL1 ht
    exact ⟨_, _, rfl, .inl ⟨us, SqL.of ha, rfl⟩, post_frz rf post (by rw [hr.length]; rfl)⟩
  · cases hg
    obtain ⟨v, rfl, a, us, rfl, ha, hr⟩ := topL1 ht
    exact ⟨_, _, rfl, .inr ⟨us, SqT.of ha, rfl⟩, post_frz rf post (by rw [hr.length]; rfl)⟩
  · cases hg
    obtain ⟨v, rfl, a, rfl, ha⟩ := topL1 ht
    exact ⟨_, _, rfl, .inl ⟨_, by rw [hw]; exact ha, rfl⟩, post_frz rf post (by rw [List.length_map]; rfl)⟩
  · cases hg
theorem cd_int : CallD X w (.type "int") dInt := calld_of call_int1 fun Zo fm σ H ds vs r Q rf ht hg post => by
  unfold dInt at hg
  split at hg
  · cases hg
    obtain ⟨v, rfl, h⟩ := topL1 ht
    exact .inl ⟨_, by rw [show v = _ from h], post_frz rf post rfl⟩
  · cases hg
theorem cd_list : CallD X w (.type "list") dList := calld_of call_list_of fun Zo fm σ H ds vs r Q rf ht hg post => by
  unfold dList at hg
  split at hg
  · cases hg
    obtain ⟨v, rfl, a, us, rfl, ha, hr⟩ := topL1 ht
    exact ⟨a, us, rfl, .inl (SqL.of ha), fun p n => post _ _ (HK.upd n) (tmp_lst rf n hr)⟩
  · cases hg
    obtain ⟨v, rfl, a, us, rfl, ha, hr⟩ := topL1 ht
    exact ⟨a, us, rfl, .inr (SqT.of ha), fun p n => post _ _ (HK.upd n) (tmp_lst rf n hr)⟩
  · cases hg
theorem cd_tuple : CallD X w (.type "tuple") dTuple := calld_of call_tuple_of fun Zo fm σ H ds vs r Q rf ht hg post => by
  unfold dTuple at hg
  split at hg
  · cases hg
    obtain ⟨v, rfl, a, us, rfl, ha, hr⟩ := topL1 ht
    exact ⟨a, us, rfl, .inl ⟨SqL.of ha, fun p n => post _ _ (HK.upd n) (frz_tup rf n hr)⟩⟩
  · cases hg
end
end U
end

section
set_option Elab.async false
set_option linter.all false
set_option maxRecDepth 100000
set_option maxHeartbeats 400000
set_option autoImplicit false
/-! U9: functions of data (Fn), their promises (spF), calls. -/
namespace U
open PySem L2

/-- a def's worth: from its parameters' slots: what it hands back, what borrowed parameters hold then -/
abbrev Fn := List Slot → Option (Out R × List D)

/-- parameters at a call -/
structure RelP (w : Wd) (Zo : AP1) (ps : List Slot) (vs : List V) (H : Hp) : Prop where
  len : ps.length = vs.length
  ok : ∀ (i : Nat) (s : Slot), ps[i]? = some s → s.k ≠ .own ∧ ∃ v, vs[i]? = some v ∧ SlotOk w Zo Zo H s v
  uniq : ∀ (i j : Nat) (s t : Slot) (a : Addr), i ≠ j → ps[i]? = some s → ps[j]? = some t → s.k = .bor → t.k ≠ .frz → vs[i]? = some (.ref a) → vs[j]? = some (.ref a) → False
  live : ∀ a, Zo a → ∃ o, H a = some o
/-- the borrowed addresses -/
def BorP (ps : List Slot) (vs : List V) (a : Addr) : Prop := ∃ (i : Nat) (d : D), ps[i]? = some ⟨.bor, d⟩ ∧ vs[i]? = some (.ref a)
def FinsOk (w : Wd) (Z : AP1) (H : Hp) (ps : List Slot) (vs : List V) (fins : List D) : Prop :=
  ∀ (i : Nat) (d : D) (a : Addr), ps[i]? = some ⟨.bor, d⟩ → vs[i]? = some (.ref a) → ∃ d', fins[i]? = some d' ∧ TopX w Z H d' a
structure KeepP (ps : List Slot) (vs : List V) (H H' : Hp) : Prop where
  keep : ∀ a o, H a = some o → ¬ BorP ps vs a → H' a = some o
  there : ∀ a o, H a = some o → ∃ o', H' a = some o'
/-- what a call shows -/
def PostF (w : Wd) (Zo : AP1) (ps : List Slot) (vs : List V) (H : Hp) (out : Out R) (fins : List D) (Q : VK) (E : XK) : Prop := match out with
  | .ok (.frz d) => ∀ v H', KeepP ps vs H H' → FinsOk w Zo H' ps vs fins → Rep w Zo H' d v → Q v H'
  | .ok (.tmp d) => ∀ p H', KeepP ps vs H H' → H p = none → FinsOk w (Zp Zo p) H' ps vs fins → TopX w (Zp Zo p) H' d p → Q (.ref p) H'
  | .ok (.var _) => False
  | .ex x => ∀ cls dx H', KeepP ps vs H H' → FinsOk w Zo H' ps vs fins → RelX w Zo H' x cls dx → E cls dx H'
/-- the promise of a def that is worth F -/
def spF (w : Wd) (n : Nat) (F : Fn) : Sp := fun vs H Q E => vs.length = n ∧ ∃ Zo ps out fins, RelP w Zo ps vs H ∧ F ps = some (out, fins) ∧ PostF w Zo ps vs H out fins Q E

/-- an argument: its value, or a slot lent to be changed -/
inductive Ag where
  | val (m : M R) | bor (i : Nat)
def Ag.m : Ag → M R
  | .val m => m
  | .bor i => eVar i
def Ag.b : Ag → Bool
  | .val _ => false
  | .bor _ => true
/-- a parameter's slot from an argument -/
def slotV : Bool → Option (Option Slot) → Option Slot
  | false, some (some ⟨.frz, d⟩) => some ⟨.frz, d⟩
  | false, some (some ⟨.ro, d⟩) => some ⟨.ro, d⟩
  | false, some (some ⟨.own, d⟩) => if d.ns = true then some ⟨.ro, d⟩ else none
  | false, some (some ⟨.bor, d⟩) => if d.ns = true then some ⟨.ro, d⟩ else none
  | true, some (some ⟨.own, d⟩) => some ⟨.bor, d⟩
  | true, some (some ⟨.bor, d⟩) => some ⟨.bor, d⟩
  | _, _ => none
def slotOf (fm : Fm) (b : Bool) : R → Option Slot
  | .frz d => if b = true then none else some ⟨.frz, d⟩
  | .tmp d => none
  | .var i => slotV b fm[i]?
def slotsOf (fm : Fm) : List Bool → List R → Option (List Slot)
  | [], [] => some []
  | b :: bs, r :: rs => match slotOf fm b r, slotsOf fm bs rs with
    | some s, some ss => some (s :: ss)
    | _, _ => none
  | _, _ => none
/-- the lent slots take what they hold behind the call -/
def wback : Fm → List Bool → List R → List D → Fm
  | fm, true :: bs, .var i :: rs, d :: ds => wback (match fm[i]? with
    | some (some s) => fm.set i (some ⟨s.k, d⟩)
    | _ => fm) bs rs ds
  | fm, _ :: bs, _ :: rs, _ :: ds => wback fm bs rs ds
  | fm, _, _, _ => fm
/-- the index of a result that is a slot's -/
def R.ix : R → Option Nat
  | .var i => some i
  | _ => none
/-- no lent slot stands twice -/
def apart : List Bool → List R → Bool
  | b :: bs, r :: rs => (match r.ix with
    | some i => ((bs.zip rs).all fun p => p.2.ix != some i || (!b && !p.1))
    | none => true) && apart bs rs
  | _, _ => true
/-- what a def may hand back -/
def Out.fin : Out R → Bool
  | .ok (.var _) => false
  | _ => true
def callM (F : Fn) (bs : List Bool) (rs : List R) : M R := fun fm =>
  if apart bs rs = true then (match slotsOf fm bs rs with
    | some ps => (match F ps with
      | some (out, fins) => if out.fin = true then some (out, wback fm bs rs fins) else none
      | none => none)
    | none => none)
  else none
def eCall (F : Fn) (as : List Ag) : M R := bindM (eArgs (as.map Ag.m)) (callM F (as.map Ag.b))

section
variable {w : Wd} {Zo : AP1} {fm : Fm} {σ : St} {H : Hp}
theorem slots_len : ∀ {bs : List Bool} {rs : List R} {ps : List Slot}, slotsOf fm bs rs = some ps → ps.length = rs.length ∧ bs.length = rs.length
  | [], [], _, h => by cases h; exact ⟨rfl, rfl⟩
  | [], _ :: _, _, h => by cases h
  | _ :: _, [], _, h => by cases h
  | b :: bs, r :: rs, ps, h => by
    unfold slotsOf at h
    split at h
    · rename_i s ss h1 h2
      cases h
      obtain ⟨a, b⟩ := slots_len h2
      exact ⟨by simp [a], by simp [b]⟩
    · cases h
theorem slots_at : ∀ {bs : List Bool} {rs : List R} {ps : List Slot} {i : Nat} {s : Slot}, slotsOf fm bs rs = some ps → ps[i]? = some s → ∃ b r, bs[i]? = some b ∧ rs[i]? = some r ∧ slotOf fm b r = some s
  | [], [], _, _, _, h, e => by cases h; simp at e
  | [], _ :: _, _, _, _, h, _ => by cases h
  | _ :: _, [], _, _, _, h, _ => by cases h
  | b :: bs, r :: rs, ps, i, s, h, e => by
    unfold slotsOf at h
    split at h
    · rename_i s0 ss h1 h2
      cases h
      cases i with
      | zero => cases e; exact ⟨b, r, rfl, rfl, h1⟩
      | succ i =>
        obtain ⟨b', r', q1, q2, q3⟩ := slots_at h2 (by simpa using e)
        exact ⟨b', r', by simpa using q1, by simpa using q2, q3⟩
    · cases h
theorem seen_at : ∀ {rs : List R} {vs : List V} {i : Nat} {r : R}, SeenL w Zo fm σ H rs vs → rs[i]? = some r → ∃ v, vs[i]? = some v ∧ SeenR w Zo fm σ H r v
  | [], _, _, _, _, e => by simp at e
  | r0 :: rs, vs, 0, r, h, e => by
    obtain ⟨v, us, rfl, h1, h2⟩ := h
    cases e
    exact ⟨v, rfl, h1⟩
  | r0 :: rs, vs, i + 1, r, h, e => by
    obtain ⟨v, us, rfl, h1, h2⟩ := h
    obtain ⟨v', q1, q2⟩ := seen_at (i := i) h2 (by simpa using e)
    exact ⟨v', by simpa using q1, q2⟩
theorem seen_len : ∀ {rs : List R} {vs : List V}, SeenL w Zo fm σ H rs vs → vs.length = rs.length
  | [], _, h => by
    have : _ = [] := h
    rw [this] <;> rfl
  | _ :: _, _, h => by
    obtain ⟨v, us, rfl, h1, h2⟩ := h
    simp [seen_len h2]
/-- a slot's index stands behind a lent argument once -/
theorem apart_at : ∀ {bs : List Bool} {rs : List R} {i j : Nat} {b c : Bool} {r t : R} {k : Nat}, apart bs rs = true → i ≠ j → bs[i]? = some b → bs[j]? = some c → rs[i]? = some r → rs[j]? = some t → r.ix = some k → t.ix = some k → b = false ∧ c = false
  | [], _, _, _, _, _, _, _, _, _, _, h, _, _, _, _, _ => by simp at h
  | _ :: _, [], _, _, _, _, _, _, _, _, _, _, _, h, _, _, _ => by simp at h
  | b0 :: bs, r0 :: rs, 0, 0, _, _, _, _, _, _, h, _, _, _, _, _, _ => absurd rfl h
  | b0 :: bs, r0 :: rs, 0, j + 1, b, c, r, t, k, ap, _, h1, h2, h3, h4, h5, h6 => by
    unfold apart at ap
    cases h1; cases h3
    rw [Bool.and_eq_true] at ap
    rw [h5] at ap
    have q := List.all_eq_true.mp ap.1 (c, t) (List.mem_of_getElem? (i := j) (by rw [List.getElem?_zip_eq_some]; exact ⟨by simpa using h2, by simpa using h4⟩))
    rw [h6] at q
    cases b0 <;> cases c <;> simp at q ⊢
  | b0 :: bs, r0 :: rs, i + 1, 0, b, c, r, t, k, ap, _, h1, h2, h3, h4, h5, h6 => by
    unfold apart at ap
    cases h2; cases h4
    rw [Bool.and_eq_true] at ap
    rw [h6] at ap
    have q := List.all_eq_true.mp ap.1 (b, r) (List.mem_of_getElem? (i := i) (by rw [List.getElem?_zip_eq_some]; exact ⟨by simpa using h1, by simpa using h3⟩))
    rw [h5] at q
    cases b0 <;> cases b <;> simp at q ⊢
  | b0 :: bs, r0 :: rs, i + 1, j + 1, b, c, r, t, k, ap, hij, h1, h2, h3, h4, h5, h6 => by
    unfold apart at ap
    rw [Bool.and_eq_true] at ap
    exact apart_at (i := i) (j := j) ap.2 (by omega) (by simpa using h1) (by simpa using h2) (by simpa using h3) (by simpa using h4) h5 h6

/-- the caller's slots as the callee's parameters -/
theorem relP_of (rf : RelF w Zo fm σ H) {bs : List Bool} {rs : List R} {ps : List Slot} {vs : List V} (hs : slotsOf fm bs rs = some ps) (sl : SeenL w Zo fm σ H rs vs) (ap : apart bs rs = true) : RelP w (Zx Zo fm σ) ps vs H := by
  -- what a non-frozen parameter is
  have from_ : ∀ {b : Bool} {r : R} {s : Slot} {v : V}, slotOf fm b r = some s → SeenR w Zo fm σ H r v → s.k ≠ .own ∧ SlotOk w (Zx Zo fm σ) (Zx Zo fm σ) H s v ∧
      (s.k ≠ .frz → ∃ i t, r = .var i ∧ fm[i]? = some (some t) ∧ t.k ≠ .frz ∧ σ[i]? = some (some v) ∧ (s.k = .bor → (t.k = .own ∨ t.k = .bor) ∧ b = true ∧ s.d = t.d) ∧ (b = true → s.k = .bor)) := by
    intro b r s v h1 h2
    cases r with
    | frz d =>
      unfold slotOf at h1
      cases b with
      | true => cases h1
      | false =>
        cases h1
        exact ⟨(fun z => nomatch z), h2, (fun z => absurd rfl z)⟩
    | tmp d => cases h1
    | var i =>
      have h2 : σ[i]? = some (some v) := h2
      have h1 : slotV b fm[i]? = some s := h1
      cases hd : fm[i]? with
      | none => rw [hd] at h1; cases b <;> cases h1
      | some o =>
        cases o with
        | none => rw [hd] at h1; cases b <;> cases h1
        | some t =>
          obtain ⟨k, d⟩ := t
          rw [hd] at h1
          obtain ⟨v', hv', ok⟩ := rf.ok i _ hd
          rw [h2] at hv'; cases hv'
          have tx : (k = .own ∨ k = .bor) → ∃ a, v = .ref a ∧ Zx Zo fm σ a ∧ TopX w (Zx Zo fm σ) H d a := fun kk => by
            rcases kk with rfl | rfl
            · obtain ⟨a, e, _, t⟩ : ∃ a, v = .ref a ∧ ¬ Zo a ∧ TopX w (Zx Zo fm σ) H d a := ok
              exact ⟨a, e, .inr ⟨i, d, hd, by rw [e] at h2; exact h2⟩, t⟩
            · obtain ⟨a, e, z, t⟩ : ∃ a, v = .ref a ∧ Zo a ∧ TopX w (Zx Zo fm σ) H d a := ok
              exact ⟨a, e, .inl z, t⟩
          cases b with
          | false =>
            cases k with
            | frz =>
              cases h1
              exact ⟨(fun z => nomatch z), ok, (fun z => absurd rfl z)⟩
            | ro =>
              cases h1
              exact ⟨(fun z => nomatch z), ok, fun _ => ⟨i, _, rfl, hd, (fun z => nomatch z), h2, (fun z => nomatch z), (fun z => nomatch z)⟩⟩
            | own =>
              have h1 : (if d.ns = true then some (⟨.ro, d⟩ : Slot) else none) = some s := h1
              split at h1
              · rename_i hn
                cases h1
                obtain ⟨a, e, _, t⟩ := tx (.inl rfl)
                exact ⟨(fun z => nomatch z), ⟨a, e, hn, by rw [e]; exact t.top⟩, fun _ => ⟨i, _, rfl, hd, (fun z => nomatch z), h2, (fun z => nomatch z), (fun z => nomatch z)⟩⟩
              · cases h1
            | bor =>
              have h1 : (if d.ns = true then some (⟨.ro, d⟩ : Slot) else none) = some s := h1
              split at h1
              · rename_i hn
                cases h1
                obtain ⟨a, e, _, t⟩ := tx (.inr rfl)
                exact ⟨(fun z => nomatch z), ⟨a, e, hn, by rw [e]; exact t.top⟩, fun _ => ⟨i, _, rfl, hd, (fun z => nomatch z), h2, (fun z => nomatch z), (fun z => nomatch z)⟩⟩
              · cases h1
          | true =>
            cases k with
            | frz => cases h1
            | ro => cases h1
            | own =>
              cases h1
              exact ⟨(fun z => nomatch z), tx (.inl rfl), fun _ => ⟨i, _, rfl, hd, (fun z => nomatch z), h2, fun _ => ⟨.inl rfl, rfl, rfl⟩, fun _ => rfl⟩⟩
            | bor =>
              cases h1
              exact ⟨(fun z => nomatch z), tx (.inr rfl), fun _ => ⟨i, _, rfl, hd, (fun z => nomatch z), h2, fun _ => ⟨.inr rfl, rfl, rfl⟩, fun _ => rfl⟩⟩
  refine ⟨?_, fun i s hi => ?_, fun i j s t a hij hi hj hs1 ht1 va vb => ?_, fun a z => rf.zsome z⟩
  · rw [(slots_len hs).1, seen_len sl]
  · obtain ⟨b, r, q1, q2, q3⟩ := slots_at hs hi
    obtain ⟨v, q4, q5⟩ := seen_at sl q2
    obtain ⟨c1, c2, _⟩ := from_ q3 q5
    exact ⟨c1, v, q4, c2⟩
  · obtain ⟨b, r, q1, q2, q3⟩ := slots_at hs hi
    obtain ⟨v, q4, q5⟩ := seen_at sl q2
    rw [va] at q4; cases q4
    obtain ⟨c, u, p1, p2, p3⟩ := slots_at hs hj
    obtain ⟨v', p4, p5⟩ := seen_at sl p2
    rw [vb] at p4; cases p4
    obtain ⟨_, _, k1⟩ := from_ q3 q5
    obtain ⟨_, _, k2⟩ := from_ p3 p5
    obtain ⟨i1, t1, e1, f1, g1, s1, b1, _⟩ := k1 (by rw [hs1]; exact fun z => nomatch z)
    obtain ⟨i2, t2, e2, f2, g2, s2, b2, _⟩ := k2 ht1
    obtain ⟨kk, bt, _⟩ := b1 hs1
    subst e1; subst e2
    by_cases hii : i1 = i2
    · subst hii
      obtain ⟨z, _⟩ := apart_at ap hij q1 p1 q2 p2 rfl rfl
      rw [bt] at z; cases z
    · exact rf.uniq i1 i2 t1 t2 a hii f1 f2 kk g2 s1 s2

/-- argument j lends slot k -/
def Lent (bs : List Bool) (rs : List R) (j k : Nat) : Prop := bs[j]? = some true ∧ rs[j]? = some (.var k)
theorem wback_len : ∀ (bs : List Bool) (rs : List R) (ds : List D) (fm : Fm), (wback fm bs rs ds).length = fm.length
  | [], _, _, fm => by unfold wback; rfl
  | true :: bs, [], _, fm => by unfold wback; rfl
  | false :: bs, [], _, fm => by unfold wback; rfl
  | true :: bs, .var i :: rs, [], fm => by unfold wback; rfl
  | true :: bs, .frz _ :: rs, [], fm => by unfold wback; rfl
  | true :: bs, .tmp _ :: rs, [], fm => by unfold wback; rfl
  | false :: bs, r :: rs, [], fm => by unfold wback; rfl
  | true :: bs, .var i :: rs, d :: ds, fm => by
    unfold wback
    rw [wback_len bs rs ds]
    split
    · rw [List.length_set]
    · rfl
  | true :: bs, .frz _ :: rs, d :: ds, fm => by
    unfold wback
    exact wback_len bs rs ds fm
  | true :: bs, .tmp _ :: rs, d :: ds, fm => by
    unfold wback
    exact wback_len bs rs ds fm
  | false :: bs, r :: rs, d :: ds, fm => by
    unfold wback
    exact wback_len bs rs ds fm
theorem lent_tail {b : Bool} {bs : List Bool} {r : R} {rs : List R} {k : Nat} (h : ∀ j, ¬ Lent (b :: bs) (r :: rs) j k) : ∀ j, ¬ Lent bs rs j k := fun j z => h (j + 1) ⟨by simpa using z.1, by simpa using z.2⟩
theorem wback_other {k : Nat} : ∀ (bs : List Bool) (rs : List R) (ds : List D) (fm : Fm), (∀ j, ¬ Lent bs rs j k) → (wback fm bs rs ds)[k]? = fm[k]?
  | [], _, _, fm, _ => by unfold wback; rfl
  | true :: bs, [], _, fm, _ => by unfold wback; rfl
  | false :: bs, [], _, fm, _ => by unfold wback; rfl
  | true :: bs, .var i :: rs, [], fm, _ => by unfold wback; rfl
  | true :: bs, .frz _ :: rs, [], fm, _ => by unfold wback; rfl
  | true :: bs, .tmp _ :: rs, [], fm, _ => by unfold wback; rfl
  | false :: bs, r :: rs, [], fm, _ => by unfold wback; rfl
  | true :: bs, .var i :: rs, d :: ds, fm, h => by
    unfold wback
    rw [wback_other bs rs ds _ (lent_tail h)]
    have ne : i ≠ k := fun z => h 0 ⟨rfl, by rw [z]; rfl⟩
    split
    · rw [List.getElem?_set_ne ne]
    · rfl
  | true :: bs, .frz _ :: rs, d :: ds, fm, h => by
    unfold wback
    exact wback_other bs rs ds fm (lent_tail h)
  | true :: bs, .tmp _ :: rs, d :: ds, fm, h => by
    unfold wback
    exact wback_other bs rs ds fm (lent_tail h)
  | false :: bs, r :: rs, d :: ds, fm, h => by
    unfold wback
    exact wback_other bs rs ds fm (lent_tail h)
theorem wback_hit {k : Nat} {s : Slot} {d : D} : ∀ (bs : List Bool) (rs : List R) (ds : List D) (fm : Fm) (j : Nat), apart bs rs = true → Lent bs rs j k → ds[j]? = some d → fm[k]? = some (some s) → (wback fm bs rs ds)[k]? = some (some ⟨s.k, d⟩)
  | [], _, _, _, _, _, h, _, _ => by have := h.1; simp at this
  | _ :: _, [], _, _, _, _, h, _, _ => by have := h.2; simp at this
  | _ :: _, _ :: _, [], _, _, _, _, h, _ => by simp at h
  | b :: bs, r :: rs, d0 :: ds, fm, 0, ap, h, hd, hk => by
    have e1 : b = true := by simpa using h.1
    have e2 : r = .var k := by simpa using h.2
    subst e1; subst e2
    have e3 : d0 = d := by simpa using hd
    subst e3
    unfold wback
    rw [hk]
    have hl : k < fm.length := (List.getElem?_eq_some_iff.mp hk).1
    rw [wback_other]
    · rw [List.getElem?_set_self hl]
    · intro j z
      obtain ⟨q, _⟩ := apart_at (i := 0) (j := j + 1) ap (by omega) rfl (by simpa using z.1) rfl (by simpa using z.2) rfl rfl
      cases q
  | b :: bs, r :: rs, d0 :: ds, fm, j + 1, ap, h, hd, hk => by
    have h' : Lent bs rs j k := ⟨by simpa using h.1, by simpa using h.2⟩
    have ap' : apart bs rs = true := by unfold apart at ap; rw [Bool.and_eq_true] at ap; exact ap.2
    have hd' : ds[j]? = some d := by simpa using hd
    cases b with
    | false =>
      unfold wback
      exact wback_hit bs rs ds fm j ap' h' hd' hk
    | true =>
      cases r with
      | frz _ => unfold wback; exact wback_hit bs rs ds fm j ap' h' hd' hk
      | tmp _ => unfold wback; exact wback_hit bs rs ds fm j ap' h' hd' hk
      | var i =>
        unfold wback
        have ne : i ≠ k := fun z => by
          obtain ⟨q, _⟩ := apart_at (i := 0) (j := j + 1) ap (by omega) rfl (by simpa using h'.1) rfl (by simpa using h'.2) (by rw [z]; rfl) rfl
          cases q
        refine wback_hit bs rs ds _ j ap' h' hd' ?_
        split
        · rw [List.getElem?_set_ne ne]; exact hk
        · exact hk
/-- what a lent slot is -/
theorem lent_slot (rf : RelF w Zo fm σ H) : ∀ {bs : List Bool} {rs : List R} {ps : List Slot} {vs : List V} {j k : Nat}, slotsOf fm bs rs = some ps → SeenL w Zo fm σ H rs vs → Lent bs rs j k →
    ∃ s a, fm[k]? = some (some s) ∧ (s.k = .own ∨ s.k = .bor) ∧ σ[k]? = some (some (V.ref a)) ∧ ps[j]? = some ⟨.bor, s.d⟩ ∧ vs[j]? = some (.ref a)
  | [], _, _, _, _, _, _, _, h => by have := h.1; simp at this
  | _ :: _, [], _, _, _, _, _, _, h => by have := h.2; simp at this
  | b :: bs, r :: rs, ps, vs, 0, k, hs, sl, h => by
    have e1 : b = true := by simpa using h.1
    have e2 : r = .var k := by simpa using h.2
    subst e1; subst e2
    unfold slotsOf at hs
    split at hs
    · rename_i s0 ss h1 h2
      cases hs
      obtain ⟨v, us, rfl, q1, q2⟩ := sl
      have q1 : σ[k]? = some (some v) := q1
      have h1 : slotV true fm[k]? = some s0 := h1
      cases hd : fm[k]? with
      | none => rw [hd] at h1; cases h1
      | some o =>
        cases o with
        | none => rw [hd] at h1; cases h1
        | some t =>
          obtain ⟨kd, d⟩ := t
          rw [hd] at h1
          obtain ⟨v', hv', ok⟩ := rf.ok k _ hd
          rw [q1] at hv'; cases hv'
          cases kd with
          | frz => cases h1
          | ro => cases h1
          | own =>
            cases h1
            obtain ⟨a, e, _, t⟩ : ∃ a, v = .ref a ∧ ¬ Zo a ∧ TopX w (Zx Zo fm σ) H d a := ok
            exact ⟨_, a, rfl, .inl rfl, by rw [← e]; exact q1, rfl, by rw [e]; rfl⟩
          | bor =>
            cases h1
            obtain ⟨a, e, _, t⟩ : ∃ a, v = .ref a ∧ Zo a ∧ TopX w (Zx Zo fm σ) H d a := ok
            exact ⟨_, a, rfl, .inr rfl, by rw [← e]; exact q1, rfl, by rw [e]; rfl⟩
    · cases hs
  | b :: bs, r :: rs, ps, vs, j + 1, k, hs, sl, h => by
    unfold slotsOf at hs
    split at hs
    · rename_i s0 ss h1 h2
      cases hs
      obtain ⟨v, us, rfl, q1, q2⟩ := sl
      obtain ⟨s, a, p1, p2, p3, p4, p5⟩ := lent_slot (j := j) (k := k) rf h2 q2 ⟨by simpa using h.1, by simpa using h.2⟩
      exact ⟨s, a, p1, p2, p3, by simpa using p4, by simpa using p5⟩
    · cases hs
/-- a borrowed address is that of a lent slot -/
theorem borP_lent (rf : RelF w Zo fm σ H) : ∀ {bs : List Bool} {rs : List R} {ps : List Slot} {vs : List V} {a : Addr}, slotsOf fm bs rs = some ps → SeenL w Zo fm σ H rs vs → BorP ps vs a → ∃ j k s, Lent bs rs j k ∧ fm[k]? = some (some s) ∧ (s.k = .own ∨ s.k = .bor) ∧ adr σ k a := by
  intro bs rs ps vs a hs sl h
  obtain ⟨i, d, h1, h2⟩ := h
  obtain ⟨b, r, q1, q2, q3⟩ := slots_at hs h1
  obtain ⟨v, q4, q5⟩ := seen_at sl q2
  rw [h2] at q4; cases q4
  cases r with
  | frz d' => cases b <;> cases q3
  | tmp d' => cases q3
  | var k =>
    have q3 : slotV b fm[k]? = some ⟨.bor, d⟩ := q3
    cases hd : fm[k]? with
    | none => rw [hd] at q3; cases b <;> cases q3
    | some o =>
      cases o with
      | none => rw [hd] at q3; cases b <;> cases q3
      | some t =>
        obtain ⟨kd, d'⟩ := t
        rw [hd] at q3
        cases b with
        | false =>
          cases kd with
          | frz => cases q3
          | ro => cases q3
          | own =>
            have q3 : (if d'.ns = true then some (⟨.ro, d'⟩ : Slot) else none) = some ⟨.bor, d⟩ := q3
            split at q3 <;> cases q3
          | bor =>
            have q3 : (if d'.ns = true then some (⟨.ro, d'⟩ : Slot) else none) = some ⟨.bor, d⟩ := q3
            split at q3 <;> cases q3
        | true =>
          cases kd with
          | frz => cases q3
          | ro => cases q3
          | own => exact ⟨i, k, _, ⟨q1, q2⟩, hd, .inl rfl, q5⟩
          | bor => exact ⟨i, k, _, ⟨q1, q2⟩, hd, .inr rfl, q5⟩
/-- behind a call -/
theorem back_of {Zo' : AP1} {H' : Hp} (rf : RelF w Zo fm σ H) {bs : List Bool} {rs : List R} {ps : List Slot} {vs : List V} {fins : List D} (hs : slotsOf fm bs rs = some ps) (sl : SeenL w Zo fm σ H rs vs) (ap : apart bs rs = true)
    (kp : KeepP ps vs H H') (hz : ∀ a, Zo a → Zo' a) (hz' : ∀ a, Zo' a → Zo a ∨ (H a = none ∧ ∃ o, H' a = some o)) (fo : FinsOk w (Zx Zo' fm σ) H' ps vs fins) :
    RelF w Zo' (wback fm bs rs fins) σ H' ∧ StepS fm σ H (wback fm bs rs fins) σ H' ∧ (∀ a, Zx Zo' (wback fm bs rs fins) σ a ↔ Zx Zo' fm σ a) := by
  -- slot by slot
  have at_ : ∀ (k : Nat) (s' : Slot), (wback fm bs rs fins)[k]? = some (some s') → ∃ s, fm[k]? = some (some s) ∧ s'.k = s.k ∧ ((∃ j a, Lent bs rs j k ∧ (s.k = .own ∨ s.k = .bor) ∧ σ[k]? = some (some (V.ref a)) ∧ TopX w (Zx Zo' fm σ) H' s'.d a) ∨ ((∀ j, ¬ Lent bs rs j k) ∧ s' = s)) := by
    intro k s' h
    by_cases hl : ∃ j, Lent bs rs j k
    · obtain ⟨j, hj⟩ := hl
      obtain ⟨s, a, p1, p2, p3, p4, p5⟩ := lent_slot rf hs sl hj
      obtain ⟨d', q1, q2⟩ := fo j s.d a p4 p5
      rw [wback_hit bs rs fins fm j ap hj q1 p1] at h
      cases h
      exact ⟨s, p1, rfl, .inl ⟨j, a, hj, p2, p3, q2⟩⟩
    · have hn : ∀ j, ¬ Lent bs rs j k := fun j z => hl ⟨j, z⟩
      rw [wback_other bs rs fins fm hn] at h
      exact ⟨s', h, rfl, .inr ⟨hn, rfl⟩⟩
  have to_ : ∀ (k : Nat) (s : Slot), fm[k]? = some (some s) → ∃ s', (wback fm bs rs fins)[k]? = some (some s') ∧ s'.k = s.k ∧ ((∀ j, ¬ Lent bs rs j k) → s' = s) := by
    intro k s h
    by_cases hl : ∃ j, Lent bs rs j k
    · obtain ⟨j, hj⟩ := hl
      obtain ⟨s0, a, p1, p2, p3, p4, p5⟩ := lent_slot rf hs sl hj
      rw [h] at p1; cases p1
      obtain ⟨d', q1, q2⟩ := fo j s.d a p4 p5
      exact ⟨_, wback_hit bs rs fins fm j ap hj q1 h, rfl, fun z => absurd hj (z j)⟩
    · have hn : ∀ j, ¬ Lent bs rs j k := fun j z => hl ⟨j, z⟩
      exact ⟨s, by rw [wback_other bs rs fins fm hn]; exact h, rfl, fun _ => rfl⟩
  have own_iff : ∀ a, OwnA (wback fm bs rs fins) σ a ↔ OwnA fm σ a := fun a => by
    constructor
    · rintro ⟨k, d, h1, h2⟩
      obtain ⟨⟨k2, d2⟩, q1, q2, _⟩ := at_ k _ h1
      have q2 : Kd.own = k2 := q2
      subst q2
      exact ⟨k, d2, q1, h2⟩
    · rintro ⟨k, d, h1, h2⟩
      obtain ⟨⟨k2, d2⟩, q1, q2, _⟩ := to_ k _ h1
      have q2 : k2 = Kd.own := q2
      subst q2
      exact ⟨k, d2, q1, h2⟩
  have zx_iff : ∀ a, Zx Zo' (wback fm bs rs fins) σ a ↔ Zx Zo' fm σ a := fun a => by
    unfold Zx
    rw [own_iff]
  have ex1 : ∀ {H1 : Hp}, Ext (Zx Zo' fm σ) H1 (Zx Zo' (wback fm bs rs fins) σ) H1 := fun {H1} => ext_sub fun a z => (zx_iff a).mp z
  have notbor : ∀ {a : Addr}, ¬ Zx Zo fm σ a → ¬ BorP ps vs a := fun {a} n z => by
    obtain ⟨j, k, s, _, h2, h3, h4⟩ := borP_lent rf hs sl z
    exact n (rf.wrz ⟨k, s, h2, h3, h4⟩)
  have ex2 : Ext (Zx Zo fm σ) H (Zx Zo' (wback fm bs rs fins) σ) H' := Ext.of (fun a o e z => by
    rcases (zx_iff a).mp z with z | z
    · rcases hz' a z with z | z
      · exact .inl z
      · rw [z.1] at e; cases e
    · exact .inr z) fun a o n e => kp.keep a o e (notbor n)
  -- an address of a slot that is not lent is kept
  have keep1 : ∀ {k : Nat} {s : Slot} {a : Addr} {o : HO}, fm[k]? = some (some s) → (∀ j, ¬ Lent bs rs j k) → s.k ≠ .frz → adr σ k a → H a = some o → H' a = H a := fun {k s a o} h1 h2 h3 h4 h5 => by
    rw [h5]
    refine kp.keep a o h5 fun z => ?_
    obtain ⟨j, k2, s2, q1, q2, q3, q4⟩ := borP_lent rf hs sl z
    by_cases hk : k2 = k
    · subst hk; exact h2 j q1
    · exact rf.uniq k2 k s2 s a hk q2 h1 q3 h3 q4 h4
  refine ⟨⟨by rw [wback_len]; exact rf.len, fun k s' h => ?_, fun i j s t a hij hi hj hs1 ht1 => ?_, fun a z => ?_⟩, ⟨fun i d h => ?_, fun i d h => ?_, fun i d h => ?_, fun a z => ?_, fun a o e n => ?_, kp.there⟩, zx_iff⟩
  · obtain ⟨s, q1, q2, q3⟩ := at_ k s' h
    obtain ⟨v, hv, ok⟩ := rf.ok k s q1
    refine ⟨v, hv, ?_⟩
    rcases q3 with ⟨j, a, l1, l2, l3, l4⟩ | ⟨hn, e⟩
    · rw [l3] at hv; cases hv
      obtain ⟨kd, d⟩ := s
      obtain ⟨kd', d'⟩ := s'
      have q2 : kd' = kd := q2
      subst q2
      have l5 : TopX w (Zx Zo' (wback fm bs rs fins) σ) H' d' a := TopX.ext ex1 rfl l4
      rcases l2 with l2 | l2
      · have l2 : kd' = .own := l2
        subst l2
        obtain ⟨b, e, nz, t⟩ : ∃ b, V.ref a = .ref b ∧ ¬ Zo b ∧ TopX w (Zx Zo fm σ) H d b := ok
        cases e
        refine ⟨a, rfl, fun z => ?_, l5⟩
        rcases hz' a z with z | z
        · exact nz z
        · obtain ⟨o, ho⟩ := t.some
          rw [z.1] at ho; cases ho
      · have l2 : kd' = .bor := l2
        subst l2
        obtain ⟨b, e, z, t⟩ : ∃ b, V.ref a = .ref b ∧ Zo b ∧ TopX w (Zx Zo fm σ) H d b := ok
        cases e
        exact ⟨a, rfl, hz a z, l5⟩
    · subst e
      obtain ⟨kd, d⟩ := s'
      cases kd with
      | frz => exact Rep.ext ex2 (show Rep w _ H d v from ok)
      | own =>
        obtain ⟨a, e, nz, t⟩ : ∃ b, v = .ref b ∧ ¬ Zo b ∧ TopX w (Zx Zo fm σ) H d b := ok
        obtain ⟨o, ho⟩ := t.some
        refine ⟨a, e, fun z => ?_, t.ext ex2 (keep1 q1 hn (fun z => nomatch z) (by rw [e] at hv; exact hv) ho)⟩
        rcases hz' a z with z | z
        · exact nz z
        · rw [z.1] at ho; cases ho
      | bor =>
        obtain ⟨a, e, z, t⟩ : ∃ b, v = .ref b ∧ Zo b ∧ TopX w (Zx Zo fm σ) H d b := ok
        obtain ⟨o, ho⟩ := t.some
        exact ⟨a, e, hz a z, t.ext ex2 (keep1 q1 hn (fun z => nomatch z) (by rw [e] at hv; exact hv) ho)⟩
      | ro =>
        obtain ⟨a, e, nn, t⟩ : ∃ b, v = .ref b ∧ d.ns = true ∧ TopR w (Zx Zo fm σ) H d v := ok
        rw [e] at t hv
        obtain ⟨o, ho⟩ := TopR.ref_some t nn
        exact ⟨a, e, nn, by rw [e]; exact t.ext ex2 fun b hb => by cases hb; exact keep1 q1 hn (fun z => nomatch z) hv ho⟩
  · obtain ⟨s0, p1, p2, _⟩ := at_ i s hi
    obtain ⟨t0, p3, p4, _⟩ := at_ j t hj
    exact rf.uniq i j s0 t0 a hij p1 p3 (by rw [← p2]; exact hs1) (by rw [← p4]; exact ht1)
  · rcases hz' a z with z | z
    · obtain ⟨o, ho⟩ := rf.live a z
      exact kp.there a o ho
    · exact z.2
  · obtain ⟨⟨k2, d2⟩, q1, q2, _⟩ := to_ i _ h
    have q2 : k2 = Kd.bor := q2
    subst q2
    exact ⟨d2, q1, rfl⟩
  · obtain ⟨⟨k2, d2⟩, q1, q2, q3⟩ := at_ i _ h
    rcases q3 with ⟨j, a, l1, l2, _⟩ | ⟨hn, e⟩
    · have q2 : Kd.ro = k2 := q2
      subst q2
      rcases l2 with l2 | l2 <;> cases l2
    · exact ⟨by rw [e]; exact q1, rfl⟩
  · obtain ⟨⟨k2, d2⟩, q1, q2, _⟩ := at_ i _ h
    have q2 : Kd.bor = k2 := q2
    subst q2
    exact ⟨d2, q1, rfl⟩
  · obtain ⟨k, s, h1, h2, h3⟩ := z
    obtain ⟨s0, q1, q2, _⟩ := at_ k s h1
    exact .inl ⟨k, s0, q1, by rw [← q2]; exact h2, h3⟩
  · refine kp.keep a o e fun z => n ?_
    obtain ⟨j, k, s, _, h2, h3, h4⟩ := borP_lent rf hs sl z
    exact ⟨k, s, h2, h3, h4⟩
end
end U
end

section
set_option Elab.async false
set_option linter.all false
set_option maxRecDepth 100000
set_option maxHeartbeats 400000
set_option autoImplicit false
/-! U10: calls of defs, of methods, of classes; fields. -/
namespace U
open PySem L2

section
variable {w : Wd} {Zo : AP1} {fm fm1 fm' : Fm} {σ : St} {H H1 H' : Hp} {p : Addr}
theorem zxp : Zx (Zp Zo p) fm σ = Zp (Zx Zo fm σ) p := by
  funext a
  apply propext
  unfold Zx Zp
  constructor
  · rintro ((h | h) | h)
    · exact .inl (.inl h)
    · exact .inr h
    · exact .inl (.inr h)
  · rintro ((h | h) | h)
    · exact .inl (.inl h)
    · exact .inr h
    · exact .inl (.inr h)
theorem wback_from {k : Nat} {s' : Slot} : ∀ (bs : List Bool) (rs : List R) (ds : List D) (fm : Fm), (wback fm bs rs ds)[k]? = some (some s') → ∃ s, fm[k]? = some (some s) ∧ s'.k = s.k
  | [], _, _, fm, h => by unfold wback at h; exact ⟨s', h, rfl⟩
  | true :: bs, [], _, fm, h => by unfold wback at h; exact ⟨s', h, rfl⟩
  | false :: bs, [], _, fm, h => by unfold wback at h; exact ⟨s', h, rfl⟩
  | true :: bs, .var i :: rs, [], fm, h => by unfold wback at h; exact ⟨s', h, rfl⟩
  | true :: bs, .frz _ :: rs, [], fm, h => by unfold wback at h; exact ⟨s', h, rfl⟩
  | true :: bs, .tmp _ :: rs, [], fm, h => by unfold wback at h; exact ⟨s', h, rfl⟩
  | false :: bs, _ :: rs, [], fm, h => by unfold wback at h; exact ⟨s', h, rfl⟩
  | false :: bs, _ :: rs, d :: ds, fm, h => by unfold wback at h; exact wback_from bs rs ds fm h
  | true :: bs, .frz _ :: rs, d :: ds, fm, h => by unfold wback at h; exact wback_from bs rs ds fm h
  | true :: bs, .tmp _ :: rs, d :: ds, fm, h => by unfold wback at h; exact wback_from bs rs ds fm h
  | true :: bs, .var i :: rs, d :: ds, fm, h => by
    unfold wback at h
    obtain ⟨s, h1, h2⟩ := wback_from bs rs ds _ h
    split at h1
    · rename_i s0 hs0
      by_cases hk : i = k
      · subst hk
        rw [List.getElem?_set_self (List.getElem?_eq_some_iff.mp hs0).1] at h1
        cases h1
        exact ⟨s0, hs0, h2⟩
      · rw [List.getElem?_set_ne hk] at h1
        exact ⟨s, h1, h2⟩
    · exact ⟨s, h1, h2⟩
theorem Nad.wback {bs : List Bool} {rs : List R} {ds : List D} (n : Nad fm σ p) : Nad (wback fm bs rs ds) σ p := fun i s h hk ha => by
  obtain ⟨s0, h1, h2⟩ := wback_from bs rs ds fm h
  exact n i s0 h1 (by rw [← h2]; exact hk) ha
theorem RelX.ext {Z Z' : AP1} {x : Exn} {cls : Value} {d : Option Addr} (e : Ext Z H Z' H') (k : ∀ a fsV, H a = some (.xd fsV) → H' a = some (.xd fsV)) (h : RelX w Z H x cls d) : RelX w Z' H' x cls d := by
  obtain ⟨h1, h2 | ⟨dx, fsV, vs, q1, q2, q3, q4⟩⟩ := h
  · exact ⟨h1, .inl h2⟩
  · exact ⟨h1, .inr ⟨dx, fsV, vs, q1, k _ _ q2, q3, q4.ext e⟩⟩

/-- a promise kept: what the caller may go on with -/
theorem postF_of {W : WX} {Q : VK} (rf1 : RelF w Zo fm1 σ H1) (st : StepS fm σ H fm1 σ H1) {bs : List Bool} {rs : List R} {ps : List Slot} {vs : List V} {fins : List D} {out : Out R}
    (hs : slotsOf fm1 bs rs = some ps) (sl : SeenL w Zo fm1 σ H1 rs vs) (ap : apart bs rs = true) (hf : out.fin = true) (post : PostE w W Zo σ H fm out (wback fm1 bs rs fins) Q) :
    PostF w (Zx Zo fm1 σ) ps vs H1 out fins Q (WE W σ) := by
  cases out with
  | ok r =>
    cases r with
    | frz d =>
      intro v H' kp fo rp
      obtain ⟨b1, b2, b3⟩ := back_of rf1 hs sl ap kp (fun _ z => z) (fun _ z => .inl z) fo
      exact post v H' (st.trans b2) ⟨b1, rp.ext (ext_sub fun a z => (b3 a).mp z)⟩
    | tmp d =>
      intro p H' kp hp fo tp
      rw [← zxp] at fo tp
      obtain ⟨b1, b2, b3⟩ := back_of rf1 hs sl ap kp (fun _ z => .inl z) (fun a z => by
        rcases z with z | z
        · exact .inl z
        · subst z; exact .inr ⟨hp, tp.some⟩) fo
      refine post (.ref p) H' (st.trans b2) (RelR.back st ⟨p, rfl, hp, fun z => ?_, (rf1.nad hp).wback, tp.ext (ext_sub fun a z => (b3 a).mp z) rfl, b1⟩)
      obtain ⟨o, e⟩ := rf1.live p z
      rw [hp] at e; cases e
    | var i => cases hf
  | ex x =>
    intro cls dx H' kp fo rx
    obtain ⟨b1, b2, b3⟩ := back_of rf1 hs sl ap kp (fun _ z => z) (fun _ z => .inl z) fo
    exact post cls dx H' (st.trans b2) b1 (rx.ext (ext_sub fun a z => (b3 a).mp z) fun _ _ e => e)
theorem args_len {as : List Ag} {rs : List R} {ps : List Slot} (hs : slotsOf fm (as.map Ag.b) rs = some ps) : rs.length = as.length := by
  have := (slots_len hs).2
  rw [List.length_map] at this
  exact this.symm
theorem call_go {W : WX} {Q : VK} {F : Fn} {as : List Ag} {n : Nat} (hn : as.length = n) {out : Out R} (rf1 : RelF w Zo fm1 σ H1) (st : StepS fm σ H fm1 σ H1) {rs : List R} {vs : List V}
    (sl : SeenL w Zo fm1 σ H1 rs vs) (hk : callM F (as.map Ag.b) rs fm1 = some (out, fm')) (post : PostE w W Zo σ H fm out fm' Q) : spF w n F vs H1 Q (WE W σ) := by
  unfold callM at hk
  split at hk
  · rename_i ap
    split at hk
    · rename_i ps hs
      split at hk
      · rename_i out1 fins hF
        split at hk
        · rename_i hf
          cases hk
          exact ⟨by rw [seen_len sl, args_len hs, hn], _, ps, out, fins, relP_of rf1 hs sl ap, hF, postF_of rf1 st hs sl ap hf post⟩
        · cases hk
      · cases hk
    · cases hk
  · cases hk
end

section
variable {X : Cx} {w : Wd} {W : WX} {k n : Nat} {f C : Addr} {fd : FuncData} {ps : List Str} {F : Fn} {x m : Str} {p pos apos : Pos} {e o : Expr} {es : List Expr} {as : List Ag}
/-- f(e, ..) -/
theorem se_call (FO : FnOk X.prog X.w X.K X.mg X.base (L2.CX X.prog X.w) k f fd ps (spF w n F)) (hr : Room k X.A) (hg : Gl X x) (hm : X.mg x = some (.ref f)) (hk : PySem.W.keepIn X.K (.ref f) = true) (hb : Binds X.K fd ps []) (tk : Takes X W)
    (sa : SA X w W (e :: es) (as.map Ag.m)) (hn : as.length = n := by rfl) (hdb : (x == ("__debug__" : Str)) = false := by decide) (he : starEach (e :: es) X.env = (false, eval e X.env) :: starEach es X.env := by rfl) (hpl : (backTo pos (starEach es X.env)).any (·.1) = false := by rfl) :
    SE X w W (.Call (.Name x p) (e :: es) [] pos) (eCall F as) := by
  intro Zo fm σ H out fm' Q rf hm1 post
  refine wE_of (pe_callSD (dvs := []) (ds := []) (E := WE W) FO hr hg hm hk hb .nil (fun σ => passAt tk σ) (pa_w (es := e :: es)) hdb he hpl) ?_
  refine sa _ Zo fm σ H out fm' _ rf hm1 post.x fun rs fm1 vs H1 st rf1 sl px hk1 => ?_
  rw [List.append_nil]
  exact call_go hn rf1 st sl hk1 post
/-- f() -/
theorem se_call0 (FO : FnOk X.prog X.w X.K X.mg X.base (L2.CX X.prog X.w) k f fd ps (spF w 0 F)) (hr : Room k X.A) (hg : Gl X x) (hm : X.mg x = some (.ref f)) (hk : PySem.W.keepIn X.K (.ref f) = true) (hb : Binds X.K fd ps []) (tk : Takes X W)
    (hdb : (x == ("__debug__" : Str)) = false := by decide) : SE X w W (.Call (.Name x p) [] [] pos) (eCall F []) := by
  intro Zo fm σ H out fm' Q rf hm1 post pins s I
  refine wpAny_Call_Name_kw (ld_glob I hg hm ?_ hdb)
  exact PySem.W.callWith_K0 I.kIn hk (run_fnSD (us := []) (dvs := []) FO hr hb .nil (passAt tk σ) I .nil (call_go (as := []) rfl rf .refl (rs := []) rfl hm1 post))
end
end U
end

section
set_option Elab.async false
set_option linter.all false
set_option maxRecDepth 100000
set_option maxHeartbeats 400000
set_option autoImplicit false
/-! U11: fields, methods, properties, instances made. -/
namespace U
open PySem L2

def ixOf : List Str → Str → Option Nat
  | [], _ => none
  | n :: r, f => if (f == n) = true then some 0 else (ixOf r f).map (· + 1)
theorem zip_at {f : Str} : ∀ {ns : List Str} {vs : List V} {j : Nat}, ixOf ns f = some j → (ns.zip vs).lookup f = vs[j]?
  | [], _, _, h => by cases h
  | n :: r, [], j, h => by simp
  | n :: r, v :: vs, j, h => by
    unfold ixOf at h
    rw [List.zip_cons_cons, List.lookup_cons]
    split at h
    · rename_i e
      cases h
      rw [e] <;> rfl
    · rename_i e
      obtain ⟨i, h1, rfl⟩ := Option.map_eq_some_iff.mp h
      rw [show (f == n) = false from by simpa using e]
      show (r.zip vs).lookup f = _
      rw [zip_at h1] <;> rfl
theorem zip_none {f : Str} : ∀ {ns : List Str} {vs : List V}, ixOf ns f = none → (ns.zip vs).lookup f = none
  | [], _, h => by simp
  | n :: r, [], h => by simp
  | n :: r, v :: vs, h => by
    unfold ixOf at h
    rw [List.zip_cons_cons, List.lookup_cons]
    split at h
    · cases h
    · rename_i e
      rw [show (f == n) = false from by simpa using e]
      exact zip_none (by cases q : ixOf r f with
        | none => rfl
        | some i => rw [q] at h; cases h)

/-! ### fields -/
def fldM (c j : Nat) (r : R) : M R := fun fm => match r.soft.get fm with
  | some (.obj c' fs) => if c' = c then (match fs[j]? with
    | some d => some (.ok (.frz d), fm)
    | none => none) else none
  | _ => none
def eFld (c j : Nat) (m : M R) : M R := bindM m (fldM c j)
section
variable {X : Cx} {w : Wd} {W : WX} {e o : Expr} {es : List Expr} {f m : Str} {pos apos : Pos} {me : M R} {c j : Nat}
theorem se_fld (he : SE X w W e me) (hc : Cls X.K (w.cad c)) (hn : NoAttr X.K (w.cad c) f) (hj : ixOf (w.fns c) f = some j) (hb : attributeBase e f X.env (eval e X.env) = eval e X.env) : SE X w W (.Attribute e f pos) (eFld c j me) := by
  intro Zo fm σ H out fm' Q rf hm post
  refine wE_of (pe_fld pe_w hb) (se_bind he rf hm post.x fun r fm1 v H1 st rr px hk => ?_)
  unfold fldM at hk
  split at hk
  · rename_i c' fs hg
    split at hk
    · rename_i hcc
      subst hcc
      split at hk
      · rename_i d hd
        cases hk
        have t := soft_see rr .refl rr.rel hg
        obtain ⟨a, dx, vs, rfl, ha, hr⟩ := t
        obtain ⟨v', hv', rp⟩ := hr.get hd
        exact ⟨a, _, dx, _, v', rfl, ha, hc, hn, by rw [zip_at hj]; exact hv', post v' H1 st ⟨rr.rel, rp⟩⟩
      · cases hk
    · cases hk
  · cases hk
end

/-! ### methods -/
def isC (c : Nat) (r : R) : M R := fun fm => match r.soft.get fm with
  | some (.obj c' _) => if c' = c then some (.ok r.soft, fm) else none
  | _ => none
def eMeth (c : Nat) (F : Fn) (a : Ag) (as : List Ag) : M R :=
  bindM a.m fun r => bindM (isC c r) fun r => bindM (eArgs (as.map Ag.m)) fun rs => callM F (a.b :: as.map Ag.b) (r :: rs)
section
variable {X : Cx} {w : Wd} {W : WX} {e o : Expr} {es : List Expr} {m : Str} {pos apos : Pos} {me : M R} {c j k n : Nat} {f C : Addr} {fd : FuncData} {ps : List Str} {F : Fn} {a : Ag} {as : List Ag}
theorem isC_of {r : R} {Zo : AP1} {fm : Fm} {σ : St} {H0 H : Hp} {v : V} {r' : Out R} {fm' : Fm} (rr : RelR w Zo fm σ H0 H r v) (h : isC c r fm = some (r', fm')) : r' = .ok r.soft ∧ fm' = fm ∧ ∃ a dx vs, v = .ref a ∧ H a = some (.ins (w.cad c) dx ((w.fns c).zip vs)) := by
  unfold isC at h
  split at h
  · rename_i c' fs hg
    split at h
    · rename_i hcc
      subst hcc
      cases h
      obtain ⟨a, dx, vs, rfl, ha, _⟩ := soft_see rr .refl rr.rel hg
      exact ⟨rfl, rfl, a, dx, vs, rfl, ha⟩
    · cases h
  · cases h
theorem meth_go {Zo : AP1} {fm : Fm} {σ : St} {H : Hp} {out : Out R} {fm' : Fm} {Q : VK} (he : SE X w W o a.m) (rf : RelF w Zo fm σ H) (hm : eMeth c F a as fm = some (out, fm')) (post : PostE w W Zo σ H fm out fm' Q) (hn : as.length + 1 = n) :
    wE X o σ H fun v H1 => ∃ a dx vs, v = .ref a ∧ H1 a = some (.ins (w.cad c) dx ((w.fns c).zip vs)) ∧ ∃ (r : R) (fm1 : Fm), StepS fm σ H fm1 σ H1 ∧ RelF w Zo fm1 σ H1 ∧ SeenR w Zo fm1 σ H1 r (.ref a) ∧ PostX w W Zo σ H1 fm1 out fm' ∧
      bindM (eArgs (as.map Ag.m)) (fun rs => callM F (Ag.b ‹Ag› :: as.map Ag.b) (r :: rs)) fm1 = some (out, fm') := by
  refine se_bind he rf hm post.x fun r fm1 v H1 st rr px hk => ?_
  unfold bindM at hk
  split at hk
  · rename_i r2 fm2 h2
    obtain ⟨e1, rfl, a, dx, vs, rfl, ha⟩ := isC_of rr h2
    cases e1
    exact ⟨a, dx, vs, rfl, ha, r.soft, _, st, rr.rel, rr.seen, px, hk⟩
  · rename_i x fm2 h2
    obtain ⟨e1, _⟩ := isC_of rr h2
    cases e1
  · cases hk
/-- o.m(e, ..) -/
theorem se_meth {pl : Sem Bool} (he : SE X w W o a.m) (hc : Cls X.K (w.cad c)) (hM : Meth X.K (w.cad c) m f) (hl : ixOf (w.fns c) m = none) (FO : FnOk X.prog X.w X.K X.mg X.base (L2.CX X.prog X.w) k f fd ps (spF w n F)) (hr : Room k X.A) (hb : Binds X.K fd ps []) (tk : Takes X W)
    (sa : SA X w W (e :: es) (as.map Ag.m)) (hn : as.length + 1 = n := by rfl) (hst : starEach (e :: es) X.env = (false, eval e X.env) :: starEach es X.env := by rfl) (hpl : (backTo pos (starEach es X.env)).any (·.1) = false := by rfl)
    (ht : eval (.Call (.Attribute o m apos) (e :: es) [] pos) X.env = (do
      let ov ← eval o X.env
      standAt apos.atName
      let (f, first) ← holding [ov] (getMethod ov m pl)
      callWith pos f first (backTo pos (starEach (e :: es) X.env)) (backToKw pos (keywordEach [] X.env))) := by rfl) :
    SE X w W (.Call (.Attribute o m apos) (e :: es) [] pos) (eMeth c F a as) := by
  intro Zo fm σ H out fm' Q rf hm post pins s I
  refine PySem.W.methodCall_KW (pl := pl) (thn (meth_go he rf hm post hn pins s I) fun u s1 ⟨x, H1, I1, rx, a', dx, vs, ex, ea, r, fm1, st, rf1, sr, px, hk⟩ => ?_) ht
  subst ex
  obtain rfl : u = Value.ref a' := rx
  refine getmeth_ok I1 ea hc hM (zip_none hl) ?_
  have q : wA X (e :: es) σ H1 fun vs H2 => spF w n F (.ref a' :: vs) H2 Q (WE W σ) := by
    refine sa _ Zo fm1 σ H1 out fm' _ rf1 hk px fun rs fm2 vs H2 st2 rf2 sl px2 hk2 => ?_
    exact call_go (as := a :: as) (n := n) hn rf2 (st.trans st2) (rs := r :: rs) ⟨_, _, rfl, sr.step rf1 rf2 st2, sl⟩ hk2 post
  refine PySem.W.callWith_K (first := [.ref a']) (h₀ := X.base) I.ok.mod.kin hM.kp (thn (q pos pins s1 I1) fun us s2 ⟨vs, H2, I2, r, q2⟩ => ⟨I2.kIn, ?_⟩) hst hpl
  exact run_fnSD (us := .ref a' :: us) (vs := .ref a' :: vs) (dvs := []) FO hr hb .nil (passAt tk σ) I2 (.cons rfl r) (by rw [List.append_nil]; exact q2)
/-- o.m() -/
theorem se_meth0 {pl : Sem Bool} (he : SE X w W o a.m) (hc : Cls X.K (w.cad c)) (hM : Meth X.K (w.cad c) m f) (hl : ixOf (w.fns c) m = none) (FO : FnOk X.prog X.w X.K X.mg X.base (L2.CX X.prog X.w) k f fd ps (spF w 1 F)) (hr : Room k X.A) (hb : Binds X.K fd ps []) (tk : Takes X W)
    (ht : eval (.Call (.Attribute o m apos) [] [] pos) X.env = (do
      let ov ← eval o X.env
      standAt apos.atName
      let (f, first) ← holding [ov] (getMethod ov m pl)
      callWith pos f first (backTo pos (starEach [] X.env)) (backToKw pos (keywordEach [] X.env))) := by rfl) :
    SE X w W (.Call (.Attribute o m apos) [] [] pos) (eMeth c F a []) := by
  intro Zo fm σ H out fm' Q rf hm post pins s I
  refine PySem.W.methodCall_KW (pl := pl) (thn (meth_go (as := []) he rf hm post rfl pins s I) fun u s1 ⟨x, H1, I1, rx, a', dx, vs, ex, ea, r, fm1, st, rf1, sr, px, hk⟩ => ?_) ht
  subst ex
  obtain rfl : u = Value.ref a' := rx
  refine getmeth_ok I1 ea hc hM (zip_none hl) ?_
  exact PySem.W.callWith_K0 (first := [.ref a']) I1.kIn hM.kp (run_fnSD (us := [.ref a']) (vs := [.ref a']) (dvs := []) FO hr hb .nil (passAt tk σ) I1 (.cons rfl .nil) (call_go (as := [a]) rfl rf1 st (rs := [r]) ⟨_, _, rfl, sr, rfl⟩ hk post))
end

/-! ### properties: no exception leaves one -/
def okM {α : Type} (m : M α) : M α := fun fm => match m fm with
  | some (.ok a, fm') => some (.ok a, fm')
  | _ => none
def eProp (c : Nat) (F : Fn) (a : M R) : M R := bindM a fun r => bindM (isC c r) fun r => okM (callM F [false] [r])
section
variable {X : Cx} {w : Wd} {W : WX} {e : Expr} {m : Str} {pos : Pos} {c k : Nat} {g p : Addr} {fd : FuncData} {ps : List Str} {F : Fn} {a : M R}
theorem se_prop (he : SE X w W e a) (hc : Cls X.K (w.cad c)) (hp : PropOf X.K (w.cad c) m p g) (FO : FnOk X.prog X.w X.K X.mg X.base (L2.CX X.prog X.w) k g fd ps (spF w 1 F)) (hr : Room (k + 1) X.A) (hb : Binds X.K fd ps [])
    (hab : attributeBase e m X.env (eval e X.env) = eval e X.env) : SE X w W (.Attribute e m pos) (eProp c F a) := by
  intro Zo fm σ H out fm' Q rf hm post pins s I
  refine attr_of hab (thn (se_bind (G := fun v H1 => ∃ a dx vs, v = .ref a ∧ H1 a = some (.ins (w.cad c) dx ((w.fns c).zip vs)) ∧ spF w 1 F [.ref a] H1 Q (fun _ _ _ => False)) he rf hm post.x (fun r fm1 v H1 st rr px hk => ?_) pins s I) fun u s1 ⟨x, H1, I1, rx, a', dx, vs, ex, ea, q⟩ => ?_)
  · unfold bindM at hk
    split at hk
    · rename_i r2 fm2 h2
      obtain ⟨e1, rfl, a', dx, vs, rfl, ha⟩ := isC_of rr h2
      cases e1
      refine ⟨a', dx, vs, rfl, ha, ?_⟩
      have hk : okM (callM F [false] [r.soft]) fm2 = some (out, fm') := hk
      unfold okM at hk
      split at hk
      · rename_i r3 fm3 h3
        cases hk
        exact call_go (W := fun _ _ _ _ => False) (as := [.val a]) rfl rr.rel st (rs := [r.soft]) ⟨_, _, rfl, rr.seen, rfl⟩ h3 post
      · cases hk
    · rename_i x fm2 h2
      obtain ⟨e1, _⟩ := isC_of rr h2
      cases e1
    · cases hk
  · subst ex
    obtain rfl : u = Value.ref a' := rx
    exact getprop_ok (dvs := []) I1 ea hc hp FO hr hb .nil passL q
end
end U
end

section
set_option Elab.async false
set_option linter.all false
set_option maxRecDepth 100000
set_option maxHeartbeats 400000
set_option autoImplicit false
/-! U12: statements: what a run shows (PostS), stores, the end of a def. -/
namespace U
open PySem L2

inductive Fl where
  | nx | rt (r : R) | bk | ct | ex (x : Exn)
abbrev MS := Fm → Option (Fl × Fm)
def PostS (w : Wd) (W : WX) (Zo : AP1) (σ : St) (H : Hp) (fm : Fm) (fl : Fl) (fm' : Fm) (D : Ends) : Prop := match fl with
  | .nx => ∀ σ' H', StepS fm σ H fm' σ' H' → RelF w Zo fm' σ' H' → D.nx σ' H'
  | .rt r => ∀ v σ' H', StepS fm σ H fm' σ' H' → RelR w Zo fm' σ' H H' r v → D.rt v H'
  | .bk => ∀ σ' H', StepS fm σ H fm' σ' H' → RelF w Zo fm' σ' H' → D.bk σ' H'
  | .ct => ∀ σ' H', StepS fm σ H fm' σ' H' → RelF w Zo fm' σ' H' → D.ct σ' H'
  | .ex x => ∀ cls d σ' H', StepS fm σ H fm' σ' H' → RelF w Zo fm' σ' H' → RelX w (Zx Zo fm' σ') H' x cls d → W cls d σ' H'
def wS (X : Cx) (st : Stmt) : TS := fun D σ H => ∀ pins s, Inv X pins σ H s → wpAny (model X.prog X.w) X.A (exec st X.env) (SP X pins D) X.xe s
theorem ps_w {X : Cx} {st : Stmt} : PS X st (wS X st) := ⟨fun pins s _ _ _ I h => h pins s I⟩
theorem wS_of {X : Cx} {st : Stmt} {t : TS} (h : PS X st t) {σ : St} {H : Hp} {D : Ends} (q : t D σ H) : wS X st D σ H := fun pins s I => h.run pins s σ H D I q
def wSs (X : Cx) (st : List Stmt) : TS := fun D σ H => ∀ pins s, Inv X pins σ H s → wpAny (model X.prog X.w) X.A (execs st X.env) (SP X pins D) X.xe s
theorem pss_w {X : Cx} {st : List Stmt} : PSs X st (wSs X st) := ⟨fun pins s _ _ _ I h => h pins s I⟩
theorem wSs_of {X : Cx} {st : List Stmt} {t : TS} (h : PSs X st t) {σ : St} {H : Hp} {D : Ends} (q : t D σ H) : wSs X st D σ H := fun pins s I => h.run pins s σ H D I q
def SS (X : Cx) (w : Wd) (W : WX) (st : Stmt) (m : MS) : Prop :=
  ∀ Zo fm σ H fl fm' D, RelF w Zo fm σ H → m fm = some (fl, fm') → PostS w W Zo σ H fm fl fm' D → wS X st D σ H
def SSs (X : Cx) (w : Wd) (W : WX) (st : List Stmt) (m : MS) : Prop :=
  ∀ Zo fm σ H fl fm' D, RelF w Zo fm σ H → m fm = some (fl, fm') → PostS w W Zo σ H fm fl fm' D → wSs X st D σ H

section
variable {w : Wd} {W : WX} {Zo : AP1} {σ σ1 : St} {H H1 : Hp} {fm fm1 fm' : Fm} {fl : Fl} {D : Ends}
theorem PostS.step (p : PostS w W Zo σ H fm fl fm' D) (st : StepS fm σ H fm1 σ1 H1) : PostS w W Zo σ1 H1 fm1 fl fm' D := by
  cases fl with
  | nx => exact fun σ' H' st' rf => p σ' H' (st.trans st') rf
  | rt r => exact fun v σ' H' st' rr => p v σ' H' (st.trans st') (rr.back st)
  | bk => exact fun σ' H' st' rf => p σ' H' (st.trans st') rf
  | ct => exact fun σ' H' st' rf => p σ' H' (st.trans st') rf
  | ex x => exact fun cls d σ' H' st' rf rx => p cls d σ' H' (st.trans st') rf rx
end

/-! ### stores -/
/-- a slot that may take a new value -/
def slotFree (fm : Fm) (i : Nat) : Bool := match fm[i]? with
  | some none => true
  | some (some ⟨.frz, _⟩) => true
  | some (some ⟨.own, _⟩) => true
  | _ => false
theorem slotFree_lt {fm : Fm} {i : Nat} (h : slotFree fm i = true) : i < fm.length := by
  unfold slotFree at h
  cases q : fm[i]? with
  | none => rw [q] at h; cases h
  | some o => exact (List.getElem?_eq_some_iff.mp q).1
theorem slotFree_not {fm : Fm} {i : Nat} {d : D} (h : slotFree fm i = true) : fm[i]? ≠ some (some ⟨.bor, d⟩) ∧ fm[i]? ≠ some (some ⟨.ro, d⟩) := by
  unfold slotFree at h
  constructor
  · intro q; rw [q] at h; cases h
  · intro q; rw [q] at h; cases h
section
variable {w : Wd} {Zo : AP1} {σ σ0 : St} {H H0 : Hp} {fm fm0 : Fm} {i : Nat} {v : V} {d : D} {p : Addr}
theorem adr_set_ne {j : Nat} {o : Option V} {a : Addr} (h : i ≠ j) : adr (σ.set i o) j a ↔ adr σ j a := by unfold adr; rw [List.getElem?_set_ne h]
theorem step_store {ns : Option Slot} {o : Option V} (st : StepS fm0 σ0 H0 fm σ H) (hf : slotFree fm i = true) (hl : fm.length = σ.length) (hb : ∀ d, ns ≠ some ⟨.bor, d⟩ ∧ ns ≠ some ⟨.ro, d⟩) (hn : ∀ d a, ns = some ⟨.own, d⟩ → o = some (.ref a) → H0 a = none) :
    StepS fm0 σ0 H0 (fm.set i ns) (σ.set i o) H := by
  have lt := slotFree_lt hf
  have lt2 : i < σ.length := by rw [← hl]; exact lt
  refine ⟨fun j d h => ?_, fun j d h => ?_, fun j d h => ?_, fun a z => ?_, st.keep, st.there⟩
  · obtain ⟨d', h1, h2⟩ := st.bor j d h
    have ne : i ≠ j := fun e => by subst e; exact (slotFree_not hf).1 h1
    exact ⟨d', by rw [List.getElem?_set_ne ne]; exact h1, by rw [List.getElem?_set_ne ne]; exact h2⟩
  · by_cases e : i = j
    · subst e
      rw [List.getElem?_set_self lt] at h
      cases h
      exact absurd rfl (hb _).2
    · rw [List.getElem?_set_ne e] at h ⊢
      exact st.rob j d h
  · by_cases e : i = j
    · subst e
      rw [List.getElem?_set_self lt] at h
      cases h
      exact absurd rfl (hb _).1
    · rw [List.getElem?_set_ne e] at h ⊢
      exact st.bob j d h
  · obtain ⟨j, s, h1, h2, h3⟩ := z
    by_cases e : i = j
    · subst e
      rw [List.getElem?_set_self lt] at h1
      cases h1
      obtain ⟨k, d⟩ := s
      rcases h2 with h2 | h2
      · have h2 : k = .own := h2
        subst h2
        have h3 : (σ.set i o)[i]? = some (some (V.ref a)) := h3
        rw [List.getElem?_set_self lt2] at h3
        exact .inr (hn d a rfl (Option.some.inj h3))
      · have h2 : k = .bor := h2
        subst h2
        exact absurd rfl (hb _).1
    · rw [List.getElem?_set_ne e] at h1
      exact st.wr a ⟨j, s, h1, h2, (adr_set_ne e).mp h3⟩
/-- a frozen thing is stored, or a slot is emptied -/
theorem rel_store {ns : Option Slot} {o : Option V} (rf : RelF w Zo fm σ H) (hf : slotFree fm i = true) (hs : ns = none ∨ ∃ d v, ns = some ⟨.frz, d⟩ ∧ o = some v ∧ Rep w (Zx Zo fm σ) H d v) : RelF w Zo (fm.set i ns) (σ.set i o) H ∧ (∀ a, Zx Zo (fm.set i ns) (σ.set i o) a → Zx Zo fm σ a) := by
  have lt := slotFree_lt hf
  have lt2 : i < σ.length := by rw [← rf.len]; exact lt
  have key : ∀ (j : Nat) (s : Slot), (fm.set i ns)[j]? = some (some s) → (i = j ∧ s.k = .frz) ∨ (i ≠ j ∧ fm[j]? = some (some s)) := fun j s h => by
    by_cases e : i = j
    · subst e
      rw [List.getElem?_set_self lt] at h
      rcases hs with hs | ⟨d, v, hs, _⟩
      · rw [hs] at h; cases h
      · rw [hs] at h; cases h; exact .inl ⟨rfl, rfl⟩
    · rw [List.getElem?_set_ne e] at h; exact .inr ⟨e, h⟩
  have zs : ∀ a, Zx Zo (fm.set i ns) (σ.set i o) a → Zx Zo fm σ a := fun a z => by
    rcases z with z | ⟨j, d, h1, h2⟩
    · exact .inl z
    · rcases key j _ h1 with ⟨_, z⟩ | ⟨e, h⟩
      · cases z
      · exact .inr ⟨j, d, h, (adr_set_ne e).mp h2⟩
  have ex : Ext (Zx Zo fm σ) H (Zx Zo (fm.set i ns) (σ.set i o)) H := ext_sub zs
  refine ⟨⟨by simpa using rf.len, fun j s h => ?_, fun j k s t a hjk hj hk h1 h2 va vb => ?_, rf.live⟩, zs⟩
  · by_cases e : i = j
    · subst e
      rw [List.getElem?_set_self lt] at h
      rcases hs with hs | ⟨d, v, hs, ho, rp⟩
      · rw [hs] at h; cases h
      · rw [hs] at h; cases h
        exact ⟨v, by rw [List.getElem?_set_self lt2, ho], rp.ext ex⟩
    · rw [List.getElem?_set_ne e] at h ⊢
      obtain ⟨v, hv, ok⟩ := rf.ok j s h
      refine ⟨v, hv, ?_⟩
      obtain ⟨kd, d⟩ := s
      cases kd with
      | frz => exact Rep.ext ex (show Rep w _ H d v from ok)
      | own =>
        obtain ⟨a, e1, nz, t⟩ : ∃ b, v = .ref b ∧ ¬ Zo b ∧ TopX w (Zx Zo fm σ) H d b := ok
        exact ⟨a, e1, nz, t.ext ex rfl⟩
      | bor =>
        obtain ⟨a, e1, nz, t⟩ : ∃ b, v = .ref b ∧ Zo b ∧ TopX w (Zx Zo fm σ) H d b := ok
        exact ⟨a, e1, nz, t.ext ex rfl⟩
      | ro =>
        obtain ⟨a, e1, nn, t⟩ : ∃ b, v = .ref b ∧ d.ns = true ∧ TopR w (Zx Zo fm σ) H d v := ok
        exact ⟨a, e1, nn, t.ext ex fun _ _ => rfl⟩
  · rcases key j _ hj with ⟨_, z⟩ | ⟨e, hj⟩
    · rw [z] at h1; rcases h1 with h1 | h1 <;> cases h1
    · rcases key k _ hk with ⟨_, z⟩ | ⟨e2, hk⟩
      · exact absurd z h2
      · exact rf.uniq j k s t a hjk hj hk h1 h2 ((adr_set_ne e).mp va) ((adr_set_ne e2).mp vb)
/-- a new thing is stored: the slot owns it -/
theorem rel_own (rf : RelF w (Zp Zo p) fm σ H) (hf : slotFree fm i = true) (nz : ¬ Zo p) (nad : Nad fm σ p) (top : TopX w (Zx (Zp Zo p) fm σ) H d p) :
    RelF w Zo (fm.set i (some ⟨.own, d⟩)) (σ.set i (some (.ref p))) H := by
  have lt := slotFree_lt hf
  have lt2 : i < σ.length := by rw [← rf.len]; exact lt
  have zs : ∀ a, Zx Zo (fm.set i (some ⟨.own, d⟩)) (σ.set i (some (.ref p))) a → Zx (Zp Zo p) fm σ a := fun a z => by
    rcases z with z | ⟨j, d', h1, h2⟩
    · exact .inl (.inl z)
    · by_cases e : i = j
      · subst e
        have h2 : (σ.set i (some (V.ref p)))[i]? = some (some (V.ref a)) := h2
        rw [List.getElem?_set_self lt2] at h2
        cases h2
        exact .inl (.inr rfl)
      · rw [List.getElem?_set_ne e] at h1
        exact .inr ⟨j, d', h1, (adr_set_ne e).mp h2⟩
  have ex : Ext (Zx (Zp Zo p) fm σ) H (Zx Zo (fm.set i (some ⟨.own, d⟩)) (σ.set i (some (.ref p)))) H := ext_sub zs
  refine ⟨by simpa using rf.len, fun j s h => ?_, fun j k s t a hjk hj hk h1 h2 va vb => ?_, fun a z => rf.live a (.inl z)⟩
  · by_cases e : i = j
    · subst e
      rw [List.getElem?_set_self lt] at h
      cases h
      exact ⟨.ref p, List.getElem?_set_self lt2, p, rfl, nz, top.ext ex rfl⟩
    · rw [List.getElem?_set_ne e] at h ⊢
      obtain ⟨v, hv, ok⟩ := rf.ok j s h
      refine ⟨v, hv, ?_⟩
      obtain ⟨kd, d'⟩ := s
      cases kd with
      | frz => exact Rep.ext ex (show Rep w _ H d' v from ok)
      | own =>
        obtain ⟨a, e1, n, t⟩ : ∃ b, v = .ref b ∧ ¬ Zp Zo p b ∧ TopX w (Zx (Zp Zo p) fm σ) H d' b := ok
        exact ⟨a, e1, fun z => n (.inl z), t.ext ex rfl⟩
      | bor =>
        obtain ⟨a, e1, z, t⟩ : ∃ b, v = .ref b ∧ Zp Zo p b ∧ TopX w (Zx (Zp Zo p) fm σ) H d' b := ok
        refine ⟨a, e1, ?_, t.ext ex rfl⟩
        rcases z with z | z
        · exact z
        · subst z
          exact absurd (by rw [e1] at hv; exact hv) (nad j _ h (fun z => nomatch z))
      | ro =>
        obtain ⟨a, e1, nn, t⟩ : ∃ b, v = .ref b ∧ d'.ns = true ∧ TopR w (Zx (Zp Zo p) fm σ) H d' v := ok
        exact ⟨a, e1, nn, t.ext ex fun _ _ => rfl⟩
  · have self : ∀ {x : Nat} {y : Addr}, i = x → adr (σ.set i (some (V.ref p))) x y → y = p := fun {x y} e h => by
      subst e
      have h : (σ.set i (some (V.ref p)))[i]? = some (some (V.ref y)) := h
      rw [List.getElem?_set_self lt2] at h
      cases h; rfl
    by_cases e : i = j
    · have ea := self e va
      subst ea
      have ne : i ≠ k := fun z => hjk (e.symm.trans z)
      rw [List.getElem?_set_ne ne] at hk
      exact nad k t hk h2 ((adr_set_ne ne).mp vb)
    · rw [List.getElem?_set_ne e] at hj
      by_cases e2 : i = k
      · have ea := self e2 vb
        subst ea
        refine nad j s hj (fun z => ?_) ((adr_set_ne e).mp va)
        rw [z] at h1; rcases h1 with h1 | h1 <;> cases h1
      · rw [List.getElem?_set_ne e2] at hk
        exact rf.uniq j k s t a hjk hj hk h1 h2 ((adr_set_ne e).mp va) ((adr_set_ne e2).mp vb)
/-- name = result -/
def storeM (i : Nat) (r : R) : Fm → Option Fm := fun fm => match r with
  | .tmp d => if slotFree fm i = true then some (fm.set i (some ⟨.own, d⟩)) else none
  | r => match r.eat fm with
    | some (d, fm1) => if slotFree fm1 i = true then some (fm1.set i (some ⟨.frz, d⟩)) else none
    | none => none
theorem store_rel {r : R} {fm' : Fm} (rr : RelR w Zo fm σ H0 H r v) (st : StepS fm0 σ0 H0 fm σ H) (h : storeM i r fm = some fm') : RelF w Zo fm' (σ.set i (some v)) H ∧ StepS fm0 σ0 H0 fm' (σ.set i (some v)) H := by
  have other : ∀ {r : R}, RelR w Zo fm σ H0 H r v → (match r.eat fm with
    | some (d, fm1) => if slotFree fm1 i = true then some (fm1.set i (some ⟨.frz, d⟩)) else none
    | none => none) = some fm' → RelF w Zo fm' (σ.set i (some v)) H ∧ StepS fm0 σ0 H0 fm' (σ.set i (some v)) H := fun {r} rr h => by
    split at h
    · rename_i d fm1 h1
      split at h
      · rename_i hf
        cases h
        obtain ⟨q1, q2, q3⟩ := rr.eat h1
        exact ⟨(rel_store q1 hf (.inr ⟨d, v, rfl, rfl, q2⟩)).1, step_store (st.trans q3) hf q1.len (fun d => ⟨(fun z => nomatch z), (fun z => nomatch z)⟩) fun d a z => nomatch z⟩
      · cases h
    · cases h
  cases r with
  | frz d => exact other rr h
  | var j => exact other rr h
  | tmp d =>
    have h : (if slotFree fm i = true then some (fm.set i (some ⟨.own, d⟩)) else none) = some fm' := h
    split at h
    · rename_i hf
      cases h
      obtain ⟨p, rfl, t⟩ := rr
      exact ⟨rel_own t.rel hf t.nz t.nad t.top, step_store st hf t.rel.len (fun d => ⟨(fun z => nomatch z), (fun z => nomatch z)⟩) fun d a z e => by cases e; exact t.new⟩
    · cases h
end
end U
end

section
set_option Elab.async false
set_option linter.all false
set_option maxRecDepth 100000
set_option maxHeartbeats 400000
set_option autoImplicit false
/-! U13: statements: small ones, targets, the end of a def. -/
namespace U
open PySem L2
open PyProof.Rows (envOfC)

/-- behind an expression -/
def exprM (m : M R) (k : R → MS) : MS := fun fm => match m fm with
  | some (.ok r, fm1) => k r fm1
  | some (.ex x, fm1) => some (.ex x, fm1)
  | none => none
def exprD (m : M D) (k : D → MS) : MS := fun fm => match m fm with
  | some (.ok r, fm1) => k r fm1
  | some (.ex x, fm1) => some (.ex x, fm1)
  | none => none
def testM (m : M Bool) (k : Bool → MS) : MS := fun fm => match m fm with
  | some (.ok r, fm1) => k r fm1
  | some (.ex x, fm1) => some (.ex x, fm1)
  | none => none
def seqM (m k : MS) : MS := fun fm => match m fm with
  | some (.nx, fm1) => k fm1
  | r => r
def nextM : MS := fun fm => some (.nx, fm)
def breakM : MS := fun fm => some (.bk, fm)
def contM : MS := fun fm => some (.ct, fm)
def dropM (m : M R) : MS := exprM m fun _ fm => some (.nx, fm)
def setM (i : Nat) (m : M R) : MS := exprM m fun r fm => match storeM i r fm with
  | some fm1 => some (.nx, fm1)
  | none => none
def retuM (m : M R) : MS := exprM m fun r fm => some (.rt r, fm)
def retnM : MS := fun fm => some (.rt (.frz .non), fm)
def ifM (c : M Bool) (a b : MS) : MS := testM c fun k => if k = true then a else b
section
variable {X : Cx} {w : Wd} {W : WX} {e : Expr} {st : Stmt} {sts rest a b : List Stmt} {m : M R} {md : M D} {ms mr ma mb : MS} {mt : M Bool} {pos : Pos}
  {Zo : AP1} {fm fm' : Fm} {σ : St} {H : Hp} {fl : Fl} {D : Ends}
theorem exprM_go {k : R → MS} {G : VK} (h : SE X w W e m) (rf : RelF w Zo fm σ H) (hm : exprM m k fm = some (fl, fm')) (post : PostS w W Zo σ H fm fl fm' D)
    (go : ∀ r fm1 v H1, StepS fm σ H fm1 σ H1 → RelR w Zo fm1 σ H H1 r v → PostS w W Zo σ H1 fm1 fl fm' D → k r fm1 = some (fl, fm') → G v H1) : wE X e σ H G := by
  unfold exprM at hm
  split at hm
  · rename_i r fm1 h1
    exact h Zo fm σ H _ fm1 G rf h1 fun v H1 st rr => go r fm1 v H1 st rr (post.step st) hm
  · rename_i x fm1 h1
    cases hm
    exact h Zo fm σ H _ _ G rf h1 fun cls d H' st rf' rx => post cls d σ H' st rf' rx
  · cases hm
theorem exprD_go {k : U.D → MS} {G : VK} (h : SD X w W e md) (rf : RelF w Zo fm σ H) (hm : exprD md k fm = some (fl, fm')) (post : PostS w W Zo σ H fm fl fm' D)
    (go : ∀ r fm1 v H1, StepS fm σ H fm1 σ H1 → RelF w Zo fm1 σ H1 → Rep w (Zx Zo fm1 σ) H1 r v → PostS w W Zo σ H1 fm1 fl fm' D → k r fm1 = some (fl, fm') → G v H1) : wE X e σ H G := by
  unfold exprD at hm
  split at hm
  · rename_i r fm1 h1
    exact h Zo fm σ H _ fm1 G rf h1 fun v H1 st rf1 rp => go r fm1 v H1 st rf1 rp (post.step st) hm
  · rename_i x fm1 h1
    cases hm
    exact h Zo fm σ H _ _ G rf h1 fun cls d H' st rf' rx => post cls d σ H' st rf' rx
  · cases hm
theorem testM_go {k : Bool → MS} {G : Bool → Hp → Prop} (h : ST X w W e mt) (rf : RelF w Zo fm σ H) (hm : testM mt k fm = some (fl, fm')) (post : PostS w W Zo σ H fm fl fm' D)
    (go : ∀ r fm1 H1, StepS fm σ H fm1 σ H1 → RelF w Zo fm1 σ H1 → PostS w W Zo σ H1 fm1 fl fm' D → k r fm1 = some (fl, fm') → G r H1) : wT X e σ H G := by
  unfold testM at hm
  split at hm
  · rename_i r fm1 h1
    exact h Zo fm σ H _ fm1 G rf h1 fun H1 st rf1 => go r fm1 H1 st rf1 (post.step st) hm
  · rename_i x fm1 h1
    cases hm
    exact h Zo fm σ H _ _ G rf h1 fun cls d H' st rf' rx => post cls d σ H' st rf' rx
  · cases hm
theorem sss_nil : SSs X w W [] nextM := by
  intro Zo fm σ H fl fm' D rf hm post
  cases hm
  exact wSs_of pss_nil (post σ H .refl rf)
theorem sss_cons (h1 : SS X w W st ms) (h2 : SSs X w W rest mr) : SSs X w W (st :: rest) (seqM ms mr) := by
  intro Zo fm σ H fl fm' D rf hm post
  refine wSs_of (pss_cons ps_w pss_w) ?_
  show wS X st { D with nx := wSs X rest D } σ H
  unfold seqM at hm
  split at hm
  · rename_i fm1 e1
    exact h1 Zo fm σ H _ _ _ rf e1 fun σ' H' st' rf' => h2 Zo fm1 σ' H' fl fm' D rf' hm (post.step st')
  · rename_i hne
    refine h1 Zo fm σ H _ _ _ rf hm ?_
    cases fl with
    | nx => exact absurd hm (hne fm')
    | rt r => exact post
    | bk => exact post
    | ct => exact post
    | ex x => exact post
theorem sss_one (h1 : SS X w W st ms) : SSs X w W [st] ms := by
  intro Zo fm σ H fl fm' D rf hm post
  exact wSs_of (pss_one ps_w) (h1 Zo fm σ H fl fm' D rf hm post)
theorem ss_pass : SS X w W (.Pass pos) nextM := by
  intro Zo fm σ H fl fm' D rf hm post
  cases hm
  exact wS_of ps_pass (post σ H .refl rf)
theorem ss_break : SS X w W (.Break pos) breakM := by
  intro Zo fm σ H fl fm' D rf hm post
  cases hm
  exact wS_of ps_break (post σ H .refl rf)
theorem ss_cont : SS X w W (.Continue pos) contM := by
  intro Zo fm σ H fl fm' D rf hm post
  cases hm
  exact wS_of ps_continue (post σ H .refl rf)
theorem ss_expr (he : SE X w W e m) (hs : swapsWith e none pos.line X.env = pure false := by rfl) : SS X w W (.Expr e pos) (dropM m) := by
  intro Zo fm σ H fl fm' D rf hm post
  refine wS_of (ps_expr pe_w hs) (exprM_go he rf hm post fun r fm1 v H1 st rr post1 hk => ?_)
  cases hk
  exact post1 σ H1 .refl rr.rel
theorem ss_ret (he : SE X w W e m) : SS X w W (.Return (some e) pos) (retuM m) := by
  intro Zo fm σ H fl fm' D rf hm post
  unfold retuM exprM at hm
  split at hm
  · rename_i r fm1 h1
    cases hm
    exact wS_of (ps_ret pe_w) (he Zo fm σ H _ _ _ rf h1 fun v H1 st rr => post v σ H1 st rr)
  · rename_i x fm1 h1
    cases hm
    exact wS_of (ps_ret pe_w) (he Zo fm σ H _ _ _ rf h1 fun cls d H' st rf' rx => post cls d σ H' st rf' rx)
  · cases hm
theorem ss_retN : SS X w W (.Return none pos) retnM := by
  intro Zo fm σ H fl fm' D rf hm post
  cases hm
  exact wS_of ps_retN (post .non σ H .refl ⟨rf, rfl⟩)
theorem ss_if (hc : ST X w W e mt) (ha : SSs X w W a ma) (hb : SSs X w W b mb) : SS X w W (.If e a b pos) (ifM mt ma mb) := by
  intro Zo fm σ H fl fm' D rf hm post
  refine wS_of (ps_if pt_w (pss_w (st := a)) (pss_w (st := b))) (testM_go hc rf hm post fun k fm1 H1 st rf1 post1 hk => ?_)
  cases k with
  | true =>
    simp only [if_true] at hk ⊢
    exact ha Zo fm1 σ H1 fl fm' D rf1 hk post1
  | false =>
    simp only [Bool.false_eq_true, if_false] at hk ⊢
    exact hb Zo fm1 σ H1 fl fm' D rf1 hk post1
theorem set_go {i : Nat} {r : R} {v : V} {H1 : Hp} {fm1 : Fm} (rr : RelR w Zo fm1 σ H H1 r v) (st : StepS fm σ H fm1 σ H1) (hk : (match storeM i r fm1 with
    | some fm2 => some (Fl.nx, fm2)
    | none => none) = some (fl, fm')) (post : PostS w W Zo σ H fm fl fm' D) : gName i v σ H1 D.nx := by
  split at hk
  · rename_i fm2 h2
    cases hk
    obtain ⟨q1, q2⟩ := store_rel rr st h2
    exact post _ H1 q2 q1
  · cases hk
/-- x = e -/
theorem ss_set {i : Nat} {x : Str} {pos' : Pos} (hN : X.N.Nodup) (hi : X.N[i]? = some x) (hx : Loc X.env.scope x) (he : SE X w W e m) (hs : swapsWith e (some (.Name x pos')) pos.line X.env = pure false := by rfl)
    (hf : X.fn x = true ∨ X.env.scope.names.lookup x = some .local := by first | exact .inl rfl | exact .inr rfl | assumption) : SS X w W (.Assign [.Name x pos'] e pos) (setM i m) := by
  intro Zo fm σ H fl fm' D rf hm post
  refine wS_of (ps_set hN hi hx pe_w hs hf) ?_
  unfold setM exprM at hm
  show wE X e σ H fun v H1 => gName i v σ H1 D.nx
  split at hm
  · rename_i r fm1 h1
    exact he Zo fm σ H _ _ _ rf h1 fun v H1 st rr => set_go rr st hm post
  · rename_i z fm1 h1
    cases hm
    exact he Zo fm σ H _ _ _ rf h1 fun cls d H' st rf' rx => post cls d σ H' st rf' rx
  · cases hm
end

/-! ### targets that take frozen things -/
abbrev GM := D → Fm → Option Fm
def wG (X : Cx) (tg : Expr) : TG := fun v σ H Q => ∀ pins s u, Inv X pins σ H s → RelV v u → wpAny (model X.prog X.w) X.A (assign tg X.env u) (fun _ s' => ∃ σ' H', Inv X pins σ' H' s' ∧ Q σ' H') X.xe s
theorem pg_w {X : Cx} {tg : Expr} : PG X tg (wG X tg) := ⟨fun pins s σ H v u Q I r h => h pins s u I r⟩
theorem wG_of {X : Cx} {tg : Expr} {t : TG} (h : PG X tg t) {v : V} {σ : St} {H : Hp} {Q : St → Hp → Prop} (q : t v σ H Q) : wG X tg v σ H Q := fun pins s u I r => h.run pins s σ H v u Q I r q
def wGs (X : Cx) (ts : List Expr) : TGs := fun vs σ H Q => ∀ pins s us, Inv X pins σ H s → Vals vs us → wpAny (model X.prog X.w) X.A (assignInOrder ((assignEach ts X.env).map (·.2)) us) (fun _ s' => ∃ σ' H', Inv X pins σ' H' s' ∧ Q σ' H') X.xe s
theorem pgs_w {X : Cx} {ts : List Expr} : PGs X ts (wGs X ts) := ⟨fun pins s σ H v u Q I r h => h pins s u I r⟩
theorem wGs_of {X : Cx} {ts : List Expr} {t : TGs} (h : PGs X ts t) {v : List V} {σ : St} {H : Hp} {Q : St → Hp → Prop} (q : t v σ H Q) : wGs X ts v σ H Q := fun pins s u I r => h.run pins s σ H v u Q I r q
/-- the same outside the slots L -/
def Off (L : List Nat) (σ σ' : St) : Prop := σ'.length = σ.length ∧ ∀ j, j ∉ L → σ'[j]? = σ[j]?
def SG (X : Cx) (w : Wd) (tg : Expr) (L : List Nat) (g : GM) : Prop :=
  ∀ Zo fm σ H d v fm' Q, RelF w Zo fm σ H → Rep w (Zx Zo fm σ) H d v → g d fm = some fm' → (∀ σ', StepS fm σ H fm' σ' H → RelF w Zo fm' σ' H → Off L σ σ' → Q σ' H) → wG X tg v σ H Q
def SGs (X : Cx) (w : Wd) (tgs : List Expr) (L : List Nat) (g : List D → Fm → Option Fm) : Prop :=
  ∀ Zo fm σ H ds vs fm' Q, RelF w Zo fm σ H → Reps w (Zx Zo fm σ) H ds vs → g ds fm = some fm' → (∀ σ', StepS fm σ H fm' σ' H → RelF w Zo fm' σ' H → Off L σ σ' → Q σ' H) → wGs X tgs vs σ H Q
def gNm (i : Nat) : GM := fun d fm => if slotFree fm i = true then some (fm.set i (some ⟨.frz, d⟩)) else none
def gTp (gs : List D → Fm → Option Fm) (n : Nat) : GM := fun d fm => match d with
  | .tup ds => if ds.length = n then gs ds fm else none
  | _ => none
def gs0 : List D → Fm → Option Fm
  | [], fm => some fm
  | _, _ => none
def gsC (g : GM) (gs : List D → Fm → Option Fm) : List D → Fm → Option Fm
  | d :: ds, fm => (match g d fm with
    | some fm1 => gs ds fm1
    | none => none)
  | _, _ => none
section
variable {X : Cx} {w : Wd} {W : WX} {pos : Pos}
theorem sg_nm {i : Nat} {x : Str} (hN : X.N.Nodup) (hi : X.N[i]? = some x) (hx : Loc X.env.scope x) (hf : X.fn x = true ∨ X.env.scope.names.lookup x = some .local := by first | exact .inl rfl | exact .inr rfl | assumption) : SG X w (.Name x pos) [i] (gNm i) := by
  intro Zo fm σ H d v fm' Q rf rp hg post
  unfold gNm at hg
  split at hg
  · rename_i h
    cases hg
    refine wG_of (pg_name hN hi hx hf) (post _ ?_ (rel_store rf h (.inr ⟨d, v, rfl, rfl, rp⟩)).1 ⟨by simp, fun j hj => by rw [List.getElem?_set_ne (fun e => hj (by simp [e]))]⟩)
    exact step_store .refl h rf.len (fun d => ⟨(fun z => nomatch z), (fun z => nomatch z)⟩) fun d a z => nomatch z
  · cases hg
theorem sgs_nil : SGs X w [] [] gs0 := by
  intro Zo fm σ H ds vs fm' Q rf rp hg post
  cases ds with
  | nil =>
    cases hg
    exact wGs_of pgs_nil ⟨rp, post σ .refl rf ⟨rfl, fun _ _ => rfl⟩⟩
  | cons d ds => cases hg
theorem sgs_cons {e : Expr} {es : List Expr} {L M : List Nat} {g : GM} {gs : List D → Fm → Option Fm} (h1 : SG X w e L g) (h2 : SGs X w es M gs) (hs : (assignEach (e :: es) X.env).map (·.2) = assign e X.env :: (assignEach es X.env).map (·.2) := by rfl) : SGs X w (e :: es) (L ++ M) (gsC g gs) := by
  intro Zo fm σ H ds vs fm' Q rf rp hg post
  cases ds with
  | nil => cases hg
  | cons d ds =>
    obtain ⟨v, r, rfl, r1, r2⟩ := rp
    have hg : (match g d fm with
      | some fm1 => gs ds fm1
      | none => none) = some fm' := hg
    split at hg
    · rename_i fm1 e1
      refine wGs_of (pgs_cons (pg_w (tg := e)) (pgs_w (ts := es)) hs) ⟨v, r, rfl, h1 Zo fm σ H d v fm1 _ rf r1 e1 fun σ1 st1 rf1 o1 => ?_⟩
      exact h2 Zo fm1 σ1 H ds r fm' Q rf1 (Reps.step rf rf1 st1 r2) hg fun σ2 st2 rf2 o2 => post σ2 (st1.trans st2) rf2 ⟨o2.1.trans o1.1, fun j hj => by
        simp only [List.mem_append, not_or] at hj
        exact (o2.2 j hj.2).trans (o1.2 j hj.1)⟩
    · cases hg
theorem sg_tup {es : List Expr} {k : Nat} {L : List Nat} {gs : List D → Fm → Option Fm} {n : Nat} (hc : X.calm = true) (h : SGs X w es L gs) (hn : (assignEach es X.env).length = n := by rfl) (hst : (assignEach es X.env).findIdx? (·.1) = none := by rfl) : SG X w (.Tuple es k pos) L (gTp gs n) := by
  intro Zo fm σ H d v fm' Q rf rp hg post
  unfold gTp at hg
  split at hg
  · rename_i ds
    split at hg
    · rename_i hl
      obtain ⟨a, vs, rfl, na, ha, hr⟩ := rp
      exact wG_of (pg_tup hc (pgs_w (ts := es)) hn hst) ⟨a, vs, rfl, SqT.of ha, by rw [hr.length, hl], h Zo fm σ H ds vs fm' Q rf hr hg post⟩
    · cases hg
  · cases hg
/-- target = e, the value frozen -/
def asgM (g : GM) (m : M D) : MS := exprD m fun d fm => match g d fm with
  | some fm1 => some (.nx, fm1)
  | none => none
theorem ss_asg {tg e : Expr} {m : M D} {L : List Nat} {g : GM} (he : SD X w W e m) (hg : SG X w tg L g) (hs : swapsWithSole [tg] e pos.line X.env = pure false := by rfl) (hw : swappedStores [tg] e X.env = pure none := by rfl)
    (h1 : (assignEach [tg] X.env).map (·.2) = [assign tg X.env] := by rfl) : SS X w W (.Assign [tg] e pos) (asgM g m) := by
  intro Zo fm σ H fl fm' D rf hm post
  refine wS_of (ps_asg pe_w (pg_w (tg := tg)) hs hw h1) (exprD_go he rf hm post fun d fm1 v H1 st rf1 rp post1 hk => ?_)
  have hk : (match g d fm1 with
    | some fm1 => some (Fl.nx, fm1)
    | none => none) = some (fl, fm') := hk
  split at hk
  · rename_i fm2 h2
    cases hk
    exact hg Zo fm1 σ H1 d v _ _ rf1 rp h2 fun σ' st' rf' _ => post1 σ' H1 st' rf'
  · cases hk
end

/-! ### the end of a def -/
def endOf : Fl → Fm → Option (Out R)
  | .nx, _ => some (.ok (.frz .non))
  | .rt (.frz d), _ => some (.ok (.frz d))
  | .rt (.tmp d), _ => some (.ok (.tmp d))
  | .rt (.var i), fm => (match fm[i]? with
    | some (some ⟨.own, d⟩) => some (.ok (.tmp d))
    | some (some ⟨.frz, d⟩) => some (.ok (.frz d))
    | _ => none)
  | .ex x, _ => some (.ex x)
  | _, _ => none
def Slot.dat : Option Slot → D
  | some s => s.d
  | none => .non
def fnM (n N : Nat) (body : MS) : Fn := fun ps => match body (ps.map some ++ List.replicate (N - n) none) with
  | some (fl, fm) => (match endOf fl fm with
    | some out => some (out, (fm.take n).map Slot.dat)
    | none => none)
  | none => none
section
variable {w : Wd} {Zo : AP1} {ps : List Slot} {vs : List V} {H H' : Hp} {N n : Nat} {fm : Fm} {σ : St} {fins : List D} {d : D} {p : Addr}
theorem fm0_at {i : Nat} {s : Slot} (hn : ps.length = n) (h : (ps.map some ++ List.replicate (N - n) none)[i]? = some (some s)) : ps[i]? = some s ∧ i < n := by
  by_cases hi : i < n
  · rw [List.getElem?_append_left (by simpa [hn] using hi), List.getElem?_map] at h
    cases q : ps[i]? with
    | none => rw [q] at h; cases h
    | some t => rw [q] at h; cases h; exact ⟨rfl, hi⟩
  · rw [List.getElem?_append_right (by simpa [hn] using hi), List.getElem?_replicate] at h
    split at h <;> cases h
theorem start_at {M : List Str} {i : Nat} {v : V} (hi : vs[i]? = some v) : (L2.start M vs)[i]? = some (some v) := by
  unfold L2.start
  have lt := (List.getElem?_eq_some_iff.mp hi).1
  rw [List.getElem?_append_left (by simpa using lt), List.getElem?_map, hi]
  rfl
theorem start_rel {M : List Str} (rp : RelP w Zo ps vs H) (hn : ps.length = n) (hM : n ≤ M.length) : RelF w Zo (ps.map some ++ List.replicate (M.length - n) none) (L2.start M vs) H := by
  have hv : vs.length = n := by rw [← rp.len, hn]
  have noown : ∀ a, ¬ OwnA (ps.map some ++ List.replicate (M.length - n) none) (L2.start M vs) a := by
    rintro a ⟨i, d, h1, _⟩
    obtain ⟨h1, _⟩ := fm0_at hn h1
    exact (rp.ok i _ h1).1 rfl
  have ex : Ext Zo H (Zx Zo (ps.map some ++ List.replicate (M.length - n) none) (L2.start M vs)) H := ext_sub fun a z => z.elim id fun z => absurd z (noown a)
  refine ⟨?_, fun i s h => ?_, fun i j s t a hij hi hj h1 h2 va vb => ?_, rp.live⟩
  · unfold L2.start; simp [hn, hv]
  · obtain ⟨h1, hi⟩ := fm0_at hn h
    obtain ⟨nk, v, q1, q2⟩ := rp.ok i s h1
    refine ⟨v, start_at q1, ?_⟩
    obtain ⟨k, d⟩ := s
    cases k with
    | frz => exact Rep.ext ex q2
    | own => exact absurd rfl nk
    | bor =>
      obtain ⟨a, e, z, t⟩ : ∃ a, v = .ref a ∧ Zo a ∧ TopX w Zo H d a := q2
      exact ⟨a, e, z, t.ext ex rfl⟩
    | ro =>
      obtain ⟨a, e, nn, t⟩ : ∃ a, v = .ref a ∧ d.ns = true ∧ TopR w Zo H d v := q2
      exact ⟨a, e, nn, t.ext ex fun _ _ => rfl⟩
  · obtain ⟨hi, _⟩ := fm0_at hn hi
    obtain ⟨hj, _⟩ := fm0_at hn hj
    obtain ⟨_, v1, q1, _⟩ := rp.ok i s hi
    obtain ⟨_, v2, q2, _⟩ := rp.ok j t hj
    have e1 := start_at (M := M) q1
    have e2 := start_at (M := M) q2
    rw [show (L2.start M vs)[i]? = some (some (V.ref a)) from va] at e1
    rw [show (L2.start M vs)[j]? = some (some (V.ref a)) from vb] at e2
    cases e1; cases e2
    refine rp.uniq i j s t a hij hi hj ?_ h2 q1 q2
    rcases h1 with h1 | h1
    · exact absurd h1 (rp.ok i s hi).1
    · exact h1
/-- what the parameters hold at the end -/
theorem fin_rel {M : List Str} {Z' : AP1} (rp : RelP w Zo ps vs H) (hn : ps.length = n) (hM : n ≤ M.length) (st : StepS (ps.map some ++ List.replicate (M.length - n) none) (L2.start M vs) H fm σ H') (rf : RelF w Z' fm σ H') {Z : AP1} (hz : ∀ a, Z a → Zx Z' fm σ a) :
    FinsOk w Z H' ps vs ((fm.take n).map Slot.dat) ∧ KeepP ps vs H H' := by
  constructor
  · intro i d a h1 h2
    have lt : i < n := by rw [← hn]; exact (List.getElem?_eq_some_iff.mp h1).1
    have h0 : (ps.map some ++ List.replicate (M.length - n) none)[i]? = some (some ⟨.bor, d⟩) := by
      rw [List.getElem?_append_left (by simpa [hn] using lt), List.getElem?_map, h1]; rfl
    obtain ⟨d', q1, q2⟩ := st.bor i d h0
    refine ⟨d', ?_, ?_⟩
    · rw [List.getElem?_map, List.getElem?_take_of_lt lt, q1]; rfl
    · obtain ⟨v, e1, ok⟩ := rf.ok i _ q1
      obtain ⟨b, e2, _, t⟩ : ∃ b, v = .ref b ∧ Z' b ∧ TopX w (Zx Z' fm σ) H' d' b := ok
      rw [q2, start_at h2] at e1
      cases e1; cases e2
      exact t.ext (ext_sub hz) rfl
  · refine ⟨fun a o e nb => st.keep a o e fun z => nb ?_, st.there⟩
    obtain ⟨i, s, h1, h2, h3⟩ := z
    obtain ⟨h1, lt⟩ := fm0_at hn h1
    obtain ⟨nk, v, q1, _⟩ := rp.ok i s h1
    have e1 := start_at (M := M) q1
    rw [show (L2.start M vs)[i]? = some (some (V.ref a)) from h3] at e1
    cases e1
    obtain ⟨k, d⟩ := s
    rcases h2 with h2 | h2
    · exact absurd h2 nk
    · have h2 : k = .bor := h2
      subst h2
      exact ⟨i, d, h1, q1⟩
end
section
variable {P : Program} {w : World} {K : PySem.W.Frag} {mg : Str → Option Value} {base : Heap} {wd : Wd}
theorem fn_post {ps : List Slot} {vs : List V} {Zo : AP1} {H : Hp} {Q : VK} {E : XK} {N : List Str} {n : Nat} {body : MS} {out : Out R} {fins : List D} (rp : RelP wd Zo ps vs H) (hn : ps.length = n) (hM : n ≤ N.length)
    (hF : fnM n N.length body ps = some (out, fins)) (post : PostF wd Zo ps vs H out fins Q E) : ∃ fl fm', body (ps.map some ++ List.replicate (N.length - n) none) = some (fl, fm') ∧
      PostS wd (fun cls d _ H => E cls d H) Zo (L2.start N vs) H (ps.map some ++ List.replicate (N.length - n) none) fl fm' { nx := fun _ H' => Q .non H', rt := Q } := by
  unfold fnM at hF
  split at hF
  · rename_i fl fm' hb
    split at hF
    · rename_i out1 he
      cases hF
      refine ⟨fl, fm', hb, ?_⟩
      have frz_ : ∀ {d : D} {v : V} {σ' : St} {H' : Hp}, PostF wd Zo ps vs H (.ok (.frz d)) ((fm'.take n).map Slot.dat) Q E → StepS (ps.map some ++ List.replicate (N.length - n) none) (L2.start N vs) H fm' σ' H' → RelF wd Zo fm' σ' H' → Rep wd (Zx Zo fm' σ') H' d v → Q v H' := fun {d v σ' H'} post st rf rv => by
        obtain ⟨fo, kp⟩ := fin_rel rp hn hM st rf (Z := Zo) fun a z => .inl z
        exact post v H' kp fo (rv.ext (ext_sub fun a z => .inl z))
      have rt_ : ∀ {r : R}, endOf (.rt r) fm' = some out → PostS wd (fun cls d _ H => E cls d H) Zo (L2.start N vs) H (ps.map some ++ List.replicate (N.length - n) none) (.rt r) fm' { nx := fun _ H' => Q .non H', rt := Q } := fun {r} he v σ' H' st rr => by
        cases r with
        | frz d =>
          cases he
          exact frz_ post st rr.1 rr.2
        | tmp d =>
          cases he
          obtain ⟨p, rfl, t⟩ := rr
          obtain ⟨fo, kp⟩ := fin_rel rp hn hM st t.rel (Z := Zp Zo p) fun a z => .inl z
          exact post p H' kp t.new fo (t.top.ext (ext_sub fun a z => .inl z) rfl)
        | var i =>
          obtain ⟨rf, hv, _⟩ := rr
          have he : (match fm'[i]? with
            | some (some ⟨.own, d⟩) => some (Out.ok (R.tmp d))
            | some (some ⟨.frz, d⟩) => some (Out.ok (R.frz d))
            | _ => none) = some out := he
          split at he
          · rename_i d hd
            cases he
            obtain ⟨v', e1, ok⟩ := rf.ok i _ hd
            obtain ⟨a, e2, nz, t⟩ : ∃ b, v' = .ref b ∧ ¬ Zo b ∧ TopX wd (Zx Zo fm' σ') H' d b := ok
            rw [hv] at e1; cases e1
            subst e2
            have own : OwnA fm' σ' a := ⟨i, d, hd, hv⟩
            have hz : ∀ b, Zp Zo a b → Zx Zo fm' σ' b := fun b z => by
              rcases z with z | z
              · exact .inl z
              · subst z; exact .inr own
            obtain ⟨fo, kp⟩ := fin_rel rp hn hM st rf hz
            refine post a H' kp ?_ fo (t.ext (ext_sub hz) rfl)
            rcases st.wr a own.wr with z | z
            · obtain ⟨j, s, h1, h2, h3⟩ := z
              have := start_rel rp hn hM
              have zz := this.wrz ⟨j, s, h1, h2, h3⟩
              rcases zz with zz | ⟨k, d', h4, _⟩
              · exact absurd zz nz
              · obtain ⟨h4, _⟩ := fm0_at hn h4
                exact absurd rfl (rp.ok k _ h4).1
            · exact z
          · rename_i d hd
            cases he
            obtain ⟨v', e1, ok⟩ := rf.ok i _ hd
            rw [hv] at e1; cases e1
            exact frz_ post st rf ok
          · cases he
      cases fl with
      | nx =>
        cases he
        exact fun σ' H' st rf => frz_ post st rf rfl
      | rt r => exact rt_ he
      | bk => cases he
      | ct => cases he
      | ex x =>
        cases he
        intro cls d σ' H' st rf rx
        obtain ⟨fo, kp⟩ := fin_rel rp hn hM st rf (Z := Zo) fun a z => .inl z
        exact post cls d H' kp fo (rx.ext (ext_sub fun a z => .inl z) fun _ _ e => e)
    · cases hF
  · cases hF
/-- THE RULE for a def -/
theorem fn_ok {x qual : Str} {st : Stmt} {f : Addr} {fd : FuncData} {N ps : List Str} {k : Nat} {m : MS} (F : L2.Fun K x qual st f fd) (S : FnScope N ps (defScope st))
    (hb : ∀ (cdv : Value) (A : Around) (outer : List Env) (s : Shared) (H : Hp) (E : XK), Room k (A.deeper (envOfC qual (defScope st) s.heap.objs.size f cdv)) →
      Takes (cxOf (L2.CX P w) P w K mg base N qual (defScope st) f cdv A outer s H E) (fun cls d _ H => E cls d H) →
      SSs (cxOf (L2.CX P w) P w K mg base N qual (defScope st) f cdv A outer s H E) wd (fun cls d _ H => E cls d H) (defBody st) m) :
    FnOk P w K mg base (L2.CX P w) (k + 1) f fd ps (spF wd ps.length (fnM ps.length N.length m)) := by
  refine F.okX S (fun vs H Q E h => h.1) fun cdv A outer s H vs Q E hr hsp => ?_
  obtain ⟨hl, Zo, pl, out, fins, rp, hF, post⟩ := hsp
  have hM : ps.length ≤ N.length := by have := congrArg List.length S.pre; rw [List.length_take] at this; omega
  obtain ⟨fl, fm', e1, p1⟩ := fn_post rp (rp.len.trans hl) hM hF post
  exact ⟨_, pss_w, hb cdv A outer s H E hr (takes_of rfl rfl rfl rfl) Zo _ _ H fl fm' _ (start_rel rp (rp.len.trans hl) hM) e1 p1⟩
end
end U
end

section
set_option Elab.async false
set_option linter.all false
set_option maxRecDepth 100000
set_option maxHeartbeats 400000
set_option autoImplicit false
/-! U14: what is walked (IM, and IL for dicts that are locked the while), for. -/
namespace U
open PySem L2
open PyProof.Rows (envOfC)

/-- an iterator that yields ds while At stands -/
structure ItD (w : Wd) (J : It) (ds src : List D) (vs : List V) (At : Addr → HO → Prop) : Prop where
  go : ∀ i H, (∀ a o, At a o → H a = some o) → i < ds.length → J.go i H
  stop : ∀ i H, (∀ a o, At a o → H a = some o) → ds.length ≤ i → J.stop i H
  yld : ∀ i H x H' Z, (∀ a o, At a o → H a = some o) → (∀ p, H p = none → ¬ Z p) → Reps w Z H src vs → J.yld i H x H' → i < ds.length → HK H H' ∧ ∃ d, ds[i]? = some d ∧ Rep w Z H' d x
structure Stay (w : Wd) (src : List D) (vs : List V) (At : Addr → HO → Prop) (Zo : AP1) (fm : Fm) (σ : St) (H : Hp) : Prop where
  at_ : ∀ a o, At a o → H a = some o ∧ ¬ WrA fm σ a
  rep : Reps w (Zx Zo fm σ) H src vs
section
variable {w : Wd} {src : List D} {vs : List V} {At : Addr → HO → Prop} {Zo Zo' : AP1} {fm fm' : Fm} {σ σ' : St} {H H' : Hp}
theorem Stay.step (s : Stay w src vs At Zo fm σ H) (rf : RelF w Zo fm σ H) (rf' : RelF w Zo fm' σ' H') (st : StepS fm σ H fm' σ' H') : Stay w src vs At Zo fm' σ' H' :=
  ⟨fun a o h => ⟨st.keep a o (s.at_ a o h).1 (s.at_ a o h).2, fun z => by
    rcases st.wr a z with z | z
    · exact (s.at_ a o h).2 z
    · rw [(s.at_ a o h).1] at z; cases z⟩, Reps.step rf rf' st s.rep⟩
theorem Stay.at0 (s : Stay w src vs At Zo fm σ H) : ∀ a o, At a o → H a = some o := fun a o h => (s.at_ a o h).1
end

def wI (X : Cx) (tg iter : Expr) : TI := fun σ H R => ∀ pins s, Inv X pins σ H s → wpAny (model X.prog X.w) X.A (eval iter X.env) (fun v s1 => wpAny (model X.prog X.w) X.A (pyIter v) (PIE X pins σ tg R) X.xe s1) X.xe s
theorem pi_w {X : Cx} {tg iter : Expr} : PI X tg iter (wI X tg iter) := ⟨fun pins s _ _ _ I h => h pins s I⟩
theorem wI_of {X : Cx} {tg iter : Expr} {t : TI} (h : PI X tg iter t) {σ : St} {H : Hp} {R : It → Hp → Prop} (q : t σ H R) : wI X tg iter σ H R := fun pins s I => h.run pins s σ H R I q

def PostI (w : Wd) (W : WX) (Zo : AP1) (σ : St) (H : Hp) (fm : Fm) (out : Out (List D)) (fm' : Fm) (R : It → Hp → Prop) : Prop := match out with
  | .ok ds => ∀ J H', StepS fm σ H fm' σ H' → RelF w Zo fm' σ H' → (∃ src vs At, ItD w J ds src vs At ∧ Stay w src vs At Zo fm' σ H') → R J H'
  | .ex x => ∀ cls d H', StepS fm σ H fm' σ H' → RelF w Zo fm' σ H' → RelX w (Zx Zo fm' σ) H' x cls d → W cls d σ H'
def IM (X : Cx) (w : Wd) (W : WX) (tg iter : Expr) (m : M (List D)) : Prop :=
  ∀ Zo fm σ H out fm' R, RelF w Zo fm σ H → m fm = some (out, fm') → PostI w W Zo σ H fm out fm' R → wI X tg iter σ H R

/-! ### lists, tuples, texts, ranges -/
/-- a result that stays while others run -/
def R.lock (fm : Fm) : R → Option (D × Fm)
  | .var i => match fm[i]? with
    | some (some ⟨.own, d⟩) => some (d, fm.set i (some ⟨.frz, d⟩))
    | some (some ⟨.frz, d⟩) => some (d, fm)
    | some (some ⟨.ro, d⟩) => some (d, fm)
    | _ => none
  | .frz d => some (d, fm)
  | .tmp d => some (d, fm)
section
variable {w : Wd} {Zo : AP1} {fm fm' : Fm} {σ : St} {H0 H : Hp} {v : V} {d : D} {r : R}
theorem rep_unwr (rf : RelF w Zo fm σ H) (h : Rep w (Zx Zo fm σ) H d v) (hn : d.ns = true) : ∀ a, v = .ref a → ¬ WrA fm σ a := fun a e z => by
  have zz := rf.wrz z
  subst e
  cases d with
  | scr ns => cases hn
  | tup xs => obtain ⟨b, vs, e, n, _⟩ := h; cases e; exact n zz
  | lst xs => obtain ⟨b, vs, e, n, _⟩ := h; cases e; exact n zz
  | dic xs => obtain ⟨b, vs, e, n, _⟩ := h; cases e; exact n zz
  | obj c xs => obtain ⟨b, dx, vs, e, n, _⟩ := h; cases e; exact n zz
  | non => cases (show V.ref a = .non from h)
  | bl b => cases (show V.ref a = .bl b from h)
  | int b => cases (show V.ref a = .int b from h)
  | str b => cases (show V.ref a = .str b from h)
theorem RelR.lock (h : RelR w Zo fm σ H0 H r v) (g : r.lock fm = some (d, fm')) (hn : d.ns = true) : RelF w Zo fm' σ H ∧ TopR w (Zx Zo fm' σ) H d v ∧ StepS fm σ H fm' σ H ∧ ∀ a, v = .ref a → ¬ WrA fm' σ a := by
  have fz : ∀ {fm' : Fm}, r.eat fm = some (d, fm') → RelF w Zo fm' σ H ∧ TopR w (Zx Zo fm' σ) H d v ∧ StepS fm σ H fm' σ H ∧ ∀ a, v = .ref a → ¬ WrA fm' σ a := fun {fm'} e => by
    obtain ⟨q1, q2, q3⟩ := h.eat e
    exact ⟨q1, q2.top, q3, rep_unwr q1 q2 hn⟩
  cases r with
  | frz d' => exact fz g
  | tmp d' => exact fz g
  | var i =>
    have g : (match fm[i]? with
      | some (some ⟨.own, d⟩) => some (d, fm.set i (some ⟨.frz, d⟩))
      | some (some ⟨.frz, d⟩) => some (d, fm)
      | some (some ⟨.ro, d⟩) => some (d, fm)
      | _ => none) = some (d, fm') := g
    split at g
    · rename_i d' hd; cases g; exact fz (by simp only [R.eat, hd])
    · rename_i d' hd; cases g; exact fz (by simp only [R.eat, hd])
    · rename_i d' hd
      cases g
      obtain ⟨rf, hv, _⟩ := h
      refine ⟨rf, rf.see hd hv, .refl, fun a e z => ?_⟩
      obtain ⟨j, s, h1, h2, h3⟩ := z
      by_cases hj : j = i
      · subst hj; rw [hd] at h1; cases h1; rcases h2 with h2 | h2 <;> cases h2
      · exact rf.uniq j i s _ a hj h1 hd h2 (fun z => nomatch z) h3 (by rw [e] at hv; exact hv)
    · cases g
end
def seqOf : D → Option (List D)
  | .lst xs => some xs
  | .tup xs => some xs
  | _ => none
/-- what is walked, as a list or a tuple -/
def iSeq (m : M R) : M (List D) := bindM m fun r fm => match r.lock fm with
  | some (d, fm1) => (match seqOf d with
    | some xs => some (.ok xs, fm1)
    | none => none)
  | none => none
def iLstM (m : M R) : M (List D) := bindM m fun r fm => match r.lock fm with
  | some (.lst xs, fm1) => some (.ok xs, fm1)
  | _ => none
def iTupM (m : M R) : M (List D) := bindM m fun r fm => match r.lock fm with
  | some (.tup xs, fm1) => some (.ok xs, fm1)
  | _ => none
def R.str? : R → Option Str
  | .frz (.str x) => some x
  | _ => none
def R.int? : R → Option Int
  | .frz (.int x) => some x
  | _ => none
theorem R.str_of {r : R} {x : Str} (h : r.str? = some x) : r = .frz (.str x) := by
  cases r with
  | frz d => cases d <;> first | (cases h; rfl) | (exact nomatch h)
  | tmp d => cases h
  | var i => cases h
theorem R.int_of {r : R} {x : Int} (h : r.int? = some x) : r = .frz (.int x) := by
  cases r with
  | frz d => cases d <;> first | (cases h; rfl) | (exact nomatch h)
  | tmp d => cases h
  | var i => cases h
def iStrM (m : M R) : M (List D) := bindM m fun r fm => match r.str? with
  | some x => some (.ok (x.cps.toList.map fun c => .str ⟨#[c]⟩), fm)
  | _ => none
def rngD (lo : Int) (n : Nat) : List D := (List.range n).map fun (i : Nat) => D.int (lo + (i : Int))
instance (j : Int) : Decidable (-(2 ^ 62) ≤ j ∧ j < 2 ^ 62) := inferInstance
def iRngM (m : M R) : M (List D) := bindM m fun r fm => match r.int? with
  | some j => if -(2 ^ 62) ≤ j ∧ j < 2 ^ 62 then some (.ok (rngD 0 j.toNat), fm) else none
  | _ => none
section
variable {X : Cx} {w : Wd} {W : WX} {e tg : Expr} {m : M R}
theorem itd_lst {K : PySem.W.Frag} {a : Addr} {xs : List D} {vs : List V} (hl : vs.length = xs.length) : ItD w (Itl K a) xs xs vs (fun b o => b = a ∧ o = .lst vs) where
  go := fun i H h hi => ⟨vs, vs[i]'(by omega), SqL.of (h a _ ⟨rfl, rfl⟩), by simp⟩
  stop := fun i H h hi => ⟨vs, SqL.of (h a _ ⟨rfl, rfl⟩), by omega⟩
  yld := fun i H x H' Z h _ hr hy hi => by
    obtain ⟨rfl, hx⟩ := hy
    obtain ⟨d, h1, h2⟩ := hr.at (hx vs (SqL.of (h a _ ⟨rfl, rfl⟩)))
    exact ⟨fun _ _ e => e, d, h1, h2⟩
theorem itd_tup {K : PySem.W.Frag} {a : Addr} {xs : List D} {vs : List V} (hl : vs.length = xs.length) : ItD w (Itt K a) xs xs vs (fun b o => b = a ∧ o = .tup vs) where
  go := fun i H h hi => ⟨vs, vs[i]'(by omega), SqT.of (h a _ ⟨rfl, rfl⟩), by simp⟩
  stop := fun i H h hi => ⟨vs, SqT.of (h a _ ⟨rfl, rfl⟩), by omega⟩
  yld := fun i H x H' Z h _ hr hy hi => by
    obtain ⟨rfl, hx⟩ := hy
    obtain ⟨d, h1, h2⟩ := hr.at (hx vs (SqT.of (h a _ ⟨rfl, rfl⟩)))
    exact ⟨fun _ _ e => e, d, h1, h2⟩
theorem itd_rng {lo : Int} {n : Nat} : ItD w (Itr lo n) (rngD lo n) [] [] (fun _ _ => False) where
  go := fun i H h hi => by show i < n; simpa [rngD] using hi
  stop := fun i H h hi => by show n ≤ i; simpa [rngD] using hi
  yld := fun i H x H' Z h _ hr hy hi => by
    obtain ⟨rfl, rfl⟩ := hy
    have hi : i < n := by simpa [rngD] using hi
    exact ⟨fun _ _ e => e, .int (lo + i), by simp [rngD, hi], rfl⟩
theorem itd_str {x : Str} : ItD w (Its x) (x.cps.toList.map fun c => D.str ⟨#[c]⟩) [] [] (fun _ _ => False) where
  go := fun i H h hi => by show i < x.cps.size; simpa using hi
  stop := fun i H h hi => by show x.cps.size ≤ i; simpa using hi
  yld := fun i H v H' Z h _ hr hy hi => by
    obtain ⟨rfl, c, hc, rfl⟩ := hy
    exact ⟨fun _ _ e => e, .str ⟨#[c]⟩, by simp [hc], rfl⟩
theorem stay0 {Zo : AP1} {fm : Fm} {σ : St} {H : Hp} : Stay w [] [] (fun _ _ => False) Zo fm σ H := ⟨fun _ _ z => z.elim, rfl⟩
theorem im_lst (h : SE X w W e m) : IM X w W tg e (iLstM m) := by
  intro Zo fm σ H out fm' R rf hm post
  have px : PostX w W Zo σ H fm out fm' := fun x e => by subst e; exact post
  refine wI_of (pi_list pe_w) (se_bind h rf hm px fun r fm1 v H1 st rr px1 hk => ?_)
  have hk : (match r.lock fm1 with
    | some (.lst xs, fm1) => some (Out.ok xs, fm1)
    | _ => none) = some (out, fm') := hk
  split at hk
  · rename_i xs fm2 h2
    cases hk
    obtain ⟨q1, ⟨a, vs, rfl, ha, hr⟩, q3, q4⟩ := rr.lock h2 rfl
    exact ⟨a, rfl, ⟨vs, SqL.of ha⟩, post _ _ (st.trans q3) q1 ⟨xs, vs, _, itd_lst hr.length, fun b o z => by obtain ⟨rfl, rfl⟩ := z; exact ⟨ha, q4 _ rfl⟩, hr⟩⟩
  · cases hk
theorem im_tup (h : SE X w W e m) : IM X w W tg e (iTupM m) := by
  intro Zo fm σ H out fm' R rf hm post
  have px : PostX w W Zo σ H fm out fm' := fun x e => by subst e; exact post
  refine wI_of (pi_tup pe_w) (se_bind h rf hm px fun r fm1 v H1 st rr px1 hk => ?_)
  have hk : (match r.lock fm1 with
    | some (.tup xs, fm1) => some (Out.ok xs, fm1)
    | _ => none) = some (out, fm') := hk
  split at hk
  · rename_i xs fm2 h2
    cases hk
    obtain ⟨q1, ⟨a, vs, rfl, ha, hr⟩, q3, q4⟩ := rr.lock h2 rfl
    exact ⟨a, rfl, ⟨vs, SqT.of ha⟩, post _ _ (st.trans q3) q1 ⟨xs, vs, _, itd_tup hr.length, fun b o z => by obtain ⟨rfl, rfl⟩ := z; exact ⟨ha, q4 _ rfl⟩, hr⟩⟩
  · cases hk
theorem im_str (h : SE X w W e m) : IM X w W tg e (iStrM m) := by
  intro Zo fm σ H out fm' R rf hm post
  have px : PostX w W Zo σ H fm out fm' := fun x e => by subst e; exact post
  refine wI_of (pi_str pe_w) (se_bind h rf hm px fun r fm1 v H1 st rr px1 hk => ?_)
  have hk : (match r.str? with
    | some x => some (Out.ok (x.cps.toList.map fun c => D.str ⟨#[c]⟩), fm1)
    | _ => none) = some (out, fm') := hk
  split at hk
  · rename_i x hx
    cases hk
    rw [U.R.str_of hx] at rr
    exact ⟨x, rr.2, post _ _ st rr.1 ⟨[], [], _, itd_str, stay0⟩⟩
  · cases hk
theorem im_rng {p pos : Pos} (hg : Gl X "range") (hm0 : X.mg "range" = none) (h : SE X w W e m) (hs : starEach [e] X.env = [(false, eval e X.env)] := by rfl) (hs2 : starEach [e] X.env = (false, eval e X.env) :: starEach [] X.env := by rfl) : IM X w W tg (.Call (.Name "range" p) [e] [] pos) (iRngM m) := by
  intro Zo fm σ H out fm' R rf hm post
  have px : PostX w W Zo σ H fm out fm' := fun x e => by subst e; exact post
  refine wI_of (pi_range1 hg hm0 (pa_cons (X := X) (e := e) (es := []) pe_w pa_nil hs2) hs) (se_bind h rf hm px fun r fm1 v H1 st rr px1 hk => ?_)
  have hk : (match r.int? with
    | some j => if -(2 ^ 62) ≤ j ∧ j < 2 ^ 62 then some (Out.ok (rngD 0 j.toNat), fm1) else none
    | _ => none) = some (out, fm') := hk
  split at hk
  · rename_i j hx
    split at hk
    · rename_i hj
      cases hk
      rw [U.R.int_of hx] at rr
      have ev : v = .int j := rr.2
      subst ev
      exact ⟨j, rfl, hj.1, hj.2, post _ _ st rr.1 ⟨[], [], _, itd_rng, stay0⟩⟩
    · cases hk
  · cases hk
end

/-! ### for -/
def forM (g : GM) (b : MS) : List D → MS
  | [], fm => some (.nx, fm)
  | d :: ds, fm => (match g d fm with
    | some fm1 => (match b fm1 with
      | some (.nx, fm2) => forM g b ds fm2
      | some (.ct, fm2) => forM g b ds fm2
      | some (.bk, fm2) => some (.nx, fm2)
      | some (.rt r, fm2) => some (.rt r, fm2)
      | some (.ex x, fm2) => some (.ex x, fm2)
      | none => none)
    | none => none)
def eForM (m : M (List D)) (g : GM) (b : MS) : MS := fun fm => match m fm with
  | some (.ok ds, fm1) => forM g b ds fm1
  | some (.ex x, fm1) => some (.ex x, fm1)
  | none => none
section
variable {X : Cx} {w : Wd} {W : WX} {it tg : Expr} {body : List Stmt} {m : M (List D)} {L : List Nat} {g : GM} {b : MS} {pos : Pos}
/-- the turns of a loop -/
theorem for_turns {Zo : AP1} {J : It} {ds src : List D} {vs : List V} {At : Addr → HO → Prop} {fm0 fm' : Fm} {σ0 : St} {H0 : Hp} {fl : Fl} {D : Ends} (hg : SG X w tg L g) (hb : SSs X w W body b) (rf0 : RelF w Zo fm0 σ0 H0) (J1 : ItD w J ds src vs At) (S0 : Stay w src vs At Zo fm0 σ0 H0)
    (hm : forM g b ds fm0 = some (fl, fm')) (post : PostS w W Zo σ0 H0 fm0 fl fm' D) :
    ∃ W : Nat → Nat → St → Hp → Prop, (∃ m, W 0 m σ0 H0) ∧ ∀ i m σ H, W i m σ H →
      (J.stop i H ∧ D.nx σ H) ∨ (J.go i H ∧ ∃ N : St → Hp → Prop, (∀ σ' H', N σ' H' → ∃ m', m' < m ∧ W (i + 1) m' σ' H') ∧ ∀ x H', J.yld i H x H' → wG X tg x σ H' fun σ2 H2 => wSs X body { D with nx := N, ct := N, bk := D.nx } σ2 H2) := by
  let P : Nat → St → Hp → Prop := fun i σ H => ∃ fm, RelF w Zo fm σ H ∧ StepS fm0 σ0 H0 fm σ H ∧ forM g b (ds.drop i) fm = some (fl, fm')
  refine ⟨fun i m σ H => m = ds.length - i ∧ i ≤ ds.length ∧ P i σ H, ⟨_, rfl, Nat.zero_le _, fm0, rf0, .refl, hm⟩, ?_⟩
  rintro i m σ H ⟨rfl, hi, fm, rf, st, hk⟩
  have S := S0.step rf0 rf st
  by_cases hlt : i < ds.length
  · refine .inr ⟨J1.go i H S.at0 hlt, P (i + 1), fun σ' H' n => ⟨_, by omega, rfl, hlt, n⟩, fun x H' hy => ?_⟩
    obtain ⟨k, d, hd, rp⟩ := J1.yld i H x H' (Zx Zo fm σ) S.at0 (fun p hp => rf.nz hp) S.rep hy hlt
    have rf' := rf.hk k
    have hdr : ds.drop i = d :: ds.drop (i + 1) := by
      rw [List.drop_eq_getElem_cons hlt]
      rw [List.getElem?_eq_getElem hlt] at hd
      cases hd; rfl
    rw [hdr] at hk
    unfold forM at hk
    split at hk
    · rename_i fm1 h1
      refine hg Zo fm σ H' d x fm1 _ rf' rp h1 fun σ2 st2 rf2 _ => ?_
      have st3 := st.trans ((StepS.grow k).trans st2)
      split at hk
      · rename_i fm2 h2
        exact hb Zo fm1 σ2 H' _ fm2 _ rf2 h2 fun σ3 H3 st4 rf3 => ⟨fm2, rf3, st3.trans st4, hk⟩
      · rename_i fm2 h2
        exact hb Zo fm1 σ2 H' _ fm2 _ rf2 h2 fun σ3 H3 st4 rf3 => ⟨fm2, rf3, st3.trans st4, hk⟩
      · rename_i fm2 h2
        cases hk
        exact hb Zo fm1 σ2 H' _ _ _ rf2 h2 fun σ3 H3 st4 rf3 => post σ3 H3 (st3.trans st4) rf3
      · rename_i r fm2 h2
        cases hk
        exact hb Zo fm1 σ2 H' _ _ _ rf2 h2 fun v σ3 H3 st4 rr => post v σ3 H3 (st3.trans st4) (rr.back st3)
      · rename_i x' fm2 h2
        cases hk
        exact hb Zo fm1 σ2 H' _ _ _ rf2 h2 fun cls d σ3 H3 st4 rf3 rx => post cls d σ3 H3 (st3.trans st4) rf3 rx
      · cases hk
    · cases hk
  · have e : i = ds.length := by omega
    subst e
    rw [List.drop_length] at hk
    cases hk
    exact .inl ⟨J1.stop _ H S.at0 (Nat.le_refl _), post σ H st rf⟩
theorem ss_for (hp : PassesOwn (model X.prog X.w) X.A X.env X.xe) (hc : X.calm = true) (hi : IM X w W tg it m) (hg : SG X w tg L g) (hb : SSs X w W body b) (hs : ∀ x, foldedSetIterable it X.env x = pure x := by intro _; rfl) :
    SS X w W (.For tg it body [] pos) (eForM m g b) := by
  intro Zo fm σ H fl fm' D rf hm post
  refine wS_of (ps_for hp hc pi_w pg_w (pss_w (st := body)) hs) ?_
  show wI X tg it σ H _
  unfold eForM at hm
  split at hm
  · rename_i ds fm1 h1
    refine hi Zo fm σ H _ fm1 _ rf h1 fun J H1 st rf1 hj => ?_
    obtain ⟨src, vs, At, J1, S⟩ := hj
    exact for_turns hg hb rf1 J1 S hm (post.step st)
  · rename_i x fm1 h1
    cases hm
    exact hi Zo fm σ H _ _ _ rf h1 fun cls d H' st rf' rx => post cls d σ H' st rf' rx
  · cases hm
end
end U
end

section
set_option Elab.async false
set_option linter.all false
set_option maxRecDepth 100000
set_option maxHeartbeats 400000
set_option autoImplicit false
/-! U15: comprehensions; locked dicts. -/
namespace U
open PySem L2

/-! ### a dict that is locked while it is walked -/
def Lk (X : Cx) (fm : Fm) (σ : St) (Hu Hl : Hp) : Prop := Hl = Hu ∨ ∃ a od kvs, Hu a = some (.dK kvs) ∧ ¬ WrA fm σ a ∧ (∀ o' u', X.H_0 a ≠ some (.frz o' u')) ∧ Hl = upd Hu a (.frz od (.dK kvs))
def UnlTo (X : Cx) (H H' : Hp) : Prop := H' = H ∨ ∃ d od u, H d = some (.frz od u) ∧ (∀ o' u', X.H_0 d ≠ some (.frz o' u')) ∧ H' = upd H d u
section
variable {X : Cx} {w : Wd} {Zo Zo' : AP1} {fm fm' : Fm} {σ σ' : St} {Hu Hl Hl' H : Hp}
/-- only what stands at a, which nobody may write, is another: read alike -/
theorem RelF.other {H' : Hp} {a : Addr} (rf : RelF w Zo fm σ H) (na : ¬ WrA fm σ a) (hne : ∀ b, b ≠ a → H' b = H b) (hrd : ∀ u, (∀ o u', u ≠ .frz o u') → Rd H a u → Rd H' a u) (hi : ∀ C dx fs, H a ≠ some (.ins C dx fs)) (hl : ∀ vs, H a ≠ some (.lst vs)) (ht : ∀ vs, H a ≠ some (.tup vs)) (hs : ∃ o, H' a = some o) :
    RelF w Zo fm σ H' ∧ (∀ Z, Ext Z H Z H') := by
  have ex : ∀ Z, Ext Z H Z H' := fun Z => by
    refine ⟨fun _ _ _ z => z, fun b u _ nf h => ?_, fun b C dx fs _ h => ?_, fun b vs _ h => ?_, fun b vs _ h => ?_⟩
    · by_cases e : b = a
      · subst e; exact hrd u nf h
      · unfold Rd at h ⊢; rw [hne b e]; exact h
    · by_cases e : b = a
      · subst e; exact absurd h (hi _ _ _)
      · rw [hne b e]; exact h
    · by_cases e : b = a
      · subst e; exact absurd h (hl _)
      · rw [hne b e]; exact h
    · by_cases e : b = a
      · subst e; exact absurd h (ht _)
      · rw [hne b e]; exact h
  refine ⟨⟨rf.len, fun i s h => ?_, rf.uniq, fun b z => ?_⟩, ex⟩
  · obtain ⟨v, hv, ok⟩ := rf.ok i s h
    refine ⟨v, hv, ?_⟩
    obtain ⟨k, d⟩ := s
    cases k with
    | frz => exact Rep.ext (ex _) (show Rep w _ H d v from ok)
    | own =>
      obtain ⟨b, e1, n, t⟩ : ∃ b, v = .ref b ∧ ¬ Zo b ∧ TopX w (Zx Zo fm σ) H d b := ok
      have ne : b ≠ a := fun e => na (by rw [← e]; exact ⟨i, _, h, .inl rfl, by rw [e1] at hv; exact hv⟩)
      exact ⟨b, e1, n, t.ext (ex _) (hne b ne)⟩
    | bor =>
      obtain ⟨b, e1, n, t⟩ : ∃ b, v = .ref b ∧ Zo b ∧ TopX w (Zx Zo fm σ) H d b := ok
      have ne : b ≠ a := fun e => na (by rw [← e]; exact ⟨i, _, h, .inr rfl, by rw [e1] at hv; exact hv⟩)
      exact ⟨b, e1, n, t.ext (ex _) (hne b ne)⟩
    | ro =>
      obtain ⟨b, e1, nn, t⟩ : ∃ b, v = .ref b ∧ d.ns = true ∧ TopR w (Zx Zo fm σ) H d v := ok
      refine ⟨b, e1, nn, ?_⟩
      cases d with
      | scr ns => cases nn
      | dic xs =>
        obtain ⟨c, vs, e2, h3, h4⟩ := t
        have h3' : Rd H' c (.dK vs) := by
          by_cases e : c = a
          · subst e; exact hrd _ (fun _ _ z => nomatch z) h3
          · unfold Rd at h3 ⊢; rw [hne c e]; exact h3
        exact ⟨c, vs, e2, h3', h4.ext (ex _)⟩
      | tup xs =>
        obtain ⟨c, vs, e2, h3, h4⟩ := t
        have e : c ≠ a := fun e => by subst e; exact ht _ h3
        exact ⟨c, vs, e2, (hne c e).trans h3, h4.ext (ex _)⟩
      | lst xs =>
        obtain ⟨c, vs, e2, h3, h4⟩ := t
        have e : c ≠ a := fun e => by subst e; exact hl _ h3
        exact ⟨c, vs, e2, (hne c e).trans h3, h4.ext (ex _)⟩
      | obj c xs =>
        obtain ⟨b', dx, vs, e2, h3, h4⟩ := t
        have e : b' ≠ a := fun e => by subst e; exact hi _ _ _ h3
        exact ⟨b', dx, vs, e2, (hne b' e).trans h3, h4.ext (ex _)⟩
      | _ => exact t
  · by_cases e : b = a
    · subst e; exact hs
    · rw [hne b e]; exact rf.live b z
theorem lk_rel (rf : RelF w Zo fm σ Hu) (l : Lk X fm σ Hu Hl) : RelF w Zo fm σ Hl ∧ (∀ Z, Ext Z Hu Z Hl) := by
  rcases l with rfl | ⟨a, od, kvs, h1, h2, h3, rfl⟩
  · exact ⟨rf, fun _ => .refl⟩
  · exact rf.other h2 (fun b e => upd_ne e) (fun u nf h => by
      rcases h with h | ⟨o, h⟩
      · rw [h1] at h; cases h; exact .inr ⟨od, upd_same⟩
      · rw [h1] at h; cases h) (fun _ _ _ z => by rw [h1] at z; cases z) (fun _ z => by rw [h1] at z; cases z) (fun _ z => by rw [h1] at z; cases z) ⟨_, upd_same⟩
theorem lk_end (l : Lk X fm σ Hu Hl) (rf' : RelF w Zo' fm' σ' Hl') (st : StepS fm σ Hl fm' σ' Hl') : ∃ Hu', UnlTo X Hl' Hu' ∧ RelF w Zo' fm' σ' Hu' ∧ StepS fm σ Hu fm' σ' Hu' ∧ (∀ Z, Ext Z Hl' Z Hu') ∧ (∀ a o, Hl' a = some o → (∀ ob u, o ≠ .frz ob u) → Hu' a = some o) ∧ (∀ a, Hu a = none → Hl a = none) := by
  rcases l with rfl | ⟨a, od, kvs, h1, h2, h3, rfl⟩
  · exact ⟨Hl', .inl rfl, rf', st, fun _ => .refl, fun _ _ e _ => e, fun _ e => e⟩
  · have ha : Hl' a = some (.frz od (.dK kvs)) := st.keep a _ upd_same h2
    have na : ¬ WrA fm' σ' a := fun z => by
      rcases st.wr a z with z | z
      · exact h2 z
      · rw [upd_same] at z; cases z
    obtain ⟨q1, q2⟩ := rf'.other (H' := upd Hl' a (.dK kvs)) na (fun b e => upd_ne e) (fun u nf h => by
      rcases h with h | ⟨o, h⟩
      · rw [ha] at h; cases h; exact absurd rfl (nf _ _)
      · rw [ha] at h; cases h; exact .inl upd_same) (fun _ _ _ z => by rw [ha] at z; cases z) (fun _ z => by rw [ha] at z; cases z) (fun _ z => by rw [ha] at z; cases z) ⟨_, upd_same⟩
    refine ⟨upd Hl' a (.dK kvs), .inr ⟨a, od, _, ha, h3, rfl⟩, q1, ⟨st.bor, st.rob, st.bob, fun b z => ?_, fun b o e n => ?_, fun b o e => ?_⟩, q2, fun b o e hn => ?_, fun b e => ?_⟩
    · rcases st.wr b z with z | z
      · exact .inl z
      · refine .inr ?_
        by_cases e : b = a
        · subst e; rw [upd_same] at z; cases z
        · rw [upd_ne e] at z; exact z
    · by_cases e2 : b = a
      · subst e2; rw [h1] at e; cases e; exact upd_same
      · rw [upd_ne e2]; exact st.keep b o (by rw [upd_ne e2]; exact e) n
    · by_cases e2 : b = a
      · subst e2; exact ⟨_, upd_same⟩
      · obtain ⟨o', h⟩ := st.there b o (by rw [upd_ne e2]; exact e)
        exact ⟨o', by rw [upd_ne e2]; exact h⟩
    · rw [upd_ne (fun z => by subst z; rw [ha] at e; cases e; exact hn _ _ rfl)]; exact e
    · rw [upd_ne (fun z => by subst z; rw [h1] at e; cases e)]; exact e
theorem pe_unl {e : Expr} {t : TE} (h : PE X e t) : PE X e (fun σ H Q => t σ H fun v H' => ∃ H'', UnlTo X H' H'' ∧ Q v H'') := by
  refine ⟨fun pins s σ H Q I hw => ?_⟩
  refine thn (h.run pins s σ H _ I hw) fun v s1 ⟨x, H1, I1, r, H2, u, q⟩ => ?_
  rcases u with rfl | ⟨d, od, u, h1, h2, rfl⟩
  · exact ⟨x, _, I1, r, q⟩
  · exact ⟨x, _, I1.unlock h1 h2, r, q⟩
theorem ps_unl {st : Stmt} {t : TS} (h : PS X st t) : PS X st (fun D σ H => t { nx := fun σ' H' => ∃ H'', UnlTo X H' H'' ∧ D.nx σ' H'', rt := fun v H' => ∃ H'', UnlTo X H' H'' ∧ D.rt v H'', bk := fun σ' H' => ∃ H'', UnlTo X H' H'' ∧ D.bk σ' H'', ct := fun σ' H' => ∃ H'', UnlTo X H' H'' ∧ D.ct σ' H'' } σ H) := by
  refine ⟨fun pins s σ H D I hw => ?_⟩
  have go : ∀ {σ' : St} {H' H'' : Hp} {s' : Shared}, Inv X pins σ' H' s' → UnlTo X H' H'' → Inv X pins σ' H'' s' := fun {σ' H' H'' s'} I u => by
    rcases u with rfl | ⟨d, od, u, h1, h2, rfl⟩
    · exact I
    · exact I.unlock h1 h2
  refine thn (h.run pins s σ H _ I hw) fun f s1 q => ?_
  cases f with
  | next => obtain ⟨σ', H', I2, H2, u, q⟩ := q; exact ⟨σ', H2, go I2 u, q⟩
  | brk => obtain ⟨σ', H', I2, H2, u, q⟩ := q; exact ⟨σ', H2, go I2 u, q⟩
  | cont => obtain ⟨σ', H', I2, H2, u, q⟩ := q; exact ⟨σ', H2, go I2 u, q⟩
  | ret v => obtain ⟨x, σ', H', I2, r, H2, u, q⟩ := q; exact ⟨x, σ', H2, go I2 u, r, q⟩
end
def PostL (X : Cx) (w : Wd) (W : WX) (Zo : AP1) (σ : St) (H : Hp) (fm : Fm) (out : Out (List D)) (fm' : Fm) (R : It → Hp → Prop) : Prop := match out with
  | .ok ds => ∀ J Hu Hl, StepS fm σ H fm' σ Hu → RelF w Zo fm' σ Hu → Lk X fm' σ Hu Hl → (∃ src vs At, ItD w J ds src vs At ∧ Stay w src vs At Zo fm' σ Hl) → R J Hl
  | .ex x => ∀ cls d H', StepS fm σ H fm' σ H' → RelF w Zo fm' σ H' → RelX w (Zx Zo fm' σ) H' x cls d → W cls d σ H'
def IL (X : Cx) (w : Wd) (W : WX) (tg iter : Expr) (m : M (List D)) : Prop :=
  ∀ Zo fm σ H out fm' R, RelF w Zo fm σ H → m fm = some (out, fm') → PostL X w W Zo σ H fm out fm' R → wI X tg iter σ H R
theorem IM.il {X : Cx} {w : Wd} {W : WX} {tg iter : Expr} {m : M (List D)} (h : IM X w W tg iter m) : IL X w W tg iter m := by
  intro Zo fm σ H out fm' R rf hm post
  refine h Zo fm σ H out fm' R rf hm ?_
  cases out with
  | ok ds => exact fun J H' st rf' hj => post J H' H' st rf' (.inl rfl) hj
  | ex x => exact post

/-! ### the block's frame -/
theorem off_refl {L : List Nat} {σ : St} : Off L σ σ := ⟨rfl, fun _ _ => rfl⟩
theorem wipe_get {σ : St} {j : Nat} : ∀ {L : List Nat}, (wipe σ L)[j]? = if j ∈ L then (if j < σ.length then some none else none) else σ[j]?
  | [] => by simp [wipe]
  | v :: vs => by
    unfold wipe
    by_cases e : v = j
    · subst e
      rw [List.getElem?_set_self', wipe_get]
      by_cases hm : v ∈ vs
      · by_cases hl : v < σ.length <;> simp [hm, hl]
      · by_cases hl : v < σ.length
        · simp [hm, hl]
        · simp [hm, hl]
    · rw [List.getElem?_set_ne e, wipe_get]
      simp [Ne.symm e]
theorem off_wipe {L : List Nat} {σ σ' : St} (h : Off L σ σ') : wipe σ' L = wipe σ L := by
  apply List.ext_getElem?
  intro j
  rw [wipe_get, wipe_get, h.1]
  split
  · rfl
  · rename_i hj; exact h.2 j hj
theorem wipe_wipe {L : List Nat} {σ : St} : wipe (wipe σ L) L = wipe σ L := off_wipe ⟨wipe_length σ L, fun j hj => by rw [wipe_get, if_neg hj]⟩
/-- none or frozen -/
def slotFrz (fm : Fm) (i : Nat) : Bool := match fm[i]? with
  | some none => true
  | some (some ⟨.frz, _⟩) => true
  | _ => false
theorem slotFrz_free {fm : Fm} {i : Nat} (h : slotFrz fm i = true) : slotFree fm i = true := by
  unfold slotFrz at h
  unfold slotFree
  split at h <;> first | (rename_i e; rw [e]) | cases h
def wipeM : List Nat → Fm → Option Fm
  | [], fm => some fm
  | v :: vs, fm => (match wipeM vs fm with
    | some f => if slotFrz f v = true then some (f.set v none) else none
    | none => none)
def restM (fo : Fm) : List Nat → Fm → Option Fm
  | [], fm => some fm
  | v :: vs, fm => (match restM fo vs fm with
    | some f => if slotFrz f v = true ∧ slotFrz fo v = true then some (f.set v (fo[v]?.getD none)) else none
    | none => none)
def restS (σ : St) : List Nat → St → St
  | [], σe => σe
  | v :: vs, σe => (restS σ vs σe).set v (σ[v]?.getD none)
theorem restS_len {σ σe : St} : ∀ (L : List Nat), (restS σ L σe).length = σe.length
  | [] => rfl
  | v :: vs => by unfold restS; rw [List.length_set, restS_len vs]
theorem restS_get {σ σe : St} (hl : σe.length = σ.length) (j : Nat) : ∀ {L : List Nat}, (restS σ L σe)[j]? = if j ∈ L then σ[j]? else σe[j]?
  | [] => by simp [restS]
  | v :: vs => by
    unfold restS
    by_cases e : v = j
    · subst e
      rw [List.getElem?_set_self']
      by_cases hv : v < σ.length
      · have : (restS σ vs σe)[v]? = some ((restS σ vs σe)[v]'(by rw [restS_len, hl]; exact hv)) := List.getElem?_eq_getElem _
        rw [this]
        simp [List.getElem?_eq_getElem hv]
      · have : (restS σ vs σe)[v]? = none := List.getElem?_eq_none (by rw [restS_len, hl]; omega)
        rw [this]
        simp [List.getElem?_eq_none (Nat.le_of_not_lt hv)]
    · rw [List.getElem?_set_ne e, restS_get hl]
      simp [Ne.symm e]
theorem restS_wipe {σ : St} {L : List Nat} : restS σ L (wipe σ L) = σ := by
  apply List.ext_getElem?
  intro j
  rw [restS_get (wipe_length σ L), wipe_get]
  split <;> rfl
section
variable {w : Wd} {Zo : AP1} {fm fm0 fm' : Fm} {σ σ0 : St} {H H0 : Hp}
theorem wipe_rel (rf : RelF w Zo fm σ H) (st : StepS fm0 σ0 H0 fm σ H) : ∀ {L : List Nat} {fm' : Fm}, wipeM L fm = some fm' → RelF w Zo fm' (wipe σ L) H ∧ StepS fm0 σ0 H0 fm' (wipe σ L) H
  | [], _, h => by cases h; exact ⟨rf, st⟩
  | v :: vs, fm', h => by
    unfold wipeM at h
    split at h
    · rename_i f hf
      split at h
      · rename_i hs
        cases h
        obtain ⟨q1, q2⟩ := wipe_rel rf st hf
        exact ⟨(rel_store q1 (slotFrz_free hs) (.inl rfl)).1, step_store q2 (slotFrz_free hs) q1.len (fun d => ⟨(fun z => nomatch z), (fun z => nomatch z)⟩) fun d a z => nomatch z⟩
      · cases h
    · cases h
/-- from a frame to a later one in which p is hidden -/
theorem ext_zp {Zo : AP1} {p : Addr} {fm' : Fm} {σ' : St} {H' : Hp} (rf : RelF w Zo fm σ H) (hp : H p = none) (st : StepS fm σ H fm' σ' H') : Ext (Zx Zo fm σ) H (Zx (Zp Zo p) fm' σ') H' := Ext.of (fun a o e z => by
    rcases z with (z | z) | z
    · exact .inl z
    · rw [z, hp] at e; cases e
    · rcases st.wr a z.wr with z | z
      · exact rf.wrz z
      · rw [z] at e; cases e) fun a o n e => st.keep a o e fun z => n (rf.wrz z)
theorem ext_step {fm' : Fm} {σ' : St} {H' : Hp} (rf : RelF w Zo fm σ H) (st : StepS fm σ H fm' σ' H') : Ext (Zx Zo fm σ) H (Zx Zo fm' σ') H' := Ext.of (fun a o e z => by
    rcases z with z | z
    · exact .inl z
    · rcases st.wr a z.wr with z | z
      · exact rf.wrz z
      · rw [z] at e; cases e) fun a o n e => st.keep a o e fun z => n (rf.wrz z)
theorem rest_rel {p : Addr} {fo : Fm} {σo : St} {Ho : Hp} (rfo : RelF w Zo fo σo Ho) (hp : Ho p = none) (rf : RelF w (Zp Zo p) fm σ H) (st : StepS fo σo Ho fm σ H) : ∀ {L : List Nat} {fm' : Fm}, restM fo L fm = some fm' → RelF w (Zp Zo p) fm' (restS σo L σ) H ∧ StepS fo σo Ho fm' (restS σo L σ) H ∧ ∀ {fx : Fm} {σx : St} {Hx : Hp}, StepS fx σx Hx fm σ H → StepS fx σx Hx fm' (restS σo L σ) H
  | [], _, h => by cases h; exact ⟨rf, st, fun s => s⟩
  | v :: vs, fm', h => by
    unfold restM at h
    split at h
    · rename_i f hf
      split at h
      · rename_i hs
        cases h
        obtain ⟨q1, q2, q3⟩ := rest_rel rfo hp rf st hf
        have hso := hs.2
        unfold slotFrz at hso
        split at hso
        · rename_i e
          rw [e]
          exact ⟨(rel_store q1 (slotFrz_free hs.1) (.inl rfl)).1, step_store q2 (slotFrz_free hs.1) q1.len (fun d => ⟨(fun z => nomatch z), (fun z => nomatch z)⟩) (fun d a z => nomatch z), fun sx => step_store (q3 sx) (slotFrz_free hs.1) q1.len (fun d => ⟨(fun z => nomatch z), (fun z => nomatch z)⟩) fun d a z => nomatch z⟩
        · rename_i d e
          rw [e]
          obtain ⟨x, hx, ok⟩ := rfo.ok v _ e
          have rp : Rep w (Zx (Zp Zo p) f (restS σo vs σ)) H d x := Rep.ext (ext_zp rfo hp q2) ok
          refine ⟨(rel_store q1 (slotFrz_free hs.1) (.inr ⟨d, x, rfl, ?_, rp⟩)).1, step_store q2 (slotFrz_free hs.1) q1.len (fun d => ⟨(fun z => nomatch z), (fun z => nomatch z)⟩) (fun d a z => nomatch z), fun sx => step_store (q3 sx) (slotFrz_free hs.1) q1.len (fun d => ⟨(fun z => nomatch z), (fun z => nomatch z)⟩) fun d a z => nomatch z⟩
          rw [hx] <;> rfl
        · cases hso
      · cases h
    · cases h
theorem Nad.step {p : Addr} {fm' : Fm} {σ' : St} {H' : Hp} (n : Nad fm σ p) (hs : ∃ o, H p = some o) (st : StepS fm σ H fm' σ' H') : Nad fm' σ' p := fun i s h hk ha => by
  have wr_ : (s.k = .own ∨ s.k = .bor) → False := fun kk => by
    rcases st.wr p ⟨i, s, h, kk, ha⟩ with ⟨j, t, z1, z2, z3⟩ | z
    · exact n j t z1 (fun e => by rw [e] at z2; rcases z2 with z2 | z2 <;> cases z2) z3
    · obtain ⟨o, e⟩ := hs
      rw [z] at e; cases e
  obtain ⟨k, d⟩ := s
  cases k with
  | frz => exact hk rfl
  | own => exact wr_ (.inl rfl)
  | bor => exact wr_ (.inr rfl)
  | ro =>
    obtain ⟨z1, z2⟩ := st.rob i d h
    exact n i _ z1 (fun z => nomatch z) (by unfold adr; rw [← z2]; exact ha)
/-- what is hidden at p changes -/
theorem RelF.hidden {p : Addr} {o : HO} (rf : RelF w Zo fm σ H) (hp : Zo p) (n : Nad fm σ p) : RelF w Zo fm σ (upd H p o) ∧ Ext (Zx Zo fm σ) H (Zx Zo fm σ) (upd H p o) := by
  have ex : Ext (Zx Zo fm σ) H (Zx Zo fm σ) (upd H p o) := Ext.of (fun _ _ _ z => z) fun a u nz e => by rw [upd_ne (fun z => by subst z; exact nz (.inl hp))]; exact e
  refine ⟨⟨rf.len, fun i s h => ?_, rf.uniq, fun a z => ?_⟩, ex⟩
  · obtain ⟨v, hv, ok⟩ := rf.ok i s h
    refine ⟨v, hv, ?_⟩
    have ne : s.k ≠ .frz → ∀ a, v = .ref a → a ≠ p := fun hk a e z => n i s h hk (by subst z; rw [e] at hv; exact hv)
    obtain ⟨k, d⟩ := s
    cases k with
    | frz => exact Rep.ext ex (show Rep w _ H d v from ok)
    | own =>
      obtain ⟨b, e1, nz, t⟩ : ∃ b, v = .ref b ∧ ¬ Zo b ∧ TopX w (Zx Zo fm σ) H d b := ok
      exact ⟨b, e1, nz, t.ext ex (upd_ne (ne (fun z => nomatch z) b e1))⟩
    | bor =>
      obtain ⟨b, e1, nz, t⟩ : ∃ b, v = .ref b ∧ Zo b ∧ TopX w (Zx Zo fm σ) H d b := ok
      exact ⟨b, e1, nz, t.ext ex (upd_ne (ne (fun z => nomatch z) b e1))⟩
    | ro =>
      obtain ⟨b, e1, nn, t⟩ : ∃ b, v = .ref b ∧ d.ns = true ∧ TopR w (Zx Zo fm σ) H d v := ok
      exact ⟨b, e1, nn, t.ext ex fun a e => upd_ne (ne (fun z => nomatch z) a e)⟩
  · by_cases e : a = p
    · subst e; exact ⟨_, upd_same⟩
    · rw [upd_ne e]; exact rf.live a z
theorem StepS.hide {p : Addr} {o : HO} (st : StepS fm0 σ0 H0 fm σ H) (hp : H0 p = none) : StepS fm0 σ0 H0 fm σ (upd H p o) :=
  ⟨st.bor, st.rob, st.bob, st.wr, fun a u e n => by rw [upd_ne (ne_of_none e hp)]; exact st.keep a u e n, fun a u e => by
    obtain ⟨o', h⟩ := st.there a u e
    exact ⟨o', by rw [upd_ne (ne_of_none e hp)]; exact h⟩⟩
end
end U
end

section
set_option Elab.async false
set_option linter.all false
set_option maxRecDepth 100000
set_option maxHeartbeats 400000
set_option autoImplicit false
/-! U16: list and dict comprehensions. -/
namespace U
open PySem L2
abbrev W0 : WX := fun _ _ _ _ => False

/-- the tests of a comprehension -/
def wTs (X : Cx) (ifs : List Expr) : TT := fun σ H Q => ∃ t : TT, PTs X ifs t ∧ t σ H Q
theorem pts_w {X : Cx} {ifs : List Expr} : PTs X ifs (wTs X ifs) := ⟨fun pins s σ H Q I ⟨_, h, q⟩ => h.run pins s σ H Q I q⟩
def STs (X : Cx) (w : Wd) (W : WX) (ifs : List Expr) (m : M Bool) : Prop :=
  ∀ Zo fm σ H out fm' Q, RelF w Zo fm σ H → m fm = some (out, fm') → PostT w W Zo σ H fm out fm' Q → wTs X ifs σ H Q
theorem sts_nil {X : Cx} {w : Wd} {W : WX} : STs X w W [] (retM true) := by
  intro Zo fm σ H out fm' Q rf hm post
  cases hm
  exact ⟨_, pts_nil, post H .refl rf⟩
theorem sts_one {X : Cx} {w : Wd} {W : WX} {c : Expr} {m : M Bool} (h : ST X w W c m) : STs X w W [c] m := by
  intro Zo fm σ H out fm' Q rf hm post
  exact ⟨_, pts_one pt_w, h Zo fm σ H out fm' Q rf hm post⟩

def bG (X : Cx) (scope : Scope) (tg : Expr) : TG := fun v σ Hh Q => ∀ (s : Shared) (H : Hp) (C : Addr) (cl : List (Str × Addr)) (fp : List Addr), wG (X.blk s H scope (compEnvC scope cl C X.env) fp) tg v σ Hh Q
def bE (X : Cx) (scope : Scope) (e : Expr) : TE := fun σ Hh Q => ∀ (s : Shared) (H : Hp) (C : Addr) (cl : List (Str × Addr)) (fp : List Addr), wE (X.blk s H scope (compEnvC scope cl C X.env) fp) e σ Hh Q
def bT (X : Cx) (scope : Scope) (ifs : List Expr) : TT := fun σ Hh Q => ∀ (s : Shared) (H : Hp) (C : Addr) (cl : List (Str × Addr)) (fp : List Addr), wTs (X.blk s H scope (compEnvC scope cl C X.env) fp) ifs σ Hh Q

def lcLoop (g : GM) (t : M Bool) (e : M D) (L : List Nat) : List D → List D → Fm → Option (List D × Fm)
  | [], acc, fm => some (acc, fm)
  | d :: ds, acc, fm => (match g d fm with
    | some fm1 => (match t fm1 with
      | some (.ok true, fm2) => (match e fm2 with
        | some (.ok y, fm3) => if acc.length < sizeLine then (match wipeM L fm3 with
          | some fm4 => lcLoop g t e L ds (acc ++ [y]) fm4
          | none => none) else none
        | _ => none)
      | some (.ok false, fm2) => (match wipeM L fm2 with
        | some fm4 => lcLoop g t e L ds acc fm4
        | none => none)
      | _ => none)
    | none => none)
def eLc (m : M (List D)) (g : GM) (t : M Bool) (e : M D) (L : List Nat) : M R := fun fm => match m fm with
  | some (.ok ds, fm1) => (match wipeM L fm1 with
    | some fm2 => (match lcLoop g t e L ds [] fm2 with
      | some (acc, fm3) => (match restM fm1 L fm3 with
        | some fm4 => some (.ok (.tmp (.lst acc)), fm4)
        | none => none)
      | none => none)
    | none => none)
  | some (.ex x, fm1) => some (.ex x, fm1)
  | none => none
section
variable {X : Cx} {w : Wd} {W : WX} {elt tg iter kx vx : Expr} {ifs : List Expr} {scope : Scope} {own : List (Str × Nat)} {pos : Pos} {m : M (List D)} {g : GM} {t : M Bool} {e ek : M D}

theorem lc_turns {Zo : AP1} {J : It} {ds src : List D} {vs : List V} {At : Addr → HO → Prop} {L : List Nat} {fm1 fm2 fm3 : Fm} {σ : St} {Hl : Hp} {acc : List D} {D0 : Addr} {Qd : Hp → Prop}
    (hg : ∀ (s : Shared) (H : Hp) (C : Addr) (cl : List (Str × Addr)) (fp : List Addr), SG (X.blk s H scope (compEnvC scope cl C X.env) fp) w tg L g)
    (ht : ∀ (s : Shared) (H : Hp) (C : Addr) (cl : List (Str × Addr)) (fp : List Addr), STs (X.blk s H scope (compEnvC scope cl C X.env) fp) w W0 ifs t)
    (he : ∀ (s : Shared) (H : Hp) (C : Addr) (cl : List (Str × Addr)) (fp : List Addr), SD (X.blk s H scope (compEnvC scope cl C X.env) fp) w W0 elt e)
    (rf : RelF w Zo fm1 σ Hl) (hD : Hl D0 = none) (J1 : ItD w J ds src vs At) (S0 : Stay w src vs At Zo fm1 σ Hl) (hw : wipeM L fm1 = some fm2) (hm : lcLoop g t e L ds [] fm2 = some (acc, fm3))
    (fin : ∀ H, RelF w (Zp Zo D0) fm3 (wipe σ L) H → StepS fm1 σ Hl fm3 (wipe σ L) H → TopX w (Zx (Zp Zo D0) fm3 (wipe σ L)) H (.lst acc) D0 → Nad fm3 (wipe σ L) D0 → Qd H) :
    ∃ W : Nat → Nat → Hp → Prop, (∃ m, W 0 m (upd Hl D0 (.lst []))) ∧ ∀ i m H, W i m H →
      (J.stop i H ∧ Qd H) ∨ (J.go i H ∧ ∃ Nx : Hp → Prop, (∀ H', Nx H' → ∃ m', m' < m ∧ W (i + 1) m' H') ∧ ∀ x H', J.yld i H x H' → bG X scope tg x (wipe σ L) H' fun σ2 H2 => wipe σ2 L = wipe σ L ∧ bT X scope ifs σ2 H2 fun b H3 =>
        if b = true then bE X scope elt σ2 H3 fun y H4 => ∃ acc, H4 D0 = some (.lst acc) ∧ acc.length < sizeLine ∧ Nx (upd H4 D0 (.lst (acc ++ [y]))) else Nx H3) := by
  let P : Nat → Hp → Prop := fun i H => ∃ fmi acci av, RelF w (Zp Zo D0) fmi (wipe σ L) H ∧ StepS fm1 σ Hl fmi (wipe σ L) H ∧ H D0 = some (.lst av) ∧ Reps w (Zx (Zp Zo D0) fmi (wipe σ L)) H acci av ∧ Nad fmi (wipe σ L) D0 ∧ lcLoop g t e L (ds.drop i) acci fmi = some (acc, fm3)
  have base : P 0 (upd Hl D0 (.lst [])) := by
    have rg : RelF w (Zp Zo D0) fm1 σ (upd Hl D0 (.lst [])) := rf.grow (HK.upd hD) (fun a z => .inl z) fun a z => by
      rcases z with z | z
      · exact .inl z
      · subst z; exact .inr ⟨hD, _, upd_same⟩
    obtain ⟨q1, q2⟩ := wipe_rel rg (StepS.grow (HK.upd hD)) hw
    have na : Nad fm1 σ D0 := rf.nad hD
    have na2 : Nad fm2 (wipe σ L) D0 := by
      obtain ⟨_, q3⟩ := wipe_rel rg (StepS.refl (fm := fm1) (σ := σ) (H := upd Hl D0 (.lst []))) hw
      exact na.step ⟨_, upd_same⟩ q3
    exact ⟨fm2, [], [], q1, q2, upd_same, rfl, na2, hm⟩
  refine ⟨fun i m H => m = ds.length - i ∧ i ≤ ds.length ∧ P i H, ⟨_, rfl, Nat.zero_le _, base⟩, ?_⟩
  rintro i m H ⟨rfl, hi, fmi, acci, av, ri, st, hav, hra, nad, hk⟩
  have ezp := ext_zp (p := D0) rf hD st
  have at0 : ∀ a o, At a o → H a = some o := fun a o h => st.keep a o (S0.at_ a o h).1 (S0.at_ a o h).2
  by_cases hlt : i < ds.length
  · refine .inr ⟨J1.go i H at0 hlt, P (i + 1), fun H' n => ⟨_, by omega, rfl, hlt, n⟩, fun x H' hy => ?_⟩
    obtain ⟨k, d, hd, rp⟩ := J1.yld i H x H' (Zx (Zp Zo D0) fmi (wipe σ L)) at0 (fun p hp => ri.nz hp) (S0.rep.ext ezp) hy hlt
    have ri' := ri.hk k
    have hdr : ds.drop i = d :: ds.drop (i + 1) := by
      rw [List.drop_eq_getElem_cons hlt]
      rw [List.getElem?_eq_getElem hlt] at hd
      cases hd; rfl
    rw [hdr] at hk
    unfold lcLoop at hk
    split at hk
    · rename_i fma ha
      intro s0 H0 C cl fp
      refine hg s0 H0 C cl fp (Zp Zo D0) fmi (wipe σ L) H' d x fma _ ri' rp ha fun σ2 st2 rf2 off => ⟨by rw [off_wipe off, wipe_wipe], ?_⟩
      intro s1 H1 C1 cl1 fp1
      have st3 : StepS fmi (wipe σ L) H fma σ2 H' := (StepS.grow k).trans st2
      have wq : wipe σ2 L = wipe σ L := by rw [off_wipe off, wipe_wipe]
      split at hk
      · rename_i fmb hb
        refine ht s1 H1 C1 cl1 fp1 (Zp Zo D0) fma σ2 H' _ fmb _ rf2 hb fun H3 st4 rf4 => ?_
        rw [if_pos rfl]
        split at hk
        · rename_i y fmc hc
          split at hk
          · rename_i hlen
            split at hk
            · rename_i fmd hdd
              intro s2 H2 C2 cl2 fp2
              refine he s2 H2 C2 cl2 fp2 (Zp Zo D0) fmb σ2 H3 _ fmc _ rf4 hc fun v H4 st5 rf5 rv => ?_
              have st6 : StepS fmi (wipe σ L) H fmc σ2 H4 := st3.trans (st4.trans st5)
              have hD4 : H4 D0 = some (.lst av) := st6.keep D0 _ hav fun z => by
                obtain ⟨j, t0, z1, z2, z3⟩ := z
                exact nad j t0 z1 (fun e => by rw [e] at z2; rcases z2 with z2 | z2 <;> cases z2) z3
              have nad4 : Nad fmc σ2 D0 := nad.step ⟨_, hav⟩ st6
              have ra4 : Reps w (Zx (Zp Zo D0) fmc σ2) H4 acci av := Reps.step ri rf5 st6 hra
              refine ⟨av, hD4, by rw [hra.length]; exact hlen, ?_⟩
              obtain ⟨q1, q2⟩ := rf5.hidden (o := .lst (av ++ [v])) (.inr rfl) nad4
              have ra5 : Reps w (Zx (Zp Zo D0) fmc σ2) (upd H4 D0 (.lst (av ++ [v]))) (acci ++ [y]) (av ++ [v]) := (ra4.app (.one rv)).ext q2
              have st7 : StepS fm1 σ Hl fmc σ2 (upd H4 D0 (.lst (av ++ [v]))) := (st.trans st6).hide hD
              obtain ⟨w1, w2⟩ := wipe_rel q1 st7 hdd
              obtain ⟨_, w3⟩ := wipe_rel q1 (StepS.refl (fm := fmc) (σ := σ2) (H := upd H4 D0 (.lst (av ++ [v])))) hdd
              rw [wq] at w1 w2 w3
              exact ⟨fmd, acci ++ [y], av ++ [v], w1, w2, upd_same, Reps.step q1 w1 w3 ra5, nad4.step ⟨_, upd_same⟩ w3, hk⟩
            · cases hk
          · cases hk
        · cases hk
      · rename_i fmb hb
        refine ht s1 H1 C1 cl1 fp1 (Zp Zo D0) fma σ2 H' _ fmb _ rf2 hb fun H3 st4 rf4 => ?_
        rw [if_neg Bool.false_ne_true]
        split at hk
        · rename_i fmd hdd
          have st6 : StepS fmi (wipe σ L) H fmb σ2 H3 := st3.trans st4
          have hD4 : H3 D0 = some (.lst av) := st6.keep D0 _ hav fun z => by
            obtain ⟨j, t0, z1, z2, z3⟩ := z
            exact nad j t0 z1 (fun e => by rw [e] at z2; rcases z2 with z2 | z2 <;> cases z2) z3
          have nad4 : Nad fmb σ2 D0 := nad.step ⟨_, hav⟩ st6
          have ra4 : Reps w (Zx (Zp Zo D0) fmb σ2) H3 acci av := Reps.step ri rf4 st6 hra
          obtain ⟨w1, w2⟩ := wipe_rel rf4 (st.trans st6) hdd
          obtain ⟨_, w3⟩ := wipe_rel rf4 (StepS.refl (fm := fmb) (σ := σ2) (H := H3)) hdd
          rw [wq] at w1 w2 w3
          exact ⟨fmd, acci, av, w1, w2, hD4, Reps.step rf4 w1 w3 ra4, nad4.step ⟨_, hD4⟩ w3, hk⟩
        · cases hk
      · cases hk
    · cases hk
  · have e1 : i = ds.length := by omega
    subst e1
    rw [List.drop_length] at hk
    cases hk
    exact .inl ⟨J1.stop _ H at0 (Nat.le_refl _), fin H ri st ⟨av, hav, hra⟩ nad⟩
/-- what comes behind a comprehension -/
theorem lc_fin {Zo : AP1} {L : List Nat} {fm fm1 fm3 fm4 : Fm} {σ : St} {H Hu Hl H' : Hp} {d : D} {D0 : Addr} {Q : VK} (st0 : StepS fm σ H fm1 σ Hu) (rfu : RelF w Zo fm1 σ Hu) (lk : Lk X fm1 σ Hu Hl) (hD : Hl D0 = none)
    (h4 : restM fm1 L fm3 = some fm4) (r3 : RelF w (Zp Zo D0) fm3 (wipe σ L) H') (s3 : StepS fm1 σ Hl fm3 (wipe σ L) H') (tp : TopX w (Zx (Zp Zo D0) fm3 (wipe σ L)) H' d D0) (nad : Nad fm3 (wipe σ L) D0) (hz : ∀ ob u, H' D0 ≠ some (.frz ob u))
    (post : PostE w W Zo σ H fm (.ok (.tmp d)) fm4 Q) : ∃ H'', UnlTo X H' H'' ∧ Q (.ref D0) H'' := by
  have rfl_ := (lk_rel rfu lk).1
  obtain ⟨q1, q2, q3⟩ := rest_rel rfl_ hD r3 s3 h4
  have q4 := q3 (StepS.refl (fm := fm3) (σ := wipe σ L) (H := H'))
  rw [restS_wipe] at q1 q2 q4
  have huD : Hu D0 = none := by
    rcases lk with rfl | ⟨a, od, kvs, h1, h2, h3, rfl⟩
    · exact hD
    · by_cases e : D0 = a
      · subst e; rw [upd_same] at hD; cases hD
      · rw [upd_ne e] at hD; exact hD
  obtain ⟨H'', u1, u2, u3, u4, u5, _⟩ := lk_end lk q1 q2
  obtain ⟨o, ho⟩ := tp.some
  have e5 : H'' D0 = H' D0 := by
    rw [ho]
    exact u5 D0 o ho fun ob u z => hz ob u (by rw [ho, z])
  refine ⟨H'', u1, post _ H'' (st0.trans u3) (RelR.back st0 ⟨D0, rfl, huD, fun z => ?_, nad.step ⟨o, ho⟩ q4, ?_, u2⟩)⟩
  · obtain ⟨o, e⟩ := rfu.live D0 z
    rw [huD] at e; cases e
  · exact (tp.ext (ext_step r3 q4) rfl).ext (u4 _) e5
theorem lc_run {Zo : AP1} {L : List Nat} {fm fm' : Fm} {σ : St} {H : Hp} {out : Out R} {Q : VK} (hi : IL X w W tg iter m)
    (hg : ∀ (s : Shared) (H : Hp) (C : Addr) (cl : List (Str × Addr)) (fp : List Addr), SG (X.blk s H scope (compEnvC scope cl C X.env) fp) w tg L g)
    (ht : ∀ (s : Shared) (H : Hp) (C : Addr) (cl : List (Str × Addr)) (fp : List Addr), STs (X.blk s H scope (compEnvC scope cl C X.env) fp) w W0 ifs t)
    (he : ∀ (s : Shared) (H : Hp) (C : Addr) (cl : List (Str × Addr)) (fp : List Addr), SD (X.blk s H scope (compEnvC scope cl C X.env) fp) w W0 elt e)
    (rf : RelF w Zo fm σ H) (hm : eLc m g t e L fm = some (out, fm')) (post : PostE w W Zo σ H fm out fm' Q) :
    tLc (wI X tg iter) (bG X scope tg) (bT X scope ifs) (bE X scope elt) L σ H fun v H' => ∃ H'', UnlTo X H' H'' ∧ Q v H'' := by
  show wI X tg iter σ H _
  unfold eLc at hm
  split at hm
  · rename_i ds fm1 h1
    split at hm
    · rename_i fm2 h2
      split at hm
      · rename_i acc fm3 h3
        split at hm
        · rename_i fm4 h4
          cases hm
          refine hi Zo fm σ H _ fm1 _ rf h1 fun J Hu Hl st0 rfu lk hj => ?_
          obtain ⟨src, vs, At, J1, S⟩ := hj
          intro D0 hD
          exact lc_turns hg ht he (lk_rel rfu lk).1 hD J1 S h2 h3 fun H' r3 s3 tp nad => lc_fin st0 rfu lk hD h4 r3 s3 tp nad (fun ob u z => by
            obtain ⟨vs', hv, _⟩ := tp
            rw [hv] at z; cases z) post
        · cases hm
      · cases hm
    · cases hm
  · rename_i x fm1 h1
    cases hm
    exact hi Zo fm σ H _ _ _ rf h1 post
  · cases hm
/-- [e for target in iter if ..] -/
theorem se_lc (hc : X.calm = true) (hN : X.N.Nodup) (hi : IL X w W tg iter m) (ok : BlkOk X.N X.env.scope scope own)
    (hg : ∀ (s : Shared) (H : Hp) (C : Addr) (cl : List (Str × Addr)) (fp : List Addr), SG (X.blk s H scope (compEnvC scope cl C X.env) fp) w tg (own.map (·.2)) g)
    (ht : ∀ (s : Shared) (H : Hp) (C : Addr) (cl : List (Str × Addr)) (fp : List Addr), STs (X.blk s H scope (compEnvC scope cl C X.env) fp) w W0 ifs t)
    (he : ∀ (s : Shared) (H : Hp) (C : Addr) (cl : List (Str × Addr)) (fp : List Addr), SD (X.blk s H scope (compEnvC scope cl C X.env) fp) w W0 elt e) (hs : ∀ x, foldedSetIterable iter X.env x = pure x := by intro _; rfl) :
    SE X w W (.ListComp elt [⟨tg, iter, ifs, 0⟩] scope pos) (eLc m g t e (own.map (·.2))) := by
  intro Zo fm σ H out fm' Q rf hm post
  exact wE_of (pe_unl (pe_lc (wi := wI X tg iter) (g := bG X scope tg) (tt := bT X scope ifs) (te := bE X scope elt) hc hN pi_w ok
    (fun s H C cl fp => ⟨fun pins s' σ Hh v u Q I r h => h s H C cl fp pins s' u I r⟩) (fun s H C cl fp => ⟨fun pins s' σ Hh Q I h => pts_w.run pins s' σ Hh Q I (h s H C cl fp)⟩) (fun s H C cl fp => ⟨fun pins s' σ Hh Q I h => h s H C cl fp pins s' I⟩) hs)) (lc_run hi hg ht he rf hm post)
/-- name = [..] on one line -/
theorem ss_setLc {i : Nat} {y : Str} {py spos : Pos} (hc : X.calm = true) (hN : X.N.Nodup) (hy : X.N[i]? = some y) (hyl : X.env.scope.names.lookup y = some .local)
    (hsw : swapsWith (.ListComp elt [⟨tg, iter, ifs, 0⟩] scope pos) (some (.Name y py)) spos.line X.env = pure true) (hi : IL X w W tg iter m) (ok : BlkOk X.N X.env.scope scope own)
    (hg : ∀ (s : Shared) (H : Hp) (C : Addr) (cl : List (Str × Addr)) (fp : List Addr), SG (X.blk s H scope (compEnvC scope cl C X.env) fp) w tg (own.map (·.2)) g)
    (ht : ∀ (s : Shared) (H : Hp) (C : Addr) (cl : List (Str × Addr)) (fp : List Addr), STs (X.blk s H scope (compEnvC scope cl C X.env) fp) w W0 ifs t)
    (he : ∀ (s : Shared) (H : Hp) (C : Addr) (cl : List (Str × Addr)) (fp : List Addr), SD (X.blk s H scope (compEnvC scope cl C X.env) fp) w W0 elt e) (hs : ∀ x, foldedSetIterable iter X.env x = pure x := by intro _; rfl) :
    SS X w W (.Assign [.Name y py] (.ListComp elt [⟨tg, iter, ifs, 0⟩] scope pos) spos) (setM i (eLc m g t e (own.map (·.2)))) := by
  intro Zo fm σ H fl fm' D rf hm post
  refine wS_of (ps_unl (ps_setLc (wi := wI X tg iter) (g := bG X scope tg) (tt := bT X scope ifs) (te := bE X scope elt) hc hN hy hyl hsw pi_w ok
    (fun s H C cl fp => ⟨fun pins s' σ Hh v u Q I r h => h s H C cl fp pins s' u I r⟩) (fun s H C cl fp => ⟨fun pins s' σ Hh Q I h => pts_w.run pins s' σ Hh Q I (h s H C cl fp)⟩) (fun s H C cl fp => ⟨fun pins s' σ Hh Q I h => h s H C cl fp pins s' I⟩) hs)) ?_
  unfold setM exprM at hm
  split at hm
  · rename_i r fm1 h1
    exact lc_run (Q := fun v H'' => D.nx (σ.set i (some v)) H'') hi hg ht he rf h1 fun v H1 st rr => set_go rr st hm post
  · rename_i z fm1 h1
    cases hm
    exact lc_run (Q := fun v H'' => D.nx (σ.set i (some v)) H'') hi hg ht he rf h1 fun cls d H' st rf' rx => post cls d σ H' st rf' rx
  · cases hm
end

/-! ### dicts walked -/
def keyD : Key → D
  | .inl i => .int i
  | .inr x => .str x
theorem keyD_rep {w : Wd} {Z : AP1} {H : Hp} (k : Key) : Rep w Z H (keyD k) (kV k) := by cases k <;> rfl
theorem RepK.vals {w : Wd} {Z : AP1} {H : Hp} : ∀ {xs : List (Key × D)} {vs : List (Key × V)}, RepK w Z H xs vs → Reps w Z H (xs.map (·.2)) (vs.map (·.2))
  | [], _, h => by subst h; rfl
  | (k, d) :: _, _, h => by
    obtain ⟨v, r, rfl, h2, h3⟩ := h
    exact ⟨v.2, _, rfl, h2.2, RepK.vals h3⟩
section
variable {X : Cx} {w : Wd} {W : WX} {e tg : Expr} {m : M R}
/-- a dict may be locked as soon as it is there -/
theorem pe_lk {te : TE} (h : PE X e te) : PE X e (fun σ H Q => te σ H fun v H1 => Q v H1 ∨ ∃ a kvs, v = .ref a ∧ H1 a = some (.dK kvs) ∧ ∀ od, (∀ o' u', X.H_0 a ≠ some (.frz o' u')) → Q v (upd H1 a (.frz od (.dK kvs)))) := by
  refine ⟨fun pins s σ H Q I hw => ?_⟩
  refine thn (h.run pins s σ H _ I hw) fun u s1 ⟨x, H1, I1, r, q⟩ => ?_
  rcases q with q | ⟨a, kvs, e1, e2, q⟩
  · exact ⟨x, H1, I1, r, q⟩
  · obtain ⟨od, I2⟩ := I1.lock e2 True.intro
    exact ⟨x, _, I2, r, q od (I1.nofrz e2 True.intro)⟩
def iKeyM (m : M R) : M (List D) := bindM m fun r fm => match r.lock fm with
  | some (.dic kvs, fm1) => some (.ok (kvs.map fun kv => keyD kv.1), fm1)
  | _ => none
def iItmM (m : M R) : M (List D) := bindM m fun r fm => match r.lock fm with
  | some (.dic kvs, fm1) => some (.ok (kvs.map fun kv => .tup [keyD kv.1, kv.2]), fm1)
  | _ => none
theorem itd_key {a : Addr} {od : Obj} {Z0 : AP1} {H0 : Hp} {kvs : List (Key × D)} {us : List (Key × V)} (hr : RepK w Z0 H0 kvs us) : ItD w (Itk a od us) (kvs.map fun kv => keyD kv.1) [] [] (fun b o => b = a ∧ o = .frz od (.dK us)) where
  go := fun i H h hi => ⟨h a _ ⟨rfl, rfl⟩, by rw [hr.length]; simpa using hi⟩
  stop := fun i H h hi => ⟨h a _ ⟨rfl, rfl⟩, by rw [hr.length]; simpa using hi⟩
  yld := fun i H x H' Z h _ _ hy hi => by
    obtain ⟨rfl, k, v, hk, rfl⟩ := hy
    have hi : i < kvs.length := by simpa using hi
    obtain ⟨v', h1, _⟩ := hr.get (i := i) (k := (kvs[i]).1) (d := (kvs[i]).2) (by simp [hi])
    rw [hk] at h1; cases h1
    exact ⟨fun _ _ e => e, keyD (kvs[i]).1, by simp [hi], keyD_rep _⟩
theorem itd_itm {a : Addr} {od : Obj} {Z0 : AP1} {H0 : Hp} {kvs : List (Key × D)} {us : List (Key × V)} (hr : RepK w Z0 H0 kvs us) : ItD w (Iti a od us) (kvs.map fun kv => D.tup [keyD kv.1, kv.2]) (kvs.map (·.2)) (us.map (·.2)) (fun b o => b = a ∧ o = .frz od (.dK us)) where
  go := fun i H h hi => ⟨h a _ ⟨rfl, rfl⟩, by rw [hr.length]; simpa using hi⟩
  stop := fun i H h hi => ⟨h a _ ⟨rfl, rfl⟩, by rw [hr.length]; simpa using hi⟩
  yld := fun i H x H' Z h hz hrs hy hi => by
    obtain ⟨T, k, v, hk, rfl, hT, rfl⟩ := hy
    have hi : i < kvs.length := by simpa using hi
    obtain ⟨v', h1, _⟩ := hr.get (i := i) (k := (kvs[i]).1) (d := (kvs[i]).2) (by simp [hi])
    rw [hk] at h1; cases h1
    obtain ⟨v'', h2, h3⟩ := hrs.get (i := i) (d := (kvs[i]).2) (by simp [hi])
    rw [List.getElem?_map, hk] at h2; cases h2
    have ex : Ext Z H Z (upd H T (.tup [kV (kvs[i]).1, v])) := Ext.of (fun _ _ _ z => z) fun b o _ e => HK.upd hT b o e
    exact ⟨HK.upd hT, .tup [keyD (kvs[i]).1, (kvs[i]).2], by simp [hi], T, [kV (kvs[i]).1, v], rfl, hz T hT, upd_same, _, _, rfl, keyD_rep _, _, _, rfl, h3.ext ex, rfl⟩
theorem dic_go {Zo : AP1} {fm fm1 fm2 : Fm} {σ : St} {H H1 : Hp} {r : R} {v : V} {kvs : List (Key × D)} {R0 : Addr → Obj → List (Key × V) → Hp → Prop} (st : StepS fm σ H fm1 σ H1) (rr : RelR w Zo fm1 σ H H1 r v) (h2 : r.lock fm1 = some (.dic kvs, fm2))
    (go : ∀ a od us Hl, StepS fm σ H fm2 σ H1 → RelF w Zo fm2 σ H1 → Lk X fm2 σ H1 Hl → Hl a = some (.frz od (.dK us)) → ¬ WrA fm2 σ a → RepK w (Zx Zo fm2 σ) Hl kvs us → R0 a od us Hl) :
    (∃ d o, v = .ref d ∧ ∃ us, H1 d = some (.frz o (.dK us)) ∧ R0 d o us H1) ∨ ∃ a us, v = .ref a ∧ H1 a = some (.dK us) ∧ ∀ od, (∀ o' u', X.H_0 a ≠ some (.frz o' u')) → ∃ d o, v = .ref d ∧ ∃ us', upd H1 a (.frz od (.dK us)) d = some (.frz o (.dK us')) ∧ R0 d o us' (upd H1 a (.frz od (.dK us))) := by
  obtain ⟨q1, ⟨a, us, rfl, ha, hr⟩, q3, q4⟩ := rr.lock h2 rfl
  rcases ha with ha | ⟨od, ha⟩
  · refine .inr ⟨a, us, rfl, ha, fun od nf => ⟨a, od, rfl, us, upd_same, ?_⟩⟩
    have lk : Lk X fm2 σ H1 (upd H1 a (.frz od (.dK us))) := .inr ⟨a, od, us, ha, q4 _ rfl, nf, rfl⟩
    exact go a od us _ (st.trans q3) q1 lk upd_same (q4 _ rfl) (hr.ext ((lk_rel q1 lk).2 _))
  · exact .inl ⟨a, od, rfl, us, ha, go a od us _ (st.trans q3) q1 (.inl rfl) ha (q4 _ rfl) hr⟩
theorem il_keys (h : SE X w W e m) : IL X w W tg e (iKeyM m) := by
  intro Zo fm σ H out fm' R rf hm post
  have px : PostX w W Zo σ H fm out fm' := fun x e => by subst e; exact post
  refine wI_of (pi_keys (pe_lk pe_w)) (se_bind h rf hm px fun r fm1 v H1 st rr px1 hk => ?_)
  have hk : (match r.lock fm1 with
    | some (.dic kvs, fm1) => some (Out.ok (kvs.map fun kv => keyD kv.1), fm1)
    | _ => none) = some (out, fm') := hk
  split at hk
  · rename_i kvs fm2 h2
    cases hk
    have q := dic_go (X := X) (R0 := fun a od us Hl => R (Itk a od us) Hl) st rr h2 fun a od us Hl s1 r1 lk ha nw hr => post _ _ _ s1 r1 lk ⟨[], [], _, itd_key hr, fun b o z => by obtain ⟨rfl, rfl⟩ := z; exact ⟨ha, nw⟩, rfl⟩
    rcases q with ⟨d, o, e1, us, e2, q⟩ | ⟨a, us, e1, e2, q⟩
    · exact .inl ⟨d, o, e1, .inl ⟨us, e2, q⟩⟩
    · refine .inr ⟨a, us, e1, e2, fun od nf => ?_⟩
      obtain ⟨d, o, e3, us', e4, q5⟩ := q od nf
      exact ⟨d, o, e3, .inl ⟨us', e4, q5⟩⟩
  · cases hk
theorem il_items {elts : List Expr} {kk : Nat} {tpos apos cpos : Pos} (h : SE X w W e m) (hbase : attributeBase e "items" X.env (eval e X.env) = eval e X.env := by rfl) (hline : (apos.endLine == cpos.line) = true := by rfl) :
    IL X w W (.Tuple elts kk tpos) (.Call (.Attribute e "items" apos) [] [] cpos) (iItmM m) := by
  intro Zo fm σ H out fm' R rf hm post
  have px : PostX w W Zo σ H fm out fm' := fun x e => by subst e; exact post
  refine wI_of (pi_items (pe_lk pe_w) hbase hline) (se_bind h rf hm px fun r fm1 v H1 st rr px1 hk => ?_)
  have hk : (match r.lock fm1 with
    | some (.dic kvs, fm1) => some (Out.ok (kvs.map fun kv => D.tup [keyD kv.1, kv.2]), fm1)
    | _ => none) = some (out, fm') := hk
  split at hk
  · rename_i kvs fm2 h2
    cases hk
    have q := dic_go (X := X) (R0 := fun a od us Hl => R (Iti a od us) Hl) st rr h2 fun a od us Hl s1 r1 lk ha nw hr => post _ _ _ s1 r1 lk ⟨_, _, _, itd_itm hr, fun b o z => by obtain ⟨rfl, rfl⟩ := z; exact ⟨ha, nw⟩, hr.vals⟩
    rcases q with ⟨d, o, e1, us, e2, q⟩ | ⟨a, us, e1, e2, q⟩
    · exact .inl ⟨d, o, us, e1, e2, q⟩
    · refine .inr ⟨a, us, e1, e2, fun od nf => ?_⟩
      obtain ⟨d, o, e3, us', e4, q5⟩ := q od nf
      exact ⟨d, o, us', e3, e4, q5⟩
  · cases hk
end
/-- for over a dict: nothing may be raised in it -/
def noexM (m : MS) : MS := fun fm => match m fm with
  | some (.ex _, _) => none
  | r => r
def eForL (m : M (List D)) (g : GM) (b : MS) : MS := fun fm => match m fm with
  | some (.ok ds, fm1) => noexM (forM g b ds) fm1
  | some (.ex x, fm1) => some (.ex x, fm1)
  | none => none
section
variable {X : Cx} {w : Wd} {W : WX} {it tg : Expr} {body : List Stmt} {m : M (List D)} {L : List Nat} {g : GM} {b : MS} {pos : Pos}
theorem post_unl {Zo : AP1} {fm1 fm' : Fm} {σ : St} {Hu Hl : Hp} {fl : Fl} {D : Ends} (lk : Lk X fm1 σ Hu Hl) (hne : ∀ x, fl ≠ .ex x) (post : PostS w W Zo σ Hu fm1 fl fm' D) :
    PostS w W Zo σ Hl fm1 fl fm' { nx := fun σ' H' => ∃ H'', UnlTo X H' H'' ∧ D.nx σ' H'', rt := fun v H' => ∃ H'', UnlTo X H' H'' ∧ D.rt v H'', bk := fun σ' H' => ∃ H'', UnlTo X H' H'' ∧ D.bk σ' H'', ct := fun σ' H' => ∃ H'', UnlTo X H' H'' ∧ D.ct σ' H'' } := by
  cases fl with
  | nx =>
    intro σ' H' st rf
    obtain ⟨H'', u1, u2, u3, _⟩ := lk_end lk rf st
    exact ⟨H'', u1, post σ' H'' u3 u2⟩
  | bk =>
    intro σ' H' st rf
    obtain ⟨H'', u1, u2, u3, _⟩ := lk_end lk rf st
    exact ⟨H'', u1, post σ' H'' u3 u2⟩
  | ct =>
    intro σ' H' st rf
    obtain ⟨H'', u1, u2, u3, _⟩ := lk_end lk rf st
    exact ⟨H'', u1, post σ' H'' u3 u2⟩
  | rt r =>
    intro v σ' H' st rr
    cases r with
    | frz d =>
      obtain ⟨H'', u1, u2, u3, u4, _⟩ := lk_end lk rr.1 st
      exact ⟨H'', u1, post v σ' H'' u3 ⟨u2, rr.2.ext (u4 _)⟩⟩
    | var i =>
      obtain ⟨H'', u1, u2, u3, u4, _⟩ := lk_end lk rr.1 st
      exact ⟨H'', u1, post v σ' H'' u3 ⟨u2, rr.2⟩⟩
    | tmp d =>
      obtain ⟨p, rfl, t⟩ := rr
      obtain ⟨H'', u1, u2, u3, u4, u5, _⟩ := lk_end lk t.rel st
      obtain ⟨o, ho⟩ := t.top.some
      have hnf : ∀ ob u, o ≠ .frz ob u := fun ob u z => by
        subst z
        have tt := t.top
        cases d with
        | lst xs => obtain ⟨vs, h, _⟩ := tt; rw [ho] at h; cases h
        | dic xs => obtain ⟨vs, h, _⟩ := tt; rw [ho] at h; cases h
        | obj c xs => obtain ⟨dx, vs, h, _⟩ := tt; rw [ho] at h; cases h
        | _ => exact tt.elim
      refine ⟨H'', u1, post _ σ' H'' u3 ⟨p, rfl, ?_, t.nz, t.nad, t.top.ext (u4 _) (by rw [ho]; exact u5 p o ho hnf), u2⟩⟩
      have hp := t.new
      rcases lk with rfl | ⟨a, od, kvs, h1, h2, h3, rfl⟩
      · exact hp
      · by_cases e : p = a
        · subst e; rw [upd_same] at hp; cases hp
        · rw [upd_ne e] at hp; exact hp
  | ex x => exact absurd rfl (hne x)
theorem ss_forL (hp : PassesOwn (model X.prog X.w) X.A X.env X.xe) (hc : X.calm = true) (hi : IL X w W tg it m) (hg : SG X w tg L g) (hb : SSs X w W body b) (hs : ∀ x, foldedSetIterable it X.env x = pure x := by intro _; rfl) :
    SS X w W (.For tg it body [] pos) (eForL m g b) := by
  intro Zo fm σ H fl fm' D rf hm post
  refine wS_of (ps_unl (ps_for hp hc pi_w pg_w (pss_w (st := body)) hs)) ?_
  show wI X tg it σ H _
  unfold eForL at hm
  split at hm
  · rename_i ds fm1 h1
    refine hi Zo fm σ H _ fm1 _ rf h1 fun J Hu Hl st rf1 lk hj => ?_
    obtain ⟨src, vs, At, J1, S⟩ := hj
    unfold noexM at hm
    split at hm
    · cases hm
    · rename_i hne
      exact for_turns hg hb (lk_rel rf1 lk).1 J1 S hm (post_unl lk (fun x e => hne x fm' (by rw [hm, e])) (post.step st))
  · rename_i x fm1 h1
    cases hm
    exact hi Zo fm σ H _ _ _ rf h1 fun cls d H' st rf' rx => post cls d σ H' st rf' rx
  · cases hm
end
end U
end

section
set_option Elab.async false
set_option linter.all false
set_option maxRecDepth 100000
set_option maxHeartbeats 400000
set_option autoImplicit false
/-! U17: dict comprehensions. -/
namespace U
open PySem L2
def D.key? : D → Option Key
  | .int i => some (.inl i)
  | .str x => some (.inr x)
  | _ => none
theorem key_rep {w : Wd} {Z : AP1} {H : Hp} {d : D} {k : Key} {v : V} (h : d.key? = some k) (r : Rep w Z H d v) : v = kV k := by
  cases d with
  | int i => cases h; exact r
  | str x => cases h; exact r
  | _ => cases h
def dcLoop (g : GM) (t : M Bool) (ek e : M D) (L : List Nat) : List D → List (Key × D) → Fm → Option (List (Key × D) × Fm)
  | [], acc, fm => some (acc, fm)
  | d :: ds, acc, fm => (match g d fm with
    | some fm1 => (match t fm1 with
      | some (.ok true, fm2) => (match ek fm2 with
        | some (.ok kd, fm2') => (match kd.key? with
          | some k => (match e fm2' with
            | some (.ok y, fm3) => if acc.length < sizeLine then (match wipeM L fm3 with
              | some fm4 => dcLoop g t ek e L ds (putD acc k y) fm4
              | none => none) else none
            | _ => none)
          | none => none)
        | _ => none)
      | some (.ok false, fm2) => (match wipeM L fm2 with
        | some fm4 => dcLoop g t ek e L ds acc fm4
        | none => none)
      | _ => none)
    | none => none)
def eDc (m : M (List D)) (g : GM) (t : M Bool) (ek e : M D) (L : List Nat) : M R := fun fm => match m fm with
  | some (.ok ds, fm1) => (match wipeM L fm1 with
    | some fm2 => (match dcLoop g t ek e L ds [] fm2 with
      | some (acc, fm3) => (match restM fm1 L fm3 with
        | some fm4 => some (.ok (.tmp (.dic acc)), fm4)
        | none => none)
      | none => none)
    | none => none)
  | some (.ex x, fm1) => some (.ex x, fm1)
  | none => none
section
variable {X : Cx} {w : Wd} {W : WX} {tg iter kx vx : Expr} {ifs : List Expr} {scope : Scope} {own : List (Str × Nat)} {pos : Pos} {m : M (List D)} {g : GM} {t : M Bool} {e ek : M D}
theorem dc_turns {Zo : AP1} {J : It} {ds src : List D} {vs : List V} {At : Addr → HO → Prop} {L : List Nat} {fm1 fm2 fm3 : Fm} {σ : St} {Hl : Hp} {acc : List (Key × D)} {D0 : Addr} {Qd : Hp → Prop}
    (hg : ∀ (s : Shared) (H : Hp) (C : Addr) (cl : List (Str × Addr)) (fp : List Addr), SG (X.blk s H scope (compEnvC scope cl C X.env) fp) w tg L g)
    (ht : ∀ (s : Shared) (H : Hp) (C : Addr) (cl : List (Str × Addr)) (fp : List Addr), STs (X.blk s H scope (compEnvC scope cl C X.env) fp) w W0 ifs t)
    (hkx : ∀ (s : Shared) (H : Hp) (C : Addr) (cl : List (Str × Addr)) (fp : List Addr), SD (X.blk s H scope (compEnvC scope cl C X.env) fp) w W0 kx ek)
    (he : ∀ (s : Shared) (H : Hp) (C : Addr) (cl : List (Str × Addr)) (fp : List Addr), SD (X.blk s H scope (compEnvC scope cl C X.env) fp) w W0 vx e)
    (rf : RelF w Zo fm1 σ Hl) (hD : Hl D0 = none) (J1 : ItD w J ds src vs At) (S0 : Stay w src vs At Zo fm1 σ Hl) (hw : wipeM L fm1 = some fm2) (hm : dcLoop g t ek e L ds [] fm2 = some (acc, fm3))
    (fin : ∀ H, RelF w (Zp Zo D0) fm3 (wipe σ L) H → StepS fm1 σ Hl fm3 (wipe σ L) H → TopX w (Zx (Zp Zo D0) fm3 (wipe σ L)) H (.dic acc) D0 → Nad fm3 (wipe σ L) D0 → Qd H) :
    ∃ W : Nat → Nat → Hp → Prop, (∃ m, W 0 m (upd Hl D0 (.dK []))) ∧ ∀ i m H, W i m H →
      (J.stop i H ∧ Qd H) ∨ (J.go i H ∧ ∃ Nx : Hp → Prop, (∀ H', Nx H' → ∃ m', m' < m ∧ W (i + 1) m' H') ∧ ∀ x H', J.yld i H x H' → bG X scope tg x (wipe σ L) H' fun σ2 H2 => wipe σ2 L = wipe σ L ∧ bT X scope ifs σ2 H2 fun b H3 =>
        if b = true then bE X scope kx σ2 H3 fun y H4 => bE X scope vx σ2 H4 fun z H5 => ∃ kvs k, y = kV k ∧ H5 D0 = some (.dK kvs) ∧ kvs.length < sizeLine ∧ Nx (upd H5 D0 (.dK (putK kvs k z))) else Nx H3) := by
  let P : Nat → Hp → Prop := fun i H => ∃ fmi acci av, RelF w (Zp Zo D0) fmi (wipe σ L) H ∧ StepS fm1 σ Hl fmi (wipe σ L) H ∧ H D0 = some (.dK av) ∧ RepK w (Zx (Zp Zo D0) fmi (wipe σ L)) H acci av ∧ Nad fmi (wipe σ L) D0 ∧ dcLoop g t ek e L (ds.drop i) acci fmi = some (acc, fm3)
  have base : P 0 (upd Hl D0 (.dK [])) := by
    have rg : RelF w (Zp Zo D0) fm1 σ (upd Hl D0 (.dK [])) := rf.grow (HK.upd hD) (fun a z => .inl z) fun a z => by
      rcases z with z | z
      · exact .inl z
      · subst z; exact .inr ⟨hD, _, upd_same⟩
    obtain ⟨q1, q2⟩ := wipe_rel rg (StepS.grow (HK.upd hD)) hw
    have na : Nad fm1 σ D0 := rf.nad hD
    have na2 : Nad fm2 (wipe σ L) D0 := by
      obtain ⟨_, q3⟩ := wipe_rel rg (StepS.refl (fm := fm1) (σ := σ) (H := upd Hl D0 (.dK []))) hw
      exact na.step ⟨_, upd_same⟩ q3
    exact ⟨fm2, [], [], q1, q2, upd_same, rfl, na2, hm⟩
  refine ⟨fun i m H => m = ds.length - i ∧ i ≤ ds.length ∧ P i H, ⟨_, rfl, Nat.zero_le _, base⟩, ?_⟩
  rintro i m H ⟨rfl, hi, fmi, acci, av, ri, st, hav, hra, nad, hk⟩
  have ezp := ext_zp (p := D0) rf hD st
  have at0 : ∀ a o, At a o → H a = some o := fun a o h => st.keep a o (S0.at_ a o h).1 (S0.at_ a o h).2
  by_cases hlt : i < ds.length
  · refine .inr ⟨J1.go i H at0 hlt, P (i + 1), fun H' n => ⟨_, by omega, rfl, hlt, n⟩, fun x H' hy => ?_⟩
    obtain ⟨k, d, hd, rp⟩ := J1.yld i H x H' (Zx (Zp Zo D0) fmi (wipe σ L)) at0 (fun p hp => ri.nz hp) (S0.rep.ext ezp) hy hlt
    have ri' := ri.hk k
    have hdr : ds.drop i = d :: ds.drop (i + 1) := by
      rw [List.drop_eq_getElem_cons hlt]
      rw [List.getElem?_eq_getElem hlt] at hd
      cases hd; rfl
    rw [hdr] at hk
    unfold dcLoop at hk
    split at hk
    · rename_i fma ha
      intro s0 H0 C cl fp
      refine hg s0 H0 C cl fp (Zp Zo D0) fmi (wipe σ L) H' d x fma _ ri' rp ha fun σ2 st2 rf2 off => ⟨by rw [off_wipe off, wipe_wipe], ?_⟩
      intro s1 H1 C1 cl1 fp1
      have st3 : StepS fmi (wipe σ L) H fma σ2 H' := (StepS.grow k).trans st2
      have wq : wipe σ2 L = wipe σ L := by rw [off_wipe off, wipe_wipe]
      split at hk
      · rename_i fmb hb
        refine ht s1 H1 C1 cl1 fp1 (Zp Zo D0) fma σ2 H' _ fmb _ rf2 hb fun H3 st4 rf4 => ?_
        rw [if_pos rfl]
        split at hk
        · rename_i kd fmk hck
          split at hk
          · rename_i k hkey
            split at hk
            · rename_i y fmc hc
              split at hk
              · rename_i hlen
                split at hk
                · rename_i fmd hdd
                  intro s2 H2 C2 cl2 fp2
                  refine hkx s2 H2 C2 cl2 fp2 (Zp Zo D0) fmb σ2 H3 _ fmk _ rf4 hck fun kv Hk stk rfk rk => ?_
                  intro s4 H4' C4 cl4 fp4
                  refine he s4 H4' C4 cl4 fp4 (Zp Zo D0) fmk σ2 Hk _ fmc _ rfk hc fun v H4 st5 rf5 rv => ?_
                  have st6 : StepS fmi (wipe σ L) H fmc σ2 H4 := st3.trans (st4.trans (stk.trans st5))
                  have hD4 : H4 D0 = some (.dK av) := st6.keep D0 _ hav fun z => by
                    obtain ⟨j, t0, z1, z2, z3⟩ := z
                    exact nad j t0 z1 (fun e => by rw [e] at z2; rcases z2 with z2 | z2 <;> cases z2) z3
                  have nad4 : Nad fmc σ2 D0 := nad.step ⟨_, hav⟩ st6
                  have ra4 : RepK w (Zx (Zp Zo D0) fmc σ2) H4 acci av := RepK.step ri rf5 st6 hra
                  refine ⟨av, k, key_rep hkey rk, hD4, by rw [hra.length]; exact hlen, ?_⟩
                  obtain ⟨q1, q2⟩ := rf5.hidden (o := .dK (putK av k v)) (.inr rfl) nad4
                  have ra5 : RepK w (Zx (Zp Zo D0) fmc σ2) (upd H4 D0 (.dK (putK av k v))) (putD acci k y) (putK av k v) := (ra4.put rv).ext q2
                  have st7 : StepS fm1 σ Hl fmc σ2 (upd H4 D0 (.dK (putK av k v))) := (st.trans st6).hide hD
                  obtain ⟨w1, w2⟩ := wipe_rel q1 st7 hdd
                  obtain ⟨_, w3⟩ := wipe_rel q1 (StepS.refl (fm := fmc) (σ := σ2) (H := upd H4 D0 (.dK (putK av k v)))) hdd
                  rw [wq] at w1 w2 w3
                  exact ⟨fmd, putD acci k y, putK av k v, w1, w2, upd_same, RepK.step q1 w1 w3 ra5, nad4.step ⟨_, upd_same⟩ w3, hk⟩
                · cases hk
              · cases hk
            · cases hk
          · cases hk
        · cases hk
      · rename_i fmb hb
        refine ht s1 H1 C1 cl1 fp1 (Zp Zo D0) fma σ2 H' _ fmb _ rf2 hb fun H3 st4 rf4 => ?_
        rw [if_neg Bool.false_ne_true]
        split at hk
        · rename_i fmd hdd
          have st6 : StepS fmi (wipe σ L) H fmb σ2 H3 := st3.trans st4
          have hD4 : H3 D0 = some (.dK av) := st6.keep D0 _ hav fun z => by
            obtain ⟨j, t0, z1, z2, z3⟩ := z
            exact nad j t0 z1 (fun e => by rw [e] at z2; rcases z2 with z2 | z2 <;> cases z2) z3
          have nad4 : Nad fmb σ2 D0 := nad.step ⟨_, hav⟩ st6
          have ra4 : RepK w (Zx (Zp Zo D0) fmb σ2) H3 acci av := RepK.step ri rf4 st6 hra
          obtain ⟨w1, w2⟩ := wipe_rel rf4 (st.trans st6) hdd
          obtain ⟨_, w3⟩ := wipe_rel rf4 (StepS.refl (fm := fmb) (σ := σ2) (H := H3)) hdd
          rw [wq] at w1 w2 w3
          exact ⟨fmd, acci, av, w1, w2, hD4, RepK.step rf4 w1 w3 ra4, nad4.step ⟨_, hD4⟩ w3, hk⟩
        · cases hk
      · cases hk
    · cases hk
  · have e1 : i = ds.length := by omega
    subst e1
    rw [List.drop_length] at hk
    cases hk
    exact .inl ⟨J1.stop _ H at0 (Nat.le_refl _), fin H ri st ⟨av, hav, hra⟩ nad⟩
theorem dc_run {Zo : AP1} {L : List Nat} {fm fm' : Fm} {σ : St} {H : Hp} {out : Out R} {Q : VK} (hi : IL X w W tg iter m)
    (hg : ∀ (s : Shared) (H : Hp) (C : Addr) (cl : List (Str × Addr)) (fp : List Addr), SG (X.blk s H scope (compEnvC scope cl C X.env) fp) w tg L g)
    (ht : ∀ (s : Shared) (H : Hp) (C : Addr) (cl : List (Str × Addr)) (fp : List Addr), STs (X.blk s H scope (compEnvC scope cl C X.env) fp) w W0 ifs t)
    (hkx : ∀ (s : Shared) (H : Hp) (C : Addr) (cl : List (Str × Addr)) (fp : List Addr), SD (X.blk s H scope (compEnvC scope cl C X.env) fp) w W0 kx ek)
    (he : ∀ (s : Shared) (H : Hp) (C : Addr) (cl : List (Str × Addr)) (fp : List Addr), SD (X.blk s H scope (compEnvC scope cl C X.env) fp) w W0 vx e)
    (rf : RelF w Zo fm σ H) (hm : eDc m g t ek e L fm = some (out, fm')) (post : PostE w W Zo σ H fm out fm' Q) :
    tDc (wI X tg iter) (bG X scope tg) (bT X scope ifs) (bE X scope kx) (bE X scope vx) L σ H fun v H' => ∃ H'', UnlTo X H' H'' ∧ Q v H'' := by
  show wI X tg iter σ H _
  unfold eDc at hm
  split at hm
  · rename_i ds fm1 h1
    split at hm
    · rename_i fm2 h2
      split at hm
      · rename_i acc fm3 h3
        split at hm
        · rename_i fm4 h4
          cases hm
          refine hi Zo fm σ H _ fm1 _ rf h1 fun J Hu Hl st0 rfu lk hj => ?_
          obtain ⟨src, vs, At, J1, S⟩ := hj
          intro D0 hD
          exact dc_turns hg ht hkx he (lk_rel rfu lk).1 hD J1 S h2 h3 fun H' r3 s3 tp nad => lc_fin st0 rfu lk hD h4 r3 s3 tp nad (fun ob u z => by
            obtain ⟨vs', hv, _⟩ := tp
            rw [hv] at z; cases z) post
        · cases hm
      · cases hm
    · cases hm
  · rename_i x fm1 h1
    cases hm
    exact hi Zo fm σ H _ _ _ rf h1 post
  · cases hm
theorem se_dc (hc : X.calm = true) (hN : X.N.Nodup) (hi : IL X w W tg iter m) (ok : BlkOk X.N X.env.scope scope own)
    (hg : ∀ (s : Shared) (H : Hp) (C : Addr) (cl : List (Str × Addr)) (fp : List Addr), SG (X.blk s H scope (compEnvC scope cl C X.env) fp) w tg (own.map (·.2)) g)
    (ht : ∀ (s : Shared) (H : Hp) (C : Addr) (cl : List (Str × Addr)) (fp : List Addr), STs (X.blk s H scope (compEnvC scope cl C X.env) fp) w W0 ifs t)
    (hkx : ∀ (s : Shared) (H : Hp) (C : Addr) (cl : List (Str × Addr)) (fp : List Addr), SD (X.blk s H scope (compEnvC scope cl C X.env) fp) w W0 kx ek)
    (he : ∀ (s : Shared) (H : Hp) (C : Addr) (cl : List (Str × Addr)) (fp : List Addr), SD (X.blk s H scope (compEnvC scope cl C X.env) fp) w W0 vx e) (hs : ∀ x, foldedSetIterable iter X.env x = pure x := by intro _; rfl) :
    SE X w W (.DictComp kx vx [⟨tg, iter, ifs, 0⟩] scope pos) (eDc m g t ek e (own.map (·.2))) := by
  intro Zo fm σ H out fm' Q rf hm post
  exact wE_of (pe_unl (pe_dc (wi := wI X tg iter) (g := bG X scope tg) (tt := bT X scope ifs) (tk := bE X scope kx) (tv := bE X scope vx) hc hN pi_w ok
    (fun s H C cl fp => ⟨fun pins s' σ Hh v u Q I r h => h s H C cl fp pins s' u I r⟩) (fun s H C cl fp => ⟨fun pins s' σ Hh Q I h => pts_w.run pins s' σ Hh Q I (h s H C cl fp)⟩)
    (fun s H C cl fp => ⟨fun pins s' σ Hh Q I h => h s H C cl fp pins s' I⟩) (fun s H C cl fp => ⟨fun pins s' σ Hh Q I h => h s H C cl fp pins s' I⟩) hs)) (dc_run hi hg ht hkx he rf hm post)
end
end U
end

section
set_option Elab.async false
set_option linter.all false
set_option maxRecDepth 100000
set_option maxHeartbeats 400000
set_option autoImplicit false
/-! U18: subscripts, slices, in, get, displays of dicts, join, more built-ins. -/
namespace U
open PySem L2

/-! ### two values, by a rule on the heap -/
def R2D (w : Wd) (r2 : R2) (g : D → D → Option R) : Prop := ∀ (Zo : AP1) (fm : Fm) (σ : St) (H : Hp) (x y : V) (dx dy : D) (r : R) (Q : VK), RelF w Zo fm σ H → TopR w (Zx Zo fm σ) H dx x → TopR w (Zx Zo fm σ) H dy y → g dx dy = some r →
  (∀ v' H', HK H H' → RelR w Zo fm σ H H' r v' → Q v' H') → r2 x y H Q
section
variable {X : Cx} {w : Wd} {W : WX} {a b : Expr} {ma mb : M R} {g : D → D → Option R} {r2 : R2} {pos : Pos}
theorem bin2_core (ha : SE X w W a ma) (hb : SE X w W b mb) (ho : R2D w r2 g) {Zo : AP1} {fm : Fm} {σ : St} {H : Hp} {out : Out R} {fm' : Fm} {Q : VK} (rf : RelF w Zo fm σ H) (hm : eBin g ma mb fm = some (out, fm')) (post : PostE w W Zo σ H fm out fm' Q) :
    wE X a σ H fun x H1 => wE X b σ H1 fun y H2 => r2 x y H2 Q := by
  refine se_bind ha rf hm post.x fun r1 fm1 v1 H1 st1 rr1 px1 hk => se_bind hb rr1.rel hk px1 fun r2' fm2 v2 H2 st2 rr2 px2 hk2 => ?_
  unfold op2 at hk2
  split at hk2
  · rename_i d1 d2 g1 g2
    split at hk2
    · rename_i r hr
      cases hk2
      exact ho Zo _ σ H2 v1 v2 d1 d2 r Q rr2.rel (soft_see rr1 st2 rr2.rel g1) (soft_see rr2 .refl rr2.rel g2) hr (fun v' H' k rr => post v' H' (st1.trans (st2.trans (.grow k))) (rr.back (st1.trans st2)))
    · cases hk2
  · cases hk2
end
/-! ### subscripts -/
theorem Reps.atI {w : Wd} {Z : AP1} {H : Hp} {xs : List D} {vs : List V} {i : Int} {d : D} (h : Reps w Z H xs vs) (e : L2.atI xs i = some d) : ∃ v, L2.atI vs i = some v ∧ Rep w Z H d v := by
  unfold L2.atI at e ⊢
  rw [h.length]
  cases q : ixN xs.length i with
  | none => rw [q] at e; cases e
  | some j =>
    rw [q] at e
    exact h.get e
def dIx : D → D → Option R
  | .lst xs, .int i => (L2.atI xs i).map .frz
  | .tup xs, .int i => (L2.atI xs i).map .frz
  | .str z, .int i => if z.length ≤ sizeLine then (L2.atI z.cps.toList i).map fun c => .frz (.str ⟨#[c]⟩) else none
  | _, _ => none
def dDx (d k : D) : Option R := match d, k.key? with
  | .dic kvs, some k => (lookD kvs k).map .frz
  | _, _ => none
theorem r2d_ix {K : PySem.W.Frag} {w : Wd} : R2D w (rIx K) dIx := by
  intro Zo fm σ H x y dx dy r Q rf hx hy hg post
  unfold dIx at hg
  split at hg
  · rename_i xs i
    obtain ⟨d, hd, rfl⟩ := Option.map_eq_some_iff.mp hg
    obtain ⟨a, vs, rfl, ha, hr⟩ := hx
    obtain ⟨v, hv, rp⟩ := hr.atI hd
    have hy : y = .int i := hy
    exact .inl ⟨a, vs, i, v, rfl, hy, SqL.of ha, hv, post_frz rf post rp⟩
  · rename_i xs i
    obtain ⟨d, hd, rfl⟩ := Option.map_eq_some_iff.mp hg
    obtain ⟨a, vs, rfl, ha, hr⟩ := hx
    obtain ⟨v, hv, rp⟩ := hr.atI hd
    have hy : y = .int i := hy
    exact .inr (.inl ⟨a, vs, i, v, rfl, hy, SqT.of ha, hv, post_frz rf post rp⟩)
  · rename_i z i
    split at hg
    · rename_i hz
      obtain ⟨c, hc, rfl⟩ := Option.map_eq_some_iff.mp hg
      have hx : x = .str z := hx
      have hy : y = .int i := hy
      exact .inr (.inr ⟨z, i, c, hx, hy, hz, hc, post_frz rf post rfl⟩)
    · cases hg
  · cases hg
theorem key_top {w : Wd} {Z : AP1} {H : Hp} {d : D} {k : Key} {v : V} (h : d.key? = some k) (r : TopR w Z H d v) : v = kV k := by
  cases d with
  | int i => cases h; exact r
  | str x => cases h; exact r
  | _ => cases h
def rDGet : R2 := fun x y H Q => ∃ a v, x = .ref a ∧ DGet H a y (some v) ∧ Q v H
theorem r2d_dx {w : Wd} : R2D w rDGet dDx := by
  intro Zo fm σ H x y dx dy r Q rf hx hy hg post
  unfold dDx at hg
  split at hg
  · rename_i kvs k hk
    obtain ⟨d, hd, rfl⟩ := Option.map_eq_some_iff.mp hg
    obtain ⟨a, us, rfl, ha, hr⟩ := hx
    rcases hr.val (k := k) with ⟨d', v, h1, h2, h3⟩ | ⟨h1, _⟩
    · rw [hd] at h1; cases h1
      exact ⟨a, v, rfl, .inl ⟨us, k, ha, key_top hk hy, h2.symm⟩, post_frz rf post h3⟩
    · rw [hd] at h1; cases h1
  · cases hg
section
variable {X : Cx} {w : Wd} {W : WX} {a b c : Expr} {ma mb mc : M R} {pos apos cpos : Pos}
theorem se_ix (ha : SE X w W a ma) (hb : SE X w W b mb) (hs : PlainIx b := by intro _ _; rfl) : SE X w W (.Subscript a b pos) (eBin dIx ma mb) := by
  intro Zo fm σ H out fm' Q rf hm post
  exact wE_of (pe_ix ix_seq pe_w pe_w hs) (bin2_core ha hb r2d_ix rf hm post)
theorem se_dx (hu : X.A.units + 1 < cLine) (ha : SE X w W a ma) (hb : SE X w W b mb) (hs : NoSl b := by intro _ _; rfl) : SE X w W (.Subscript a b pos) (eBin dDx ma mb) := by
  intro Zo fm σ H out fm' Q rf hm post
  exact wE_of (pe_dget hu pe_w pe_w hs) (bin2_core ha hb r2d_dx rf hm post)
end
/-! ### in -/
def D.flat : D → Bool
  | .non => true
  | .bl _ => true
  | .int _ => true
  | .str _ => true
  | _ => false
def eqF : D → D → Bool
  | .non, .non => true
  | .bl a, .bl b => a == b
  | .bl a, .int b => (if a then 1 else 0) == b
  | .int a, .bl b => a == (if b then 1 else 0)
  | .int a, .int b => a == b
  | .str a, .str b => a == b
  | _, _ => false
def inD (x : D) (xs : List D) : Bool := xs.any fun y => eqF y x
def D.sign? : D → Option Nat
  | .str x => if x.cps.size = 1 then x.cps[0]? else none
  | _ => none
theorem sign_of {d : D} {c : Nat} (h : d.sign? = some c) : d = .str ⟨#[c]⟩ := by
  cases d with
  | str x =>
    have h : (if x.cps.size = 1 then x.cps[0]? else none) = some c := h
    split at h
    · rename_i h1
      obtain ⟨a⟩ := x
      have : a = #[c] := by
        apply Array.ext_getElem?
        intro i
        cases i with
        | zero => exact h
        | succ i => rw [Array.getElem?_eq_none (by have : a.size = 1 := h1; omega)]; simp
      rw [this]
    · cases h
  | _ => cases h
def inB (x : D) : D → Option Bool
  | .dic kvs => x.key?.map fun k => (lookD kvs k).isSome
  | .str z => x.sign?.map fun c => decide (c ∈ z.cps.toList)
  | .lst xs => if x.flat = true ∧ xs.all D.flat = true then some (inD x xs) else none
  | .tup xs => if x.flat = true ∧ xs.all D.flat = true then some (inD x xs) else none
  | _ => none
def dIn (x y : D) : Option R := (inB x y).map fun b => .frz (.bl b)
def dNotIn (x y : D) : Option R := (inB x y).map fun b => .frz (.bl (!b))
section
variable {X : Cx} {w : Wd}
def flatW : D → V
  | .bl b => .bl b
  | .int i => .int i
  | .str x => .str x
  | _ => .non
theorem flat_of {Z : AP1} {H : Hp} {d : D} {v : V} (h : TopR w Z H d v) (f : d.flat = true) : v = flatW d ∧ flatV v = true := by
  cases d with
  | non => cases (show v = .non from h); exact ⟨rfl, rfl⟩
  | bl b => cases (show v = .bl b from h); exact ⟨rfl, rfl⟩
  | int b => cases (show v = .int b from h); exact ⟨rfl, rfl⟩
  | str b => cases (show v = .str b from h); exact ⟨rfl, rfl⟩
  | _ => cases f
theorem eqF_V {x y : D} (fx : x.flat = true) (fy : y.flat = true) : eqV (flatW x) (flatW y) = eqF x y := by
  cases x <;> first | (cases fx; done) | skip
  all_goals cases y <;> first | (cases fy; done) | rfl
theorem reps_flat {Z : AP1} {H : Hp} : ∀ {xs : List D} {vs : List V}, Reps w Z H xs vs → xs.all D.flat = true → vs = xs.map flatW ∧ vs.all flatV = true
  | [], _, h, _ => by subst h; exact ⟨rfl, rfl⟩
  | d :: xs, _, h, f => by
    obtain ⟨v, r, rfl, h1, h2⟩ := h
    rw [List.all_cons, Bool.and_eq_true] at f
    obtain ⟨e1, e2⟩ := flat_of h1.top f.1
    obtain ⟨e3, e4⟩ := reps_flat h2 f.2
    exact ⟨by rw [List.map_cons, ← e1, ← e3], by rw [List.all_cons, e2, e4]; rfl⟩
theorem inV_D {x : D} (fx : x.flat = true) : ∀ {xs : List D}, xs.all D.flat = true → inV (flatW x) (xs.map flatW) = inD x xs
  | [], _ => rfl
  | y :: ys, f => by
    rw [List.all_cons, Bool.and_eq_true] at f
    unfold inV inD
    rw [List.map_cons, List.any_cons, List.any_cons, eqF_V f.1 fx]
    have := inV_D fx f.2
    unfold inV inD at this
    rw [this]
def rInA (K : PySem.W.Frag) (neg : Bool) : R2 := fun x y H Q => (∃ a o, y = .ref a ∧ DGet H a x o ∧ Q (.bl (if neg then !o.isSome else o.isSome)) H) ∨
  (∃ (c : Nat) (z : Str), x = .str ⟨#[c]⟩ ∧ y = .str z ∧ Q (.bl (if neg then !decide (c ∈ z.cps.toList) else decide (c ∈ z.cps.toList))) H) ∨ rIn K neg x y H Q
theorem r2d_in {K : PySem.W.Frag} (neg : Bool) : R2D w (rInA K neg) (fun x y => (inB x y).map fun b => .frz (.bl (if neg then !b else b))) := by
  intro Zo fm σ H x y dx dy r Q rf hx hy hg post
  obtain ⟨b, hb, rfl⟩ := Option.map_eq_some_iff.mp hg
  have seq : ∀ {xs : List D} {vs : List V}, dx.flat = true ∧ xs.all D.flat = true → Reps w (Zx Zo fm σ) H xs vs → flatV x = true ∧ vs.all flatV = true ∧ inV x vs = inD dx xs := fun {xs vs} f hr => by
    obtain ⟨e1, e2⟩ := flat_of hx f.1
    obtain ⟨e3, e4⟩ := reps_flat hr f.2
    exact ⟨e2, e4, by rw [e1, e3]; exact inV_D f.1 f.2⟩
  cases dy with
  | dic kvs =>
    obtain ⟨k, hk, rfl⟩ := Option.map_eq_some_iff.mp (show dx.key?.map (fun k => (lookD kvs k).isSome) = some b from hb)
    obtain ⟨a, us, rfl, ha, hr⟩ := hy
    refine .inl ⟨a, valV us k, rfl, .inl ⟨us, k, ha, key_top hk hx, rfl⟩, ?_⟩
    have e : (valV us k).isSome = (lookD kvs k).isSome := by
      rcases hr.val (k := k) with ⟨d', v, h1, h2, _⟩ | ⟨h1, h2⟩ <;> rw [h1, h2] <;> rfl
    exact post_frz rf post (by rw [e]; rfl)
  | str z =>
    obtain ⟨c, hc, rfl⟩ := Option.map_eq_some_iff.mp (show dx.sign?.map (fun c => decide (c ∈ z.cps.toList)) = some b from hb)
    have hy : y = .str z := hy
    rw [sign_of hc] at hx
    exact .inr (.inl ⟨c, z, hx, hy, post_frz rf post rfl⟩)
  | lst xs =>
    have hb : (if dx.flat = true ∧ xs.all D.flat = true then some (inD dx xs) else none) = some b := hb
    split at hb
    · rename_i f
      cases hb
      obtain ⟨a, vs, rfl, ha, hr⟩ := hy
      obtain ⟨e1, e2, e3⟩ := seq f hr
      exact .inr (.inr ⟨a, vs, rfl, .inl (SqL.of ha), e1, e2, post_frz rf post (by rw [e3]; rfl)⟩)
    · cases hb
  | tup xs =>
    have hb : (if dx.flat = true ∧ xs.all D.flat = true then some (inD dx xs) else none) = some b := hb
    split at hb
    · rename_i f
      cases hb
      obtain ⟨a, vs, rfl, ha, hr⟩ := hy
      obtain ⟨e1, e2, e3⟩ := seq f hr
      exact .inr (.inr ⟨a, vs, rfl, .inr (SqT.of ha), e1, e2, post_frz rf post (by rw [e3]; rfl)⟩)
    · cases hb
  | _ => cases hb
theorem OpR.d {f : Value → Value → Sem Value} {r0 : R2} {g : D → D → Option R} (h : OpR X f r0) (hr : R2D w r0 g) : OpD X w f g := opd_of h fun Zo fm σ H x y dx dy r Q rf hx hy hg post => hr Zo fm σ H x y dx dy r Q rf hx hy hg post
theorem opd_in (hu : X.A.units + 1 < cLine) : OpD X w (compareOp .In) dIn := OpR.d (r0 := rInA X.K false) (fun pins s σ H x y v u Q I rx ry h => by
  rcases h with ⟨a, o, rfl, g, q⟩ | h | h
  · cases (show u = Value.ref a from ry)
    exact d_in hu I g rx fun s' I' => ⟨.bl o.isSome, H, I', rfl, q⟩
  · exact op_in_sign pins s σ H x y v u Q I rx ry h
  · exact op_in_seq pins s σ H x y v u Q I rx ry h) (r2d_in false)
theorem opd_notin (hu : X.A.units + 1 < cLine) : OpD X w (compareOp .NotIn) dNotIn := OpR.d (r0 := rInA X.K true) (fun pins s σ H x y v u Q I rx ry h => by
  rcases h with ⟨a, o, rfl, g, q⟩ | h | h
  · cases (show u = Value.ref a from ry)
    exact d_notIn hu I g rx fun s' I' => ⟨.bl (!o.isSome), H, I', rfl, q⟩
  · exact op_notIn_sign pins s σ H x y v u Q I rx ry h
  · exact op_notIn_seq pins s σ H x y v u Q I rx ry h) (r2d_in true)
end

/-! ### d.get(k, x) -/
def getM (rs : List R) : M R := fun fm => match rs with
  | [r1, r2, r3] => (match r1.get fm, r2.get fm with
    | some (.dic kvs), some kd => (match kd.key? with
      | some k => (match lookD kvs k with
        | some d => some (.ok (.frz d), fm)
        | none => some (.ok r3, fm))
      | none => none)
    | _, _ => none)
  | _ => none
def eGet (m1 m2 m3 : M R) : M R := bindM m1 fun r1 fm => match r1.soft.get fm with
  | some (.dic _) => bindM m2 (fun r2 => bindM m3 fun r3 => getM [r1.soft, r2.soft, r3.soft]) fm
  | _ => none
section
variable {X : Cx} {w : Wd} {W : WX} {a b c : Expr} {ma mb mc : M R} {pos apos cpos : Pos}
theorem se_get (hu : X.A.units + 1 < cLine) (ha : SE X w W a ma) (hb : SE X w W b mb) (hc : SE X w W c mc) (m : M2 X a "get" apos b c cpos) : SE X w W (.Call (.Attribute a "get" apos) [b, c] [] cpos) (eGet ma mb mc) := by
  intro Zo fm σ H out fm' Q rf hm post
  refine wE_of (pe_dget2 hu pe_w pe_w pe_w m) ?_
  refine se_bind ha rf hm post.x fun r1 fm1 v1 H1 st1 rr1 px1 hk => ?_
  have hk : (match r1.soft.get fm1 with
    | some (.dic _) => bindM mb (fun r2 => bindM mc fun r3 => getM [r1.soft, r2.soft, r3.soft]) fm1
    | _ => none) = some (out, fm') := hk
  split at hk
  · rename_i kvs0 hg1
    obtain ⟨a, us, rfl, ha, hr⟩ := soft_see rr1 .refl rr1.rel hg1
    refine ⟨a, rfl, .inl ⟨us, ha⟩, se_bind hb rr1.rel hk px1 fun r2 fm2 v2 H2 st2 rr2 px2 hk2 => se_bind hc rr2.rel hk2 px2 fun r3 fm3 v3 H3 st3 rr3 px3 hk3 => ?_⟩
    have s1 := rr1.seen.step rr1.rel rr3.rel (st2.trans st3)
    have s2 := rr2.seen.step rr2.rel rr3.rel st3
    have s3 := rr3.seen
    have hk3 : (match r1.soft.get fm3, r2.soft.get fm3 with
      | some (.dic kvs), some kd => (match kd.key? with
        | some k => (match lookD kvs k with
          | some d => some (Out.ok (R.frz d), fm3)
          | none => some (Out.ok r3.soft, fm3))
        | none => none)
      | _, _ => none) = some (out, fm') := hk3
    split at hk3
    · rename_i kvs kd e1 e2
      split at hk3
      · rename_i k hkey
        obtain ⟨a', us', ea, ha', hr'⟩ := s1.top rr3.rel e1
        cases ea
        have t2 := s2.top rr3.rel e2
        refine ⟨valV us' k, .inl ⟨us', k, ha', key_top hkey t2, rfl⟩, ?_⟩
        have st := st1.trans (st2.trans st3)
        rcases hr'.val (k := k) with ⟨d', v', q1, q2, q3⟩ | ⟨q1, q2⟩
        · rw [q1] at hk3
          cases hk3
          rw [q2]
          exact post v' H3 st ⟨rr3.rel, q3⟩
        · rw [q1] at hk3
          cases hk3
          rw [q2]
          refine post v3 H3 st ?_
          cases r3 with
          | frz d => exact ⟨rr3.rel, s3⟩
          | tmp d => exact ⟨rr3.rel, s3⟩
          | var i => exact ⟨rr3.rel, s3, rr3.2.2⟩
      · cases hk3
    · cases hk3
  · cases hk
end

/-! ### slices -/
abbrev OP := Option (M R)
def partM : OP → M (Option Int)
  | none => retM none
  | some m => bindM m fun r fm => match r.int? with
    | some i => some (.ok (some i), fm)
    | none => none
def cutD (xs : List D) (lo hi : Option Int) : List D := (xs.drop (HT.sIx xs.length 0 lo)).take (HT.sIx xs.length xs.length hi - HT.sIx xs.length 0 lo)
theorem Reps.cut {w : Wd} {Z : AP1} {H : Hp} {xs : List D} {vs : List V} {lo hi : Option Int} (h : Reps w Z H xs vs) : Reps w Z H (cutD xs lo hi) (cutV vs lo hi) := by
  unfold cutD cutV
  rw [h.length]
  exact (h.drop _).take _
def cutM (nv : Bool) (d : D) (lo hi : Option Int) : Option R := match d with
  | .lst xs => some (.tmp (.lst (cutD xs lo hi)))
  | .tup xs => if nv = true then some (.frz (.tup (cutD xs lo hi))) else none
  | .str z => if z.length ≤ sizeLine then some (.frz (.str (cutS z lo hi))) else none
  | .scr ns => some (.tmp (.lst (cutD (ns.map .int) lo hi)))
  | _ => none
def eSlice (m : M R) (lo hi : OP) : M R := bindM m fun r => bindM (partM lo) fun l => bindM (partM hi) fun h fm => match r.soft.get fm with
  | some d => (match cutM (r.ix.isNone) d l h with
    | some r => some (.ok r, fm)
    | none => none)
  | none => none
def wO (X : Cx) (e : Option Expr) : TO := fun σ H Q => ∃ t : TO, PO X e t ∧ t σ H Q
theorem po_w {X : Cx} {e : Option Expr} : PO X e (wO X e) := ⟨fun pins s σ H Q I ⟨_, h, q⟩ => h.run pins s σ H Q I q⟩
def SO (X : Cx) (w : Wd) (W : WX) (e : Option Expr) (m : OP) : Prop :=
  ∀ {α : Type} (k : Option Int → M α) Zo fm σ H (out : Out α) fm' (G : Option Int → Hp → Prop), RelF w Zo fm σ H → bindM (partM m) k fm = some (out, fm') → PostX w W Zo σ H fm out fm' →
    (∀ i fm1 H1, StepS fm σ H fm1 σ H1 → RelF w Zo fm1 σ H1 → PostX w W Zo σ H1 fm1 out fm' → k i fm1 = some (out, fm') → G i H1) → wO X e σ H G
section
variable {X : Cx} {w : Wd} {W : WX} {e : Expr} {lo hi : Option Expr} {m : M R} {ml mh : OP} {pos p2 : Pos}
theorem so_none : SO X w W none none := by
  intro α k Zo fm σ H out fm' G rf hm px go
  exact ⟨_, po_none, go none fm H .refl rf px hm⟩
theorem so_some (h : SE X w W e m) : SO X w W (some e) (some m) := by
  intro α k Zo fm σ H out fm' G rf hm px go
  refine ⟨_, po_some pe_w, ?_⟩
  have hm : bindM (bindM m fun r fm => match r.int? with
    | some i => some (Out.ok (some i), fm)
    | none => none) k fm = some (out, fm') := hm
  rw [bind_assoc] at hm
  refine se_bind h rf hm px fun r fm1 v H1 st rr px1 hk => ?_
  unfold bindM at hk
  split at hk
  · rename_i oi fm2 h2
    split at h2
    · rename_i i hi
      cases h2
      rw [R.int_of hi] at rr
      exact ⟨i, rr.2, go _ _ H1 st rr.1 px1 hk⟩
    · cases h2
  · rename_i x fm2 h2
    split at h2 <;> cases h2
  · cases hk
def rSlD (K : PySem.W.Frag) : V → Option Int → Option Int → Hp → VK → Prop := fun x lo hi H Q => rSlL K x lo hi H Q ∨ rSlA K x lo hi H Q ∨ rSlS x lo hi H Q
theorem se_slice (hw : X.K = w.K) (he : SE X w W e m) (hl : SO X w W lo ml) (hh : SO X w W hi mh) : SE X w W (.Subscript e (.Slice lo hi none p2) pos) (eSlice m ml mh) := by
  intro Zo fm σ H out fm' Q rf hm post
  refine wE_of (pe_slice (r := rSlD X.K) (sl_list.or (sl_tupA.or sl_str)) pe_w (po_w (e := lo)) (po_w (e := hi))) ?_
  refine se_bind he rf hm post.x fun r1 fm1 v1 H1 st1 rr1 px1 hk => hl _ Zo fm1 σ H1 out fm' _ rr1.rel hk px1 fun l fm2 H2 st2 rf2 px2 hk2 => hh _ Zo fm2 σ H2 out fm' _ rf2 hk2 px2 fun h fm3 H3 st3 rf3 px3 hk3 => ?_
  have hk3 : (match r1.soft.get fm3 with
    | some d => (match cutM (r1.ix.isNone) d l h with
      | some r => some (Out.ok r, fm3)
      | none => none)
    | none => none) = some (out, fm') := hk3
  split at hk3
  · rename_i d hd
    split at hk3
    · rename_i r hr
      cases hk3
      have t := soft_see rr1 (st2.trans st3) rf3 hd
      have st := st1.trans (st2.trans st3)
      cases d with
      | lst xs =>
        cases hr
        obtain ⟨a, vs, rfl, ha, hrs⟩ := t
        exact .inl ⟨a, vs, rfl, SqL.of ha, fun p n => post _ _ (st.trans (.grow (HK.upd n))) ((tmp_lst rf3 n hrs.cut).back st)⟩
      | tup xs =>
        have hr : (if r1.ix.isNone = true then some (R.frz (.tup (cutD xs l h))) else none) = some r := hr
        split at hr
        · rename_i hnv
          cases hr
          obtain ⟨a, vs, rfl, ha, hrs⟩ := t
          refine .inr (.inl ⟨a, vs, rfl, SqT.of ha, fun hz => ?_, fun _ p n => post _ _ (st.trans (.grow (HK.upd n))) (frz_tup rf3 n hrs.cut)⟩)
          have e2 : cutD xs l h = xs := by
            have q1 := hz.1
            have q2 := hz.2
            rw [hrs.length] at q1 q2
            unfold cutD; rw [q1, q2]; simp
          refine post _ _ st ?_
          rw [e2]
          cases r1 with
          | frz d' => cases hd; exact ⟨rf3, Rep.step rr1.1 rf3 (st2.trans st3) rr1.2⟩
          | tmp d' =>
            cases hd
            obtain ⟨p, e, t⟩ := rr1
            exact t.top.elim
          | var i => cases hnv
        · cases hr
      | str z =>
        have hr : (if z.length ≤ sizeLine then some (R.frz (.str (cutS z l h))) else none) = some r := hr
        split at hr
        · rename_i hz
          cases hr
          exact .inr (.inr ⟨z, t, hz, post _ _ st ⟨rf3, rfl⟩⟩)
        · cases hr
      | scr ns =>
        cases hr
        obtain ⟨a, rfl, ha⟩ := t
        have hrs : Reps w (Zx Zo fm' σ) H3 (ns.map D.int) (ns.map V.int) := Reps.of_ints ns
        exact .inl ⟨a, ns.map V.int, rfl, by rw [hw]; exact ha, fun p n => post _ _ (st.trans (.grow (HK.upd n))) ((tmp_lst rf3 n hrs.cut).back st)⟩
      | _ => cases hr
    · cases hk3
  · cases hk3
end
end U
end

section
set_option Elab.async false
set_option linter.all false
set_option maxRecDepth 100000
set_option maxHeartbeats 400000
set_option autoImplicit false
/-! U19: and, or, not, minus; built-ins; displays of dicts; join; stores into slots' things; instances made. -/
namespace U
open PySem L2

section
variable {X : Cx} {w : Wd} {W : WX} {a b c : Expr} {ma mb mc : M R} {pos : Pos} {rest : List Expr} {op : BoolOp}
/-! ### and, or, not as values -/
theorem post_bool {m : M R} {k : Bool → M R} {Zo : AP1} {fm fm' : Fm} {σ : St} {H : Hp} {out : Out R} {Q : VK} (h : SE X w W a m) (rf : RelF w Zo fm σ H) (hm : bindM (tOfE m) k fm = some (out, fm')) (post : PostE w W Zo σ H fm out fm' Q) {G : VK}
    (go : ∀ v fm1 H1, StepS fm σ H fm1 σ H1 → RelF w Zo fm1 σ H1 → PostE w W Zo σ H1 fm1 out fm' Q → k v fm1 = some (out, fm') → G (.bl v) H1) : wE X a σ H G := by
  have back : ∀ {fm1 : Fm} {H1 : Hp}, StepS fm σ H fm1 σ H1 → PostE w W Zo σ H1 fm1 out fm' Q := fun {fm1 H1} st => by
    cases out with
    | ok r => exact fun v H' st2 rr => post v H' (st.trans st2) (rr.back st)
    | ex x => exact fun cls d H' st2 rf2 rx => post cls d H' (st.trans st2) rf2 rx
  unfold bindM at hm
  split at hm
  · rename_i v fm1 h1
    obtain ⟨out1, h2, p2⟩ := post_tOfE (w := w) (W := W) (Zo := Zo) (σ := σ) (H := H) (Q := fun k H' => k = v ∧ ∃ st : StepS fm σ H fm1 σ H', RelF w Zo fm1 σ H') h1 (fun H' st rf' => ⟨rfl, st, rf'⟩)
    refine h Zo fm σ H out1 fm1 G rf h2 ?_
    unfold tOfE at h1
    rw [h2] at h1
    cases out1 with
    | ok r =>
      intro x H' st rr
      obtain ⟨k, rfl, rfl, _, rf'⟩ := p2 x H' st rr
      exact go _ fm1 H' st rf' (back st) hm
    | ex x => cases h1
  · rename_i x fm1 h1
    cases hm
    unfold tOfE at h1
    split at h1
    · split at h1 <;> cases h1
    · rename_i x' fm2 h2
      cases h1
      exact h Zo fm σ H _ _ G rf h2 post
    · cases h1
  · cases hm
theorem se_one (h : SE X w W a ma) : SE X w W (.BoolOp op [a] pos) ma := by
  intro Zo fm σ H out fm' Q rf hm post
  exact wE_of (pe_one pe_w) (h Zo fm σ H out fm' Q rf hm post)
theorem se_and (ha : SE X w W a ma) (hb : SE X w W (.BoolOp .And (b :: rest) pos) mb) : SE X w W (.BoolOp .And (a :: b :: rest) pos) (eAnd ma mb) := by
  intro Zo fm σ H out fm' Q rf hm post
  refine wE_of (pe_and pe_w (pe_w (e := .BoolOp .And (b :: rest) pos))) (post_bool ha rf hm post fun v fm1 H1 st rf1 p1 hk => ⟨v, rfl, ?_⟩)
  cases v with
  | true => exact hb Zo fm1 σ H1 out fm' Q rf1 hk p1
  | false =>
    rw [if_neg Bool.false_ne_true]
    cases hk
    exact p1 _ H1 .refl ⟨rf1, rfl⟩
theorem se_or (ha : SE X w W a ma) (hb : SE X w W (.BoolOp .Or (b :: rest) pos) mb) : SE X w W (.BoolOp .Or (a :: b :: rest) pos) (eOr ma mb) := by
  intro Zo fm σ H out fm' Q rf hm post
  refine wE_of (pe_or pe_w (pe_w (e := .BoolOp .Or (b :: rest) pos))) (post_bool ha rf hm post fun v fm1 H1 st rf1 p1 hk => ⟨v, rfl, ?_⟩)
  cases v with
  | false =>
    rw [if_neg Bool.false_ne_true]
    exact hb Zo fm1 σ H1 out fm' Q rf1 hk p1
  | true =>
    rw [if_pos rfl]
    cases hk
    exact p1 _ H1 .refl ⟨rf1, rfl⟩
theorem se_not (ha : SE X w W a ma) : SE X w W (.UnaryOp .Not a pos) (eNot ma) := by
  intro Zo fm σ H out fm' Q rf hm post
  refine wE_of (pe_not pe_w) (post_bool ha rf hm post fun v fm1 H1 st rf1 p1 hk => ⟨v, rfl, ?_⟩)
  cases hk
  exact p1 _ H1 .refl ⟨rf1, rfl⟩
/-! ### minus -/
def eNeg (m : M R) : M R := bindM m fun r fm => match r.int? with
  | some i => some (.ok (.frz (.int (-i))), fm)
  | none => none
theorem se_neg (ha : SE X w W a ma) : SE X w W (.UnaryOp .USub a pos) (eNeg ma) := by
  intro Zo fm σ H out fm' Q rf hm post
  refine wE_of (pe_un un_neg pe_w) (se_bind ha rf hm post.x fun r fm1 v H1 st rr px hk => ?_)
  have hk : (match r.int? with
    | some i => some (Out.ok (R.frz (.int (-i))), fm1)
    | none => none) = some (out, fm') := hk
  split at hk
  · rename_i i hi
    cases hk
    rw [R.int_of hi] at rr
    exact ⟨i, rr.2, post _ H1 st ⟨rr.1, rfl⟩⟩
  · cases hk
end

/-! ### built-in functions -/
def sortS (xs : List Str) : List Str := xs.mergeSort fun x y => decide (x.cps.toList ≤ y.cps.toList)
def dStr : List D → Option R
  | [.str x] => some (.frz (.str x))
  | _ => none
def dBool : List D → Option R
  | [.bl b] => some (.frz (.bl b))
  | [.int i] => some (.frz (.bl (i != 0)))
  | _ => none
def dListK : List D → Option R
  | [.dic kvs] => some (.tmp (.lst (kvs.map fun kv => keyD kv.1)))
  | _ => none
def dMin2 : List D → Option R
  | [.int i, .int j] => some (.frz (.int (if j < i then j else i)))
  | _ => none
def dMin1 : List D → Option R
  | [.lst xs] => (match ints? xs with
    | some (n :: ns) => some (.frz (.int (minI (n :: ns))))
    | _ => none)
  | _ => none
section
variable {X : Cx} {w : Wd}
theorem reps_keys {Z : AP1} {H : Hp} : ∀ {xs : List (Key × D)} {us : List (Key × V)}, RepK w Z H xs us → Reps w Z H (xs.map fun kv => keyD kv.1) (us.map fun kv => kV kv.1)
  | [], _, h => by subst h; rfl
  | (k, d) :: xs, _, h => by
    obtain ⟨v, r, rfl, h2, h3⟩ := h
    have e : v.1 = k := h2.1
    exact ⟨_, _, rfl, by subst e; exact keyD_rep _, reps_keys h3⟩
theorem cd_listK (hc : X.calm = true) : CallD X w (.type "list") dListK := calld_of (call_listD hc) fun Zo fm σ H ds vs r Q rf ht hg post => by
  unfold dListK at hg
  split at hg
  · cases hg
    obtain ⟨v, rfl, a, us, rfl, ha, hr⟩ := topL1 ht
    exact ⟨a, us, rfl, ha, fun p n => post _ _ (HK.upd n) (tmp_lst rf n (reps_keys hr))⟩
  · cases hg
theorem cd_str : CallD X w (.type "str") dStr := calld_of SkE.call_str_str fun Zo fm σ H ds vs r Q rf ht hg post => by
  unfold dStr at hg
  split at hg
  · cases hg
    obtain ⟨v, rfl, h⟩ := topL1 ht
    exact ⟨_, by rw [show v = _ from h], post_frz rf post rfl⟩
  · cases hg
theorem cd_bool : CallD X w (.type "bool") dBool := calld_of call_bool1 fun Zo fm σ H ds vs r Q rf ht hg post => by
  unfold dBool at hg
  split at hg
  · cases hg
    obtain ⟨v, rfl, h⟩ := topL1 ht
    exact .inr ⟨_, by rw [show v = _ from h], post_frz rf post rfl⟩
  · cases hg
    obtain ⟨v, rfl, h⟩ := topL1 ht
    exact .inl ⟨_, by rw [show v = _ from h], post_frz rf post rfl⟩
  · cases hg
theorem cd_sum (hc : X.calm = true) : CallD X w (.builtin "sum") dSum := calld_of (cr_sum hc) fun Zo fm σ H ds vs r Q rf ht hg post => by
  unfold dSum at hg
  split at hg
  · obtain ⟨ns, hn, rfl⟩ := Option.map_eq_some_iff.mp hg
    obtain ⟨v, rfl, a, us, rfl, ha, hr⟩ := topL1 ht
    rw [ints_map hn] at hr
    rw [hr.ints] at ha
    exact ⟨a, ns, rfl, SqL.of ha, post_frz rf post rfl⟩
  · cases hg
theorem cd_min2 (hc : X.calm = true) : CallD X w (.builtin "min") dMin2 := calld_of (call_min2 hc) fun Zo fm σ H ds vs r Q rf ht hg post => by
  unfold dMin2 at hg
  split at hg
  · cases hg
    obtain ⟨v, u, rfl, h, h'⟩ := topL2 ht
    exact ⟨_, _, by rw [show v = _ from h, show u = _ from h'], post_frz rf post rfl⟩
  · cases hg
theorem cd_min1 (hc : X.calm = true) : CallD X w (.builtin "min") dMin1 := calld_of (cr_min hc) fun Zo fm σ H ds vs r Q rf ht hg post => by
  unfold dMin1 at hg
  split at hg
  · rename_i xs
    split at hg
    · rename_i n ns hn
      cases hg
      obtain ⟨v, rfl, a, us, rfl, ha, hr⟩ := topL1 ht
      rw [ints_map hn] at hr
      rw [hr.ints] at ha
      refine ⟨a, n :: ns, rfl, SqL.of ha, Nat.zero_lt_succ _, fun m hm hle => post_frz rf post ?_⟩
      have e1 := hle _ (minI_mem n ns)
      have e2 := minI_le n ns m hm
      rw [show m = minI (n :: ns) from by omega] <;> rfl
    · cases hg
  · cases hg
end

/-! ### methods of texts and lists with data in -/
/-- lists' methods that change the list in slot i -/
def appM (i : Nat) (m : M D) : MS := fun fm => match fm[i]? with
  | some (some ⟨_, .lst _⟩) => exprD m (fun d fm1 => match fm1[i]? with
    | some (some ⟨.own, .lst xs⟩) => if xs.length < sizeLine then some (.nx, fm1.set i (some ⟨.own, .lst (xs ++ [d])⟩)) else none
    | some (some ⟨.bor, .lst xs⟩) => if xs.length < sizeLine then some (.nx, fm1.set i (some ⟨.bor, .lst (xs ++ [d])⟩)) else none
    | _ => none) fm
  | _ => none
section
variable {w : Wd} {Zo : AP1} {fm : Fm} {σ : St} {H : Hp} {i : Nat} {k : Kd} {d d' : D} {a : Addr}
/-- a thing that a slot may write is written -/
theorem RelF.write {o : HO} (rf : RelF w Zo fm σ H) (h : fm[i]? = some (some ⟨k, d⟩)) (hk : k = .own ∨ k = .bor) (ha : adr σ i a) (t : TopX w (Zx Zo fm σ) (upd H a o) d' a) :
    RelF w Zo (fm.set i (some ⟨k, d'⟩)) σ (upd H a o) ∧ StepS fm σ H (fm.set i (some ⟨k, d'⟩)) σ (upd H a o) := by
  have lt : i < fm.length := (List.getElem?_eq_some_iff.mp h).1
  have wra : WrA fm σ a := ⟨i, _, h, hk, ha⟩
  have at_ : ∀ (j : Nat) (s : Slot), (fm.set i (some ⟨k, d'⟩))[j]? = some (some s) → (i = j ∧ s = ⟨k, d'⟩) ∨ (i ≠ j ∧ fm[j]? = some (some s)) := fun j s q => by
    by_cases e : i = j
    · subst e; rw [List.getElem?_set_self lt] at q; cases q; exact .inl ⟨rfl, rfl⟩
    · rw [List.getElem?_set_ne e] at q; exact .inr ⟨e, q⟩
  have old : ∀ (j : Nat) (s : Slot), (fm.set i (some ⟨k, d'⟩))[j]? = some (some s) → ∃ s0, fm[j]? = some (some s0) ∧ s0.k = s.k := fun j s q => by
    rcases at_ j s q with ⟨e, rfl⟩ | ⟨_, q⟩
    · subst e; exact ⟨_, h, rfl⟩
    · exact ⟨s, q, rfl⟩
  have zs : ∀ b, Zx Zo (fm.set i (some ⟨k, d'⟩)) σ b → Zx Zo fm σ b := fun b z => by
    rcases z with z | ⟨j, e, h1, h2⟩
    · exact .inl z
    · obtain ⟨⟨k0, d0⟩, q1, q2⟩ := old j _ h1
      have q2 : k0 = .own := q2
      subst q2
      exact .inr ⟨j, d0, q1, h2⟩
  have ex : Ext (Zx Zo fm σ) H (Zx Zo (fm.set i (some ⟨k, d'⟩)) σ) (upd H a o) := Ext.of (fun b _ _ z => zs b z) fun b u n e => by rw [upd_ne (fun z => by subst z; exact n (rf.wrz wra))]; exact e
  have ne : ∀ {j : Nat} {s : Slot} {b : Addr}, i ≠ j → fm[j]? = some (some s) → s.k ≠ .frz → adr σ j b → b ≠ a := fun {j s b} hij hj hs hb e => by
    subst e
    exact rf.uniq i j _ s b hij h hj hk hs ha hb
  refine ⟨⟨by simpa using rf.len, fun j s q => ?_, fun j l s t' b hjl hj hl h1 h2 va vb => ?_, fun b z => ?_⟩, ⟨fun j e q => ?_, fun j e q => ?_, fun j e q => ?_, fun b z => ?_, fun b u e n => ?_, fun b u e => ?_⟩⟩
  · rcases at_ j s q with ⟨e, rfl⟩ | ⟨hij, q⟩
    · subst e
      obtain ⟨v, hv, ok⟩ := rf.ok i _ h
      refine ⟨v, hv, ?_⟩
      have t2 : TopX w (Zx Zo (fm.set i (some ⟨k, d'⟩)) σ) (upd H a o) d' a := t.ext (ext_sub zs) rfl
      rcases hk with rfl | rfl
      · obtain ⟨b, e1, n, _⟩ : ∃ b, v = .ref b ∧ ¬ Zo b ∧ TopX w (Zx Zo fm σ) H d b := ok
        subst e1
        have ha : σ[i]? = some (some (V.ref a)) := ha
        rw [hv] at ha; cases ha
        exact ⟨_, rfl, n, t2⟩
      · obtain ⟨b, e1, n, _⟩ : ∃ b, v = .ref b ∧ Zo b ∧ TopX w (Zx Zo fm σ) H d b := ok
        subst e1
        have ha : σ[i]? = some (some (V.ref a)) := ha
        rw [hv] at ha; cases ha
        exact ⟨_, rfl, n, t2⟩
    · obtain ⟨v, hv, ok⟩ := rf.ok j s q
      refine ⟨v, hv, ?_⟩
      obtain ⟨kd, e⟩ := s
      cases kd with
      | frz => exact Rep.ext ex (show Rep w _ H e v from ok)
      | own =>
        obtain ⟨b, e1, n, t'⟩ : ∃ b, v = .ref b ∧ ¬ Zo b ∧ TopX w (Zx Zo fm σ) H e b := ok
        exact ⟨b, e1, n, t'.ext ex (upd_ne (ne hij q (fun z => nomatch z) (by rw [e1] at hv; exact hv)))⟩
      | bor =>
        obtain ⟨b, e1, n, t'⟩ : ∃ b, v = .ref b ∧ Zo b ∧ TopX w (Zx Zo fm σ) H e b := ok
        exact ⟨b, e1, n, t'.ext ex (upd_ne (ne hij q (fun z => nomatch z) (by rw [e1] at hv; exact hv)))⟩
      | ro =>
        obtain ⟨b, e1, nn, t'⟩ : ∃ b, v = .ref b ∧ e.ns = true ∧ TopR w (Zx Zo fm σ) H e v := ok
        exact ⟨b, e1, nn, t'.ext ex fun c hc => upd_ne (ne hij q (fun z => nomatch z) (by rw [hc] at hv; exact hv))⟩
  · obtain ⟨s0, q1, q2⟩ := old j s hj
    obtain ⟨t0, q3, q4⟩ := old l t' hl
    exact rf.uniq j l s0 t0 b hjl q1 q3 (by rw [q2]; exact h1) (by rw [q4]; exact h2) va vb
  · by_cases e : b = a
    · subst e; exact ⟨_, upd_same⟩
    · rw [upd_ne e]; exact rf.live b z
  · by_cases hij : i = j
    · subst hij
      rw [h] at q; cases q
      exact ⟨d', List.getElem?_set_self lt, rfl⟩
    · exact ⟨e, by rw [List.getElem?_set_ne hij]; exact q, rfl⟩
  · rcases at_ j _ q with ⟨_, z⟩ | ⟨_, q⟩
    · cases z; rcases hk with hk | hk <;> cases hk
    · exact ⟨q, rfl⟩
  · obtain ⟨⟨k0, d0⟩, q1, q2⟩ := old j _ q
    have q2 : k0 = .bor := q2
    subst q2
    exact ⟨d0, q1, rfl⟩
  · obtain ⟨j, s, h1, h2, h3⟩ := z
    obtain ⟨s0, q1, q2⟩ := old j s h1
    exact .inl ⟨j, s0, q1, by rw [q2]; exact h2, h3⟩
  · rw [upd_ne (fun z => by subst z; exact n wra)]; exact e
  · by_cases hb : b = a
    · subst hb; exact ⟨_, upd_same⟩
    · exact ⟨u, by rw [upd_ne hb]; exact e⟩
end
end U
end

section
set_option Elab.async false
set_option linter.all false
set_option maxRecDepth 100000
set_option maxHeartbeats 400000
set_option autoImplicit false
/-! U20: append, o[k] = v, o.f = v, displays of dicts, instances made, join. -/
namespace U
open PySem L2

/-! ### x.append(e) -/
section
variable {X : Cx} {w : Wd} {W : WX} {e : Expr} {m : M D} {i : Nat} {x : Str} {p pos apos cpos : Pos}
theorem pe_append1 {te : TE} {o : Expr} {to : TE} (ho : PE X o to) (he : PE X e te) (hbase : attributeBase o "append" X.env (eval o X.env) = eval o X.env := by rfl)
    (hfew : ((backTo cpos (starEach [e] X.env)).all (fun x => !x.1) && (backToKw cpos (keywordEach [] X.env)).all (fun x => x.1.isSome)
      && decide ([e].length + ([] : List Keyword).length + (if ([] : List Keyword).isEmpty then 0 else 1) < 30)) = true := by rfl)
    (hline : (apos.endLine == cpos.line) = true := by rfl) (hs : starEach [e] X.env = (false, eval e X.env) :: starEach [] X.env := by rfl) (hplain : (backTo cpos (starEach [] X.env)).any (·.1) = false := by rfl) :
    PE X (.Call (.Attribute o "append" apos) [e] [] cpos) (tBM X.K "list" rAppend to (tCons te tNil)) :=
  pe_bm PySem.F.plainAttrs_list PySem.F.slot_list_append PySem.F.type_list_append mt_append ho (pa_cons he pa_nil hs) hbase hfew hline hs hplain
/-- what stands in a slot that may be written -/
theorem slot_wr {Zo : AP1} {fm : Fm} {σ : St} {H : Hp} {k : Kd} {d : D} (rf : RelF w Zo fm σ H) (h : fm[i]? = some (some ⟨k, d⟩)) (hk : k = .own ∨ k = .bor) : ∃ a, σ[i]? = some (some (V.ref a)) ∧ TopX w (Zx Zo fm σ) H d a := by
  obtain ⟨v, hv, ok⟩ := rf.ok i _ h
  rcases hk with rfl | rfl
  · obtain ⟨a, e1, _, t⟩ : ∃ b, v = .ref b ∧ ¬ Zo b ∧ TopX w (Zx Zo fm σ) H d b := ok
    exact ⟨a, by rw [hv, e1], t⟩
  · obtain ⟨a, e1, _, t⟩ : ∃ b, v = .ref b ∧ Zo b ∧ TopX w (Zx Zo fm σ) H d b := ok
    exact ⟨a, by rw [hv, e1], t⟩
/-- x.append(e) -/
theorem ss_append {o : Expr} (ho : PE X o (tVar i)) (he : SD X w W e m) (hbase : attributeBase o "append" X.env (eval o X.env) = eval o X.env := by rfl)
    (hfew : ((backTo cpos (starEach [e] X.env)).all (fun x => !x.1) && (backToKw cpos (keywordEach [] X.env)).all (fun x => x.1.isSome)
      && decide ([e].length + ([] : List Keyword).length + (if ([] : List Keyword).isEmpty then 0 else 1) < 30)) = true := by rfl)
    (hline : (apos.endLine == cpos.line) = true := by rfl) (hs : starEach [e] X.env = (false, eval e X.env) :: starEach [] X.env := by rfl) (hplain : (backTo cpos (starEach [] X.env)).any (·.1) = false := by rfl)
    (hsw : swapsWith (.Call (.Attribute o "append" apos) [e] [] cpos) none pos.line X.env = pure false := by rfl) :
    SS X w W (.Expr (.Call (.Attribute o "append" apos) [e] [] cpos) pos) (appM i m) := by
  intro Zo fm σ H fl fm' D rf hm post
  refine wS_of (ps_expr (pe_append1 ho (pe_w (e := e)) hbase hfew hline hs hplain) hsw) ?_
  have hm : (match fm[i]? with
    | some (some ⟨_, .lst _⟩) => exprD m (fun d fm1 => match fm1[i]? with
      | some (some ⟨.own, .lst xs⟩) => if xs.length < sizeLine then some (Fl.nx, fm1.set i (some ⟨.own, .lst (xs ++ [d])⟩)) else none
      | some (some ⟨.bor, .lst xs⟩) => if xs.length < sizeLine then some (Fl.nx, fm1.set i (some ⟨.bor, .lst (xs ++ [d])⟩)) else none
      | _ => none) fm
    | _ => none) = some (fl, fm') := hm
  split at hm
  · rename_i k0 xs0 h0
    obtain ⟨v0, hv0, _⟩ := rf.ok i _ h0
    obtain ⟨a0, vs0, rfl, ha0, _⟩ := rf.see h0 hv0
    refine ⟨_, hv0, .inl ⟨rfl, vs0, SqL.of ha0⟩, ?_⟩
    refine exprD_go he rf hm post fun d fm1 v H1 st rf1 rp post1 hk => ?_
    have fin : ∀ {k : Kd} {xs : List U.D}, (k = .own ∨ k = .bor) → fm1[i]? = some (some ⟨k, .lst xs⟩) → xs.length < sizeLine → some (Fl.nx, fm1.set i (some ⟨k, .lst (xs ++ [d])⟩)) = some (fl, fm') → rAppend (.ref a0) [v] H1 fun _ H2 => D.nx σ H2 := fun {k xs} hk0 h1 hz hq => by
      cases hq
      obtain ⟨a, ea, vs, ha, hr⟩ := slot_wr rf1 h1 hk0
      rw [hv0] at ea
      cases ea
      obtain ⟨q1, q2⟩ := rf1.write (d' := .lst (xs ++ [d])) h1 hk0 hv0 (o := .lst (vs ++ [v])) ⟨_, upd_same, (hr.app (.one rp)).ext (Ext.of (fun _ _ _ z => z) fun b u n e => by
        rw [upd_ne (fun z => by subst z; exact n (rf1.wrz ⟨i, _, h1, hk0, hv0⟩))]; exact e)⟩
      exact ⟨a0, vs, v, rfl, rfl, ha, by rw [hr.length]; exact hz, post1 σ _ q2 q1⟩
    have hk : (match fm1[i]? with
      | some (some ⟨.own, .lst xs⟩) => if xs.length < sizeLine then some (Fl.nx, fm1.set i (some ⟨.own, .lst (xs ++ [d])⟩)) else none
      | some (some ⟨.bor, .lst xs⟩) => if xs.length < sizeLine then some (Fl.nx, fm1.set i (some ⟨.bor, .lst (xs ++ [d])⟩)) else none
      | _ => none) = some (fl, fm') := hk
    show rAppend (.ref a0) [v] H1 (fun _ H2 => D.nx σ H2)
    split at hk
    · rename_i xs h1
      split at hk
      · exact fin (.inl rfl) h1 (by assumption) hk
      · cases hk
    · rename_i xs h1
      split at hk
      · exact fin (.inr rfl) h1 (by assumption) hk
      · cases hk
    · cases hk
  · cases hm
end

/-! ### x[k] = e -/
def putIn (d k v : D) : Option D := match d with
  | .dic kvs => (match k.key? with
    | some k => if kvs.length < sizeLine then some (.dic (putD kvs k v)) else none
    | none => none)
  | _ => none
def putLn (d k v : D) : Option D := match d, k with
  | .lst xs, .int j => (ixN xs.length j).map fun j => .lst (xs.set j v)
  | _, _ => none
/-- slot i's thing is changed by g -/
def chgM (i : Nat) (g : D → Option D) : Fm → Option Fm := fun fm => match fm[i]? with
  | some (some ⟨.own, d⟩) => (g d).map fun d' => fm.set i (some ⟨.own, d'⟩)
  | some (some ⟨.bor, d⟩) => (g d).map fun d' => fm.set i (some ⟨.bor, d'⟩)
  | _ => none
theorem chg_of {i : Nat} {g : D → Option D} {fm fm' : Fm} (h : chgM i g fm = some fm') : ∃ k d d', (k = .own ∨ k = .bor) ∧ fm[i]? = some (some ⟨k, d⟩) ∧ g d = some d' ∧ fm' = fm.set i (some ⟨k, d'⟩) := by
  unfold chgM at h
  split at h
  · rename_i d hd
    obtain ⟨d', h1, rfl⟩ := Option.map_eq_some_iff.mp h
    exact ⟨_, d, d', .inl rfl, hd, h1, rfl⟩
  · rename_i d hd
    obtain ⟨d', h1, rfl⟩ := Option.map_eq_some_iff.mp h
    exact ⟨_, d, d', .inr rfl, hd, h1, rfl⟩
  · cases h
def thereM (i : Nat) (m : MS) : MS := fun fm => match fm[i]? with
  | some (some _) => m fm
  | _ => none
def putM (put : D → D → D → Option D) (i : Nat) (mk : M R) (mv : M D) : MS := exprD mv fun v => thereM i <| exprM mk fun rk fm => match rk.soft.get fm with
  | some k => (match chgM i (fun d => put d k v) fm with
    | some fm1 => some (.nx, fm1)
    | none => none)
  | none => none
section
variable {X : Cx} {w : Wd} {W : WX} {o ek ev : Expr} {mk : M R} {mv : M D} {i : Nat} {pos pos' : Pos}
/-- a store by values, on data -/
def PutD (w : Wd) (t : TSet) (put : D → D → D → Option D) : Prop := ∀ (Zo : AP1) (fm : Fm) (σ : St) (H : Hp) (a : Addr) (d k v d' : D) (kv vv : V) (Q : Hp → Prop), TopX w (Zx Zo fm σ) H d a → Zx Zo fm σ a → TopR w (Zx Zo fm σ) H k kv → Rep w (Zx Zo fm σ) H v vv → put d k v = some d' →
  (∀ o, TopX w (Zx Zo fm σ) (upd H a o) d' a → Q (upd H a o)) → t (.ref a) kv vv H Q
theorem putD_dic {w : Wd} : PutD w rSetD putIn := by
  intro Zo fm σ H a d k v d' kv vv Q t za tk rv hp post
  unfold putIn at hp
  split at hp
  · rename_i kvs
    split at hp
    · rename_i key hkey
      split at hp
      · rename_i hz
        cases hp
        obtain ⟨us, ha, hr⟩ := t
        rw [key_top hkey tk]
        refine ⟨a, _, rfl, DPut.k ha (by rw [hr.length]; exact hz), post _ ⟨_, upd_same, (hr.put rv).ext (Ext.of (fun _ _ _ z => z) fun b u n e => ?_)⟩⟩
        rw [upd_ne (fun z => by subst z; exact n za)]; exact e
      · cases hp
    · cases hp
  · cases hp
theorem putD_lst {w : Wd} : PutD w rSetL putLn := by
  intro Zo fm σ H a d k v d' kv vv Q t za tk rv hp post
  unfold putLn at hp
  split at hp
  · rename_i xs j
    obtain ⟨n, hn, rfl⟩ := Option.map_eq_some_iff.mp hp
    obtain ⟨us, ha, hr⟩ := t
    have tk : kv = .int j := tk
    refine ⟨a, us, j, n, rfl, tk, ha, by rw [hr.length]; exact hn, post _ ⟨_, upd_same, (hr.set n rv).ext (Ext.of (fun _ _ _ z => z) fun b u nz e => ?_)⟩⟩
    rw [upd_ne (fun z => by subst z; exact nz za)]; exact e
  · cases hp
theorem ss_put {t : TSet} {put : D → D → D → Option D} (hs : PSet X t) (hp : PutD w t put) (ho : PE X o (tVar i)) (hk : SE X w W ek mk) (hv : SD X w W ev mv)
    (ha : ∀ v, assign (.Subscript o ek pos') X.env v = (do
      let ov ← holding [v] (eval o X.env)
      let iv ← holding [v, ov] (eval ek X.env)
      standAt pos'
      holding [v, ov, iv] (setItem ov iv v)
      release [v, ov, iv] []) := by intro _; rfl)
    (hsw : swapsWithSole [.Subscript o ek pos'] ev pos.line X.env = pure false := by rfl) (hw : swappedStores [.Subscript o ek pos'] ev X.env = pure none := by rfl)
    (h1 : (assignEach [.Subscript o ek pos'] X.env).map (·.2) = [assign (.Subscript o ek pos') X.env] := by rfl) : SS X w W (.Assign [.Subscript o ek pos'] ev pos) (putM put i mk mv) := by
  intro Zo fm σ H fl fm' D rf hm post
  refine wS_of (ps_asg pe_w (pg_sub ho (pe_w (e := ek)) hs ha) hsw hw h1) ?_
  refine exprD_go hv rf hm post fun v fm1 vv H1 st rf1 rv post1 hk1 => ?_
  have hk1 : thereM i (exprM mk fun rk fm => match rk.soft.get fm with
    | some k => (match chgM i (fun d => put d k v) fm with
      | some fm1 => some (Fl.nx, fm1)
      | none => none)
    | none => none) fm1 = some (fl, fm') := hk1
  unfold thereM at hk1
  split at hk1
  · rename_i s0 h0
    obtain ⟨v0, hv0, _⟩ := rf1.ok i _ h0
    refine ⟨v0, hv0, exprM_go hk rf1 hk1 post1 fun rk fm2 kv H2 st2 rr post2 hk2 => ?_⟩
    have hk3 : (match rk.soft.get fm2 with
      | some k => (match chgM i (fun d => put d k v) fm2 with
        | some fm1 => some (Fl.nx, fm1)
        | none => none)
      | none => none) = some (fl, fm') := hk2
    split at hk3
    · rename_i k hk4
      split at hk3
      · rename_i fm3 h3
        obtain ⟨kd, d, d', hkd, hd, hpd, rfl⟩ := chg_of h3
        have rf2 := rr.rel
        obtain ⟨a, ea, tx⟩ := slot_wr rf2 hd hkd
        rw [hv0] at ea; cases ea
        cases hk3
        refine hp Zo fm2 σ H2 a d k v d' kv vv _ tx (rf2.wrz ⟨i, _, hd, hkd, hv0⟩) (soft_see rr .refl rf2 hk4) (Rep.step rf1 rf2 st2 rv) hpd fun o t' => ?_
        obtain ⟨q1, q2⟩ := rf2.write hd hkd hv0 t'
        exact post2 σ _ q2 q1
      · cases hk3
    · cases hk3
  · cases hk1
end
end U
end

section
set_option Elab.async false
set_option linter.all false
set_option maxRecDepth 100000
set_option maxHeartbeats 400000
set_option autoImplicit false
/-! U21: o.f = v, instances made, displays of dicts. -/
namespace U
open PySem L2

theorem putF_zip {f : Str} {y : V} : ∀ {ns : List Str} {vs : List V} {j : Nat}, ixOf ns f = some j → j ≤ vs.length → putF f y (ns.zip vs) = ns.zip (if j < vs.length then vs.set j y else vs ++ [y])
  | [], _, _, h, _ => by cases h
  | n :: r, [], j, h, hj => by
    have : j = 0 := by simpa using hj
    subst this
    unfold ixOf at h
    split at h
    · rename_i e
      have e : f = n := by simpa using e
      subst e
      simp [putF]
    · obtain ⟨i, _, z⟩ := Option.map_eq_some_iff.mp h
      omega
  | n :: r, v :: vs, j, h, hj => by
    unfold ixOf at h
    rw [List.zip_cons_cons]
    unfold putF
    split at h
    · rename_i e
      cases h
      have e : f = n := by simpa using e
      subst e
      simp
    · rename_i e
      obtain ⟨i, h1, rfl⟩ := Option.map_eq_some_iff.mp h
      have ne : n ≠ f := fun z => by subst z; simp at e
      rw [if_neg ne, putF_zip h1 (by simpa using hj)]
      by_cases hi : i < vs.length
      · simp [hi]
      · simp [hi]
def putFd (c j : Nat) (v d : D) : Option D := match d with
  | .obj c' fs => if c' = c ∧ j ≤ fs.length ∧ fs.length < 100 then some (.obj c (if j < fs.length then fs.set j v else fs ++ [v])) else none
  | _ => none
def fldSetM (i c j : Nat) (mv : M D) : MS := exprD mv fun v fm => match chgM i (putFd c j v) fm with
  | some fm1 => some (.nx, fm1)
  | none => none
section
variable {X : Cx} {w : Wd} {W : WX} {o ev : Expr} {mv : M D} {i c j : Nat} {f : Str} {pos pos' : Pos}
theorem ss_fld (ho : PE X o (tVar i)) (hv : SD X w W ev mv) (hc : Cls X.K (w.cad c)) (hn : NoAttr X.K (w.cad c) f) (hj : ixOf (w.fns c) f = some j) (hs : swapsWith ev (some (.Attribute o f pos')) pos.line X.env = pure false := by rfl) :
    SS X w W (.Assign [.Attribute o f pos'] ev pos) (fldSetM i c j mv) := by
  intro Zo fm σ H fl fm' D rf hm post
  refine wS_of (ps_fld ho (pe_w (e := ev)) hs) ?_
  refine exprD_go hv rf hm post fun v fm1 vv H1 st rf1 rv post1 hk => ?_
  have hk : (match chgM i (putFd c j v) fm1 with
    | some fm1 => some (Fl.nx, fm1)
    | none => none) = some (fl, fm') := hk
  split at hk
  · rename_i fm2 h2
    obtain ⟨kd, d, d', hkd, hd, hp, rfl⟩ := chg_of h2
    cases hk
    obtain ⟨a, hva, t⟩ := slot_wr rf1 hd hkd
    unfold putFd at hp
    split at hp
    · rename_i c' fs
      split at hp
      · rename_i hcc
        obtain ⟨e1, hjl, hl⟩ := hcc
        subst e1
        cases hp
        obtain ⟨dx, vs, ha, hr⟩ := t
        have hjv : j ≤ vs.length := by rw [hr.length]; exact hjl
        refine ⟨_, hva, a, _, dx, _, rfl, ha, hc, hn, by rw [List.length_zip, hr.length]; omega, ?_⟩
        rw [putF_zip hj hjv]
        have t' : TopX w (Zx Zo fm1 σ) (upd H1 a (.ins (w.cad c') dx ((w.fns c').zip (if j < vs.length then vs.set j vv else vs ++ [vv])))) (.obj c' (if j < fs.length then fs.set j v else fs ++ [v])) a := by
          refine ⟨dx, _, upd_same, ?_⟩
          have ex : ∀ ob, Ext (Zx Zo fm1 σ) H1 (Zx Zo fm1 σ) (upd H1 a ob) := fun ob => Ext.of (fun _ _ _ z => z) fun b u n e => by
            rw [upd_ne (fun z => by subst z; exact n (rf1.wrz ⟨i, _, hd, hkd, hva⟩))]; exact e
          rw [hr.length]
          split
          · exact (hr.set j rv).ext (ex _)
          · exact (hr.app (.one rv)).ext (ex _)
        obtain ⟨q1, q2⟩ := rf1.write hd hkd hva t'
        exact post1 σ _ q2 q1
      · cases hp
    · cases hp
  · cases hk
end

/-! ### C(e, ..) -/
def makeM (c : Nat) (F : Fn) (bs : List Bool) (rs : List R) : M R := fun fm =>
  if apart bs rs = true then (match slotsOf fm bs rs with
    | some ps => (match F (⟨.bor, .obj c []⟩ :: ps) with
      | some (.ok (.frz .non), d :: fins) => some (.ok (.tmp d), wback fm bs rs fins)
      | some (.ex x, _ :: fins) => some (.ex x, wback fm bs rs fins)
      | _ => none)
    | none => none)
  else none
def eMake (c : Nat) (F : Fn) (as : List Ag) : M R := bindM (eArgs (as.map Ag.m)) (makeM c F (as.map Ag.b))
section
variable {w : Wd} {Zo : AP1} {fm fm1 fm' : Fm} {σ : St} {H H1 : Hp} {W : WX} {Q : VK} {c n : Nat} {F : Fn} {as : List Ag} {out : Out R} {rs : List R} {vs : List V}
/-- what __init__ is given -/
theorem make_go (hn : as.length + 1 = n) (rf1 : RelF w Zo fm1 σ H1) (st : StepS fm σ H fm1 σ H1) (sl : SeenL w Zo fm1 σ H1 rs vs) (hk : makeM c F (as.map Ag.b) rs fm1 = some (out, fm')) (post : PostE w W Zo σ H fm out fm' Q) :
    ∀ x dx, H1 x = none → H1 dx = none → dx ≠ x → spF w n F (.ref x :: vs) (upd (upd H1 dx (.own x)) x (.ins (w.cad c) dx [])) (fun v H2 => v = .non ∧ Q (.ref x) H2) (WE W σ) := by
  intro x dx hx hdx hne
  unfold makeM at hk
  split at hk
  · rename_i ap
    split at hk
    · rename_i ps hs
      have hH : ∀ a o, H1 a = some o → (upd (upd H1 dx (.own x)) x (.ins (w.cad c) dx [])) a = some o := fun a o e => by
        rw [upd_ne (ne_of_none e hx), upd_ne (ne_of_none e hdx)]; exact e
      have rp := relP_of rf1 hs sl ap
      have ex : Ext (Zx Zo fm1 σ) H1 (Zp (Zx Zo fm1 σ) x) (upd (upd H1 dx (.own x)) x (.ins (w.cad c) dx [])) := Ext.of (fun a o e z => by
        rcases z with z | z
        · exact z
        · subst z; rw [hx] at e; cases e) fun a o _ e => hH a o e
      have rp2 : RelP w (Zp (Zx Zo fm1 σ) x) (⟨.bor, .obj c []⟩ :: ps) (.ref x :: vs) (upd (upd H1 dx (.own x)) x (.ins (w.cad c) dx [])) := by
        have tail : ∀ (i : Nat) (s : Slot), ps[i]? = some s → s.k ≠ .own ∧ ∃ v, vs[i]? = some v ∧ SlotOk w (Zp (Zx Zo fm1 σ) x) (Zp (Zx Zo fm1 σ) x) (upd (upd H1 dx (.own x)) x (.ins (w.cad c) dx [])) s v ∧ (s.k ≠ .frz → v ≠ .ref x) := fun i s hi => by
          obtain ⟨h1, v, h2, h3⟩ := rp.ok i s hi
          refine ⟨h1, v, h2, ?_⟩
          obtain ⟨k, d⟩ := s
          cases k with
          | frz => exact ⟨Rep.ext ex h3, fun z => absurd rfl z⟩
          | own => exact absurd rfl h1
          | bor =>
            obtain ⟨a, e, z, t⟩ : ∃ a, v = .ref a ∧ Zx Zo fm1 σ a ∧ TopX w (Zx Zo fm1 σ) H1 d a := h3
            obtain ⟨o, ho⟩ := t.some
            exact ⟨⟨a, e, .inl z, t.ext ex (by rw [hH a o ho, ho])⟩, fun _ q => by rw [e] at q; cases q; rw [hx] at ho; cases ho⟩
          | ro =>
            obtain ⟨a, e, nn, t⟩ : ∃ a, v = .ref a ∧ d.ns = true ∧ TopR w (Zx Zo fm1 σ) H1 d v := h3
            subst e
            obtain ⟨o, ho⟩ := t.ref_some nn
            exact ⟨⟨a, rfl, nn, t.ext ex fun b hb => by cases hb; rw [hH a o ho, ho]⟩, fun _ q => by cases q; rw [hx] at ho; cases ho⟩
        refine ⟨by simp [rp.len], fun i s hi => ?_, fun i j s t a hij hi hj h1 h2 va vb => ?_, fun a z => ?_⟩
        · cases i with
          | zero =>
            cases hi
            exact ⟨(fun z => nomatch z), .ref x, rfl, x, rfl, .inr rfl, dx, [], by rw [upd_same, List.zip_nil_right], rfl⟩
          | succ i =>
            obtain ⟨q1, v, q2, q3, _⟩ := tail i s (by simpa using hi)
            exact ⟨q1, v, by simpa using q2, q3⟩
        · cases i with
          | zero =>
            cases va
            cases j with
            | zero => exact hij rfl
            | succ j =>
              obtain ⟨_, v, q2, _, q4⟩ := tail j t (by simpa using hj)
              have vb : vs[j]? = some (V.ref x) := by simpa using vb
              rw [vb] at q2; cases q2
              exact q4 h2 rfl
          | succ i =>
            have va : vs[i]? = some (V.ref a) := by simpa using va
            cases j with
            | zero =>
              cases vb
              obtain ⟨_, v, q2, _, q4⟩ := tail i s (by simpa using hi)
              rw [va] at q2; cases q2
              exact q4 (by rw [h1]; exact fun z => nomatch z) rfl
            | succ j => exact rp.uniq i j s t a (by omega) (by simpa using hi) (by simpa using hj) h1 h2 va (by simpa using vb)
        · rcases z with z | z
          · obtain ⟨o, ho⟩ := rf1.zsome z
            exact ⟨o, hH a o ho⟩
          · subst z; exact ⟨_, upd_same⟩
      have keepP : ∀ {H' : Hp}, KeepP (⟨.bor, .obj c []⟩ :: ps) (.ref x :: vs) (upd (upd H1 dx (.own x)) x (.ins (w.cad c) dx [])) H' → KeepP ps vs H1 H' := fun {H'} kp =>
        ⟨fun a o e nb => kp.keep a o (hH a o e) fun ⟨i, d, b1, b2⟩ => by
          cases i with
          | zero => cases b2; rw [hx] at e; cases e
          | succ i => exact nb ⟨i, d, by simpa using b1, by simpa using b2⟩, fun a o e => kp.there a o (hH a o e)⟩
      have finsT : ∀ {Z : AP1} {H' : Hp} {d : D} {fins : List D}, FinsOk w Z H' (⟨.bor, .obj c []⟩ :: ps) (.ref x :: vs) (d :: fins) → TopX w Z H' d x ∧ FinsOk w Z H' ps vs fins := fun {Z H' d fins} fo => by
        constructor
        · obtain ⟨d', q1, q2⟩ := fo 0 (.obj c []) x rfl rfl
          cases q1; exact q2
        · intro i e a h1 h2
          obtain ⟨d', q1, q2⟩ := fo (i + 1) e a (by simpa using h1) (by simpa using h2)
          exact ⟨d', by simpa using q1, q2⟩
      have hlen : (V.ref x :: vs).length = n := by rw [List.length_cons, seen_len sl, args_len hs, hn]
      split at hk
      · rename_i d fins hF
        cases hk
        refine ⟨hlen, _, _, _, _, rp2, hF, fun v H' kp fo rv => ⟨rv, ?_⟩⟩
        rw [← zxp] at fo
        obtain ⟨tp, ft⟩ := finsT fo
        obtain ⟨b1, b2, b3⟩ := back_of rf1 hs sl ap (keepP kp) (fun _ z => .inl z) (fun a z => by
          rcases z with z | z
          · exact .inl z
          · subst z; exact .inr ⟨hx, tp.some⟩) ft
        refine post (.ref x) H' (st.trans b2) (RelR.back st ⟨x, rfl, hx, fun z => ?_, (rf1.nad hx).wback, tp.ext (ext_sub fun a z => (b3 a).mp z) rfl, b1⟩)
        obtain ⟨o, e⟩ := rf1.live x z
        rw [hx] at e; cases e
      · rename_i x' d fins hF
        cases hk
        refine ⟨hlen, _, _, _, _, rp2, hF, fun cls dd H' kp fo rx => ?_⟩
        have fo2 : FinsOk w (Zx Zo fm1 σ) H' ps vs fins := fun i e a h1 h2 => by
          obtain ⟨d', q1, q2⟩ := (finsT fo).2 i e a h1 h2
          exact ⟨d', q1, q2.ext (ext_sub fun b z => .inl z) rfl⟩
        obtain ⟨b1, b2, b3⟩ := back_of rf1 hs sl ap (keepP kp) (fun _ z => z) (fun _ z => .inl z) fo2
        exact post cls dd H' (st.trans b2) b1 (rx.ext (ext_sub fun a z => .inl ((b3 a).mp z)) fun _ _ e => e)
      · cases hk
    · cases hk
  · cases hk
end
section
variable {X : Cx} {w : Wd} {W : WX} {k n c : Nat} {f C : Addr} {fd : FuncData} {ps : List Str} {F : Fn} {x : Str} {p pos : Pos} {e : Expr} {es : List Expr} {as : List Ag}
theorem run_makeS {pins : List (Addr × Obj)} {σ : St} {H : Hp} {s : Shared} {Q : VK} {us : List Value} {vs : List V} {sp : Sp} {E : St → XK} {CX : CXT} (M : Mk X.K C f) (FO : FnOk X.prog X.w X.K X.mg X.base CX k f fd ps sp) (hr : Room (k + 1) X.A) (hb : Binds X.K fd ps [])
    (hx : PassesAt CX X σ (E σ)) (I : Inv X pins σ H s) (r : Vals vs us)
    (h : ∀ x dx, H x = none → H dx = none → dx ≠ x → sp (.ref x :: vs) (upd (upd H dx (.own x)) x (.ins C dx [])) (fun v H2 => v = .non ∧ Q (.ref x) H2) (E σ)) :
    wpAny (model X.prog X.w) X.A (call (.ref C) us) (EP X pins σ Q) X.xe s := by
  have hq := h (s.heap.objs.size + 1) s.heap.objs.size (I.hok.fresh (Nat.le_succ _)) (I.hok.fresh (Nat.le_refl _)) (Nat.ne_of_lt (Nat.lt_succ_self _))
  have I2 := Inv.made (C := C) I
  have r2 : Vals (V.ref (s.heap.objs.size + 1) :: vs) (Value.ref (s.heap.objs.size + 1) :: us) := .cons rfl r
  have hl : (Value.ref (s.heap.objs.size + 1) :: us ++ []).length = ps.length := by
    rw [List.append_nil]
    have e := r2.length
    rw [FO.len _ _ _ _ hq] at e
    exact e.symm
  have hb2 := hb _ (Value.ref (s.heap.objs.size + 1) :: us) I2.kIn hl
  rw [List.append_nil] at hb2
  refine wpAny_call (make_map (f := f) I.kIn M.makes M.init (beq_iff_eq.mp M.fn) (codeAny_mono (FO.run _ X.stack _ _ ⟨Value.ref (s.heap.objs.size + 1) :: us, []⟩ (Value.ref (s.heap.objs.size + 1) :: us) _ _ (E σ) (hr.make C us [])
    (I2.env0.make C us []) hb2 r2 hq) fun r s' hq' => ?_))
  cases r with
  | error e => exact hx pins _ _ e s' I2 hq'
  | ok fl =>
    cases fl with
    | ret u =>
      obtain ⟨v, H', I3, rv, ev, q3⟩ := I2.after hq'
      subst ev
      exact ⟨rv, ⟨V.ref (s.heap.objs.size + 1), H', I3, rfl, q3⟩⟩
    | next => exact False.elim hq'
    | brk => exact False.elim hq'
    | cont => exact False.elim hq'
/-- C(e, ..) -/
theorem se_make (M : Mk X.K (w.cad c) f) (FO : FnOk X.prog X.w X.K X.mg X.base (L2.CX X.prog X.w) k f fd ps (spF w n F)) (hr : Room (k + 1) X.A) (hg : Gl X x) (hm : X.mg x = some (.ref (w.cad c))) (hb : Binds X.K fd ps []) (tk : Takes X W)
    (sa : SA X w W (e :: es) (as.map Ag.m)) (hn : as.length + 1 = n := by rfl) (hdb : (x == ("__debug__" : Str)) = false := by decide) (he : starEach (e :: es) X.env = (false, eval e X.env) :: starEach es X.env := by rfl) (hpl : (backTo pos (starEach es X.env)).any (·.1) = false := by rfl) :
    SE X w W (.Call (.Name x p) (e :: es) [] pos) (eMake c F as) := by
  intro Zo fm σ H out fm' Q rf hm1 post pins s I
  refine wpAny_Call_Name_kw (ld_glob I hg hm ?_ hdb)
  have q : wA X (e :: es) σ H fun vs H1 => ∀ x dx, H1 x = none → H1 dx = none → dx ≠ x → spF w n F (.ref x :: vs) (upd (upd H1 dx (.own x)) x (.ins (w.cad c) dx [])) (fun v H2 => v = .non ∧ Q (.ref x) H2) (WE W σ) :=
    sa _ Zo fm σ H out fm' _ rf hm1 post.x fun rs fm1 vs H1 st rf1 sl px hk1 => make_go hn rf1 st sl hk1 post
  refine PySem.W.callWith_K (h₀ := X.base) I.ok.mod.kin M.kp (thn (q pos pins s I) fun us s1 ⟨vs, H1, I1, r, q⟩ => ⟨I1.kIn, ?_⟩) he hpl
  exact run_makeS M FO hr hb (passAt tk σ) I1 r q
end
end U
end

section
set_option Elab.async false
set_option linter.all false
set_option maxRecDepth 100000
set_option maxHeartbeats 400000
set_option autoImplicit false
/-! U22: own operators (==, <=, +, -, in ..), len, call, isinstance; displays of dicts; join. -/
namespace U
open PySem L2

/-- the built-in type of a datum -/
def tyD : D → Option String
  | .non => some "NoneType"
  | .bl _ => some "bool"
  | .int _ => some "int"
  | .str _ => some "str"
  | .tup _ => some "tuple"
  | .lst _ => some "list"
  | .dic _ => some "dict"
  | _ => none
theorem top_ty {w : Wd} {K : PySem.W.Frag} {Z : AP1} {H : Hp} {d : D} {v : V} {T : String} (h : TopR w Z H d v) (e : tyD d = some T) : TyX K H v (.type T) := by
  cases d with
  | non => cases e; rw [show v = .non from h]; exact .base .non
  | bl b => cases e; rw [show v = .bl b from h]; exact .base (.bl b)
  | int i => cases e; rw [show v = .int i from h]; exact .base (.int i)
  | str x => cases e; rw [show v = .str x from h]; exact .base (.str x)
  | tup xs => cases e; obtain ⟨a, vs, rfl, ha, _⟩ := h; exact .base (.tup ha)
  | lst xs => cases e; obtain ⟨a, vs, rfl, ha, _⟩ := h; exact .base (.lst ha)
  | dic xs =>
    cases e
    obtain ⟨a, vs, rfl, ha | ⟨o, ha⟩, _⟩ := h
    · exact .base (.dK ha)
    · exact .fDict ha
  | obj c fs => cases e
  | scr ns => cases e
/-- the right operand: of a built-in type, or of one of the classes cs -/
def rightOk (cs : List Nat) (d : D) : Bool := match d with
  | .obj c _ => cs.contains c
  | d => (tyD d).isSome
def own2M (c : Nat) (cs : List Nat) (F : Fn) (r1 r2 : R) : M R := fun fm => match r1.soft.get fm, r2.soft.get fm with
  | some (.obj c' _), some d => if c' = c ∧ rightOk cs d = true then callM F [false, false] [r1.soft, r2.soft] fm else none
  | _, _ => none
def eOwn2 (c : Nat) (cs : List Nat) (F : Fn) (ma mb : M R) : M R := bindM ma fun r1 => bindM mb fun r2 => own2M c cs F r1 r2
section
variable {X : Cx} {w : Wd} {W : WX} {a b : Expr} {ma mb : M R} {F : Fn} {k c : Nat} {cs : List Nat} {f : Addr} {fd : FuncData} {ps : List Str} {pos : Pos}
theorem own2_core (ha : SE X w W a ma) (hb : SE X w W b mb) {Zo : AP1} {fm : Fm} {σ : St} {H : Hp} {out : Out R} {fm' : Fm} {Q : VK} (rf : RelF w Zo fm σ H) (hm : eOwn2 c cs F ma mb fm = some (out, fm')) (post : PostE w W Zo σ H fm out fm' Q) :
    wE X a σ H fun x H1 => wE X b σ H1 fun y H2 => ∃ p dx vs d Z, x = .ref p ∧ H2 p = some (.ins (w.cad c) dx ((w.fns c).zip vs)) ∧ TopR w Z H2 d y ∧ rightOk cs d = true ∧ spF w 2 F [.ref p, y] H2 Q (WE W σ) := by
  refine se_bind ha rf hm post.x fun r1 fm1 v1 H1 st1 rr1 px1 hk => se_bind hb rr1.rel hk px1 fun r2 fm2 v2 H2 st2 rr2 px2 hk2 => ?_
  have s1 := rr1.seen.step rr1.rel rr2.rel st2
  unfold own2M at hk2
  split at hk2
  · rename_i c' fs d g1 g2
    split at hk2
    · rename_i hc
      obtain ⟨e1, e2⟩ := hc
      subst e1
      obtain ⟨p, dx, vs, rfl, hp, _⟩ := s1.top rr2.rel g1
      refine ⟨p, dx, vs, d, _, rfl, hp, soft_see rr2 .refl rr2.rel g2, e2, ?_⟩
      exact call_go (as := [.val ma, .val mb]) rfl rr2.rel (st1.trans st2) (rs := [r1.soft, r2.soft]) ⟨_, _, rfl, s1, _, _, rfl, rr2.seen, rfl⟩ hk2 post
    · cases hk2
  · cases hk2
/-- what is looked at of the right operand's type -/
def NF (K : PySem.W.Frag) (w : Wd) (c : Nat) (cs : List Nat) : Prop := (∀ T ∈ ["NoneType", "bool", "int", "str", "tuple", "list", "dict"], PySem.W.notFirst K (w.cad c) (.type T) = true) ∧ ∀ c' ∈ cs, PySem.W.notFirst K (w.cad c) (.ref (w.cad c')) = true
theorem tyD_mem {d : D} {T : String} (h : tyD d = some T) : T ∈ ["NoneType", "bool", "int", "str", "tuple", "list", "dict"] := by
  cases d <;> cases h <;> simp
theorem ep_back {pins : List (Addr × Obj)} {σ : St} {Q : VK} {u : Value} {s : Shared} (h : EP X pins σ Q u s) : PySem.W.CmpBack (EP X pins σ Q) u s := by
  obtain ⟨v, H', I, r, q⟩ := id h
  cases v with
  | non => cases (show u = Value.none from r); exact h
  | bl b => cases (show u = Value.bool b from r); exact h
  | int i => obtain ⟨t, e⟩ := r; cases e; exact h
  | str x => obtain ⟨t, e⟩ := r; cases e; exact h
  | byt x => obtain ⟨t, e⟩ := r; cases e; exact h
  | flt x => obtain ⟨t, e⟩ := r; cases e; exact h
  | ref x => cases (show u = Value.ref x from r); exact h
  | ty x => cases (show u = Value.type x from r); exact h
theorem inst_of {pins : List (Addr × Obj)} {σ : St} {H : Hp} {s : Shared} {p C dx : Addr} {fs : List (Str × V)} (I : Inv X pins σ H s) (hp : H p = some (.ins C dx fs)) : ∃ ox od, PySem.W.InstAt s.heap p ox C od ∧ ox.data = .plain := by
  obtain ⟨mA, O, _⟩ := ins_get I.hok hp
  obtain ⟨od, J, _⟩ := O.look
  exact ⟨_, _, J, rfl⟩
theorem looks_right {pins : List (Addr × Obj)} {σ : St} {H : Hp} {s : Shared} {Z : AP1} {d : D} {y : V} {u : Value} (I : Inv X pins σ H s) (t : TopR w Z H d y) (ry : RelV y u) (hr : rightOk cs d = true) (nf : NF X.K w c cs) :
    ∃ tb, PySem.W.Looks (model X.prog X.w) s.heap (typeOf u) tb ∧ PySem.W.notFirst X.K (w.cad c) tb = true := by
  cases e : tyD d with
  | some T =>
    obtain ⟨P, k, p, _⟩ := kit_of I ry (top_ty t e)
    exact ⟨_, k.ty _ _ I.kIn p, nf.1 T (tyD_mem e)⟩
  | none =>
    cases d with
    | obj c' fs =>
      obtain ⟨q, dx, vs, rfl, hq, _⟩ := t
      cases (show u = Value.ref q from ry)
      obtain ⟨ox, od, J, _⟩ := inst_of I hq
      exact ⟨_, J.type, nf.2 c' (by simpa [rightOk] using hr)⟩
    | scr ns => cases hr
    | _ => cases e
/-- x == y, x <= y, .. by the class's own -/
theorem se_cmpOwn {op : CmpOp} (hop : ∀ v u, compareOp op v u = richCompare op v u) (hs : PySem.W.findIn X.K (.ref (w.cad c)) (cmpInfo op).2.1 = some (some (.ref f))) (hf : PySem.W.isFn X.K (.ref f) = true) (nf : NF X.K w c cs)
    (FO : FnOk X.prog X.w X.K X.mg X.base (L2.CX X.prog X.w) k f fd ps (spF w 2 F)) (hr : Room k X.A) (hb0 : Binds X.K fd ps []) (tk : Takes X W) (ha : SE X w W a ma) (hb : SE X w W b mb) (hn : behindInMarks op b = false) :
    SE X w W (.Compare a [op] [b] pos) (eOwn2 c cs F ma mb) := by
  intro Zo fm σ H out fm' Q rf hm post pins s I
  refine wpAny_Compare1 (binT pe_w pe_w I (own2_core ha hb rf hm post) fun v u s2 x y H2 I2 rx ry q => ?_) hn
  obtain ⟨p, dx, vs, d, Z, rfl, hp, t, hrt, sp⟩ := q
  cases (show v = Value.ref p from rx)
  obtain ⟨ox, od, J, _⟩ := inst_of I2 hp
  obtain ⟨tb, L, nf'⟩ := looks_right I2 t ry hrt nf
  obtain ⟨m, hF⟩ := I2.fr
  rw [hop]
  refine PySem.W.cmp_K hr.units0 hF I2.ok.mod.kin J L nf' hs hf (wpAny_mono ?_ (fun r s' q => ep_back q) fun _ _ x => x)
  exact run_fnSD (us := [.ref p, u]) (vs := [.ref p, y]) (dvs := []) FO hr hb0 .nil (passAt tk σ) I2 (.cons rfl (.cons ry .nil)) (by rw [List.append_nil]; exact sp)
/-- x + y of two of the class -/
def ownBM (c : Nat) (F : Fn) (r1 r2 : R) : M R := fun fm => match r1.soft.get fm, r2.soft.get fm with
  | some (.obj c1 _), some (.obj c2 _) => if c1 = c ∧ c2 = c then callM F [false, false] [r1.soft, r2.soft] fm else none
  | _, _ => none
def eOwnB (c : Nat) (F : Fn) (ma mb : M R) : M R := bindM ma fun r1 => bindM mb fun r2 => ownBM c F r1 r2
theorem se_binOwn {op : Operator} (hs : PySem.W.findIn X.K (.ref (w.cad c)) (PySem.dunder op.info.2) = some (some (.ref f))) (hf : PySem.W.isFn X.K (.ref f) = true) (hsf : PySem.W.selfFirst X.K (w.cad c) = true)
    (FO : FnOk X.prog X.w X.K X.mg X.base (L2.CX X.prog X.w) k f fd ps (spF w 2 F)) (hr : Room k X.A) (hb0 : Binds X.K fd ps []) (tk : Takes X W) (ha : SE X w W a ma) (hb : SE X w W b mb) : SE X w W (.BinOp a op b pos) (eOwnB c F ma mb) := by
  intro Zo fm σ H out fm' Q rf hm post pins s I
  have core : wE X a σ H fun x H1 => wE X b σ H1 fun y H2 => ∃ p q dx dy vs us, x = .ref p ∧ y = .ref q ∧ H2 p = some (.ins (w.cad c) dx vs) ∧ H2 q = some (.ins (w.cad c) dy us) ∧ spF w 2 F [.ref p, .ref q] H2 Q (WE W σ) := by
    refine se_bind ha rf hm post.x fun r1 fm1 v1 H1 st1 rr1 px1 hk => se_bind hb rr1.rel hk px1 fun r2 fm2 v2 H2 st2 rr2 px2 hk2 => ?_
    have s1 := rr1.seen.step rr1.rel rr2.rel st2
    unfold ownBM at hk2
    split at hk2
    · rename_i c1 fs1 c2 fs2 g1 g2
      split at hk2
      · rename_i hc
        obtain ⟨e1, e2⟩ := hc
        subst e1; subst e2
        obtain ⟨p, dx, vs, rfl, hp, _⟩ := s1.top rr2.rel g1
        obtain ⟨q, dy, us, rfl, hq, _⟩ := soft_see rr2 .refl rr2.rel g2
        refine ⟨p, q, dx, dy, _, _, rfl, rfl, hp, hq, ?_⟩
        exact call_go (as := [.val ma, .val mb]) rfl rr2.rel (st1.trans st2) (rs := [r1.soft, r2.soft]) ⟨_, _, rfl, s1, _, _, rfl, rr2.seen, rfl⟩ hk2 post
      · cases hk2
    · cases hk2
  refine wpAny_BinOp (binT pe_w pe_w I core fun v u s2 x y H2 I2 rx ry q => ?_)
  obtain ⟨p, q, dx, dy, vs, us, rfl, rfl, hp, hq, sp⟩ := q
  cases (show v = Value.ref p from rx)
  cases (show u = Value.ref q from ry)
  obtain ⟨ox, od, J, _⟩ := inst_of I2 hp
  obtain ⟨oy, od2, J2, _⟩ := inst_of I2 hq
  obtain ⟨m, hF⟩ := I2.fr
  refine PySem.W.binop_K hF I2.ok.mod.kin J J2.type hsf hs hf (wpAny_mono ?_ (fun r s' q => ep_back q) fun _ _ x => x)
  exact run_fnSD (us := [.ref p, .ref q]) (vs := [.ref p, .ref q]) (dvs := []) FO hr hb0 .nil (passAt tk σ) I2 (.cons rfl (.cons rfl .nil)) (by rw [List.append_nil]; exact sp)

/-! ### len(x) of an own __len__ -/
def asLen (z : R) : M R := fun fm => match z.int? with
  | some i => if 0 ≤ i ∧ i < 2 ^ 63 then some (.ok (.frz (.int i)), fm) else none
  | none => none
def lenM (c : Nat) (F : Fn) (r : R) : M R := bindM (isC c r) fun r => bindM (okM (callM F [false] [r])) asLen
def eLenOwn (c : Nat) (F : Fn) (m : M R) : M R := bindM m (lenM c F)
theorem se_lenOwn {p0 : Pos} (hg : Gl X "len") (hm0 : X.mg "len" = none) (hs : PySem.W.findIn X.K (.ref (w.cad c)) "__len__" = some (some (.ref f))) (hf : PySem.W.isFn X.K (.ref f) = true)
    (FO : FnOk X.prog X.w X.K X.mg X.base (L2.CX X.prog X.w) k f fd ps (spF w 1 F)) (hr : Room (k + 1) X.A) (hb0 : Binds X.K fd ps []) (ha : SE X w W a ma)
    (he : starEach [a] X.env = (false, eval a X.env) :: starEach [] X.env := by rfl) (hpl : (backTo pos (starEach [] X.env)).any (·.1) = false := by rfl) : SE X w W (.Call (.Name "len" p0) [a] [] pos) (eLenOwn c F ma) := by
  intro Zo fm σ H out fm' Q rf hm post pins s I
  refine wpAny_Call_Name_kw (ld_blt I hg hm0 boot_len ?_ (by decide) (by decide))
  have q : wE X a σ H fun v H1 => ∃ a' dx vs, v = .ref a' ∧ H1 a' = some (.ins (w.cad c) dx vs) ∧ spF w 1 F [.ref a'] H1 (fun z H2 => ∃ i, z = .int i ∧ (0 ≤ i ∧ i < 2 ^ 63) ∧ Q (.int i) H2) (fun _ _ _ => False) := by
    refine se_bind ha rf hm post.x fun r fm1 v H1 st rr px hk => ?_
    unfold lenM at hk
    unfold bindM at hk
    split at hk
    · rename_i r2 fm2 h2
      obtain ⟨e1, rfl, a', dx, vs, rfl, ha'⟩ := isC_of rr h2
      cases e1
      refine ⟨a', dx, _, rfl, ha', ?_⟩
      have hk : bindM (okM (callM F [false] [r.soft])) asLen fm2 = some (out, fm') := hk
      unfold bindM at hk
      split at hk
      · rename_i z fm3 h3
        have h3' : okM (callM F [false] [r.soft]) fm2 = some (.ok z, fm3) := h3
        unfold okM at h3'
        split at h3'
        · rename_i z' fm4 h4
          cases h3'
          unfold asLen at hk
          split at hk
          · rename_i i hi
            split at hk
            · rename_i hb
              cases hk
              refine call_go (W := fun _ _ _ _ => False) (as := [.val ma]) rfl rr.rel st (rs := [r.soft]) ⟨_, _, rfl, rr.seen, rfl⟩ h4 ?_
              intro v' H' st' rr'
              rw [R.int_of hi] at rr'
              exact ⟨i, rr'.2, hb, post _ H' st' ⟨rr'.1, rfl⟩⟩
            · cases hk
          · cases hk
        · cases h3'
      · rename_i x' fm3 h3
        have h3' : okM (callM F [false] [r.soft]) fm2 = some (.ex x', fm3) := h3
        unfold okM at h3'
        split at h3' <;> cases h3'
      · cases hk
    · rename_i x fm2 h2
      obtain ⟨e1, _⟩ := isC_of rr h2
      cases e1
    · cases hk
  have hA := (pa_cons (X := X) (e := a) (es := []) pe_w pa_nil he).run pos pins s σ H (fun vs H1 => ∃ v, vs = [v] ∧ ∃ a' dx fs, v = .ref a' ∧ H1 a' = some (.ins (w.cad c) dx fs) ∧ spF w 1 F [.ref a'] H1 (fun z H2 => ∃ i, z = .int i ∧ (0 ≤ i ∧ i < 2 ^ 63) ∧ Q (.int i) H2) (fun _ _ _ => False)) I (show wE X a σ H _ from fun pins s I => wpAny_mono (q pins s I) (fun u s1 ⟨x, H1, I1, r, z⟩ => ⟨x, H1, I1, r, x, rfl, z⟩) fun _ _ x => x)
  refine PyProof.Rows.callWith_builtin1 (thn hA fun us s1 ⟨vs, H1, I1, r1, v, e1, a', dx, fs, e2, ha', sp⟩ => ?_) he hpl
  subst e1; subst e2
  obtain rfl := Vals.ref1 r1
  obtain ⟨ox, od, J, _⟩ := inst_of I1 ha'
  obtain ⟨m, hF⟩ := I1.fr
  refine PySem.W.len_K hF I1.ok.mod.kin J hs hf ?_
  have e0 := I1.env0.in1
  have hl := FO.len _ _ _ _ sp
  have hb2 := hb0 s1 [.ref a'] I1.kIn (by simpa using hl)
  refine wpAny_call (codeAny_mono (FO.run X.A.in1 X.stack s1 H1 ⟨[.ref a'], []⟩ [.ref a'] [.ref a'] _ _ hr.in1 e0 (by simpa using hb2) (.cons rfl .nil) sp) fun r s' hq => ?_)
  cases r with
  | error er =>
    obtain ⟨_, _, _, _, _, _, _, _, _, _, _, _, z⟩ := (show L2.CX X.prog X.w X.stack H1 s1 _ er s' from hq)
    exact z.elim
  | ok fl =>
    cases fl with
    | ret u =>
      obtain ⟨z, H', I3, rv, i, ez, hi, q3⟩ := I1.after (Q := fun z H2 => ∃ i, z = .int i ∧ (0 ≤ i ∧ i < 2 ^ 63) ∧ Q (.int i) H2) hq
      subst ez
      obtain ⟨t, rfl⟩ := rv
      exact ⟨hi, .int i, H', I3.tok _, ⟨_, rfl⟩, q3⟩
    | next => exact False.elim hq
    | brk => exact False.elim hq
    | cont => exact False.elim hq
end
end U
end

section
set_option Elab.async false
set_option linter.all false
set_option maxRecDepth 100000
set_option maxHeartbeats 400000
set_option autoImplicit false
/-! U23: instances called, isinstance, displays of dicts, join. -/
namespace U
open PySem L2

def callOM (c : Nat) (F : Fn) (b : Bool) (bs : List Bool) (r : R) (rs : List R) : M R := fun fm => match r.get fm with
  | some (.obj c' _) => if c' = c then callM F (b :: bs) (r :: rs) fm else none
  | _ => none
def eCallO (c : Nat) (F : Fn) (ag : Ag) (as : List Ag) : M R := bindM ag.m fun r => bindM (isC c r) fun r => bindM (eArgs (as.map Ag.m)) fun rs => callOM c F ag.b (as.map Ag.b) r rs
section
variable {X : Cx} {w : Wd} {W : WX} {k n c : Nat} {f : Addr} {fd : FuncData} {ps : List Str} {F : Fn} {p0 pos : Pos} {e fe a b : Expr} {es : List Expr} {as : List Ag} {ag : Ag} {ma mb : M R}
/-! ### o(e, ..), o an instance with __call__ -/
theorem codeAny_fn {pins : List (Addr × Obj)} {σ : St} {H : Hp} {s : Shared} {Q : VK} {us : List Value} {vs : List V} {sp : Sp} {E : XK} {CX : CXT} (FO : FnOk X.prog X.w X.K X.mg X.base CX k f fd ps sp) (hr : Room k X.A) (hb : Binds X.K fd ps []) (hx : PassesAt CX X σ E)
    (I : Inv X pins σ H s) (r : Vals vs us) (h : sp vs H Q E) : codeAny (model X.prog X.w) X.A (.call (.ref f) ⟨us, []⟩) (fun r s' => match r with
      | .ok (.ret u) => EP X pins σ Q u s'
      | .ok _ => False
      | .error e => X.xe e s') s := by
  have hl : us.length = ps.length := by rw [← r.length]; exact FO.len _ _ _ _ h
  have b := hb s us I.kIn (by rw [List.append_nil]; exact hl)
  rw [List.append_nil] at b
  refine codeAny_mono (FO.run X.A X.stack s H ⟨us, []⟩ us vs Q E hr I.env0 b r h) fun r s' hq => ?_
  cases r with
  | error e => exact hx pins H s e s' I hq
  | ok fl =>
    cases fl with
    | ret u => exact I.after hq
    | next => exact False.elim hq
    | brk => exact False.elim hq
    | cont => exact False.elim hq
theorem se_callO (hc : StX.CallO X.K (w.cad c) f) (FO : FnOk X.prog X.w X.K X.mg X.base (L2.CX X.prog X.w) k f fd ps (spF w n F)) (hr : Room k X.A) (hb : Binds X.K fd ps []) (tk : Takes X W) (he : SE X w W fe ag.m)
    (sa : SA X w W (e :: es) (as.map Ag.m)) (hn : as.length + 1 = n := by rfl)
    (ht : eval (.Call fe (e :: es) [] pos) X.env = (do callWith pos (← eval fe X.env) [] (backTo pos (starEach (e :: es) X.env)) (backToKw pos (keywordEach [] X.env))) := by rfl)
    (hst : starEach (e :: es) X.env = (false, eval e X.env) :: starEach es X.env := by rfl) (hpl : (backTo pos (starEach es X.env)).any (·.1) = false := by rfl) : SE X w W (.Call fe (e :: es) [] pos) (eCallO c F ag as) := by
  intro Zo fm σ H out fm' Q rf hm post pins s I
  have q : wE X fe σ H fun v H1 => ∃ a', v = .ref a' ∧ wA X (e :: es) σ H1 fun vs H2 => (∃ dx fs, H2 a' = some (.ins (w.cad c) dx fs)) ∧ spF w n F (.ref a' :: vs) H2 Q (WE W σ) := by
    refine se_bind he rf hm post.x fun r fm1 v H1 st rr px hk => ?_
    unfold bindM at hk
    split at hk
    · rename_i r2 fm2 h2
      obtain ⟨e1, rfl, a', dx, vs, rfl, ha⟩ := isC_of rr h2
      cases e1
      have hk : bindM (eArgs (as.map Ag.m)) (fun rs => callOM c F ag.b (as.map Ag.b) r.soft rs) fm2 = some (out, fm') := hk
      refine ⟨a', rfl, sa _ Zo _ σ H1 out fm' _ rr.rel hk px fun rs fm2 vs H2 st2 rf2 sl px2 hk2 => ?_⟩
      unfold callOM at hk2
      split at hk2
      · rename_i c' fs hg
        split at hk2
        · rename_i hcc
          subst hcc
          have sr := rr.seen.step rr.rel rf2 st2
          obtain ⟨a2, dx, us, e2, ha, _⟩ := sr.top rf2 hg
          cases e2
          exact ⟨⟨dx, _, ha⟩, call_go (as := ag :: as) (n := n) hn rf2 (st.trans st2) (rs := r.soft :: rs) ⟨_, _, rfl, sr, sl⟩ hk2 post⟩
        · cases hk2
      · cases hk2
    · rename_i x fm2 h2
      obtain ⟨e1, _⟩ := isC_of rr h2
      cases e1
    · cases hk
  refine PyProof.Rows.Call_ (thn (q pins s I) fun u s1 ⟨x, H1, I1, rx, a', ex, q1⟩ => ?_) ht
  subst ex
  obtain rfl : u = Value.ref a' := rx
  refine StX.callO_with (thn (q1 pos pins s1 I1) fun us s2 ⟨vs, H2, I2, r, ⟨dx, fs, hi⟩, sp⟩ => ?_) hst hpl
  obtain ⟨ox, od, J, hd⟩ := inst_of I2 hi
  refine ⟨⟨_, ox, od, J, hd⟩, wpAny_call (PySem.W.kco_code I2.kIn J hd hc.at_ hc.fn hc.fi (codeAny_mono (codeAny_fn (us := .ref a' :: us) (vs := .ref a' :: vs) FO hr hb (passAt tk σ) I2 (.cons rfl r) sp) fun r s' hq => ?_))⟩
  cases r with
  | error e => exact hq
  | ok fl => cases fl <;> exact hq

/-! ### isinstance(x, C) -/
def isiM (c : Nat) (d : D) : Option Bool := match d with
  | .obj c' _ => if c' = c then some true else none
  | d => if (tyD d).isSome then some false else none
def eIsi (c : Nat) (m : M R) : M R := bindM m fun r fm => match r.soft.get fm with
  | some d => (match isiM c d with
    | some b => some (.ok (.frz (.bl b)), fm)
    | none => none)
  | none => none
structure IsiOk (K : PySem.W.Frag) (C : Addr) : Prop where
  own : PySem.W.kitOne K (.ref C) (.ref C) = some true
  blt : ∀ T ∈ ["NoneType", "bool", "int", "str", "tuple", "list", "dict"], PySem.W.kitOne K (.type T) (.ref C) = some false
  cl : Cls K C
  ha : PySem.W.findIn K (.ref C) "__class__" = some (some (.builtin "object.__class__"))
  hn : PySem.W.specialIn K (.builtin "object.__class__") "__get__" = some (some (.builtin "getset_descriptor.__get__"))
  htk : PySem.W.takesIn K (.builtin "object.__class__") = some true
  hm : PySem.W.mroIn K C (.type "object") = some true
theorem se_isi {x : Str} {p1 : Pos} (hg : Gl X "isinstance") (hm0 : X.mg "isinstance" = none) (hgC : Gl X x) (hmC : X.mg x = some (.ref (w.cad c))) (ok : IsiOk X.K (w.cad c)) (ha : SE X w W a ma)
    (hdb : (x == ("__debug__" : Str)) = false := by decide)
    (he : starEach [a, .Name x p1] X.env = (false, eval a X.env) :: starEach [.Name x p1] X.env := by rfl) (he2 : starEach [.Name x p1] X.env = (false, eval (.Name x p1) X.env) :: starEach [] X.env := by rfl)
    (hpl : (backTo pos (starEach [.Name x p1] X.env)).any (·.1) = false := by rfl) : SE X w W (.Call (.Name "isinstance" p0) [a, .Name x p1] [] pos) (eIsi c ma) := by
  intro Zo fm σ H out fm' Q rf hm post
  have pc : PE X (.Name x p1) (fun σ H Q => Q (.ref (w.cad c)) H) := ⟨fun pins s σ H Q I h => ld_glob I hgC hmC ⟨.ref (w.cad c), H, I, rfl, h⟩ hdb⟩
  refine wE_of (pe_callB call_isi hg hm0 (by decide +kernel) (pa_cons (pe_w (e := a)) (pa_cons pc pa_nil he2) he) (by decide) (by decide) he hpl) ?_
  refine se_bind ha rf hm post.x fun r fm1 v H1 st rr px hk => ?_
  have hk : (match r.soft.get fm1 with
    | some d => (match isiM c d with
      | some b => some (Out.ok (R.frz (.bl b)), fm1)
      | none => none)
    | none => none) = some (out, fm') := hk
  split at hk
  · rename_i d hd
    split at hk
    · rename_i b hb
      cases hk
      have t := soft_see rr .refl rr.rel hd
      cases e : tyD d with
      | some T =>
        have eb : b = false := by
          cases d <;> first | (cases e; done) | (cases hb; rfl)
        subst eb
        exact ⟨v, .ref (w.cad c), _, _, false, rfl, .own _, top_ty t e, ok.blt T (tyD_mem e), post _ H1 st ⟨rr.rel, rfl⟩⟩
      | none =>
        cases d with
        | obj c' fs =>
          have hb2 : (if c' = c then some true else none) = some b := hb
          by_cases hcc : c' = c
          · rw [if_pos hcc] at hb2
            have eb : true = b := Option.some.inj hb2
            subst eb
            subst hcc
            obtain ⟨q, dx, vs, rfl, hq, _⟩ := t
            exact ⟨_, .ref (w.cad c'), _, _, true, rfl, .own _, .base (.ins hq ok.cl ok.ha ok.hn ok.htk ok.hm), ok.own, post _ H1 st ⟨rr.rel, rfl⟩⟩
          · rw [if_neg hcc] at hb2; cases hb2
        | scr ns => cases hb
        | _ => cases e
    · cases hk
  · cases hk

/-! ### displays of dicts -/
def R.key? : R → Option Key
  | .frz d => d.key?
  | _ => none
def ePairs : List (M R × M R) → M (List (Key × D))
  | [] => retM []
  | (mk, mv) :: r => bindM mk fun rk => bindM (eEat mv) fun v => bindM (ePairs r) fun ps fm => match rk.key? with
    | some k => some (.ok ((k, v) :: ps), fm)
    | none => none
def dispM (ps : List (M R × M R)) : M R := bindM (ePairs ps) fun kvs fm => if kvs.length ≤ 15 then some (.ok (.tmp (.dic (mergeD [] kvs))), fm) else none
def eDisp (ps : List (M R × M R)) : M R := okM (dispM ps)
def eDic0 : M R := fun fm => some (.ok (.tmp (.dic [])), fm)
theorem RepK.merge {w : Wd} {Z : AP1} {H : Hp} : ∀ {more : List (Key × D)} {us : List (Key × V)} {kvs : List (Key × D)} {vs : List (Key × V)}, RepK w Z H more us → RepK w Z H kvs vs → RepK w Z H (mergeD kvs more) (mergeK vs us)
  | [], _, _, _, h, h' => by subst h; exact h'
  | (k, d) :: more, _, _, _, h, h' => by
    obtain ⟨v, r, rfl, h1, h2⟩ := h
    have e : v.1 = k := h1.1
    subst e
    show RepK w Z H (mergeD (putD _ v.1 d) more) (mergeK (putK _ v.1 v.2) r)
    exact RepK.merge h2 (h'.put h1.2)
def SPs (X : Cx) (w : Wd) (W : WX) (kes : List (Expr × Expr)) (ms : List (M R × M R)) : Prop :=
  ∀ {α : Type} (k : List (Key × D) → M α) Zo fm σ H (out : Out α) fm' (G : List (V × V) → Hp → Prop), RelF w Zo fm σ H → bindM (ePairs ms) k fm = some (out, fm') → PostX w W Zo σ H fm out fm' →
    (∀ kvs fm1 us H1, StepS fm σ H fm1 σ H1 → RelF w Zo fm1 σ H1 → RepK w (Zx Zo fm1 σ) H1 kvs us → PostX w W Zo σ H1 fm1 out fm' → k kvs fm1 = some (out, fm') → G (us.map fun kv => (kV kv.1, kv.2)) H1) →
    tPairs (kes.map fun p => (wE X p.1, wE X p.2)) σ H G
theorem sps_nil : SPs X w W [] [] := by
  intro α k Zo fm σ H out fm' G rf hm px go
  exact go [] fm [] H .refl rf rfl px hm
theorem sps_cons {ek ev : Expr} {kes : List (Expr × Expr)} {mk mv : M R} {ms : List (M R × M R)} (hk : SE X w W ek mk) (hv : SE X w W ev mv) (hr : SPs X w W kes ms) : SPs X w W ((ek, ev) :: kes) ((mk, mv) :: ms) := by
  intro α k Zo fm σ H out fm' G rf hm px go
  have hm : bindM mk (fun rk => bindM (eEat mv) fun v => bindM (ePairs ms) fun ps => bindM (fun fm => match rk.key? with
    | some k => some (Out.ok ((k, v) :: ps), fm)
    | none => none) k) fm = some (out, fm') := by
    rw [← hm]
    show _ = bindM (bindM mk fun rk => bindM (eEat mv) fun v => bindM (ePairs ms) fun ps fm => match rk.key? with
      | some k => some (Out.ok ((k, v) :: ps), fm)
      | none => none) k fm
    rw [bind_assoc]
    congr 1
    funext rk
    rw [bind_assoc]
    congr 1
    funext v
    rw [bind_assoc]
  show wE X ek σ H _
  refine se_bind hk rf hm px fun rk fm1 vk H1 st1 rr1 px1 hk1 => sd_bind (sd_eat hv) rr1.rel hk1 px1 fun d fm2 vv H2 st2 rf2 rp px2 hk2 => hr _ Zo fm2 σ H2 out fm' _ rf2 hk2 px2 fun kvs fm3 us H3 st3 rf3 rk3 px3 hk3 => ?_
  unfold bindM at hk3
  split at hk3
  · rename_i l fm4 h4
    split at h4
    · rename_i key hkey
      cases h4
      cases rk with
      | frz dk =>
        have ek : vk = kV key := key_rep hkey rr1.2
        subst ek
        exact go ((key, d) :: kvs) _ ((key, vv) :: us) H3 (st1.trans (st2.trans st3)) rf3 ⟨_, _, rfl, ⟨rfl, Rep.step rf2 rf3 st3 rp⟩, rk3⟩ px3 hk3
      | tmp dk => cases hkey
      | var i => cases hkey
    · cases h4
  · rename_i x fm4 h4
    split at h4 <;> cases h4
  · cases hk3
theorem pps_of : ∀ {kes : List (Expr × Expr)}, PPs X pos (kes.map fun p => some p.1) (kes.map (·.2)) (kes.map fun p => (wE X p.1, wE X p.2))
  | [] => pps_nil
  | _ :: _ => pps_cons pe_w pe_w pps_of
theorem se_disp {kes : List (Expr × Expr)} {ms : List (M R × M R)} {keys : List (Option Expr)} {vals : List Expr} (h : SPs X w W kes ms) (hk : keys = kes.map (fun p => some p.1) := by rfl) (hv : vals = kes.map (·.2) := by rfl) (h0 : kes ≠ [] := by exact fun z => nomatch z) (h15 : kes.length ≤ 15 := by decide) :
    SE X w W (.Dict keys vals pos) (eDisp ms) := by
  subst hk; subst hv
  intro Zo fm σ H out fm' Q rf hm post
  refine wE_of (pe_disp (pps_of (kes := kes)) (by simp) (by simp) (by simpa using h0) (by simpa using h15)) ?_
  intro p hp
  unfold eDisp okM at hm
  split at hm
  · rename_i r fm1 h1
    cases hm
    have rg : RelF w (Zp Zo p) fm σ (upd H p (.dK [])) := rf.grow (HK.upd hp) (fun a z => .inl z) fun a z => by
      rcases z with z | z
      · exact .inl z
      · subst z; exact .inr ⟨hp, _, upd_same⟩
    refine h _ (Zp Zo p) fm σ (upd H p (.dK [])) _ _ _ rg h1 (fun x e => nomatch e) fun kvs fm2 us H2 st rf2 rk px hk2 => ?_
    have hk2 : (if kvs.length ≤ 15 then some (Out.ok (R.tmp (.dic (mergeD [] kvs))), fm2) else none) = some (Out.ok r, fm') := hk2
    split at hk2
    · rename_i hlen
      cases hk2
      have na : Nad fm σ p := rf.nad hp
      have na2 : Nad fm' σ p := na.step ⟨_, upd_same⟩ st
      have hp2 : H2 p = some (.dK []) := st.keep p _ upd_same fun z => by
        obtain ⟨j, t0, z1, z2, z3⟩ := z
        exact na j t0 z1 (fun e => by rw [e] at z2; rcases z2 with z2 | z2 <;> cases z2) z3
      obtain ⟨q1, q2⟩ := rf2.hidden (o := .dK (mergeK [] us)) (.inr rfl) na2
      refine ⟨hp2, us, rfl, by rw [rk.length]; exact hlen, post _ _ ?_ ⟨p, rfl, hp, fun z => ?_, na2, ⟨_, upd_same, (RepK.merge rk (show RepK w _ H2 [] [] from rfl)).ext q2⟩, q1⟩⟩
      · exact ((StepS.grow (HK.upd hp)).trans st).hide hp
      · obtain ⟨o, e⟩ := rf.live p z
        rw [hp] at e; cases e
    · cases hk2
  · cases hm
theorem se_dic0 : SE X w W (.Dict [] [] pos) eDic0 := by
  intro Zo fm σ H out fm' Q rf hm post
  cases hm
  exact wE_of pe_dnewK fun p n => post _ _ (.grow (HK.upd n)) (tmp_dic rf n rfl)

/-! ### s.join(xs) -/
def joinM (a : Str) (d : D) : Option Str := match d with
  | .lst xs => (match strs? xs with
    | some ys => if (ys.map (·.length)).sum + ys.length * a.length ≤ 16777216 then some (Txt.join a ys) else none
    | none => none)
  | _ => none
def eJoin (mo m : M R) : M R := bindM mo fun r1 fm => match r1.str? with
  | some a => bindM m (fun r2 fm => match r2.soft.get fm with
    | some d => (match joinM a d with
      | some z => some (.ok (.frz (.str z)), fm)
      | none => none)
    | none => none) fm
  | none => none
theorem se_join {apos : Pos} (ha : SE X w W a ma) (hb : SE X w W b mb) (hs : starEach [b] X.env = [(false, eval b X.env)] := by rfl) (hbase : attributeBase a "join" X.env (eval a X.env) = eval a X.env := by rfl) (hline : (apos.endLine == pos.line) = true := by rfl) :
    SE X w W (.Call (.Attribute a "join" apos) [b] [] pos) (eJoin ma mb) := by
  intro Zo fm σ H out fm' Q rf hm post
  refine wE_of (pe_join pe_w pe_w hs hbase hline) (se_bind ha rf hm post.x fun r1 fm1 v1 H1 st1 rr1 px1 hk => ?_)
  have hk : (match r1.str? with
    | some a => bindM mb (fun r2 fm => match r2.soft.get fm with
      | some d => (match joinM a d with
        | some z => some (Out.ok (R.frz (.str z)), fm)
        | none => none)
      | none => none) fm1
    | none => none) = some (out, fm') := hk
  split at hk
  · rename_i z hz
    rw [R.str_of hz] at rr1
    have ev : v1 = .str z := rr1.2
    subst ev
    refine ⟨⟨z, rfl⟩, se_bind hb rr1.1 hk px1 fun r2 fm2 v2 H2 st2 rr2 px2 hk2 => ?_⟩
    have hk2 : (match r2.soft.get fm2 with
      | some d => (match joinM z d with
        | some z => some (Out.ok (R.frz (.str z)), fm2)
        | none => none)
      | none => none) = some (out, fm') := hk2
    split at hk2
    · rename_i d hd
      split at hk2
      · rename_i y hy
        cases hk2
        have t := soft_see rr2 .refl rr2.rel hd
        unfold joinM at hy
        split at hy
        · rename_i xs
          split at hy
          · rename_i ys hys
            split at hy
            · rename_i hsz
              cases hy
              obtain ⟨p, vs, rfl, hp, hr⟩ := t
              rw [strs_map hys] at hr
              rw [hr.strs] at hp
              exact ⟨z, p, ys, rfl, rfl, .inl (SqL.of hp), hsz, post _ H2 (st1.trans st2) ⟨rr2.rel, rfl⟩⟩
            · cases hy
          · cases hy
        · cases hy
      · cases hk2
    · cases hk2
  · cases hk
end
end U
end

section
set_option Elab.async false
set_option linter.all false
set_option maxRecDepth 100000
set_option maxHeartbeats 400000
set_option autoImplicit false
/-! U24: sorted texts, xs[::-1], starred dicts in displays, a, b = x, y. -/
namespace U
open PySem L2
open PySem.Spec (ltCps)
open PyProof.Rows (sortedS risingS ltCps_eq)

/-! ### sorted -/
abbrev leS (x y : Str) : Prop := x.cps.toList ≤ y.cps.toList
def insS (x : Str) : List Str → List Str
  | [] => [x]
  | y :: r => if leS x y then x :: y :: r else y :: insS x r
def srtS : List Str → List Str
  | [] => []
  | x :: r => insS x (srtS r)
theorem leS_trans {x y z : Str} (a : leS x y) (b : leS y z) : leS x z := List.le_trans a b
theorem leS_total (x y : Str) : leS x y ∨ leS y x := List.le_total _ _
theorem leS_antisymm {x y : Str} (a : leS x y) (b : leS y x) : x = y := by
  have h : x.cps.toList = y.cps.toList := List.le_antisymm a b
  obtain ⟨⟨l⟩⟩ := x
  obtain ⟨⟨m⟩⟩ := y
  have h : l = m := h
  rw [h]
theorem insS_perm (x : Str) : ∀ l : List Str, (insS x l).Perm (x :: l)
  | [] => .refl _
  | y :: r => by
    unfold insS
    split
    · exact .refl _
    · exact ((insS_perm x r).cons y).trans (.swap x y r)
theorem srtS_perm : ∀ l : List Str, (srtS l).Perm l
  | [] => .refl _
  | x :: r => (insS_perm x (srtS r)).trans ((srtS_perm r).cons x)
theorem insS_sorted (x : Str) : ∀ l : List Str, l.Pairwise leS → (insS x l).Pairwise leS
  | [], _ => by unfold insS; exact List.pairwise_singleton _ _
  | y :: r, h => by
    unfold insS
    obtain ⟨h1, h2⟩ := List.pairwise_cons.mp h
    split
    · rename_i hxy
      refine List.pairwise_cons.mpr ⟨fun z hz => ?_, h⟩
      rcases List.mem_cons.mp hz with e | hz
      · subst e; exact hxy
      · exact leS_trans hxy (h1 z hz)
    · rename_i hxy
      refine List.pairwise_cons.mpr ⟨fun z hz => ?_, insS_sorted x r h2⟩
      rcases List.mem_cons.mp ((insS_perm x r).mem_iff.mp hz) with e | hz
      · subst e; exact (leS_total z y).resolve_left hxy
      · exact h1 z hz
theorem srtS_sorted : ∀ l : List Str, (srtS l).Pairwise leS
  | [] => List.Pairwise.nil
  | x :: r => insS_sorted x _ (srtS_sorted r)
theorem rising_le : ∀ (l : List Str) (p : Str), risingS p l = true → (p :: l).Pairwise leS
  | [], p, _ => List.pairwise_singleton _ _
  | x :: r, p, h => by
    unfold risingS at h
    rw [Bool.and_eq_true, ltCps_eq] at h
    have hp : leS p x := by
      have := h.1
      simp only [Bool.not_eq_true', decide_eq_false_iff_not] at this
      exact this
    have ih := rising_le r x h.2
    refine List.pairwise_cons.mpr ⟨fun z hz => ?_, ih⟩
    rcases List.mem_cons.mp hz with e | hz
    · subst e; exact hp
    · exact leS_trans hp ((List.pairwise_cons.mp ih).1 z hz)
theorem sorted_unique {xs ys : List Str} (hp : ys.Perm xs) (hs : sortedS ys = true) : ys = srtS xs := by
  have h1 : ys.Pairwise leS := by
    cases ys with
    | nil => exact .nil
    | cons y r => exact rising_le r y hs
  exact List.Perm.eq_of_pairwise (fun x y _ _ a b => leS_antisymm a b) h1 (srtS_sorted xs) (hp.trans (srtS_perm xs).symm)
def dSorted : List D → Option R
  | [.lst xs] => (match strs? xs with
    | some ys => if ys.length < 64 then some (.tmp (.lst ((srtS ys).map .str))) else none
    | none => none)
  | _ => none
section
variable {X : Cx} {w : Wd} {W : WX} {e : Expr} {m : M R}
theorem cd_sorted : CallD X w (.builtin "sorted") dSorted := calld_of cr_sortedS fun Zo fm σ H ds vs r Q rf ht hg post => by
  unfold dSorted at hg
  split at hg
  · rename_i xs
    split at hg
    · rename_i ys hy
      split at hg
      · rename_i h64
        cases hg
        obtain ⟨v, rfl, a, us, rfl, ha, hr⟩ := topL1 ht
        rw [strs_map hy] at hr
        rw [hr.strs] at ha
        refine ⟨a, ys, rfl, SqL.of ha, h64, fun zs p hp hs n => ?_⟩
        rw [sorted_unique hp hs]
        exact post _ _ (HK.upd n) (tmp_lst rf n (Reps.of_strs _))
      · cases hg
    · cases hg
  · cases hg

/-! ### xs[::-1] -/
theorem Reps.rev {Z : AP1} {H : Hp} : ∀ {xs : List D} {vs : List V}, Reps w Z H xs vs → Reps w Z H xs.reverse vs.reverse
  | [], _, h => by subst h; rfl
  | d :: xs, _, h => by
    obtain ⟨v, r, rfl, h1, h2⟩ := h
    rw [List.reverse_cons, List.reverse_cons]
    exact (Reps.rev h2).app (.one h1)
def eRev (m : M R) : M R := bindM m fun r fm => match r.soft.get fm with
  | some (.lst xs) => some (.ok (.tmp (.lst xs.reverse)), fm)
  | _ => none
theorem se_rev {k : Nat} {p1 p2 p3 pos : Pos} (he : SE X w W e m) : SE X w W (.Subscript e (.Slice none none (some (.UnaryOp .USub (.Constant (.int 1) k p1) p2)) p3) pos) (eRev m) := by
  intro Zo fm σ H out fm' Q rf hm post
  refine wE_of (pe_revL pe_w) (se_bind he rf hm post.x fun r fm1 v H1 st rr px hk => ?_)
  have hk : (match r.soft.get fm1 with
    | some (.lst xs) => some (Out.ok (R.tmp (.lst xs.reverse)), fm1)
    | _ => none) = some (out, fm') := hk
  split at hk
  · rename_i xs hd
    cases hk
    obtain ⟨a, vs, rfl, ha, hr⟩ := soft_see rr .refl rr.rel hd
    exact ⟨a, vs, rfl, SqL.of ha, fun p n => post _ _ (st.trans (.grow (HK.upd n))) ((tmp_lst rr.rel n hr.rev).back st)⟩
  · cases hk
end

/-! ### a, b = x, y: names on one line, stored from the right; what is new stays owned -/
section
variable {w : Wd} {Zo : AP1} {fm fm1 fm2 : Fm} {σ σ2 : St} {H H0 H1 H2 : Hp} {p : Addr} {d : D}
/-- a temporary while other things run -/
theorem TmpOk.step (t : TmpOk w Zo fm1 σ H0 H1 d p) (st : StepS fm1 σ H1 fm2 σ2 H2) (rf : RelF w (Zp Zo p) fm2 σ2 H2) : TmpOk w Zo fm2 σ2 H0 H2 d p := by
  obtain ⟨o, ho⟩ := t.top.some
  have nw : ¬ WrA fm1 σ p := fun z => by
    obtain ⟨j, t0, z1, z2, z3⟩ := z
    exact t.nad j t0 z1 (fun e => by rw [e] at z2; rcases z2 with z2 | z2 <;> cases z2) z3
  exact ⟨t.new, t.nz, t.nad.step ⟨o, ho⟩ st, t.top.ext (ext_step t.rel st) (by rw [ho]; exact st.keep p o ho nw), rf⟩
end
/-- both values, then the right one is stored, then the left one -/
def par2M (i j : Nat) (ma mb : M R) : MS := exprM ma fun r1 => exprM mb fun r2 fm => match storeM j r2 fm with
  | some fm1 => (match storeM i r1 fm1 with
    | some fm2 => some (.nx, fm2)
    | none => none)
  | none => none
/-- the left value is a frozen one or a new one -/
def R.keepR : R → R
  | .var _ => .var 0
  | r => r
def par2 (i j : Nat) (ma mb : M R) : MS := fun fm => match ma fm with
  | some (.ok (.var _), _) => none
  | some (.ok r1, fm1) => (match mb fm1 with
    | some (.ok r2, fm2) => (match storeM j r2 fm2 with
      | some fm3 => (match storeM i r1 fm3 with
        | some fm4 => some (.nx, fm4)
        | none => none)
      | none => none)
    | _ => none)
  | _ => none
section
variable {X : Cx} {w : Wd} {W : WX} {a b : Expr} {ma mb : M R} {i j : Nat} {x y : Str} {px py pt pos : Pos} {kt k2 : Nat} {pt2 : Pos}
theorem ss_par2 (hc : X.calm = true) (hN : X.N.Nodup) (hi : X.N[i]? = some x) (hj : X.N[j]? = some y) (hij : i ≠ j)
    (hx : X.env.scope.names.lookup x = some .local) (hy : X.env.scope.names.lookup y = some .local) (ha : SE X w W a ma) (hb : SE X w W b mb)
    (hw : swappedStores [.Tuple [.Name x px, .Name y py] kt pt] (.Tuple [a, b] k2 pt2) X.env = pure (some [x, y]))
    (hs : swapsWithSole [.Tuple [.Name x px, .Name y py] kt pt] (.Tuple [a, b] k2 pt2) pos.line X.env = pure false := by rfl)
    (hs1 : starEach [a, b] X.env = (false, eval a X.env) :: starEach [b] X.env := by rfl) (hs2 : starEach [b] X.env = (false, eval b X.env) :: starEach [] X.env := by rfl) :
    SS X w W (.Assign [.Tuple [.Name x px, .Name y py] kt pt] (.Tuple [a, b] k2 pt2) pos) (par2 i j ma mb) := by
  intro Zo fm σ H fl fm' D rf hm post
  refine wS_of (ps_par hc hN hi hj hij hx hy (pa_cons (pe_w (e := a)) (pa_cons (pe_w (e := b)) pa_nil hs2) hs1) hw hs) ?_
  show wE X a σ H fun v H1 => wE X b σ H1 fun u H2 => ∃ v' w', [v, u] = [v', w'] ∧ D.nx ((σ.set i (some v')).set j (some w')) H2
  have fin : ∀ {v u : V} {H2 : Hp}, D.nx ((σ.set j (some u)).set i (some v)) H2 → ∃ v' w', [v, u] = [v', w'] ∧ D.nx ((σ.set i (some v')).set j (some w')) H2 := fun {v u H2} h => ⟨v, u, rfl, by rw [List.set_comm _ _ hij]; exact h⟩
  unfold par2 at hm
  split at hm
  · cases hm
  · rename_i r1 fm1 hnv h1
    split at hm
    · rename_i r2 fm2 h2
      split at hm
      · rename_i fm3 h3
        split at hm
        · rename_i fm4 h4
          cases hm
          refine ha Zo fm σ H _ fm1 _ rf h1 fun v H1 st1 rr1 => ?_
          cases r1 with
          | frz d =>
            refine hb Zo fm1 σ H1 _ fm2 _ rr1.1 h2 fun u H2 st2 rr2 => fin ?_
            obtain ⟨q1, q2⟩ := store_rel rr2 st2 h3
            have rr1' : RelR w Zo fm3 (σ.set j (some u)) H H2 (.frz d) v := ⟨q1, Rep.step rr1.1 q1 q2 rr1.2⟩
            obtain ⟨q3, q4⟩ := store_rel rr1' (st1.trans q2) h4
            exact post _ H2 q4 q3
          | tmp d =>
            obtain ⟨p, rfl, t⟩ := rr1
            refine hb (Zp Zo p) fm1 σ H1 _ fm2 _ t.rel h2 fun u H2 st2 rr2 => fin ?_
            obtain ⟨q1, q2⟩ := store_rel rr2 st2 h3
            have rr1' : RelR w Zo fm3 (σ.set j (some u)) H H2 (.tmp d) (.ref p) := ⟨p, rfl, t.step q2 q1⟩
            obtain ⟨q3, q4⟩ := store_rel rr1' (st1.trans q2) h4
            exact post _ H2 q4 q3
          | var k => exact (hnv k rfl).elim
        · cases hm
      · cases hm
    · cases hm
  · cases hm
end

/-! ### x op= e, whole numbers -/
def augM (i : Nat) (f : Int → Int → Int) (m : M R) : MS := fun fm => match fm[i]? with
  | some (some ⟨.frz, .int n⟩) => exprM m (fun r fm1 => match r.int? with
    | some k => (match storeM i (.frz (.int (f n k))) fm1 with
      | some fm2 => some (.nx, fm2)
      | none => none)
    | none => none) fm
  | _ => none
section
variable {X : Cx} {w : Wd} {W : WX} {e : Expr} {m : M R} {i : Nat} {x : Str} {pos pos' : Pos} {op : Operator} {f : Int → Int → Int}
theorem ss_aug (ho : PIp X op (ipI f)) (hN : X.N.Nodup) (hi : X.N[i]? = some x) (hx : Loc X.env.scope x) (he : SE X w W e m) (hf : X.fn x = true ∨ X.env.scope.names.lookup x = some .local := by first | exact .inl rfl | exact .inr rfl | assumption) :
    SS X w W (.AugAssign (.Name x pos') op e pos) (augM i f m) := by
  intro Zo fm σ H fl fm' D rf hm post
  unfold augM at hm
  split at hm
  · rename_i n hd
    obtain ⟨v0, hv0, ok⟩ := rf.ok i _ hd
    have e0 : v0 = .int n := ok
    subst e0
    refine wS_of (ps_aug hN hi hx (pe_w (e := e)) ho hf) ⟨_, hv0, exprM_go he rf hm post fun r fm1 v H1 st rr post1 hk => ?_⟩
    have hk : (match r.int? with
      | some k => (match storeM i (.frz (.int (f n k))) fm1 with
        | some fm2 => some (Fl.nx, fm2)
        | none => none)
      | none => none) = some (fl, fm') := hk
    split at hk
    · rename_i k hk1
      rw [R.int_of hk1] at rr
      refine ⟨n, k, rfl, rr.2, ?_⟩
      have rr2 : RelR w Zo fm1 σ H1 H1 (.frz (.int (f n k))) (.int (f n k)) := ⟨rr.1, rfl⟩
      exact set_go rr2 .refl hk post1
    · cases hk
  · cases hm
end

/-! ### *d in a display: a dict's keys -/
section
variable {X : Cx} {w : Wd} {W : WX} {e : Expr} {es : List Expr} {m : M R} {p pos : Pos}
theorem collect_dic {pins : List (Addr × Obj)} {σ : St} {H : Hp} {s : Shared} {E : Value → Shared → Prop} {a : Addr} {kvs : List (Key × V)} {Q : List Value → Shared → Prop} (hc : X.calm = true) (I : Inv X pins σ H s) (hd : Rd H a (.dK kvs))
    (hQ : ∀ us s', Inv X pins σ H s' → Vals (kvs.map fun kv => kV kv.1) us → Q us s') : wpAny (model X.prog X.w) X.A (collect (.ref a)) Q E s := by
  obtain ⟨z, lo, vs, rel, dd⟩ := dk_rd I.hok hd
  obtain ⟨ep, hat⟩ := dd.dictAt
  have src := PySem.W.kdl_dict (prog := X.prog) (w := X.w) (knd := mixKind X.prog X.w) (kvs := vs) (ep := ep) lo
  have ek : (kvs.map fun kv => kV kv.1) = vs.map fun p => kV p.1 := by
    have e1 := congrArg (List.map kV) rel.keys
    rw [List.map_map, List.map_map] at e1
    exact e1
  have lt := src.there _ hat
  have hS : (s.heap.push { cls := .type "list", data := .seq ([] : List Value).toArray }).get? s.heap.objs.size = some { cls := .type "list", data := .seq #[] 0 } := Heap.get?_push_size _ rfl
  unfold collect
  refine wpAny_bind (wpAny_runValue (codeAny_builtin PySem.F.entry_proto_collect ?_))
  rw [Around.under_plainId PySem.F.plain_proto_collect _]
  show wpAny _ X.A.in1 (newList [] >>= fun l => again (.builtin "list.__iadd__" ⟨[l, .ref a], []⟩)) _ _ s
  refine wpAny_bind (wpAny_newObj_type (wpAny_pure ⟨plainId_quiet PySem.F.plain_list_iadd _, codeAny_builtin PySem.F.entry_list_iadd ?_⟩))
  rw [Around.under_plainId PySem.F.plain_list_iadd _]
  show wpAny _ X.A.in1 (Builtin.List.listExtendWith (.ref s.heap.objs.size) (.ref a) (.ref s.heap.objs.size)) _ _ _
  have fin : ∀ {acc : Array Value} {c' : Nat} {s' : Shared}, s'.heap.get? s.heap.objs.size = some { cls := .type "list", dict := none, data := .seq acc c', slots := #[] } → Q acc.toList s' →
      wpAny (model X.prog X.w) X.A (match Value.ref s.heap.objs.size with
        | Value.ref a => do
          match (← load a).data with
            | Data.seq xs _ => pure xs.toList
            | _ => unsupported "internal:collect"
        | _ => unsupported "internal:collect") Q E s' := fun {acc c' s'} hD q => by
    show wpAny _ X.A (load s.heap.objs.size >>= _) _ _ _
    exact wpAny_bind (wpAny_load hD (wpAny_pure q))
  let RR : Result → Shared → Prop := fun r s' => r = .ok (.ret (.ref s.heap.objs.size)) ∧ ∃ (acc : Array Value) (c' : Nat), s'.heap.get? s.heap.objs.size = some { cls := .type "list", dict := none, data := .seq acc c', slots := #[] } ∧ Q acc.toList s'
  refine wpAny_mono (PySem.W.kdl_extend (R := RR) (s := { s with heap := s.heap.push { cls := .type "list", data := .seq ([] : List Value).toArray } }) src (I.ok.hd hc) (src.keep _ _ hat fun b _ o e => Heap.get?_push_of_some _ e) _ (Nat.ne_of_gt lt.1) (Nat.ne_of_gt lt.2) (.ref s.heap.objs.size) 0 hS
    (fun h' tk acc c' hk hD hacc => ⟨rfl, acc, c', hD, ?_⟩) (by rw [← rel.length]; exact z)) (fun fn s' h => ?_) (fun e s' h => ?_)
  · have hv : Vals (vs.map fun p => kV p.1) acc.toList := keys_at (by rw [Array.length_toList]; exact hacc.1) fun j v e => hacc.2 j v (by rw [← Array.getElem?_toList]; exact e)
    exact hQ acc.toList _ (I.kept (t' := tk) fun b o e => hk b o (Nat.ne_of_lt (Heap.lt_size e)) (Heap.get?_push_of_some _ e)) (by rw [ek]; exact hv)
  · cases fn with
    | done f =>
      obtain ⟨e, acc, c', hD, q⟩ := h
      cases e
      exact fin hD q
    | again c' =>
      refine ⟨h.1, codeAny_mono h.2 fun r s'' hr => ?_⟩
      obtain ⟨e, acc, c', hD, q⟩ := hr
      subst e
      exact fin hD q
  · obtain ⟨e, _⟩ := h
    cases e
theorem pa_starD {te : TE} {t : TA} (hc : X.calm = true) (he : PE X e te) (hr : PA X es t) (hs : starEach (.Starred e p :: es) X.env = (true, eval e X.env) :: starEach es X.env := by rfl) :
    PA X (.Starred e p :: es) (fun σ H Q => te σ H fun x H1 => ∃ a kvs, x = V.ref a ∧ Rd H1 a (.dK kvs) ∧ t σ H1 fun ys H2 => Q ((kvs.map fun kv => kV kv.1) ++ ys) H2) := by
  refine ⟨fun pos pins s σ H Q I h => ?_⟩
  refine PySem.W.items_star (thn (he.run pins s σ H _ I h) fun v s1 ⟨y, H1, I1, ry, a, kvs, ey, hx, q⟩ => ?_) hs
  subst ey
  obtain rfl : v = Value.ref a := ry
  unfold PySem.W.StarOf notIterableAtAll
  obtain ⟨z, lo, vs, rel, dd⟩ := dk_rd I1.hok hx
  refine wpAny_bind (wpAny_specialOf dd.typeIs PySem.F.slot_dict_iter.lookup (wpAny_pure ⟨rfl, ?_⟩))
  refine collect_dic hc I1 hx fun us s2 I2 rv => ?_
  exact thn (hr.run pos pins s2 σ H1 _ I2 q) fun ws s3 ⟨ys, H2, I3, r3, q3⟩ => ⟨_, H2, I3, rv.append r3, q3⟩
/-- items with starred dicts among them: frozen -/
def SAX (X : Cx) (w : Wd) (W : WX) (es : List Expr) (m : M (List D)) : Prop :=
  ∀ {α : Type} (k : List D → M α) Zo fm σ H (out : Out α) fm' (G : List V → Hp → Prop), RelF w Zo fm σ H → bindM m k fm = some (out, fm') → PostX w W Zo σ H fm out fm' →
    (∀ ds fm1 vs H1, StepS fm σ H fm1 σ H1 → RelF w Zo fm1 σ H1 → Reps w (Zx Zo fm1 σ) H1 ds vs → PostX w W Zo σ H1 fm1 out fm' → k ds fm1 = some (out, fm') → G vs H1) → wA X es σ H G
def eStar (m : M R) (r : M (List D)) : M (List D) := bindM m fun x fm => match x.soft.get fm with
  | some (.dic kvs) => bindM r (fun ds => retM ((kvs.map fun kv => keyD kv.1) ++ ds)) fm
  | _ => none
theorem sax_nil : SAX X w W [] (retM []) := by
  intro α k Zo fm σ H out fm' G rf hm px go pos pins s I
  exact Calls.spliced_nil ⟨[], H, I, .nil, go [] fm [] H .refl rf rfl px hm⟩
theorem reps_keyD {Z : AP1} {H H' : Hp} : ∀ {xs : List (Key × D)} {us : List (Key × V)}, RepK w Z H xs us → Reps w (fun _ => False) H' (xs.map fun kv => keyD kv.1) (us.map fun kv => kV kv.1)
  | [], _, h => by subst h; rfl
  | (k, d) :: xs, _, h => by
    obtain ⟨v, r, rfl, h2, h3⟩ := h
    have e : v.1 = k := h2.1
    exact ⟨_, _, rfl, by subst e; exact keyD_rep _, reps_keyD h3⟩
theorem reps_any {Z : AP1} {H : Hp} : ∀ {xs : List (Key × D)} {us : List (Key × V)} {Z' : AP1} {H' : Hp}, RepK w Z H xs us → Reps w Z' H' (xs.map fun kv => keyD kv.1) (us.map fun kv => kV kv.1)
  | [], _, _, _, h => by subst h; rfl
  | (k, d) :: xs, _, _, _, h => by
    obtain ⟨v, r, rfl, h2, h3⟩ := h
    have e : v.1 = k := h2.1
    exact ⟨_, _, rfl, by subst e; exact keyD_rep _, reps_any h3⟩
theorem sax_star {mr : M (List D)} (hc : X.calm = true) (he : SE X w W e m) (hr : SAX X w W es mr) (hs : starEach (.Starred e p :: es) X.env = (true, eval e X.env) :: starEach es X.env := by rfl) : SAX X w W (.Starred e p :: es) (eStar m mr) := by
  intro α k Zo fm σ H out fm' G rf hm px go
  intro pos pins s I
  have hm : bindM m (fun x => bindM (fun fm => match x.soft.get fm with
    | some (.dic kvs) => bindM mr (fun ds => retM ((kvs.map fun kv => keyD kv.1) ++ ds)) fm
    | _ => none) k) fm = some (out, fm') := by
    rw [← hm]
    show _ = bindM (bindM m fun x fm => match x.soft.get fm with
      | some (.dic kvs) => bindM mr (fun ds => retM ((kvs.map fun kv => keyD kv.1) ++ ds)) fm
      | _ => none) k fm
    rw [bind_assoc]
  refine (pa_starD (X := X) (e := e) (es := es) (p := p) hc pe_w pa_w hs).run pos pins s σ H _ I ?_
  refine se_bind he rf hm px fun r fm1 v H1 st rr px1 hk => ?_
  unfold bindM at hk
  cases hg : r.soft.get fm1 with
  | none => simp only [hg] at hk; cases hk
  | some d =>
    simp only [hg] at hk
    cases d with
    | dic kvs =>
      obtain ⟨a, us, rfl, ha, hrk⟩ := soft_see rr .refl rr.rel hg
      refine ⟨a, us, rfl, ha, hr (fun ds => k ((kvs.map fun kv => keyD kv.1) ++ ds)) Zo fm1 σ H1 out fm' _ rr.rel ?_ px1 fun ds fm2 vs H2 st2 rf2 rp px2 hk2 => ?_⟩
      · rw [← hk]
        unfold bindM
        cases mr fm1 with
        | none => rfl
        | some q =>
          obtain ⟨o, f⟩ := q
          cases o <;> rfl
      · exact go _ fm2 _ H2 (st.trans st2) rf2 ((reps_any hrk).app rp) px2 hk2
    | _ => cases hk
def eLstX (m : M (List D)) : M R := bindM m fun ds fm => if ds.length ≤ sizeLine then some (.ok (.tmp (.lst ds)), fm) else none
theorem se_lstX {ml : M (List D)} (h : SAX X w W es ml) : SE X w W (.List es pos) (eLstX ml) := by
  intro Zo fm σ H out fm' Q rf hm post
  refine wE_of (pe_lst (pa_w (es := es))) (h _ Zo fm σ H out fm' _ rf hm post.x fun ds fm1 vs H1 st rf1 rp px hk => ?_)
  have hk : (if ds.length ≤ sizeLine then some (Out.ok (R.tmp (.lst ds)), fm1) else none) = some (out, fm') := hk
  split at hk
  · cases hk
    exact ⟨by rw [rp.length]; assumption, fun p n => post _ _ (st.trans (.grow (HK.upd n))) ((tmp_lst rf1 n rp).back st)⟩
  · cases hk
end
end U
end

section
set_option Elab.async false
set_option linter.all false
set_option maxRecDepth 100000
set_option maxHeartbeats 400000
set_option autoImplicit false
/-! U25: the rule for a def by its datum, names of the top, the Hook. -/
namespace U
open PySem L2
open PyProof.Rows (envOfC)
section
variable {P : Program} {w : World} {K : PySem.W.Frag} {mg : Str → Option Value} {base : Heap} {wd : Wd}
theorem fn_okD {x qual : Str} {params : Arguments} {body : List Stmt} {scope : Scope} {dvs : List V} {kws : List (Str × V)} {f : Addr} {fd : FuncData} {N ps : List Str} {k : Nat} {m : MS} (F : FunD K x qual params body scope dvs kws f fd) (S : FnScope N ps scope)
    (hb : ∀ (cdv : Value) (A : Around) (outer : List Env) (s : Shared) (H : Hp) (E : XK), Room k (A.deeper (envOfC qual scope s.heap.objs.size f cdv)) →
      Takes (cxOf (L2.CX P w) P w K mg base N qual scope f cdv A outer s H E) (fun cls d _ H => E cls d H) →
      SSs (cxOf (L2.CX P w) P w K mg base N qual scope f cdv A outer s H E) wd (fun cls d _ H => E cls d H) body m) :
    FnOk P w K mg base (L2.CX P w) (k + 1) f fd ps (spF wd ps.length (fnM ps.length N.length m)) := by
  refine F.ok S (fun vs H Q E h => h.1) fun cdv A outer s H vs Q E hr hsp => ?_
  obtain ⟨hl, Zo, pl, out, fins, rp, hF, post⟩ := hsp
  have hM : ps.length ≤ N.length := by have := congrArg List.length S.pre; rw [List.length_take] at this; omega
  obtain ⟨fl, fm', e1, p1⟩ := fn_post rp (rp.len.trans hl) hM hF post
  exact ⟨_, pss_w, hb cdv A outer s H E hr (takes_of rfl rfl rfl rfl) Zo _ _ H fl fm' _ (start_rel rp (rp.len.trans hl) hM) e1 p1⟩
end
section
variable {X : Cx} {w : Wd} {W : WX} {pos : Pos} {j : Nat}
theorem se_int {i : Int} : SE X w W (.Constant (.int i) j pos) (eC (.int i)) := se_C pe_int fun _ _ => rfl
theorem se_str {i : Str} : SE X w W (.Constant (.str i) j pos) (eC (.str i)) := se_C pe_str fun _ _ => rfl
theorem se_bl {b : Bool} : SE X w W (.Constant (.bool b) j pos) (eC (.bl b)) := se_C pe_bl fun _ _ => rfl
theorem se_non : SE X w W (.Constant .none j pos) (eC .non) := se_C pe_non fun _ _ => rfl
/-- a text, a number that stands as a name of the top -/
theorem se_gstr {x z : Str} (hg : Gl X x) (hm : ∃ t, X.mg x = some (.str z t)) (hd : (x == ("__debug__" : Str)) = false := by decide) : SE X w W (.Name x pos) (eC (.str z)) :=
  se_C (⟨fun pins s σ H Q I h => let ⟨t, e⟩ := hm; ld_glob I hg e ⟨.str z, H, I, ⟨t, rfl⟩, h⟩ hd⟩ : PE X (.Name x pos) (tC (.str z))) fun _ _ => rfl
theorem se_gint {x : Str} {z : Int} (hg : Gl X x) (hm : ∃ t, X.mg x = some (.int z t)) (hd : (x == ("__debug__" : Str)) = false := by decide) : SE X w W (.Name x pos) (eC (.int z)) :=
  se_C (⟨fun pins s σ H Q I h => let ⟨t, e⟩ := hm; ld_glob I hg e ⟨.int z, H, I, ⟨t, rfl⟩, h⟩ hd⟩ : PE X (.Name x pos) (tC (.int z))) fun _ _ => rfl
/-- a local name -/
theorem se_v (i : Nat) {x : Str} (hN : X.N[i]? = some x := by rfl) (hv : Vis X.env.scope x := by first | exact Or.inl rfl | exact Or.inr (Or.inl rfl) | exact Or.inr (Or.inr rfl)) (hd : (x == ("__debug__" : Str)) = false := by decide)
    (hcd : (x == ("__classdict__" : Str)) = false := by decide) : SE X w W (.Name x pos) (eVar i) := se_var (pv i hN hv hd hcd)
end
/-! ### more that is looked at behind the top -/
inductive Fu where
  | fa (f : He.Fa)
  | prop (x f : Str)
  | eqo (x : Str) (cs : List Str)
  | self (x : Str)
  | isi (x : Str)
  | fnin (x m : Str)
open He (eqO ga ma)
/-- the property's own object, its getter -/
def propAd (K : PySem.W.Frag) (x f : Str) : Addr := ma K (ga K x) f
def getAd (K : PySem.W.Frag) (x f : Str) : Addr := match PySem.W.recIn K (propAd K x f) "property" with
  | some (.ref g :: _) => g
  | _ => 0
def bltTypes : List String := ["NoneType", "bool", "int", "str", "tuple", "list", "dict"]
def Fu.ok (K : PySem.W.Frag) : Fu → Bool
  | .fa f => f.ok K
  | .prop x f => eqO (PySem.W.findIn K (.ref (ga K x)) f) (some (some (.ref (propAd K x f)))) && (eqO (PySem.W.specialIn K (.ref (propAd K x f)) "__get__") (some (some (.builtin "property.__get__"))) &&
      (decide (PySem.W.takesIn K (.ref (propAd K x f)) = some true) && ((match PySem.W.recIn K (propAd K x f) "property" with
        | some (.ref _ :: _) => true
        | _ => false) && PySem.W.keepIn K (.ref (getAd K x f)))))
  | .eqo x cs => (bltTypes.all fun T => PySem.W.notFirst K (ga K x) (.type T)) && cs.all fun c => PySem.W.notFirst K (ga K x) (.ref (ga K c))
  | .self x => PySem.W.selfFirst K (ga K x)
  | .isi x => decide (PySem.W.kitOne K (.ref (ga K x)) (.ref (ga K x)) = some true) && ((bltTypes.all fun T => decide (PySem.W.kitOne K (.type T) (.ref (ga K x)) = some false)) &&
      (eqO (PySem.W.findIn K (.ref (ga K x)) "__class__") (some (some (.builtin "object.__class__"))) && (eqO (PySem.W.specialIn K (.builtin "object.__class__") "__get__") (some (some (.builtin "getset_descriptor.__get__"))) &&
      (decide (PySem.W.takesIn K (.builtin "object.__class__") = some true) && decide (PySem.W.mroIn K (ga K x) (.type "object") = some true)))))
  | .fnin x m => PySem.W.fnIn K (ma K (ga K x) m)
section
variable {K : PySem.W.Frag}
theorem prop_ok {x f : Str} (h : (Fu.prop x f).ok K = true) : PropOf K (ga K x) f (propAd K x f) (getAd K x f) := by
  obtain ⟨h1, h⟩ := He.ba h
  obtain ⟨h2, h⟩ := He.ba h
  obtain ⟨h3, h⟩ := He.ba h
  obtain ⟨h4, h5⟩ := He.ba h
  refine ⟨He.eqO_ok h1, He.eqO_ok h2, of_decide_eq_true h3, ?_⟩
  unfold getAd
  split at h4
  · rename_i g r e
    exact ⟨r, by rw [e]⟩
  · cases h4
theorem nf_ok {wd : Wd} {c : Nat} {cs : List Nat} {x : Str} {ds : List Str} (h : (Fu.eqo x ds).ok K = true) (hc : wd.cad c = ga K x) (hd : ∀ c' ∈ cs, ∃ y ∈ ds, wd.cad c' = ga K y) : NF K wd c cs := by
  obtain ⟨h1, h2⟩ := He.ba (show ((bltTypes.all fun T => PySem.W.notFirst K (ga K x) (.type T)) && ds.all fun c => PySem.W.notFirst K (ga K x) (.ref (ga K c))) = true from h)
  refine ⟨fun T hT => ?_, fun c' hc' => ?_⟩
  · rw [hc]; exact List.all_eq_true.mp h1 T hT
  · obtain ⟨y, hy, e⟩ := hd c' hc'
    rw [hc, e]; exact List.all_eq_true.mp h2 y hy
theorem isi_ok {x : Str} (h : (Fu.isi x).ok K = true) (hc : Cls K (ga K x)) : IsiOk K (ga K x) := by
  obtain ⟨h1, h⟩ := He.ba h
  obtain ⟨h2, h⟩ := He.ba h
  obtain ⟨h3, h⟩ := He.ba h
  obtain ⟨h4, h⟩ := He.ba h
  obtain ⟨h5, h6⟩ := He.ba h
  exact ⟨of_decide_eq_true h1, fun T hT => of_decide_eq_true (List.all_eq_true.mp h2 T hT), hc, He.eqO_ok h3, He.eqO_ok h4, of_decide_eq_true h5, of_decide_eq_true h6⟩
end
/-! ### defs by the place where they stand -/
structure DefU where
  ad : PySem.W.Frag → Addr
  name : Str
  qual : Str
  st : Stmt
abbrev FnV : Type := Option (Str × Str × Arguments × FuncBody × Scope × Addr × List (Str × Addr) × Value × Addr)
def fnV (K : PySem.W.Frag) (a : Addr) : FnV := match K.lookup a with
  | some ⟨_, _, .func fd, _⟩ => some (fd.name, fd.qualname, fd.params, fd.body, fd.scope, fd.globals, fd.closure, fd.defaults, fd.builtins)
  | _ => none
def DefU.val (d : DefU) : FnV := some (d.name, d.qual, defArgs d.st, .stmts (defBody d.st), defScope d.st, mainGlobals, [], .none, builtinsNs)
def codeB (K : PySem.W.Frag) (a : Addr) (q : Str) : Bool := PySem.W.keepIn K (.ref a) && (match K.lookup a with
  | some ⟨_, _, .func fd, _⟩ => PySem.W.codeIn K fd.code q
  | _ => false)
theorem DefU.funD {K : PySem.W.Frag} {d : DefU} (e : fnV K (d.ad K) = d.val) (c : codeB K (d.ad K) d.qual = true) : ∃ fd, FunD K d.name d.qual (defArgs d.st) (defBody d.st) (defScope d.st) [] [] (d.ad K) fd := by
  obtain ⟨kp, c2⟩ := He.ba c
  unfold fnV at e
  cases q : K.lookup (d.ad K) with
  | none => rw [q] at c2; cases c2
  | some o =>
    obtain ⟨oc, od, dt, osl⟩ := o
    rw [q] at c2 e
    cases dt with
    | func fd =>
      obtain ⟨n1, n2, n3, n4, n5, n6, n7, n8, n9, n10, n11, n12, n13, n14, n15⟩ := fd
      have e2 : (some (n1, n2, n3, n4, n5, n6, n7, n8, n15) : FnV) = some (d.name, d.qual, defArgs d.st, .stmts (defBody d.st), defScope d.st, mainGlobals, [], .none, builtinsNs) := e
      simp only [Option.some.injEq, Prod.mk.injEq] at e2
      obtain ⟨a1, a2, a3, a4, a5, a6, a7, a8, a9⟩ := e2
      subst a1 a2 a3 a4 a5 a6 a7 a8 a9
      exact ⟨_, ⟨oc, od, _, n9, n10, n11, n12, n13, n14, osl, rfl, q, c2, .inl ⟨rfl, rfl⟩, .inl rfl⟩, kp⟩
    | _ => cases c2
/-! ### the Hook -/
abbrev AlU : Type := Bool × List FnV
def obsU (fa : List Fu) (fn : List DefU) (K : PySem.W.Frag) : AlU := ((fa.all fun f => f.ok K) && fn.all fun d => codeB K (d.ad K) d.qual, fn.map fun d => fnV K (d.ad K))
def valU (fn : List DefU) : AlU := (true, fn.map DefU.val)
def SaysU (fa : List Fu) (fn : List DefU) (K : PySem.W.Frag) : Prop := obsU fa fn K = valU fn
def obsUG (n : Nat) (fa : List Fu) (fn : List DefU) (g : Addr → Option Obj) : AlU := obsU fa fn (He.frG g (He.asD g n))
def hookU (n : Nat) (fa : List Fu) (fn : List DefU) : PySem.W.Hook where
  α := AlU
  obs := fun s => obsUG n fa fn s.heap.get?
  val := fun _ => valU fn
  says := fun _ h => ∃ K : PySem.W.Frag, K.In h ∧ SaysU fa fn K
  of := fun _ _ e => ⟨_, He.frG_in, e⟩
  keeps := fun _ _ _ ⟨K, hK, c⟩ k => ⟨K, PySem.W.Frag.In.keeps hK k, c⟩
theorem obsUG_eq {n : Nat} {fa : List Fu} {fn : List DefU} {g : Addr → Option Obj} {s : Shared} (h : ∀ a, g a = s.heap.get? a) : obsUG n fa fn g = (hookU n fa fn).obs s := by
  have e : g = s.heap.get? := funext h
  rw [e] <;> rfl
section
variable {fa : List Fu} {fn : List DefU} {K : PySem.W.Frag}
theorem SaysU.fact (c : SaysU fa fn K) (i : Nat) {f : Fu} (h : fa[i]? = some f := by rfl) : f.ok K = true := by
  have c1 := (He.ba (show ((fa.all fun f => f.ok K) && fn.all fun d => codeB K (d.ad K) d.qual) = true from congrArg (fun z : AlU => z.1) c)).1
  exact List.all_eq_true.mp c1 f (List.mem_of_getElem? h)
theorem SaysU.def_ (c : SaysU fa fn K) (i : Nat) {d : DefU} (h : fn[i]? = some d := by rfl) : ∃ fd, FunD K d.name d.qual (defArgs d.st) (defBody d.st) (defScope d.st) [] [] (d.ad K) fd := by
  have c2 := (He.ba (show ((fa.all fun f => f.ok K) && fn.all fun d => codeB K (d.ad K) d.qual) = true from congrArg (fun z : AlU => z.1) c)).2
  have e : fn.map (fun d => fnV K (d.ad K)) = fn.map DefU.val := congrArg (fun z : AlU => z.2) c
  have e2 : (fn.map fun d => fnV K (d.ad K))[i]? = (fn.map DefU.val)[i]? := by rw [e]
  rw [List.getElem?_map, List.getElem?_map, h] at e2
  exact DefU.funD (Option.some.inj e2) (List.all_eq_true.mp c2 d (List.mem_of_getElem? h))
end
end U
end

section
set_option Elab.async false
set_option linter.all false
set_option maxRecDepth 100000
set_option maxHeartbeats 400000
set_option autoImplicit false
/-! U26: an own comparison as a test. -/
namespace U
open PySem L2
section
variable {X : Cx} {w : Wd} {W : WX} {a b : Expr} {ma mb : M R} {F : Fn} {k c : Nat} {cs : List Nat} {f : Addr} {fd : FuncData} {ps : List Str} {pos : Pos}
theorem st_cmpOwn {op : CmpOp} (hop : ∀ v u, compareOp op v u = richCompare op v u) (hs : PySem.W.findIn X.K (.ref (w.cad c)) (cmpInfo op).2.1 = some (some (.ref f))) (hf : PySem.W.isFn X.K (.ref f) = true) (nf : NF X.K w c cs)
    (FO : FnOk X.prog X.w X.K X.mg X.base (L2.CX X.prog X.w) k f fd ps (spF w 2 F)) (hr : Room k X.A) (hb0 : Binds X.K fd ps []) (tk : Takes X W) (ha : SE X w W a ma) (hb : SE X w W b mb) (hn : behindInMarks op b = false) :
    ST X w W (.Compare a [op] [b] pos) (tOfE (eOwn2 c cs F ma mb)) := by
  intro Zo fm σ H out fm' Q rf hm post pins s I
  obtain ⟨out1, h1, p1⟩ := post_tOfE hm post
  refine wpAny_isTrue_Compare1 (binT pe_w pe_w I (own2_core ha hb rf h1 p1) fun v u s2 x y H2 I2 rx ry q => ?_) hn
  obtain ⟨p, dx, vs, d, Z, rfl, hp, t, hrt, sp⟩ := q
  cases (show v = Value.ref p from rx)
  obtain ⟨ox, od, J, _⟩ := inst_of I2 hp
  obtain ⟨tb, L, nf'⟩ := looks_right I2 t ry hrt nf
  obtain ⟨m, hF⟩ := I2.fr
  rw [hop]
  refine thn (PySem.W.cmp_K (Q := EP X pins σ (fun v H' => ∃ k, v = .bl k ∧ Q k H')) hr.units0 hF I2.ok.mod.kin J L nf' hs hf (wpAny_mono ?_ (fun r s' q => ep_back q) fun _ _ x => x)) fun u1 s1 ⟨z, H1, I1, r1, k, e, q1⟩ => ?_
  · exact run_fnSD (us := [.ref p, u]) (vs := [.ref p, y]) (dvs := []) FO hr hb0 .nil (passAt tk σ) I2 (.cons rfl (.cons ry .nil)) (by rw [List.append_nil]; exact sp)
  · subst e
    cases r1
    exact wpAny_truthy_bool ⟨H1, I1, q1⟩
end
/-! ### displays of dicts, keys and values as they are written -/
def SPz (X : Cx) (w : Wd) (W : WX) (keys : List (Option Expr)) (vals : List Expr) (ms : List (M R × M R)) : Prop :=
  ∃ kes : List (Expr × Expr), keys = kes.map (fun p => some p.1) ∧ vals = kes.map (·.2) ∧ SPs X w W kes ms
section
variable {X : Cx} {w : Wd} {W : WX} {ek ev : Expr} {keys : List (Option Expr)} {vals : List Expr} {mk mv : M R} {ms : List (M R × M R)} {pos : Pos}
theorem spz_nil : SPz X w W [] [] [] := ⟨[], rfl, rfl, sps_nil⟩
theorem spz_cons (hk : SE X w W ek mk) (hv : SE X w W ev mv) (hr : SPz X w W keys vals ms) : SPz X w W (some ek :: keys) (ev :: vals) ((mk, mv) :: ms) := by
  obtain ⟨kes, e1, e2, h⟩ := hr
  exact ⟨(ek, ev) :: kes, by rw [e1, List.map_cons], by rw [e2, List.map_cons], sps_cons hk hv h⟩
theorem se_dispz (h : SPz X w W keys vals ms) (h0 : keys ≠ [] := by exact fun z => nomatch z) (h15 : keys.length ≤ 15 := by decide) : SE X w W (.Dict keys vals pos) (eDisp ms) := by
  obtain ⟨kes, e1, e2, h⟩ := h
  refine se_disp h e1 e2 (fun z => h0 (by rw [e1, z, List.map_nil])) ?_
  rw [e1, List.length_map] at h15
  exact h15
end
/-! ### where the built-ins' names point -/
theorem bt_len : bootBuiltins "len" = some (.builtin "len") := by decide +kernel
theorem bt_sum : bootBuiltins "sum" = some (.builtin "sum") := by decide +kernel
theorem bt_sorted : bootBuiltins "sorted" = some (.builtin "sorted") := by decide +kernel
theorem bt_min : bootBuiltins "min" = some (.builtin "min") := by decide +kernel
theorem bt_int : bootBuiltins "int" = some (.type "int") := by decide +kernel
theorem bt_list : bootBuiltins "list" = some (.type "list") := by decide +kernel
theorem bt_tuple : bootBuiltins "tuple" = some (.type "tuple") := by decide +kernel
theorem bt_str : bootBuiltins "str" = some (.type "str") := by decide +kernel
theorem bt_bool : bootBuiltins "bool" = some (.type "bool") := by decide +kernel
end U
end

section
set_option Elab.async false
set_option linter.all false
set_option maxRecDepth 100000
set_option maxHeartbeats 400000
set_option autoImplicit false
/-! U27: from a def's worth to the law. -/
namespace U
open PySem L2
/-- whatever the world -/
def CXw (P : Program) : CXT := fun outer H s E e s' => ∃ w, L2.CX P w outer H s E e s'
theorem fn_cxw {P : Program} {w : World} {K : PySem.W.Frag} {mg : Str → Option Value} {base : Heap} {k : Nat} {f : Addr} {fd : FuncData} {ps : List Str} {sp : Sp} (F : FnOk P w K mg base (L2.CX P w) k f fd ps sp) : FnOk P w K mg base (CXw P) k f fd ps sp := by
  refine ⟨F.len, fun A outer s H args us vs Q E hr e0 hb r h => codeAny_mono (F.run A outer s H args us vs Q E hr e0 hb r h) fun r s' q => ?_⟩
  cases r with
  | error e => exact ⟨w, q⟩
  | ok fl => cases fl <;> exact q
theorem cxw_no {P : Program} {H : Hp} {s : Shared} {e : Value} {s' : Shared} (h : CXw P [] H s (fun _ _ _ => False) e s') : False := by
  obtain ⟨w, _, _, _, _, _, _, _, _, _, _, _, _, z⟩ := h
  exact z
theorem sp_law {wd : Wd} {F : Fn} {H : Hp} {a : Addr} {ns : List Int} {fins : List D} (hS : SqL wd.K H a (ns.map V.int)) (hF : F [⟨.frz, .scr ns⟩] = some (.ok (.frz (.bl true)), fins)) :
    spF wd 1 F [.ref a] H (fun v _ => v = .bl true) (fun _ _ _ => False) := by
  refine ⟨rfl, fun _ => False, [⟨.frz, .scr ns⟩], _, fins, ⟨rfl, fun i s hi => ?_, fun i j s t b hij hi hj h1 h2 va vb => ?_, fun b z => z.elim⟩, hF, fun v H' _ _ r => r⟩
  · cases i with
    | zero =>
      cases hi
      refine ⟨(fun z => nomatch z), .ref a, rfl, a, rfl, ?_⟩
      rcases hS with h | h
      · exact .inr ⟨fun z => z, h⟩
      · exact .inl (.inr h)
    | succ i => simp at hi
  · cases i with
    | zero => cases hi; cases h1
    | succ i => simp at hi
end U
end

section
set_option Elab.async false
set_option linter.all false
set_option maxRecDepth 100000
set_option maxHeartbeats 400000
set_option autoImplicit false
/-! V1: what a denotation answers, step by step, for simp: wpM, wpS, wpF; expressions. -/
namespace U
open PySem L2
/-- simp does not go into what a token tells -/
abbrev Tok {α : Sort _} (_ : α) : Type := Unit
def onS {α : Type} (o : Option α) (Q : α → Prop) (_ : Tok Q := ()) : Prop := match o with
  | some a => Q a
  | none => False
def brP (b : Bool) (A B : Prop) (_ : Tok A := ()) (_ : Tok B := ()) : Prop := if b = true then A else B
/-- the value first -/
def letS {α : Type} (x : α) (Q : α → Prop) (_ : Tok Q := ()) : Prop := Q x
theorem letS_is {α : Type} {x : α} {Q : α → Prop} : letS x Q ↔ Q x := .rfl
def outP {α : Type} (P : α → Fm → Prop) (E : Exn → Fm → Prop) : Out α → Fm → Prop
  | .ok a, f => P a f
  | .ex x, f => E x f
def wpM {α : Type} (m : M α) (fm : Fm) (P : α → Fm → Prop) (E : Exn → Fm → Prop) (_ : Tok m := ()) (_ : Tok fm := ()) (_ : Tok P := ()) (_ : Tok E := ()) : Prop := ∃ out fm', m fm = some (out, fm') ∧ outP P E out fm'
def wpS (b : MS) (fm : Fm) (P : Fl → Fm → Prop) (_ : Tok b := ()) (_ : Tok fm := ()) (_ : Tok P := ()) : Prop := ∃ fl fm', b fm = some (fl, fm') ∧ P fl fm'
def outF (P : R → List D → Prop) (E : Exn → List D → Prop) : Out R → List D → Prop
  | .ok a, f => P a f
  | .ex x, f => E x f
def wpF (F : Fn) (ps : List Slot) (P : R → List D → Prop) (E : Exn → List D → Prop) (_ : Tok F := ()) (_ : Tok P := ()) (_ : Tok E := ()) : Prop := ∃ out fins, F ps = some (out, fins) ∧ outF P E out fins
def noE : Exn → Fm → Prop := fun _ _ => False
def R.nv : R → Prop
  | .var _ => False
  | _ => True
section
variable {α β : Type} {fm : Fm}
theorem onS_some {a : α} {Q : α → Prop} : onS (some a) Q ↔ Q a := .rfl
theorem onS_none {Q : α → Prop} : onS none Q ↔ False := .rfl
theorem onS_ite {c : Prop} {_i : Decidable c} {o : Option α} {Q : α → Prop} : onS (if c then o else none) Q ↔ c ∧ onS o Q := by
  split <;> simp [*, onS]
theorem onS_map {o : Option α} {f : α → β} {Q : β → Prop} : onS (o.map f) Q ↔ onS o fun a => Q (f a) := by
  cases o <;> rfl
theorem onS_ex {o : Option α} {Q : α → Prop} : onS o Q ↔ ∃ a, o = some a ∧ Q a := by
  cases o <;> simp [onS]
theorem brP_true {A B : Prop} : brP true A B ↔ A := by simp [brP]
theorem brP_false {A B : Prop} : brP false A B ↔ B := by simp [brP]
theorem brP_dec {c : Prop} [Decidable c] {A B : Prop} (h1 : c → A) (h2 : ¬ c → B) : brP (decide c) A B := by
  by_cases h : c <;> simp [brP, h] <;> first | exact h1 h | exact h2 h
theorem brP_of {b : Bool} {A B : Prop} (h1 : b = true → A) (h2 : b = false → B) : brP b A B := by
  cases b <;> simp [brP] <;> first | exact h1 rfl | exact h2 rfl
theorem brP_not {b : Bool} {A B : Prop} : brP (!b) A B ↔ brP b B A := by cases b <;> simp [brP]
theorem nv_frz {d : D} : (R.frz d).nv ↔ True := .rfl
theorem nv_tmp {d : D} : (R.tmp d).nv ↔ True := .rfl
theorem wpM.mono {m : M α} {P P' : α → Fm → Prop} {E : Exn → Fm → Prop} (h : wpM m fm P E) (k : ∀ a f, P a f → P' a f) : wpM m fm P' E := by
  obtain ⟨a, f, e, p⟩ := h
  exact ⟨a, f, e, by cases a <;> first | exact k _ _ p | exact p⟩
theorem wpF.mono {F : Fn} {ps : List Slot} {P P' : R → List D → Prop} {E : Exn → List D → Prop} (h : wpF F ps P E) (k : ∀ a f, P a f → P' a f) : wpF F ps P' E := by
  obtain ⟨a, f, e, p⟩ := h
  exact ⟨a, f, e, by cases a <;> first | exact k _ _ p | exact p⟩
theorem wpF_eq {F : Fn} {ps : List Slot} {P : R → List D → Prop} {E : Exn → List D → Prop} {r : R} {fins : List D} (h : F ps = some (.ok r, fins)) : wpF F ps P E ↔ P r fins := by
  unfold wpF
  rw [h]
  exact ⟨fun ⟨_, _, e, p⟩ => by cases e; exact p, fun p => ⟨_, _, rfl, p⟩⟩
variable {P : α → Fm → Prop} {E : Exn → Fm → Prop} {PR : R → Fm → Prop} {PB : Bool → Fm → Prop}
theorem wp_leaf {o : Option α} {m : M α} {f : Fm} (h : m fm = o.map fun a => (.ok a, f)) : wpM m fm P E ↔ onS o fun a => P a f := by
  unfold wpM
  rw [h]
  cases o with
  | none => simp [onS]
  | some a => exact ⟨fun ⟨_, _, e, p⟩ => by cases e; exact p, fun p => ⟨_, _, rfl, p⟩⟩
theorem wp_leaf2 {o : Option (α × Fm)} {m : M α} (h : m fm = o.map fun p => (.ok p.1, p.2)) : wpM m fm P E ↔ onS o fun p => P p.1 p.2 := by
  unfold wpM
  rw [h]
  cases o with
  | none => simp [onS]
  | some a => exact ⟨fun ⟨_, _, e, p⟩ => by cases e; exact p, fun p => ⟨_, _, rfl, p⟩⟩
theorem wp_ret {a : α} : wpM (retM a) fm P E ↔ P a fm := wp_leaf (o := some a) rfl
theorem wp_bind {m : M α} {k : α → M β} {P : β → Fm → Prop} : wpM (bindM m k) fm P E ↔ wpM m fm (fun a f => wpM (k a) f P E) E := by
  unfold wpM bindM
  constructor
  · rintro ⟨b, f, e, p⟩
    split at e
    · rename_i a f1 h; exact ⟨.ok a, f1, h, b, f, e, p⟩
    · rename_i x f1 h; cases e; exact ⟨.ex x, _, h, p⟩
    · cases e
  · rintro ⟨o, f1, h, q⟩
    cases o with
    | ok a =>
      obtain ⟨b, f, e, p⟩ := q
      exact ⟨b, f, by rw [h]; exact e, p⟩
    | ex x => exact ⟨.ex x, f1, by rw [h], q⟩
theorem wp_bindL {m : M α} {k : α → M β} {P : β → Fm → Prop} {Q : α → Fm → Prop} (h : ∀ a f, wpM (k a) f P E ↔ Q a f) : wpM (bindM m k) fm P E ↔ wpM m fm Q E := by
  rw [wp_bind]
  have : (fun a f => wpM (k a) f P E) = Q := by
    funext a f
    exact propext (h a f)
  rw [this]
theorem wp_C {d : D} : wpM (eC d) fm PR E ↔ PR (.frz d) fm := wp_leaf (o := some (R.frz d)) rfl
def varR : Option (Option Slot) → Nat → Option R
  | some (some ⟨.frz, d⟩), _ => some (.frz d)
  | some (some ⟨.own, _⟩), i => some (.var i)
  | some (some ⟨.bor, _⟩), i => some (.var i)
  | some (some ⟨.ro, _⟩), i => some (.var i)
  | _, _ => none
theorem varR_frz {d : D} {i : Nat} : varR (some (some ⟨.frz, d⟩)) i = some (.frz d) := rfl
theorem varR_own {d : D} {i : Nat} : varR (some (some ⟨.own, d⟩)) i = some (.var i) := rfl
theorem varR_bor {d : D} {i : Nat} : varR (some (some ⟨.bor, d⟩)) i = some (.var i) := rfl
theorem varR_ro {d : D} {i : Nat} : varR (some (some ⟨.ro, d⟩)) i = some (.var i) := rfl
theorem wp_var {i : Nat} : wpM (eVar i) fm PR E ↔ onS (varR fm[i]? i) fun r => PR r fm := wp_leaf (by
  unfold eVar
  rcases fm[i]? with _ | _ | ⟨_ | _ | _ | _, d⟩ <;> rfl)
def slD : Option (Option Slot) → Option D
  | some (some s) => some s.d
  | _ => none
theorem slD_some {k : Kd} {d : D} : slD (some (some ⟨k, d⟩)) = some d := rfl
theorem soft_frz {d : D} : (R.frz d).soft = .frz d := rfl
theorem soft_tmp {d : D} : (R.tmp d).soft = .frz d := rfl
theorem soft_var {i : Nat} : (R.var i).soft = .var i := rfl
theorem get_frz {d : D} : (R.frz d).get fm = some d := rfl
theorem get_tmp {d : D} : (R.tmp d).get fm = some d := rfl
theorem get_var {i : Nat} : (R.var i).get fm = slD fm[i]? := by
  simp only [R.get]
  unfold slD
  cases h : fm[i]? with
  | none => rfl
  | some o => cases o <;> rfl
theorem wp_op2 {g : D → D → Option R} {r1 r2 : R} : wpM (op2 g r1 r2) fm PR E ↔ onS (r1.soft.get fm) fun d1 => onS (r2.soft.get fm) fun d2 => onS (g d1 d2) fun r => PR r fm := by
  have : wpM (op2 g r1 r2) fm PR E ↔ onS ((r1.soft.get fm).bind fun d1 => (r2.soft.get fm).bind fun d2 => g d1 d2) fun r => PR r fm := wp_leaf (by
    unfold op2
    rcases r1.soft.get fm with _ | d1
    · rfl
    rcases r2.soft.get fm with _ | d2
    · rfl
    show _ = (g d1 d2).map _
    rcases h : g d1 d2 with _ | r <;> simp [h])
  rw [this]
  cases r1.soft.get fm <;> cases r2.soft.get fm <;> rfl
theorem wp_bin {g : D → D → Option R} {ma mb : M R} : wpM (eBin g ma mb) fm PR E ↔ wpM ma fm (fun r1 f1 => wpM mb f1 (fun r2 f2 => onS (r1.soft.get f2) fun d1 => onS (r2.soft.get f2) fun d2 => onS (g d1 d2) fun r => PR r f2) E) E := by
  exact wp_bindL fun _ _ => wp_bindL fun _ _ => wp_op2
theorem wp_tOfE {m : M R} : wpM (tOfE m) fm PB E ↔ wpM m fm (fun r f => onS r.bool? fun b => PB b f) E := by
  have : tOfE m = bindM m fun r fm => (r.bool?).map fun b => (.ok b, fm) := by
    funext f
    unfold tOfE bindM
    rcases m f with _ | ⟨r | _, f1⟩ <;> try rfl
    show (match R.bool? r with
      | some b => some (Out.ok b, f1)
      | none => none) = _
    simp only []
    rcases R.bool? r with _ | _ <;> rfl
  rw [this]
  exact wp_bindL fun r f => wp_leaf rfl
theorem bool_frz {b : Bool} : (R.frz (.bl b)).bool? = some b := rfl
theorem wpM_ite {c : Bool} {m k : M α} : wpM (if c = true then m else k) fm P E ↔ brP c (wpM m fm P E) (wpM k fm P E) := by
  cases c <;> simp [brP]
theorem wp_and {m k : M Bool} : wpM (tAndM m k) fm PB E ↔ wpM m fm (fun b f => brP b (wpM k f PB E) (PB false f)) E := by
  refine wp_bindL fun b _ => ?_
  cases b
  · exact wp_ret.trans brP_false.symm
  · exact brP_true.symm
theorem wp_or {m k : M Bool} : wpM (tOrM m k) fm PB E ↔ wpM m fm (fun b f => brP b (PB true f) (wpM k f PB E)) E := by
  refine wp_bindL fun b _ => ?_
  cases b
  · exact brP_false.symm
  · exact wp_ret.trans brP_true.symm
theorem wp_not {m : M Bool} : wpM (tNotM m) fm PB E ↔ wpM m fm (fun b f => PB (!b) f) E := by
  exact wp_bindL fun _ _ => wp_ret
theorem wp_eOfT {m : M Bool} : wpM (eOfT m) fm PR E ↔ wpM m fm (fun b f => PR (.frz (.bl b)) f) E := by
  exact wp_bindL fun _ _ => wp_ret
theorem wp_eIte {c : M Bool} {m k : M R} : wpM (eIte c m k) fm PR E ↔ wpM c fm (fun b f => brP b (wpM m f PR E) (wpM k f PR E)) E := by
  exact wp_bindL fun _ _ => wpM_ite
theorem wp_eNot {m : M R} : wpM (eNot m) fm PR E ↔ wpM m fm (fun r f => onS r.bool? fun b => PR (.frz (.bl (!b))) f) E := by
  exact (wp_bindL fun _ _ => wp_ret).trans wp_tOfE
theorem wp_eAnd {m k : M R} : wpM (eAnd m k) fm PR E ↔ wpM m fm (fun r f => onS r.bool? fun b => brP b (wpM k f PR E) (PR (.frz (.bl false)) f)) E := by
  refine (wp_bindL (Q := fun b f => brP b (wpM k f PR E) (PR (.frz (.bl false)) f)) fun b _ => ?_).trans wp_tOfE
  cases b
  · exact wp_ret.trans brP_false.symm
  · exact brP_true.symm
theorem wp_eOr {m k : M R} : wpM (eOr m k) fm PR E ↔ wpM m fm (fun r f => onS r.bool? fun b => brP b (PR (.frz (.bl true)) f) (wpM k f PR E)) E := by
  refine (wp_bindL (Q := fun b f => brP b (PR (.frz (.bl true)) f) (wpM k f PR E)) fun b _ => ?_).trans wp_tOfE
  cases b
  · exact brP_false.symm
  · exact wp_ret.trans brP_true.symm
/-! arguments, displays -/
def eatS (fm : Fm) (i : Nat) : Option (Option Slot) → Option (D × Fm)
  | some (some ⟨.own, d⟩) => some (d, fm.set i (some ⟨.frz, d⟩))
  | some (some ⟨.frz, d⟩) => some (d, fm)
  | _ => none
theorem eatS_own {i : Nat} {d : D} : eatS fm i (some (some ⟨.own, d⟩)) = some (d, fm.set i (some ⟨.frz, d⟩)) := rfl
theorem eatS_frz {i : Nat} {d : D} : eatS fm i (some (some ⟨.frz, d⟩)) = some (d, fm) := rfl
theorem eat_frz {d : D} : (R.frz d).eat fm = some (d, fm) := rfl
theorem eat_tmp {d : D} : (R.tmp d).eat fm = some (d, fm) := rfl
theorem eat_var {i : Nat} : (R.var i).eat fm = eatS fm i fm[i]? := by
  simp only [R.eat]
  unfold eatS
  rcases fm[i]? with _ | _ | ⟨_ | _ | _ | _, d⟩ <;> rfl
theorem eat_is {m : M R} : eEat m = bindM m fun r fm => (r.eat fm).map fun p => (.ok p.1, p.2) := by
  funext f
  unfold eEat bindM
  rcases m f with _ | ⟨r | _, f1⟩ <;> try rfl
  show (match R.eat f1 r with
    | some (d, fm2) => some (Out.ok d, fm2)
    | none => none) = _
  simp only []
  rcases R.eat f1 r with _ | _ <;> rfl
theorem wp_eat {m : M R} {P : D → Fm → Prop} : wpM (eEat m) fm P E ↔ wpM m fm (fun r f => onS (r.eat f) fun p => P p.1 p.2) E := by
  rw [eat_is]
  exact wp_bindL fun r f => wp_leaf2 rfl
theorem wp_eFrz {m : M D} : wpM (eFrz m) fm PR E ↔ wpM m fm (fun d f => PR (.frz d) f) E := by
  have : eFrz m = bindM m fun d => retM (.frz d) := by
    funext f
    unfold eFrz bindM
    rcases m f with _ | ⟨_ | _, _⟩ <;> rfl
  rw [this]
  exact wp_bindL fun _ _ => wp_ret
theorem wp_args0 {P : List R → Fm → Prop} : wpM (eArgs []) fm P E ↔ P [] fm := wp_ret
theorem wp_args {m : M R} {ms : List (M R)} {P : List R → Fm → Prop} : wpM (eArgs (m :: ms)) fm P E ↔ wpM m fm (fun r f => wpM (eArgs ms) f (fun rs f1 => P (r.soft :: rs) f1) E) E := by
  conv => lhs; unfold eArgs
  exact wp_bindL fun _ _ => wp_bindL fun _ _ => wp_ret
theorem wp_ds0 {P : List D → Fm → Prop} : wpM (eDs []) fm P E ↔ P [] fm := wp_ret
theorem wp_ds {m : M R} {ms : List (M R)} {P : List D → Fm → Prop} : wpM (eDs (m :: ms)) fm P E ↔ wpM (eEat m) fm (fun d f => wpM (eDs ms) f (fun ds f1 => P (d :: ds) f1) E) E := by
  conv => lhs; unfold eDs
  exact wp_bindL fun _ _ => wp_bindL fun _ _ => wp_ret
theorem wp_tup {ms : List (M R)} : wpM (eTup ms) fm PR E ↔ wpM (eDs ms) fm (fun ds f => ds.length ≤ sizeLine ∧ PR (.frz (.tup ds)) f) E := by
  refine wp_bindL fun ds f => ?_
  · rw [wp_leaf (o := if ds.length ≤ sizeLine then some (R.frz (.tup ds)) else none) (by show (if _ then _ else _) = _; split <;> rfl), onS_ite]
    rfl
theorem wp_lst {ms : List (M R)} : wpM (eLst ms) fm PR E ↔ wpM (eDs ms) fm (fun ds f => ds.length ≤ sizeLine ∧ PR (.tmp (.lst ds)) f) E := by
  refine wp_bindL fun ds f => ?_
  · rw [wp_leaf (o := if ds.length ≤ sizeLine then some (R.tmp (.lst ds)) else none) (by show (if _ then _ else _) = _; split <;> rfl), onS_ite]
    rfl
theorem all_nil {Q : List D → Prop} : onS (getAll fm []) Q ↔ Q [] := .rfl
theorem all_cons {r : R} {rs : List R} {Q : List D → Prop} : onS (getAll fm (r :: rs)) Q ↔ onS (r.get fm) fun d => onS (getAll fm rs) fun ds => Q (d :: ds) := by
  conv => lhs; unfold getAll
  cases r.get fm <;> cases getAll fm rs <;> rfl
theorem wp_opL {g : List D → Option R} {rs : List R} : wpM (opL g rs) fm PR E ↔ onS (getAll fm rs) fun ds => onS (g ds) fun r => PR r fm := by
  rw [wp_leaf (o := (getAll fm rs).bind g) (f := fm) (by
    unfold opL
    rcases getAll fm rs with _ | ds
    · rfl
    show _ = (g ds).map _
    rcases h : g ds with _ | r <;> simp [h])]
  cases getAll fm rs <;> rfl
theorem wp_callB {g : List D → Option R} {ms : List (M R)} : wpM (eCallB g ms) fm PR E ↔ wpM (eArgs ms) fm (fun rs f => onS (getAll f rs) fun ds => onS (g ds) fun r => PR r f) E := by
  exact wp_bindL fun _ _ => wp_opL
/-! calls -/
theorem slots_nil {Q : List Slot → Prop} : onS (slotsOf fm [] []) Q ↔ Q [] := .rfl
theorem slots_cons {b : Bool} {bs : List Bool} {r : R} {rs : List R} {Q : List Slot → Prop} : onS (slotsOf fm (b :: bs) (r :: rs)) Q ↔ onS (slotOf fm b r) fun s => onS (slotsOf fm bs rs) fun ss => Q (s :: ss) := by
  conv => lhs; unfold slotsOf
  cases slotOf fm b r <;> cases slotsOf fm bs rs <;> rfl
theorem slot_frz {d : D} : slotOf fm false (.frz d) = some ⟨.frz, d⟩ := rfl
theorem slot_var {b : Bool} {i : Nat} : slotOf fm b (.var i) = slotV b fm[i]? := rfl
theorem sv_frz {d : D} : slotV false (some (some ⟨.frz, d⟩)) = some ⟨.frz, d⟩ := rfl
theorem sv_ro {d : D} : slotV false (some (some ⟨.ro, d⟩)) = some ⟨.ro, d⟩ := rfl
theorem sv_own {d : D} : slotV false (some (some ⟨.own, d⟩)) = if d.ns = true then some ⟨.ro, d⟩ else none := rfl
theorem sv_bor {d : D} : slotV false (some (some ⟨.bor, d⟩)) = if d.ns = true then some ⟨.ro, d⟩ else none := rfl
theorem sv_own1 {d : D} : slotV true (some (some ⟨.own, d⟩)) = some ⟨.bor, d⟩ := rfl
theorem sv_bor1 {d : D} : slotV true (some (some ⟨.bor, d⟩)) = some ⟨.bor, d⟩ := rfl
theorem ns_lst {xs : List D} : (D.lst xs).ns = true := rfl
theorem ns_tup {xs : List D} : (D.tup xs).ns = true := rfl
theorem ns_dic {xs : List (Key × D)} : (D.dic xs).ns = true := rfl
theorem ns_obj {c : Nat} {xs : List D} : (D.obj c xs).ns = true := rfl
def bset (fm : Fm) (i : Nat) (d : D) : Fm := match fm[i]? with
  | some (some s) => fm.set i (some ⟨s.k, d⟩)
  | _ => fm
theorem bset_0 {k : Kd} {d d' : D} {r : Fm} : bset (some ⟨k, d⟩ :: r) 0 d' = some ⟨k, d'⟩ :: r := rfl
theorem bset_S {x : Option Slot} {d' : D} {r : Fm} {i : Nat} : bset (x :: r) (i + 1) d' = x :: bset r i d' := by
  unfold bset
  simp only [List.getElem?_cons_succ, List.set_cons_succ]
  rcases r[i]? with _ | _ | _ <;> rfl
theorem wb_bor {bs : List Bool} {i : Nat} {rs : List R} {d : D} {ds : List D} : wback fm (true :: bs) (.var i :: rs) (d :: ds) = wback (bset fm i d) bs rs ds := rfl
theorem wb_val {bs : List Bool} {r : R} {rs : List R} {d : D} {ds : List D} : wback fm (false :: bs) (r :: rs) (d :: ds) = wback fm bs rs ds := by
  conv => lhs; unfold wback
theorem wb_nil {rs : List R} {ds : List D} : wback fm [] rs ds = fm := by unfold wback; rfl
theorem ix_frz {d : D} : (R.frz d).ix = none := rfl
theorem ix_tmp {d : D} : (R.tmp d).ix = none := rfl
theorem ix_var {i : Nat} : (R.var i).ix = some i := rfl
theorem ap_nil {rs : List R} : apart [] rs = true := by unfold apart; rfl
theorem ap_frz {b : Bool} {bs : List Bool} {d : D} {rs : List R} : apart (b :: bs) (.frz d :: rs) = apart bs rs := by
  conv => lhs; unfold apart
  simp [R.ix]
theorem ap_var {b : Bool} {bs : List Bool} {i : Nat} {rs : List R} : apart (b :: bs) (.var i :: rs) = (((bs.zip rs).all fun p => p.2.ix != some i || (!b && !p.1)) && apart bs rs) := by
  conv => lhs; unfold apart
  simp only [R.ix]
theorem wp_callM {F : Fn} {bs : List Bool} {rs : List R} : wpM (callM F bs rs) fm PR E ↔ apart bs rs = true ∧ onS (slotsOf fm bs rs) fun ps => wpF F ps (fun r fins => r.nv ∧ letS (wback fm bs rs fins) fun f => PR r f) (fun x fins => E x (wback fm bs rs fins)) := by
  unfold wpM callM
  by_cases h : apart bs rs = true
  · simp only [h, if_true, true_and]
    rcases slotsOf fm bs rs with _ | ps
    · simp [onS]
    simp only [onS, wpF]
    rcases F ps with _ | ⟨out, fins⟩
    · simp
    constructor
    · rintro ⟨o, f, e, p⟩
      refine ⟨out, fins, rfl, ?_⟩
      simp only [] at e
      split at e
      · rename_i hf
        cases e
        cases out with
        | ex x => exact p
        | ok r =>
          cases r with
          | var i => cases hf
          | frz d => exact ⟨trivial, p⟩
          | tmp d => exact ⟨trivial, p⟩
      · cases e
    · rintro ⟨o, f, e, p⟩
      cases e
      cases out with
      | ex x => exact ⟨_, _, rfl, p⟩
      | ok r =>
        cases r with
        | var i => exact p.1.elim
        | frz d => exact ⟨_, _, rfl, p.2⟩
        | tmp d => exact ⟨_, _, rfl, p.2⟩
  · simp [h]
theorem wp_call {F : Fn} {as : List Ag} : wpM (eCall F as) fm PR E ↔ letS (as.map Ag.m) fun ms => letS (as.map Ag.b) fun bs => wpM (eArgs ms) fm (fun rs f => wpM (callM F bs rs) f PR E) E := wp_bind
theorem ag_mv {m : M R} : (Ag.val m).m = m := rfl
theorem ag_mb {i : Nat} : (Ag.bor i).m = eVar i := rfl
theorem ag_bv {m : M R} : (Ag.val m).b = false := rfl
theorem ag_bb {i : Nat} : (Ag.bor i).b = true := rfl
theorem wp_okM {m : M α} : wpM (okM m) fm P E ↔ wpM m fm P noE := by
  unfold wpM okM
  constructor
  · rintro ⟨o, f, e, p⟩
    rcases h : m fm with _ | ⟨_ | _, _⟩ <;> rw [h] at e <;> cases e
    exact ⟨_, _, rfl, p⟩
  · rintro ⟨o, f, e, p⟩
    cases o with
    | ok a => exact ⟨.ok a, f, by rw [e], p⟩
    | ex x => exact p.elim
def isOb (c : Nat) : D → Prop
  | .obj c' _ => c' = c
  | _ => False
theorem isOb_obj {c c' : Nat} {fs : List D} : isOb c (.obj c' fs) ↔ c' = c := .rfl
instance {c : Nat} {d : D} : Decidable (isOb c d) := by unfold isOb; split <;> infer_instance
theorem wp_isC {c : Nat} {r : R} : wpM (isC c r) fm PR E ↔ onS (r.soft.get fm) fun d => isOb c d ∧ PR r.soft fm := by
  have : isC c r fm = ((r.soft.get fm).bind fun d => if isOb c d then some r.soft else none).map fun a => (.ok a, fm) := by
    unfold isC
    rcases r.soft.get fm with _ | d
    · rfl
    cases d with
    | obj c' fs =>
      show (if c' = c then some (Out.ok r.soft, fm) else none) = (if c' = c then some r.soft else none).map fun a => (Out.ok a, fm)
      split <;> rfl
    | _ => simp [isOb]
  rw [wp_leaf this]
  rcases r.soft.get fm with _ | d
  · rfl
  show onS (if _ then _ else _) _ ↔ _
  rw [onS_ite]
  rfl
theorem wp_meth {c : Nat} {F : Fn} {a : Ag} {as : List Ag} : wpM (eMeth c F a as) fm PR E ↔ letS a.m fun m => letS (as.map Ag.m) fun ms => letS (a.b :: as.map Ag.b) fun bs => wpM m fm (fun r f => wpM (isC c r) f (fun r f => wpM (eArgs ms) f (fun rs f => wpM (callM F bs (r :: rs)) f PR E) E) E) E := by
  exact wp_bindL fun _ _ => wp_bindL fun _ _ => wp_bindL fun _ _ => Iff.rfl
theorem wp_prop {c : Nat} {F : Fn} {a : M R} : wpM (eProp c F a) fm PR E ↔ wpM a fm (fun r f => wpM (isC c r) f (fun r f => wpM (callM F [false] [r]) f PR noE) E) E := by
  exact wp_bindL fun _ _ => wp_bindL fun _ _ => wp_okM
def fldD (c j : Nat) : D → Option D
  | .obj c' fs => if c' = c then fs[j]? else none
  | _ => none
theorem fldD_obj {c c' j : Nat} {fs : List D} : fldD c j (.obj c' fs) = if c' = c then fs[j]? else none := rfl
theorem wp_fldM {c j : Nat} {r : R} : wpM (fldM c j r) fm PR E ↔ onS (r.soft.get fm) fun d => onS (fldD c j d) fun x => PR (.frz x) fm := by
  have : fldM c j r fm = (((r.soft.get fm).bind (fldD c j)).map R.frz).map fun a => (.ok a, fm) := by
    unfold fldM
    rcases r.soft.get fm with _ | d
    · rfl
    cases d <;> try rfl
    rename_i c' fs
    show (if c' = c then _ else none) = _
    show _ = (((if c' = c then fs[j]? else none).map R.frz).map fun a => (Out.ok a, fm))
    split
    · rcases fs[j]? with _ | _ <;> rfl
    · rfl
  rw [wp_leaf this, onS_map]
  cases r.soft.get fm <;> rfl
theorem wp_fld {c j : Nat} {m : M R} : wpM (eFld c j m) fm PR E ↔ wpM m fm (fun r f => onS (r.soft.get f) fun d => onS (fldD c j d) fun x => PR (.frz x) f) E := by
  exact wp_bindL fun _ _ => wp_fldM
def mkFin : R → List D → Option (D × List D)
  | .frz .non, d :: fins => some (d, fins)
  | _, _ => none
theorem mkFin_ok {d : D} {fins : List D} : mkFin (.frz .non) (d :: fins) = some (d, fins) := rfl
def mkFinX : List D → Option (List D)
  | _ :: fins => some fins
  | _ => none
theorem mkFinX_ok {d : D} {fins : List D} : mkFinX (d :: fins) = some fins := rfl
theorem wp_makeM {c : Nat} {F : Fn} {bs : List Bool} {rs : List R} : wpM (makeM c F bs rs) fm PR E ↔ apart bs rs = true ∧ onS (slotsOf fm bs rs) fun ps => wpF F (⟨.bor, .obj c []⟩ :: ps) (fun r fins => onS (mkFin r fins) fun p => letS (wback fm bs rs p.2) fun f => PR (.tmp p.1) f) (fun x fins => onS (mkFinX fins) fun q => E x (wback fm bs rs q)) := by
  unfold wpM makeM
  by_cases h : apart bs rs = true
  · simp only [h, if_true, true_and]
    rcases slotsOf fm bs rs with _ | ps
    · simp [onS]
    simp only [onS, wpF]
    rcases F (⟨.bor, .obj c []⟩ :: ps) with _ | ⟨out, fins⟩
    · simp
    constructor
    · rintro ⟨o, f, e, p⟩
      refine ⟨out, fins, rfl, ?_⟩
      split at e
      · rename_i h2; cases e; cases h2; exact p
      · rename_i h2; cases e; cases h2; exact p
      · cases e
    · rintro ⟨o, f, e, p⟩
      cases e
      cases out with
      | ex x =>
        cases fins with
        | nil => exact p.elim
        | cons d fins => exact ⟨_, _, rfl, p⟩
      | ok r =>
        cases r with
        | var i => exact p.elim
        | tmp d => exact p.elim
        | frz d =>
          cases d <;> first | exact p.elim | skip
          cases fins with
          | nil => exact p.elim
          | cons d fins => exact ⟨_, _, rfl, p⟩
  · simp [h]
theorem wp_make {c : Nat} {F : Fn} {as : List Ag} : wpM (eMake c F as) fm PR E ↔ letS (as.map Ag.m) fun ms => letS (as.map Ag.b) fun bs => wpM (eArgs ms) fm (fun rs f => wpM (makeM c F bs rs) f PR E) E := wp_bind
end
end U
end

section
set_option Elab.async false
set_option linter.all false
set_option maxRecDepth 100000
set_option maxHeartbeats 400000
set_option autoImplicit false
/-! V2: wp rules: own operators, dict reads, slices, comprehensions, statements, defs. -/
namespace U
open PySem L2
section
variable {α β : Type} {fm : Fm} {P : α → Fm → Prop} {E : Exn → Fm → Prop} {PR : R → Fm → Prop} {PB : Bool → Fm → Prop} {PL : List D → Fm → Prop}
/-- the same wp of two answers that are alike -/
theorem wp_as {m : M α} {o : Option α} (h : m fm = o.map fun a => (Out.ok a, fm)) : wpM m fm P E ↔ onS o fun a => P a fm := wp_leaf h
def isObN (c : Nat) (cs : List Nat) (d e : D) : Prop := isOb c d ∧ rightOk cs e = true
theorem wp_own2M {c : Nat} {cs : List Nat} {F : Fn} {r1 r2 : R} : wpM (own2M c cs F r1 r2) fm PR E ↔ onS (r1.soft.get fm) fun d => onS (r2.soft.get fm) fun e => isOb c d ∧ rightOk cs e = true ∧ wpM (callM F [false, false] [r1.soft, r2.soft]) fm PR E := by
  rcases h1 : r1.soft.get fm with _ | d
  · simp [wpM, own2M, h1, onS]
  rcases h2 : r2.soft.get fm with _ | e
  · simp [wpM, own2M, h1, h2, onS]
  cases d with
  | obj c' fs =>
    by_cases h : c' = c ∧ rightOk cs e = true
    · simp [wpM, own2M, h1, h2, onS, isOb, h.1, h.2]
    · simp only [wpM, own2M, h1, h2, onS, isOb, if_neg h]
      constructor
      · rintro ⟨_, _, e, _⟩; cases e
      · exact fun z => (h ⟨z.1, z.2.1⟩).elim
  | _ => simp [wpM, own2M, h1, h2, onS, isOb]
theorem wp_own2 {c : Nat} {cs : List Nat} {F : Fn} {ma mb : M R} : wpM (eOwn2 c cs F ma mb) fm PR E ↔ wpM ma fm (fun r1 f => wpM mb f (fun r2 f => wpM (own2M c cs F r1 r2) f PR E) E) E := by
  exact wp_bindL fun _ _ => wp_bindL fun _ _ => Iff.rfl
theorem wp_ownBM {c : Nat} {F : Fn} {r1 r2 : R} : wpM (ownBM c F r1 r2) fm PR E ↔ onS (r1.soft.get fm) fun d => onS (r2.soft.get fm) fun e => isOb c d ∧ isOb c e ∧ wpM (callM F [false, false] [r1.soft, r2.soft]) fm PR E := by
  rcases h1 : r1.soft.get fm with _ | d
  · simp [wpM, ownBM, h1, onS]
  rcases h2 : r2.soft.get fm with _ | e
  · simp [wpM, ownBM, h1, h2, onS]
  cases d with
  | obj c1 fs =>
    cases e with
    | obj c2 gs =>
      by_cases h : c1 = c ∧ c2 = c
      · simp [wpM, ownBM, h1, h2, onS, isOb, h.1, h.2]
      · simp only [wpM, ownBM, h1, h2, onS, isOb, if_neg h]
        constructor
        · rintro ⟨_, _, e, _⟩; cases e
        · exact fun z => (h ⟨z.1, z.2.1⟩).elim
    | _ => simp [wpM, ownBM, h1, h2, onS, isOb]
  | _ => simp [wpM, ownBM, h1, h2, onS, isOb]
theorem wp_ownB {c : Nat} {F : Fn} {ma mb : M R} : wpM (eOwnB c F ma mb) fm PR E ↔ wpM ma fm (fun r1 f => wpM mb f (fun r2 f => wpM (ownBM c F r1 r2) f PR E) E) E := by
  exact wp_bindL fun _ _ => wp_bindL fun _ _ => Iff.rfl
theorem int_frz {i : Int} : (R.frz (.int i)).int? = some i := rfl
theorem str_frz {i : Str} : (R.frz (.str i)).str? = some i := rfl
theorem wp_asLen {z : R} : wpM (asLen z) fm PR E ↔ onS z.int? fun i => (0 ≤ i ∧ i < 2 ^ 63) ∧ PR (.frz (.int i)) fm := by
  rw [wp_leaf (o := z.int?.bind fun i => if 0 ≤ i ∧ i < 2 ^ 63 then some (R.frz (.int i)) else none) (f := fm) (by
    unfold asLen
    rcases z.int? with _ | i
    · rfl
    show (if _ then _ else _) = Option.map _ (if _ then _ else _)
    split <;> rfl)]
  rcases z.int? with _ | i
  · rfl
  show onS (if _ then _ else _) _ ↔ _
  rw [onS_ite]
  rfl
theorem wp_lenOwn {c : Nat} {F : Fn} {m : M R} : wpM (eLenOwn c F m) fm PR E ↔ wpM m fm (fun r f => wpM (isC c r) f (fun r f => wpM (callM F [false] [r]) f (fun z f => onS z.int? fun i => (0 ≤ i ∧ i < 2 ^ 63) ∧ PR (.frz (.int i)) f) noE) E) E := by
  refine wp_bindL fun _ _ => wp_bindL fun _ _ => ?_
  refine (wp_bindL fun _ _ => wp_asLen).trans wp_okM
theorem wp_callOM {c : Nat} {F : Fn} {b : Bool} {bs : List Bool} {r : R} {rs : List R} : wpM (callOM c F b bs r rs) fm PR E ↔ onS (r.get fm) fun d => isOb c d ∧ wpM (callM F (b :: bs) (r :: rs)) fm PR E := by
  rcases h1 : r.get fm with _ | d
  · simp [wpM, callOM, h1, onS]
  cases d with
  | obj c' fs =>
    by_cases h : c' = c
    · simp [wpM, callOM, h1, onS, isOb, h]
    · simp only [wpM, callOM, h1, onS, isOb, if_neg h]
      constructor
      · rintro ⟨_, _, e, _⟩; cases e
      · exact fun z => (h z.1).elim
  | _ => simp [wpM, callOM, h1, onS, isOb]
theorem wp_callO {c : Nat} {F : Fn} {ag : Ag} {as : List Ag} : wpM (eCallO c F ag as) fm PR E ↔ letS ag.m fun m => letS (as.map Ag.m) fun ms => letS ag.b fun b => letS (as.map Ag.b) fun bs => wpM m fm (fun r f => wpM (isC c r) f (fun r f => wpM (eArgs ms) f (fun rs f => wpM (callOM c F b bs r rs) f PR E) E) E) E := by
  exact wp_bindL fun _ _ => wp_bindL fun _ _ => wp_bindL fun _ _ => Iff.rfl
theorem wp_isi {c : Nat} {m : M R} : wpM (eIsi c m) fm PR E ↔ wpM m fm (fun r f => onS (r.soft.get f) fun d => onS (isiM c d) fun b => PR (.frz (.bl b)) f) E := by
  unfold eIsi
  refine wp_bindL fun r f => ?_
  rw [wp_leaf (o := ((r.soft.get f).bind (isiM c)).map fun b => R.frz (.bl b)) (f := f) (by
    rcases r.soft.get f with _ | d
    · rfl
    simp only [Option.bind]
    rcases h : isiM c d with _ | b <;> simp [h])]
  rw [onS_map]
  rcases r.soft.get f with _ | d <;> rfl
/-! dict reads -/
def kvsOf : D → Option (List (Key × D))
  | .dic kvs => some kvs
  | _ => none
theorem kvs_dic {kvs : List (Key × D)} : kvsOf (.dic kvs) = some kvs := rfl
def getR (r3 : R) : Option D → R
  | some d => .frz d
  | none => r3
theorem getR_some {r3 : R} {d : D} : getR r3 (some d) = .frz d := rfl
theorem getR_none {r3 : R} : getR r3 none = r3 := rfl
theorem wp_getM {r1 r2 r3 : R} : wpM (getM [r1, r2, r3]) fm PR E ↔ onS (r1.get fm) fun d => onS (r2.get fm) fun kd => onS (kvsOf d) fun kvs => onS kd.key? fun k => PR (getR r3 (lookD kvs k)) fm := by
  rw [wp_leaf (o := (r1.get fm).bind fun d => (r2.get fm).bind fun kd => (kvsOf d).bind fun kvs => kd.key?.map fun k => getR r3 (lookD kvs k)) (f := fm) (by
    simp only [getM]
    cases h1 : r1.get fm with
    | none => simp
    | some d =>
      cases h2 : r2.get fm with
      | none => cases d <;> simp
      | some kd =>
        cases d with
        | dic kvs =>
          cases h3 : kd.key? with
          | none => simp [kvsOf, h3]
          | some k => cases h4 : lookD kvs k <;> simp [kvsOf, h3, h4, getR]
        | _ => simp [kvsOf])]
  rcases r1.get fm with _ | d
  · rfl
  rcases r2.get fm with _ | kd
  · rfl
  show onS ((kvsOf d).bind _) _ ↔ onS (kvsOf d) _
  rcases kvsOf d with _ | kvs
  · rfl
  show onS (kd.key?.map _) _ ↔ onS kd.key? _
  rw [onS_map]
theorem wp_get {m1 m2 m3 : M R} : wpM (eGet m1 m2 m3) fm PR E ↔ wpM m1 fm (fun r1 f => onS (r1.soft.get f) fun d => onS (kvsOf d) fun _ => wpM m2 f (fun r2 f => wpM m3 f (fun r3 f => wpM (getM [r1.soft, r2.soft, r3.soft]) f PR E) E) E) E := by
  unfold eGet
  refine wp_bindL fun r f => ?_
  rcases h : r.soft.get f with _ | d
  · simp [wpM, h, onS]
  have : ∀ k : M R, (∀ (_ : ∃ kvs, d = .dic kvs), (fun fm => match r.soft.get fm with
    | some (.dic _) => k fm
    | _ => none : M R) f = k f) := fun k ⟨kvs, e⟩ => by subst e; simp [h]
  cases d with
  | dic kvs =>
    show (∃ out fm', _ = _ ∧ _) ↔ wpM _ _ _ _
    simp only [h]
    exact (wp_bindL fun r2 f => wp_bindL fun r3 f => Iff.rfl)
  | _ => simp [wpM, h, onS, kvsOf]
theorem wp_part0 {P : Option Int → Fm → Prop} : wpM (partM none) fm P E ↔ P none fm := wp_ret
theorem wp_part {m : M R} {P : Option Int → Fm → Prop} : wpM (partM (some m)) fm P E ↔ wpM m fm (fun r f => onS r.int? fun i => P (some i) f) E :=
  wp_bindL fun r f => by
    rw [wp_leaf (o := r.int?.map some) (f := f) (by rcases r.int? with _ | _ <;> rfl), onS_map]
theorem wp_slice {m : M R} {lo hi : OP} : wpM (eSlice m lo hi) fm PR E ↔ wpM m fm (fun r f => wpM (partM lo) f (fun l f => wpM (partM hi) f (fun h f => onS (r.soft.get f) fun d => onS (cutM r.ix.isNone d l h) fun x => PR x f) E) E) E := by
  unfold eSlice
  refine wp_bindL fun r f => wp_bindL fun l f => wp_bindL fun h f => ?_
  rw [wp_leaf (o := (r.soft.get f).bind fun d => cutM r.ix.isNone d l h) (f := f) (by
    rcases r.soft.get f with _ | d
    · rfl
    simp only [Option.bind]
    rcases h : cutM r.ix.isNone d l h with _ | b <;> simp [h])]
  rcases r.soft.get f with _ | d <;> rfl
theorem wp_neg {m : M R} : wpM (eNeg m) fm PR E ↔ wpM m fm (fun r f => onS r.int? fun i => PR (.frz (.int (-i))) f) E :=
  wp_bindL fun r f => by
    rw [wp_leaf (o := r.int?.map fun i => R.frz (.int (-i))) (f := f) (by rcases r.int? with _ | _ <;> rfl), onS_map]
theorem key_frz {d : D} : (R.frz d).key? = d.key? := rfl
theorem kd_str {x : Str} : (D.str x).key? = some (.inr x) := rfl
theorem kd_int {x : Int} : (D.int x).key? = some (.inl x) := rfl
theorem wp_pairs0 {P : List (Key × D) → Fm → Prop} : wpM (ePairs []) fm P E ↔ P [] fm := wp_ret
theorem wp_pairs {mk mv : M R} {r : List (M R × M R)} {P : List (Key × D) → Fm → Prop} : wpM (ePairs ((mk, mv) :: r)) fm P E ↔ wpM mk fm (fun rk f => wpM (eEat mv) f (fun v f => wpM (ePairs r) f (fun ps f => onS rk.key? fun k => P ((k, v) :: ps) f) E) E) E := by
  conv => lhs; unfold ePairs
  refine wp_bindL fun rk f => wp_bindL fun v f => wp_bindL fun ps f => ?_
  rw [wp_leaf (o := rk.key?.map fun k => (k, v) :: ps) (f := f) (by rcases rk.key? with _ | _ <;> rfl), onS_map]
theorem wp_disp {ps : List (M R × M R)} : wpM (eDisp ps) fm PR E ↔ wpM (ePairs ps) fm (fun kvs f => kvs.length ≤ 15 ∧ PR (.tmp (.dic (mergeD [] kvs))) f) noE := by
  unfold eDisp dispM
  rw [wp_okM]
  refine wp_bindL fun kvs f => ?_
  rw [wp_leaf (o := if kvs.length ≤ 15 then some (R.tmp (.dic (mergeD [] kvs))) else none) (f := f) (by show (if _ then _ else _) = Option.map _ (if _ then _ else _); split <;> rfl), onS_ite]
  rfl
theorem wp_dic0 : wpM eDic0 fm PR E ↔ PR (.tmp (.dic [])) fm := wp_leaf (o := some (R.tmp (.dic []))) rfl
theorem wp_join {mo m : M R} : wpM (eJoin mo m) fm PR E ↔ wpM mo fm (fun r1 f => onS r1.str? fun a => wpM m f (fun r2 f => onS (r2.soft.get f) fun d => onS (joinM a d) fun z => PR (.frz (.str z)) f) E) E := by
  unfold eJoin
  refine wp_bindL fun r1 f => ?_
  rcases h : r1.str? with _ | a
  · simp [wpM, onS, h]
  show (∃ out fm', _ = _ ∧ _) ↔ wpM _ _ _ _
  simp only [h]
  refine wp_bindL fun r f => ?_
  rw [wp_leaf (o := ((r.soft.get f).bind fun d => joinM a d).map fun z => R.frz (.str z)) (f := f) (by
    rcases r.soft.get f with _ | d
    · rfl
    simp only [Option.bind]
    rcases h : joinM a d with _ | b <;> simp [h])]
  rw [onS_map]
  rcases r.soft.get f with _ | d <;> rfl
def lstOf : D → Option (List D)
  | .lst xs => some xs
  | _ => none
def tupOf : D → Option (List D)
  | .tup xs => some xs
  | _ => none
theorem lstOf_ok {xs : List D} : lstOf (.lst xs) = some xs := rfl
theorem tupOf_ok {xs : List D} : tupOf (.tup xs) = some xs := rfl
theorem wp_rev {m : M R} : wpM (eRev m) fm PR E ↔ wpM m fm (fun r f => onS (r.soft.get f) fun d => onS (lstOf d) fun xs => PR (.tmp (.lst xs.reverse)) f) E := by
  unfold eRev
  refine wp_bindL fun r f => ?_
  rw [wp_leaf (o := ((r.soft.get f).bind lstOf).map fun xs => R.tmp (.lst xs.reverse)) (f := f) (by
    rcases r.soft.get f with _ | d
    · rfl
    cases d <;> rfl)]
  rw [onS_map]
  rcases r.soft.get f with _ | d <;> rfl
theorem wp_lstX {m : M (List D)} : wpM (eLstX m) fm PR E ↔ wpM m fm (fun ds f => ds.length ≤ sizeLine ∧ PR (.tmp (.lst ds)) f) E := by
  unfold eLstX
  refine wp_bindL fun ds f => ?_
  rw [wp_leaf (o := if ds.length ≤ sizeLine then some (R.tmp (.lst ds)) else none) (f := f) (by show (if _ then _ else _) = _; split <;> rfl), onS_ite]
  rfl
theorem wp_star {m : M R} {r : M (List D)} : wpM (eStar m r) fm PL E ↔ wpM m fm (fun x f => onS (x.soft.get f) fun d => onS (kvsOf d) fun kvs => wpM r f (fun ds f => PL ((kvs.map fun kv => keyD kv.1) ++ ds) f) E) E := by
  unfold eStar
  refine wp_bindL fun x f => ?_
  rcases h : x.soft.get f with _ | d
  · simp [wpM, onS, h]
  cases d with
  | dic kvs =>
    show (∃ out fm', _ = _ ∧ _) ↔ wpM _ _ _ _
    simp only [h]
    exact (wp_bindL fun r2 f => wp_ret)
  | _ => simp [wpM, onS, h, kvsOf]
/-! iterables -/
def lockS (fm : Fm) (i : Nat) : Option (Option Slot) → Option (D × Fm)
  | some (some ⟨.own, d⟩) => some (d, fm.set i (some ⟨.frz, d⟩))
  | some (some ⟨.frz, d⟩) => some (d, fm)
  | some (some ⟨.ro, d⟩) => some (d, fm)
  | _ => none
theorem lockS_own {i : Nat} {d : D} : lockS fm i (some (some ⟨.own, d⟩)) = some (d, fm.set i (some ⟨.frz, d⟩)) := rfl
theorem lockS_frz {i : Nat} {d : D} : lockS fm i (some (some ⟨.frz, d⟩)) = some (d, fm) := rfl
theorem lockS_ro {i : Nat} {d : D} : lockS fm i (some (some ⟨.ro, d⟩)) = some (d, fm) := rfl
theorem lock_var {i : Nat} : (R.var i).lock fm = lockS fm i fm[i]? := by
  simp only [R.lock]
  unfold lockS
  rcases fm[i]? with _ | _ | ⟨_ | _ | _ | _, d⟩ <;> rfl
theorem lock_frz {d : D} : (R.frz d).lock fm = some (d, fm) := rfl
theorem lock_tmp {d : D} : (R.tmp d).lock fm = some (d, fm) := rfl
theorem wp_itG {m : M R} {g : D → Option (List D)} {k : R → M (List D)} (h : ∀ r f, k r f = ((r.lock f).bind fun p => (g p.1).map fun xs => (xs, p.2)).map fun p => (.ok p.1, p.2)) : wpM (bindM m k) fm PL E ↔ wpM m fm (fun r f => onS (r.lock f) fun p => onS (g p.1) fun xs => PL xs p.2) E :=
  wp_bindL fun r f => by
    rw [wp_leaf2 (h r f)]
    rcases r.lock f with _ | p
    · rfl
    show onS ((g p.1).map _) _ ↔ _
    rw [onS_map]
    rfl
theorem wp_iLst {m : M R} : wpM (iLstM m) fm PL E ↔ wpM m fm (fun r f => onS (r.lock f) fun p => onS (lstOf p.1) fun xs => PL xs p.2) E :=
  wp_itG fun r f => by
    rcases r.lock f with _ | ⟨d, f1⟩
    · rfl
    cases d <;> rfl
theorem wp_iTup {m : M R} : wpM (iTupM m) fm PL E ↔ wpM m fm (fun r f => onS (r.lock f) fun p => onS (tupOf p.1) fun xs => PL xs p.2) E :=
  wp_itG fun r f => by
    rcases r.lock f with _ | ⟨d, f1⟩
    · rfl
    cases d <;> rfl
theorem wp_iSeq {m : M R} : wpM (iSeq m) fm PL E ↔ wpM m fm (fun r f => onS (r.lock f) fun p => onS (seqOf p.1) fun xs => PL xs p.2) E :=
  wp_itG fun r f => by
    rcases r.lock f with _ | ⟨d, f1⟩
    · rfl
    cases d <;> rfl
theorem seqOf_lst {xs : List D} : seqOf (.lst xs) = some xs := rfl
theorem seqOf_tup {xs : List D} : seqOf (.tup xs) = some xs := rfl
theorem wp_iKey {m : M R} : wpM (iKeyM m) fm PL E ↔ wpM m fm (fun r f => onS (r.lock f) fun p => onS (kvsOf p.1) fun kvs => letS (kvs.map fun kv => keyD kv.1) fun xs => PL xs p.2) E := by
  have : wpM (iKeyM m) fm PL E ↔ wpM m fm (fun r f => onS (r.lock f) fun p => onS ((kvsOf p.1).map fun kvs => kvs.map fun kv => keyD kv.1) fun xs => PL xs p.2) E :=
    wp_itG (k := fun r fm => match r.lock fm with
      | some (.dic kvs, fm1) => some (.ok (kvs.map fun kv => keyD kv.1), fm1)
      | _ => none) (g := fun d => (kvsOf d).map fun kvs => kvs.map fun kv => keyD kv.1) fun r f => by
      show (match r.lock f with
        | some (.dic kvs, fm1) => some _
        | _ => none) = _
      rcases r.lock f with _ | ⟨d, f1⟩
      · rfl
      cases d <;> rfl
  rw [this]
  have e : ∀ (r : R) (f : Fm), (onS (r.lock f) fun p => onS ((kvsOf p.1).map fun kvs => kvs.map fun kv => keyD kv.1) fun xs => PL xs p.2) = (onS (r.lock f) fun p => onS (kvsOf p.1) fun kvs => letS (kvs.map fun kv => keyD kv.1) fun xs => PL xs p.2) := fun r f => by
    rcases r.lock f with _ | p
    · rfl
    exact propext onS_map
  simp only [wpM, outP, e]
theorem wp_iItm {m : M R} : wpM (iItmM m) fm PL E ↔ wpM m fm (fun r f => onS (r.lock f) fun p => onS (kvsOf p.1) fun kvs => letS (kvs.map fun kv => .tup [keyD kv.1, kv.2]) fun xs => PL xs p.2) E := by
  have : wpM (iItmM m) fm PL E ↔ wpM m fm (fun r f => onS (r.lock f) fun p => onS ((kvsOf p.1).map fun kvs => kvs.map fun kv => .tup [keyD kv.1, kv.2]) fun xs => PL xs p.2) E :=
    wp_itG (k := fun r fm => match r.lock fm with
      | some (.dic kvs, fm1) => some (.ok (kvs.map fun kv => .tup [keyD kv.1, kv.2]), fm1)
      | _ => none) (g := fun d => (kvsOf d).map fun kvs => kvs.map fun kv => .tup [keyD kv.1, kv.2]) fun r f => by
      show (match r.lock f with
        | some (.dic kvs, fm1) => some _
        | _ => none) = _
      rcases r.lock f with _ | ⟨d, f1⟩
      · rfl
      cases d <;> rfl
  rw [this]
  have e : ∀ (r : R) (f : Fm), (onS (r.lock f) fun p => onS ((kvsOf p.1).map fun kvs => kvs.map fun kv => .tup [keyD kv.1, kv.2]) fun xs => PL xs p.2) = (onS (r.lock f) fun p => onS (kvsOf p.1) fun kvs => letS (kvs.map fun kv => .tup [keyD kv.1, kv.2]) fun xs => PL xs p.2) := fun r f => by
    rcases r.lock f with _ | p
    · rfl
    exact propext onS_map
  simp only [wpM, outP, e]
theorem wp_iStr {m : M R} : wpM (iStrM m) fm PL E ↔ wpM m fm (fun r f => onS r.str? fun x => PL (x.cps.toList.map fun c => .str ⟨#[c]⟩) f) E :=
  wp_bindL fun r f => by
    rw [wp_leaf (o := r.str?.map fun x => x.cps.toList.map fun c => .str ⟨#[c]⟩) (f := f) (by rcases r.str? with _ | _ <;> rfl), onS_map]
theorem wp_iRng {m : M R} : wpM (iRngM m) fm PL E ↔ wpM m fm (fun r f => onS r.int? fun j => (-(2 ^ 62) ≤ j ∧ j < 2 ^ 62) ∧ letS (rngD 0 j.toNat) fun xs => PL xs f) E :=
  wp_bindL fun r f => by
    rw [wp_leaf (o := r.int?.bind fun j => if -(2 ^ 62) ≤ j ∧ j < 2 ^ 62 then some (rngD 0 j.toNat) else none) (f := f) (by
      rcases r.int? with _ | j
      · rfl
      show (if _ then _ else _) = Option.map _ (if _ then _ else _)
      split <;> rfl)]
    rcases r.int? with _ | j
    · rfl
    show onS (if _ then _ else _) _ ↔ _
    rw [onS_ite]
    rfl
/-! comprehensions -/
def lcP (g : GM) (t : M Bool) (e : M D) (L : List Nat) (ds acc : List D) (fm : Fm) (Q : List D → Fm → Prop) (_ : Tok g := ()) (_ : Tok t := ()) (_ : Tok e := ()) (_ : Tok Q := ()) : Prop := onS (lcLoop g t e L ds acc fm) fun p => Q p.1 p.2
def dcP (g : GM) (t : M Bool) (ek e : M D) (L : List Nat) (ds : List D) (acc : List (Key × D)) (fm : Fm) (Q : List (Key × D) → Fm → Prop) (_ : Tok g := ()) (_ : Tok t := ()) (_ : Tok ek := ()) (_ : Tok e := ()) (_ : Tok Q := ()) : Prop := onS (dcLoop g t ek e L ds acc fm) fun p => Q p.1 p.2
theorem wp_lcG {m : M (List D)} {A : Type} {lp : List D → Fm → Option (A × Fm)} {k : A → R} {L : List Nat} {mm : M R} (h : mm = fun fm => match m fm with
    | some (.ok ds, fm1) => (match wipeM L fm1 with
      | some fm2 => (match lp ds fm2 with
        | some (acc, fm3) => (match restM fm1 L fm3 with
          | some fm4 => some (.ok (k acc), fm4)
          | none => none)
        | none => none)
      | none => none)
    | some (.ex x, fm1) => some (.ex x, fm1)
    | none => none) : wpM mm fm PR E ↔ wpM m fm (fun ds f1 => onS (wipeM L f1) fun f2 => onS (lp ds f2) fun p => onS (restM f1 L p.2) fun f4 => PR (k p.1) f4) E := by
  subst h
  have : (fun fm => match m fm with
    | some (.ok ds, fm1) => (match wipeM L fm1 with
      | some fm2 => (match lp ds fm2 with
        | some (acc, fm3) => (match restM fm1 L fm3 with
          | some fm4 => some (.ok (k acc), fm4)
          | none => none)
        | none => none)
      | none => none)
    | some (.ex x, fm1) => some (.ex x, fm1)
    | none => none : M R) = bindM m fun ds fm1 => (((wipeM L fm1).bind fun fm2 => (lp ds fm2).bind fun p => (restM fm1 L p.2).map fun f4 => (k p.1, f4)).map fun q => (.ok q.1, q.2)) := by
    funext f
    unfold bindM
    rcases m f with _ | ⟨ds | _, f1⟩ <;> try rfl
    simp only []
    rcases wipeM L f1 with _ | f2
    · rfl
    simp only [Option.bind]
    rcases lp ds f2 with _ | ⟨acc, f3⟩
    · rfl
    simp only []
    rcases restM f1 L f3 with _ | f4 <;> rfl
  rw [this]
  refine wp_bindL fun ds f => ?_
  rw [wp_leaf2 rfl]
  rcases wipeM L f with _ | f2
  · rfl
  simp only [Option.bind, onS_some]
  rcases lp ds f2 with _ | ⟨acc, f3⟩
  · rfl
  simp only [onS_some, onS_map]
theorem wp_lc {m : M (List D)} {g : GM} {t : M Bool} {e : M D} {L : List Nat} : wpM (eLc m g t e L) fm PR E ↔ wpM m fm (fun ds f1 => onS (wipeM L f1) fun f2 => lcP g t e L ds [] f2 fun acc f3 => onS (restM f1 L f3) fun f4 => PR (.tmp (.lst acc)) f4) E :=
  wp_lcG (lp := fun ds f => lcLoop g t e L ds [] f) (k := fun acc => .tmp (.lst acc)) (by
    funext f
    unfold eLc
    cases h1 : m f with
    | none => rfl
    | some p =>
      obtain ⟨o, f1⟩ := p
      cases o with
      | ex x => rfl
      | ok ds =>
        simp only []
        cases h2 : wipeM L f1 with
        | none => rfl
        | some f2 =>
          simp only []
          cases h3 : lcLoop g t e L ds [] f2 with
          | none => rfl
          | some p =>
            obtain ⟨acc, f3⟩ := p
            first
              | rfl
              | (simp only []
                 cases h4 : restM f1 L f3 <;> rfl))
theorem wp_dc {m : M (List D)} {g : GM} {t : M Bool} {ek e : M D} {L : List Nat} : wpM (eDc m g t ek e L) fm PR E ↔ wpM m fm (fun ds f1 => onS (wipeM L f1) fun f2 => dcP g t ek e L ds [] f2 fun acc f3 => onS (restM f1 L f3) fun f4 => PR (.tmp (.dic acc)) f4) E :=
  wp_lcG (lp := fun ds f => dcLoop g t ek e L ds [] f) (k := fun acc => .tmp (.dic acc)) (by
    funext f
    unfold eDc
    cases h1 : m f with
    | none => rfl
    | some p =>
      obtain ⟨o, f1⟩ := p
      cases o with
      | ex x => rfl
      | ok ds =>
        simp only []
        cases h2 : wipeM L f1 with
        | none => rfl
        | some f2 =>
          simp only []
          cases h3 : dcLoop g t ek e L ds [] f2 with
          | none => rfl
          | some p =>
            obtain ⟨acc, f3⟩ := p
            first
              | rfl
              | (simp only []
                 cases h4 : restM f1 L f3 <;> rfl))
theorem wipe_nil {Q : Fm → Prop} : onS (wipeM [] fm) Q ↔ Q fm := .rfl
theorem wipe_cons {v : Nat} {vs : List Nat} {Q : Fm → Prop} : onS (wipeM (v :: vs) fm) Q ↔ onS (wipeM vs fm) fun f => slotFrz f v = true ∧ letS (f.set v none) fun f => Q f := by
  conv => lhs; unfold wipeM
  rcases wipeM vs fm with _ | f
  · rfl
  show onS (if _ then _ else _) _ ↔ _
  rw [onS_ite]
  rfl
theorem rest_nil {fo : Fm} {Q : Fm → Prop} : onS (restM fo [] fm) Q ↔ Q fm := .rfl
theorem rest_cons {fo : Fm} {v : Nat} {vs : List Nat} {Q : Fm → Prop} : onS (restM fo (v :: vs) fm) Q ↔ onS (restM fo vs fm) fun f => (slotFrz f v = true ∧ slotFrz fo v = true) ∧ letS (f.set v (fo[v]?.getD none)) fun f => Q f := by
  conv => lhs; unfold restM
  rcases restM fo vs fm with _ | f
  · rfl
  show onS (if _ then _ else _) _ ↔ _
  rw [onS_ite]
  rfl
def sfz : Option (Option Slot) → Bool
  | some none => true
  | some (some ⟨.frz, _⟩) => true
  | _ => false
theorem slotFrz_is {i : Nat} : slotFrz fm i = sfz fm[i]? := by
  unfold slotFrz sfz
  rcases fm[i]? with _ | _ | ⟨_ | _ | _ | _, d⟩ <;> rfl
theorem sfz_none : sfz (some none) = true := rfl
theorem sfz_frz {d : D} : sfz (some (some ⟨.frz, d⟩)) = true := rfl
def sfr : Option (Option Slot) → Bool
  | some none => true
  | some (some ⟨.frz, _⟩) => true
  | some (some ⟨.own, _⟩) => true
  | _ => false
theorem slotFree_is {i : Nat} : slotFree fm i = sfr fm[i]? := by
  unfold slotFree sfr
  rcases fm[i]? with _ | _ | ⟨_ | _ | _ | _, d⟩ <;> rfl
theorem sfr_none : sfr (some none) = true := rfl
theorem sfr_frz {d : D} : sfr (some (some ⟨.frz, d⟩)) = true := rfl
theorem sfr_own {d : D} : sfr (some (some ⟨.own, d⟩)) = true := rfl
/-! targets -/
theorem g_nm {i : Nat} {d : D} {Q : Fm → Prop} : onS (gNm i d fm) Q ↔ slotFree fm i = true ∧ letS (fm.set i (some ⟨.frz, d⟩)) fun f => Q f := by
  unfold gNm
  rw [onS_ite]
  rfl
theorem g_tp {gs : List D → Fm → Option Fm} {n : Nat} {ds : List D} {Q : Fm → Prop} : onS (gTp gs n (.tup ds) fm) Q ↔ ds.length = n ∧ onS (gs ds fm) Q := by
  unfold gTp
  rw [onS_ite]
theorem g_0 {Q : Fm → Prop} : onS (gs0 [] fm) Q ↔ Q fm := .rfl
theorem g_C {g : GM} {gs : List D → Fm → Option Fm} {d : D} {ds : List D} {Q : Fm → Prop} : onS (gsC g gs (d :: ds) fm) Q ↔ onS (g d fm) fun f => onS (gs ds f) Q := by
  simp only [gsC]
  cases h : g d fm <;> rfl
end
/-! statements -/
section
variable {fm : Fm} {P : Fl → Fm → Prop}
abbrev exE (P : Fl → Fm → Prop) : Exn → Fm → Prop := fun x f => P (.ex x) f
theorem ws_exprG {α : Type} {m : M α} {k : α → MS} {mm : MS} {Q : α → Fm → Prop} (h1 : ∀ r f, m fm = some (.ok r, f) → mm fm = k r f) (h2 : ∀ x f, m fm = some (.ex x, f) → mm fm = some (.ex x, f)) (h3 : m fm = none → mm fm = none) (hq : ∀ r f, wpS (k r) f P ↔ Q r f) : wpS mm fm P ↔ wpM m fm Q (exE P) := by
  unfold wpS wpM
  rcases h : m fm with _ | ⟨r | x, f1⟩
  · simp [h3 h]
  · rw [h1 r f1 h]
    constructor
    · exact fun z => ⟨_, _, rfl, (hq r f1).mp z⟩
    · rintro ⟨_, _, e, z⟩; cases e; exact (hq r f1).mpr z
  · rw [h2 x f1 h]
    constructor
    · rintro ⟨_, _, e, z⟩; cases e; exact ⟨_, _, rfl, z⟩
    · rintro ⟨_, _, e, z⟩; cases e; exact ⟨_, _, rfl, z⟩
theorem ws_exprL {m : M R} {k : R → MS} {Q : R → Fm → Prop} (hq : ∀ r f, wpS (k r) f P ↔ Q r f) : wpS (exprM m k) fm P ↔ wpM m fm Q (exE P) := ws_exprG (fun r f e => by simp [exprM, e]) (fun r f e => by simp [exprM, e]) (fun e => by simp [exprM, e]) hq
theorem ws_exprDL {m : M D} {k : D → MS} {Q : D → Fm → Prop} (hq : ∀ r f, wpS (k r) f P ↔ Q r f) : wpS (exprD m k) fm P ↔ wpM m fm Q (exE P) := ws_exprG (fun r f e => by simp [exprD, e]) (fun r f e => by simp [exprD, e]) (fun e => by simp [exprD, e]) hq
theorem ws_expr {m : M R} {k : R → MS} : wpS (exprM m k) fm P ↔ wpM m fm (fun r f => wpS (k r) f P) (exE P) := ws_exprL fun _ _ => .rfl
theorem ws_exprD {m : M D} {k : D → MS} : wpS (exprD m k) fm P ↔ wpM m fm (fun r f => wpS (k r) f P) (exE P) := ws_exprDL fun _ _ => .rfl
theorem ws_test {m : M Bool} {k : Bool → MS} : wpS (testM m k) fm P ↔ wpM m fm (fun r f => wpS (k r) f P) (exE P) := ws_exprG (fun r f e => by simp [testM, e]) (fun r f e => by simp [testM, e]) (fun e => by simp [testM, e]) fun _ _ => .rfl
theorem ws_leaf {o : Option Fm} {b : MS} {fl : Fl} (h : b fm = o.map fun f => (fl, f)) : wpS b fm P ↔ onS o fun f => P fl f := by
  unfold wpS
  rw [h]
  rcases o with _ | f
  · simp [onS]
  · exact ⟨fun ⟨_, _, e, p⟩ => by cases e; exact p, fun p => ⟨_, _, rfl, p⟩⟩
theorem ws_next : wpS nextM fm P ↔ P .nx fm := ws_leaf (o := some fm) rfl
theorem ws_break : wpS breakM fm P ↔ P .bk fm := ws_leaf (o := some fm) rfl
theorem ws_cont : wpS contM fm P ↔ P .ct fm := ws_leaf (o := some fm) rfl
theorem ws_retn : wpS retnM fm P ↔ P (.rt (.frz .non)) fm := ws_leaf (o := some fm) rfl
theorem ws_retu {m : M R} : wpS (retuM m) fm P ↔ wpM m fm (fun r f => P (.rt r) f) (exE P) := ws_exprL fun r f => ws_leaf (o := some f) rfl
theorem ws_drop {m : M R} : wpS (dropM m) fm P ↔ wpM m fm (fun r f => P .nx f) (exE P) := ws_exprL fun r f => ws_leaf (o := some f) rfl
theorem ws_set {i : Nat} {m : M R} : wpS (setM i m) fm P ↔ wpM m fm (fun r f => onS (storeM i r f) fun f1 => P .nx f1) (exE P) := ws_exprL fun r f => ws_leaf (by cases storeM i r f <;> rfl)
theorem st_tmp {i : Nat} {d : D} {Q : Fm → Prop} : onS (storeM i (.tmp d) fm) Q ↔ slotFree fm i = true ∧ letS (fm.set i (some ⟨.own, d⟩)) fun f => Q f := by
  show onS (if _ then _ else _) _ ↔ _
  rw [onS_ite]
  rfl
theorem st_frz {i : Nat} {d : D} {Q : Fm → Prop} : onS (storeM i (.frz d) fm) Q ↔ slotFree fm i = true ∧ letS (fm.set i (some ⟨.frz, d⟩)) fun f => Q f := by
  show onS (if _ then _ else _) _ ↔ _
  rw [onS_ite]
  rfl
theorem st_var {i j : Nat} {Q : Fm → Prop} : onS (storeM i (.var j) fm) Q ↔ onS ((R.var j).eat fm) fun p => slotFree p.2 i = true ∧ letS (p.2.set i (some ⟨.frz, p.1⟩)) fun f => Q f := by
  unfold storeM
  simp only []
  rcases (R.var j).eat fm with _ | p
  · rfl
  show onS (if _ then _ else _) _ ↔ _
  rw [onS_ite]
  rfl
theorem wpS_ite {c : Bool} {a b : MS} : wpS (if c = true then a else b) fm P ↔ brP c (wpS a fm P) (wpS b fm P) := by
  cases c <;> simp [brP]
theorem ws_if {c : M Bool} {a b : MS} : wpS (ifM c a b) fm P ↔ wpM c fm (fun r f => brP r (wpS a f P) (wpS b f P)) (exE P) := by
  exact ws_exprG (fun r f e => by simp only [ifM, testM, e]) (fun r f e => by simp [ifM, testM, e]) (fun e => by simp [ifM, testM, e]) fun r f => wpS_ite
def seqP (K : Fm → Prop) (P : Fl → Fm → Prop) : Fl → Fm → Prop
  | .nx, f => K f
  | .rt r, f => P (.rt r) f
  | .bk, f => P .bk f
  | .ct, f => P .ct f
  | .ex x, f => P (.ex x) f
variable {K : Fm → Prop}
theorem seqP_nx : seqP K P .nx fm ↔ K fm := .rfl
theorem seqP_rt {r : R} : seqP K P (.rt r) fm ↔ P (.rt r) fm := .rfl
theorem seqP_bk : seqP K P .bk fm ↔ P .bk fm := .rfl
theorem seqP_ct : seqP K P .ct fm ↔ P .ct fm := .rfl
theorem seqP_ex {x : Exn} : seqP K P (.ex x) fm ↔ P (.ex x) fm := .rfl
theorem ws_seq {a k : MS} : wpS (seqM a k) fm P ↔ wpS a fm (seqP (fun f => wpS k f P) P) := by
  unfold wpS seqM
  rcases h : a fm with _ | ⟨fl, f1⟩
  · simp
  · constructor
    · rintro ⟨fl', f, e, p⟩
      refine ⟨_, _, rfl, ?_⟩
      cases fl with
      | nx => exact ⟨fl', f, e, p⟩
      | _ => cases e; exact p
    · rintro ⟨fl', f, e, p⟩
      obtain ⟨rfl, rfl⟩ : fl = fl' ∧ f1 = f := by simpa using e
      cases fl with
      | nx => exact p
      | _ => exact ⟨_, _, rfl, p⟩
def thS : Option (Option Slot) → Prop
  | some (some _) => True
  | _ => False
theorem thS_ok {s : Slot} : thS (some (some s)) ↔ True := .rfl
def chS : Option (Option Slot) → Option Slot
  | some (some ⟨.own, d⟩) => some ⟨.own, d⟩
  | some (some ⟨.bor, d⟩) => some ⟨.bor, d⟩
  | _ => none
theorem chS_own {d : D} : chS (some (some ⟨.own, d⟩)) = some ⟨.own, d⟩ := rfl
theorem chS_bor {d : D} : chS (some (some ⟨.bor, d⟩)) = some ⟨.bor, d⟩ := rfl
theorem chg_is {i : Nat} {g : D → Option D} {Q : Fm → Prop} : onS (chgM i g fm) Q ↔ onS (chS fm[i]?) fun s => onS (g s.d) fun d => letS (fm.set i (some ⟨s.k, d⟩)) fun f => Q f := by
  unfold chgM chS
  rcases fm[i]? with _ | _ | ⟨_ | _ | _ | _, d⟩ <;> first | rfl | exact onS_map
theorem ws_put {put : D → D → D → Option D} {i : Nat} {mk : M R} {mv : M D} : wpS (putM put i mk mv) fm P ↔ wpM mv fm (fun v f => thS f[i]? ∧ wpM mk f (fun rk f => onS (rk.soft.get f) fun k => onS (chgM i (fun d => put d k v) f) fun f1 => P .nx f1) (exE P)) (exE P) := by
  have h1 : ∀ (m : MS) (f : Fm), wpS (thereM i m) f P ↔ thS f[i]? ∧ wpS m f P := fun m f => by
    unfold wpS thereM
    rcases f[i]? with _ | _ | s
    · simp [thS]
    · simp [thS]
    · simp [thS]
  refine ws_exprDL fun v f => (h1 _ _).trans (and_congr_right fun _ => ws_exprL fun rk f => ?_)
  rw [ws_leaf (o := (rk.soft.get f).bind fun k => chgM i (fun d => put d k v) f) (fl := .nx) (by
    cases h : rk.soft.get f with
    | none => rfl
    | some k =>
      simp only [Option.bind]
      cases h2 : chgM i (fun d => put d k v) f <;> rfl)]
  rcases rk.soft.get f with _ | k <;> rfl
def isL : Option (Option Slot) → Prop
  | some (some ⟨_, .lst _⟩) => True
  | _ => False
theorem isL_ok {k : Kd} {xs : List D} : isL (some (some ⟨k, .lst xs⟩)) ↔ True := .rfl
def apD (v : D) : D → Option D
  | .lst xs => if xs.length < sizeLine then some (.lst (xs ++ [v])) else none
  | _ => none
theorem apD_ok {v : D} {xs : List D} : apD v (.lst xs) = if xs.length < sizeLine then some (.lst (xs ++ [v])) else none := rfl
theorem ws_app {i : Nat} {m : M D} : wpS (appM i m) fm P ↔ isL fm[i]? ∧ wpM m fm (fun v f => onS (chgM i (apD v) f) fun f1 => P .nx f1) (exE P) := by
  rcases h : fm[i]? with _ | _ | ⟨k, d⟩
  · simp [wpS, appM, isL, h]
  · simp [wpS, appM, isL, h]
  · cases d with
    | lst xs =>
      simp only [isL, true_and]
      refine (show wpS (appM i m) fm P ↔ _ from ?_)
      unfold wpS appM
      simp only [h]
      refine ws_exprDL fun v f => ws_leaf ?_
      unfold chgM
      rcases f[i]? with _ | _ | ⟨_ | _ | _ | _, d⟩ <;> try rfl
      · cases d <;> try rfl
        show (if _ then _ else _) = Option.map _ (Option.map _ (if _ then _ else _))
        split <;> rfl
      · cases d <;> try rfl
        show (if _ then _ else _) = Option.map _ (Option.map _ (if _ then _ else _))
        split <;> rfl
    | _ => simp [wpS, appM, isL, h]
theorem ws_fldSet {i c j : Nat} {mv : M D} : wpS (fldSetM i c j mv) fm P ↔ wpM mv fm (fun v f => onS (chgM i (putFd c j v) f) fun f1 => P .nx f1) (exE P) := ws_exprDL fun v f => ws_leaf (by cases chgM i (putFd c j v) f <;> rfl)
theorem ws_asg {g : GM} {m : M D} : wpS (asgM g m) fm P ↔ wpM m fm (fun d f => onS (g d f) fun f1 => P .nx f1) (exE P) := ws_exprDL fun v f => ws_leaf (by cases g v f <;> rfl)
theorem ws_par2 {i j : Nat} {ma mb : M R} : wpS (par2 i j ma mb) fm P ↔ wpM ma fm (fun r1 f => r1.nv ∧ wpM mb f (fun r2 f => onS (storeM j r2 f) fun f1 => onS (storeM i r1 f1) fun f2 => P .nx f2) noE) noE := by
  have ex2 : ∀ (f4 : Fm), (∃ fl fm', (Fl.nx = fl ∧ f4 = fm') ∧ P fl fm') ↔ P Fl.nx f4 := fun f4 => ⟨fun ⟨_, _, ⟨rfl, rfl⟩, p⟩ => p, fun p => ⟨_, _, ⟨rfl, rfl⟩, p⟩⟩
  rcases h : ma fm with _ | ⟨r1 | x, f1⟩
  · simp [wpS, par2, wpM, h]
  · have e1 : ∀ (Q : R → Fm → Prop), wpM ma fm Q noE ↔ Q r1 f1 := fun Q => by
      unfold wpM
      rw [h]
      exact ⟨fun ⟨_, _, e, p⟩ => by cases e; exact p, fun p => ⟨_, _, rfl, p⟩⟩
    rw [e1]
    rcases h2 : mb f1 with _ | ⟨r2 | x, f2⟩
    · cases r1 <;> simp [wpS, par2, wpM, h, h2]
    · have e2 : ∀ (Q : R → Fm → Prop), wpM mb f1 Q noE ↔ Q r2 f2 := fun Q => by
        unfold wpM
        rw [h2]
        exact ⟨fun ⟨_, _, e, p⟩ => by cases e; exact p, fun p => ⟨_, _, rfl, p⟩⟩
      rw [e2]
      rcases h3 : storeM j r2 f2 with _ | f3
      · cases r1 <;> simp [wpS, par2, h, h2, h3, onS]
      · rcases h4 : storeM i r1 f3 with _ | f4
        · cases r1 <;> simp [wpS, par2, h, h2, h3, h4, onS]
        · cases r1 <;> simp [wpS, par2, h, h2, h3, h4, onS, ex2, R.nv]
    · cases r1 <;> simp [wpS, par2, wpM, h, h2, outP, noE]
  · simp [wpS, par2, wpM, h, outP, noE]
theorem ws_aug {i : Nat} {g : Int → Int → Int} {m : M R} {n : Int} (h : fm[i]? = some (some ⟨.frz, .int n⟩)) : wpS (augM i g m) fm P ↔ wpM m fm (fun r f => onS r.int? fun k => onS (storeM i (.frz (.int (g n k))) f) fun f1 => P .nx f1) (exE P) := by
  unfold wpS augM
  simp only [h]
  refine ws_exprL fun r f => ?_
  rw [ws_leaf (o := r.int?.bind fun k => storeM i (.frz (.int (g n k))) f) (fl := .nx) (by
    cases h : r.int? with
    | none => rfl
    | some k =>
      simp only [Option.bind]
      cases h2 : storeM i (.frz (.int (g n k))) f <;> rfl)]
  rcases r.int? with _ | k <;> rfl
/-! loops -/
theorem ws_for {m : M (List D)} {g : GM} {b : MS} : wpS (eForM m g b) fm P ↔ wpM m fm (fun ds f => wpS (forM g b ds) f P) (exE P) := ws_exprG (fun r f e => by simp [eForM, e]) (fun r f e => by simp [eForM, e]) (fun e => by simp [eForM, e]) fun _ _ => .rfl
theorem ws_forL {m : M (List D)} {g : GM} {b : MS} : wpS (eForL m g b) fm P ↔ wpM m fm (fun ds f => wpS (noexM (forM g b ds)) f P) (exE P) := ws_exprG (fun r f e => by simp [eForL, e]) (fun r f e => by simp [eForL, e]) (fun e => by simp [eForL, e]) fun _ _ => .rfl
theorem ws_noex {b : MS} (h : wpS b fm fun fl f => (match fl with | .ex _ => False | _ => True) ∧ P fl f) : wpS (noexM b) fm P := by
  obtain ⟨fl, f, e, n, p⟩ := h
  refine ⟨fl, f, ?_, p⟩
  unfold noexM
  rw [e]
  cases fl <;> first | rfl | exact n.elim
def loopP (J : Fm → Prop) (P : Fl → Fm → Prop) : Fl → Fm → Prop
  | .nx, f => J f
  | .ct, f => J f
  | .bk, f => P .nx f
  | .rt r, f => P (.rt r) f
  | .ex x, f => P (.ex x) f
variable {J : Fm → Prop}
theorem loopP_nx : loopP J P .nx fm ↔ J fm := .rfl
theorem loopP_ct : loopP J P .ct fm ↔ J fm := .rfl
theorem loopP_bk : loopP J P .bk fm ↔ P .nx fm := .rfl
theorem loopP_rt {r : R} : loopP J P (.rt r) fm ↔ P (.rt r) fm := .rfl
theorem loopP_ex {x : Exn} : loopP J P (.ex x) fm ↔ P (.ex x) fm := .rfl
/-- a loop with an invariant on what is left -/
theorem ws_forI {g : GM} {b : MS} (I : List D → Fm → Prop) (hs : ∀ d ds f, I (d :: ds) f → onS (g d f) fun f1 => wpS b f1 (loopP (I ds) P)) (he : ∀ f, I [] f → P .nx f) : ∀ (ds : List D) (fm : Fm), I ds fm → wpS (forM g b ds) fm P
  | [], fm, h => ⟨.nx, fm, rfl, he fm h⟩
  | d :: ds, fm, h => by
    obtain ⟨f1, e1, fl, f2, e2, q⟩ := onS_ex.mp (hs d ds fm h)
    cases fl with
    | nx =>
      obtain ⟨fl', f3, e3, p⟩ := ws_forI I hs he ds f2 q
      exact ⟨fl', f3, by unfold forM; rw [e1]; simp only [e2]; exact e3, p⟩
    | ct =>
      obtain ⟨fl', f3, e3, p⟩ := ws_forI I hs he ds f2 q
      exact ⟨fl', f3, by unfold forM; rw [e1]; simp only [e2]; exact e3, p⟩
    | bk => exact ⟨.nx, f2, by unfold forM; rw [e1]; simp only [e2], q⟩
    | rt r => exact ⟨.rt r, f2, by unfold forM; rw [e1]; simp only [e2], q⟩
    | ex x => exact ⟨.ex x, f2, by unfold forM; rw [e1]; simp only [e2], q⟩
theorem for_nil {g : GM} {b : MS} : wpS (forM g b []) fm P ↔ P .nx fm := ws_leaf (o := some fm) rfl
theorem for_cons {g : GM} {b : MS} {d : D} {ds : List D} : wpS (forM g b (d :: ds)) fm P ↔ onS (g d fm) fun f1 => wpS b f1 (loopP (fun f => wpS (forM g b ds) f P) P) := by
  unfold wpS
  rw [forM]
  rcases g d fm with _ | f1
  · simp [onS]
  simp only [onS_some]
  rcases h : b f1 with _ | ⟨fl, f2⟩
  · simp
  cases fl with
  | nx =>
    constructor
    · exact fun z => ⟨_, _, rfl, z⟩
    · rintro ⟨_, _, e, z⟩; cases e; exact z
  | ct =>
    constructor
    · exact fun z => ⟨_, _, rfl, z⟩
    · rintro ⟨_, _, e, z⟩; cases e; exact z
  | _ =>
    constructor
    · rintro ⟨_, _, e, z⟩; cases e; exact ⟨_, _, rfl, z⟩
    · rintro ⟨_, _, e, z⟩; cases e; exact ⟨_, _, rfl, z⟩
/-- .. told by the frame ahead of the loop -/
theorem ws_forJ {g : GM} {b : MS} {ds : List D} (I : Fm → List D → Fm → Prop) (h0 : I fm ds fm) (hs : ∀ d ds f, I fm (d :: ds) f → onS (g d f) fun f1 => wpS b f1 (loopP (I fm ds) P)) (he : ∀ f, I fm [] f → P .nx f) : wpS (forM g b ds) fm P :=
  ws_forI (I fm) hs he ds fm h0
def noxP (P : Fl → Fm → Prop) : Fl → Fm → Prop
  | .nx, f => P .nx f
  | .rt r, f => P (.rt r) f
  | .bk, f => P .bk f
  | .ct, f => P .ct f
  | .ex _, _ => False
theorem noxP_nx : noxP P .nx fm ↔ P .nx fm := .rfl
theorem noxP_rt {r : R} : noxP P (.rt r) fm ↔ P (.rt r) fm := .rfl
theorem noxP_bk : noxP P .bk fm ↔ P .bk fm := .rfl
theorem noxP_ct : noxP P .ct fm ↔ P .ct fm := .rfl
theorem ws_nox {b : MS} : wpS (noexM b) fm P ↔ wpS b fm (noxP P) := by
  unfold wpS noexM
  rcases h : b fm with _ | ⟨fl, f⟩
  · simp
  · cases fl with
    | ex x =>
      constructor
      · rintro ⟨_, _, e, _⟩; cases e
      · rintro ⟨_, _, e, q⟩; cases e; exact q.elim
    | _ =>
      constructor
      · rintro ⟨_, _, e, q⟩; cases e; exact ⟨_, _, rfl, q⟩
      · rintro ⟨_, _, e, q⟩; cases e; exact ⟨_, _, rfl, q⟩
end
/-! comprehensions by invariants, and where nothing but the block's names changes -/
section
variable {fm : Fm}
theorem lc_inv {g : GM} {t : M Bool} {e : M D} {L : List Nat} {Q : List D → Fm → Prop} (I : List D → List D → Fm → Prop)
    (hs : ∀ d ds acc f, I (d :: ds) acc f → onS (g d f) fun f1 => wpM t f1 (fun b f2 => brP b (wpM e f2 (fun y f3 => acc.length < sizeLine ∧ onS (wipeM L f3) fun f4 => I ds (acc ++ [y]) f4) noE) (onS (wipeM L f2) fun f4 => I ds acc f4)) noE)
    (he : ∀ acc f, I [] acc f → Q acc f) : ∀ (ds acc : List D) (fm : Fm), I ds acc fm → lcP g t e L ds acc fm Q
  | [], acc, fm, h => he acc fm h
  | d :: ds, acc, fm, h => by
    obtain ⟨f1, e1, o, f2, e2, q⟩ := onS_ex.mp (hs d ds acc fm h)
    unfold lcP lcLoop
    rw [e1]
    cases o with
    | ex x => exact q.elim
    | ok b =>
      simp only [e2]
      cases b with
      | true =>
        obtain ⟨o, f3, e3, q⟩ := brP_true.mp q
        cases o with
        | ex x => exact q.elim
        | ok y =>
          obtain ⟨h3, q⟩ := q
          obtain ⟨f4, e4, q⟩ := onS_ex.mp q
          simp only [e3, if_pos h3, e4]
          exact lc_inv I hs he ds _ f4 q
      | false =>
        obtain ⟨f4, e4, q⟩ := onS_ex.mp (brP_false.mp q)
        simp only [e4]
        exact lc_inv I hs he ds _ f4 q
theorem dc_inv {g : GM} {t : M Bool} {ek e : M D} {L : List Nat} {Q : List (Key × D) → Fm → Prop} (I : List D → List (Key × D) → Fm → Prop)
    (hs : ∀ d ds acc f, I (d :: ds) acc f → onS (g d f) fun f1 => wpM t f1 (fun b f2 => brP b (wpM ek f2 (fun kd f2' => onS kd.key? fun k => wpM e f2' (fun y f3 => acc.length < sizeLine ∧ onS (wipeM L f3) fun f4 => I ds (putD acc k y) f4) noE) noE) (onS (wipeM L f2) fun f4 => I ds acc f4)) noE)
    (he : ∀ acc f, I [] acc f → Q acc f) : ∀ (ds : List D) (acc : List (Key × D)) (fm : Fm), I ds acc fm → dcP g t ek e L ds acc fm Q
  | [], acc, fm, h => he acc fm h
  | d :: ds, acc, fm, h => by
    obtain ⟨f1, e1, o, f2, e2, q⟩ := onS_ex.mp (hs d ds acc fm h)
    unfold dcP dcLoop
    rw [e1]
    cases o with
    | ex x => exact q.elim
    | ok b =>
      simp only [e2]
      cases b with
      | true =>
        obtain ⟨o, f2', e0, q⟩ := brP_true.mp q
        cases o with
        | ex x => exact q.elim
        | ok kd =>
          obtain ⟨k, ek', o, f3, e3, q⟩ := onS_ex.mp q
          cases o with
          | ex x => exact q.elim
          | ok y =>
            obtain ⟨h3, q⟩ := q
            obtain ⟨f4, e4, q⟩ := onS_ex.mp q
            simp only [e0, ek', e3, if_pos h3, e4]
            exact dc_inv I hs he ds _ f4 q
      | false =>
        obtain ⟨f4, e4, q⟩ := onS_ex.mp (brP_false.mp q)
        simp only [e4]
        exact dc_inv I hs he ds _ f4 q
/-- a list comprehension whose parts change nothing: a map of a filter -/
theorem lc_map {g : GM} {t : M Bool} {e : M D} {L : List Nat} {Q : List D → Fm → Prop} (p : D → Bool) (h : D → D) {ds : List D} (hl : ds.length ≤ sizeLine)
    (hs : ∀ d, d ∈ ds → onS (g d fm) fun f1 => wpM t f1 (fun b f2 => b = p d ∧ brP b (wpM e f2 (fun y f3 => y = h d ∧ onS (wipeM L f3) fun f4 => f4 = fm) noE) (onS (wipeM L f2) fun f4 => f4 = fm)) noE)
    (he : Q ((ds.filter p).map h) fm) : lcP g t e L ds [] fm Q := by
  refine lc_inv (fun ds' acc f => f = fm ∧ ∃ d0, ds = d0 ++ ds' ∧ acc = (d0.filter p).map h) ?_ ?_ ds [] fm ⟨rfl, [], rfl, rfl⟩
  · rintro d ds' acc f ⟨rfl, d0, rfl, rfl⟩
    obtain ⟨f1, e1, q⟩ := onS_ex.mp (hs d (by simp))
    rw [e1]
    refine wpM.mono q ?_
    rintro b f2 ⟨rfl, q⟩
    rcases hb : p d with _ | _
    · rw [hb] at q
      have q := brP_false.mp q
      refine brP_false.mpr ?_
      obtain ⟨f4, e4, rfl⟩ := onS_ex.mp q
      rw [e4]
      exact ⟨rfl, d0 ++ [d], by simp, by simp [hb]⟩
    · rw [hb] at q
      have q := brP_true.mp q
      refine brP_true.mpr (q.mono ?_)
      rintro y f3 ⟨rfl, q⟩
      refine ⟨?_, ?_⟩
      · have : (d0.filter p).length ≤ d0.length := List.length_filter_le _ _
        simp at hl ⊢
        omega
      obtain ⟨f4, e4, rfl⟩ := onS_ex.mp q
      rw [e4]
      exact ⟨rfl, d0 ++ [d], by simp, by simp [hb]⟩
  · rintro acc f ⟨rfl, d0, rfl, rfl⟩
    simpa using he
/-- .. a dict comprehension -/
theorem dc_map {g : GM} {t : M Bool} {ek e : M D} {L : List Nat} {Q : List (Key × D) → Fm → Prop} (p : D → Bool) (hk : D → Key) (h : D → D) {ds : List D} (hl : ds.length ≤ sizeLine)
    (hs : ∀ d, d ∈ ds → onS (g d fm) fun f1 => wpM t f1 (fun b f2 => b = p d ∧ brP b (wpM ek f2 (fun kd f2' => kd.key? = some (hk d) ∧ wpM e f2' (fun y f3 => y = h d ∧ onS (wipeM L f3) fun f4 => f4 = fm) noE) noE) (onS (wipeM L f2) fun f4 => f4 = fm)) noE)
    (he : Q (mergeD [] ((ds.filter p).map fun d => (hk d, h d))) fm) : dcP g t ek e L ds [] fm Q := by
  have put_len : ∀ (acc : List (Key × D)) (k : Key) (d : D), (putD acc k d).length ≤ acc.length + 1 := fun acc k d => by
    unfold putD
    split <;> simp
  have mg_len : ∀ (more acc : List (Key × D)), (mergeD acc more).length ≤ acc.length + more.length := fun more => by
    induction more with
    | nil => intro acc; simp [mergeD]
    | cons a r ih =>
      intro acc
      have := ih (putD acc a.1 a.2)
      have h2 := put_len acc a.1 a.2
      unfold mergeD at this ⊢
      simp only [List.foldl_cons, List.length_cons]
      omega
  refine dc_inv (fun ds' acc f => f = fm ∧ ∃ d0, ds = d0 ++ ds' ∧ acc = mergeD [] ((d0.filter p).map fun d => (hk d, h d))) ?_ ?_ ds [] fm ⟨rfl, [], rfl, rfl⟩
  · rintro d ds' acc f ⟨rfl, d0, rfl, rfl⟩
    obtain ⟨f1, e1, q⟩ := onS_ex.mp (hs d (by simp))
    rw [e1]
    refine wpM.mono q ?_
    rintro b f2 ⟨rfl, q⟩
    rcases hb : p d with _ | _
    · rw [hb] at q
      have q := brP_false.mp q
      refine brP_false.mpr ?_
      obtain ⟨f4, e4, rfl⟩ := onS_ex.mp q
      rw [e4]
      exact ⟨rfl, d0 ++ [d], by simp, by simp [hb]⟩
    · rw [hb] at q
      have q := brP_true.mp q
      refine brP_true.mpr (q.mono ?_)
      rintro kd f2' ⟨hkd, q⟩
      rw [hkd]
      refine q.mono ?_
      rintro y f3 ⟨rfl, q⟩
      refine ⟨?_, ?_⟩
      · have h1 : (d0.filter p).length ≤ d0.length := List.length_filter_le _ _
        have h2 := mg_len ((d0.filter p).map fun d => (hk d, h d)) []
        simp at hl h2
        omega
      obtain ⟨f4, e4, rfl⟩ := onS_ex.mp q
      rw [e4]
      exact ⟨rfl, d0 ++ [d], by simp, by simp [hb, mergeD]⟩
  · rintro acc f ⟨rfl, d0, rfl, rfl⟩
    simpa using he
end
/-! defs -/
section
theorem wf_fn {n N : Nat} {b : MS} {ps : List Slot} {P : R → List D → Prop} {E : Exn → List D → Prop} : wpF (fnM n N b) ps P E ↔ letS (ps.map some ++ List.replicate (N - n) none) fun f => wpS b f fun fl f => onS (endOf fl f) fun out => letS ((f.take n).map Slot.dat) fun fins => outF P E out fins := by
  unfold letS wpF wpS fnM
  generalize ps.map some ++ List.replicate (N - n) none = fm0
  constructor
  · rintro ⟨out, fins, e, q⟩
    cases hb : b fm0 with
    | none => rw [hb] at e; cases e
    | some p =>
      obtain ⟨fl, f⟩ := p
      rw [hb] at e
      simp only [] at e
      cases h2 : endOf fl f with
      | none => rw [h2] at e; cases e
      | some out' =>
        rw [h2] at e
        cases e
        refine ⟨fl, f, rfl, ?_⟩
        show onS (endOf fl f) _
        rw [h2]
        exact q
  · rintro ⟨fl, f, e, q⟩
    rw [e]
    simp only []
    cases h2 : endOf fl f with
    | none => rw [h2] at q; exact q.elim
    | some out =>
      rw [h2] at q
      exact ⟨_, _, rfl, q⟩
variable {fm : Fm} {P : R → List D → Prop} {E : Exn → List D → Prop} {fins : List D}
theorem outF_ok {r : R} : outF P E (.ok r) fins ↔ P r fins := .rfl
theorem outF_ex {x : Exn} : outF P E (.ex x) fins ↔ E x fins := .rfl
def endS : Option (Option Slot) → Option (Out R)
  | some (some ⟨.own, d⟩) => some (.ok (.tmp d))
  | some (some ⟨.frz, d⟩) => some (.ok (.frz d))
  | _ => none
theorem end_nx : endOf .nx fm = some (.ok (.frz .non)) := rfl
theorem end_frz {d : D} : endOf (.rt (.frz d)) fm = some (.ok (.frz d)) := rfl
theorem end_tmp {d : D} : endOf (.rt (.tmp d)) fm = some (.ok (.tmp d)) := rfl
theorem end_var {i : Nat} : endOf (.rt (.var i)) fm = endS fm[i]? := by
  simp only [endOf]
  unfold endS
  rcases fm[i]? with _ | _ | ⟨_ | _ | _ | _, d⟩ <;> rfl
theorem end_ex {x : Exn} : endOf (.ex x) fm = some (.ex x) := rfl
theorem endS_own {d : D} : endS (some (some ⟨.own, d⟩)) = some (.ok (.tmp d)) := rfl
theorem endS_frz {d : D} : endS (some (some ⟨.frz, d⟩)) = some (.ok (.frz d)) := rfl
theorem dat_some {k : Kd} {d : D} : Slot.dat (some ⟨k, d⟩) = d := rfl
theorem dat_none : Slot.dat none = .non := rfl
end
end U
end

section
set_option Elab.async false
set_option linter.all false
set_option maxRecDepth 100000
set_option maxHeartbeats 400000
set_option autoImplicit false
/-! V3: what the operations answer on data, for simp. -/
namespace U
open PySem L2
section
variable {i j : Int} {x y : Str} {xs ys : List D} {d e : D} {Q : R → Prop}
theorem dAdd_ii : dAdd (.int i) (.int j) = some (.frz (.int (i + j))) := rfl
theorem dAdd_ss : onS (dAdd (.str x) (.str y)) Q ↔ x.length + y.length ≤ 16777216 ∧ Q (.frz (.str (x ++ y))) := by
  show onS (if _ then _ else _) _ ↔ _
  rw [onS_ite]; rfl
theorem dAdd_ll : onS (dAdd (.lst xs) (.lst ys)) Q ↔ xs.length + ys.length ≤ 16777216 ∧ Q (.tmp (.lst (xs ++ ys))) := by
  show onS (if _ then _ else _) _ ↔ _
  rw [onS_ite]; rfl
theorem dSub_ii : dSub (.int i) (.int j) = some (.frz (.int (i - j))) := rfl
theorem dMul_ii : onS (dMul (.int i) (.int j)) Q ↔ CMulW i j ∧ Q (.frz (.int (i * j))) := by
  show onS (if _ then _ else _) _ ↔ _
  rw [onS_ite]; rfl
theorem dDiv_ii : onS (dDiv (.int i) (.int j)) Q ↔ CDivW i j ∧ Q (.frz (.int (i / j))) := by
  show onS (if _ then _ else _) _ ↔ _
  rw [onS_ite]; rfl
theorem dMod_ii : onS (dMod (.int i) (.int j)) Q ↔ 0 < j ∧ Q (.frz (.int (i % j))) := by
  show onS (if _ then _ else _) _ ↔ _
  rw [onS_ite]; rfl
theorem dPow_ii : onS (dPow (.int i) (.int j)) Q ↔ CPow i j ∧ letS (i ^ j.toNat) fun z => Q (.frz (.int z)) := by
  show onS (if _ then _ else _) _ ↔ _
  rw [onS_ite]; rfl
theorem CPow_is : CPow i j ↔ (0 ≤ j ∧ j ≤ 1000000 ∧ -18446744073709551616 < i ∧ i < 18446744073709551616) := by
  unfold CPow
  omega
theorem cm (hi : i.natAbs < 2 ^ 200) (hj : j.natAbs < 2 ^ 200) : CMulW i j := wide_mul hi hj (by omega) (by omega) (by omega)
theorem cd (h : 0 < j) (hj : j < 2 ^ 200) : CDivW i j := wide_div (b := 200) h (by omega) (by omega) (by omega)
theorem atI_nat {α : Type} {l : List α} {i : Int} {n : Nat} (h : i = n) (hn : n < l.length) : L2.atI l i = some l[n] := by
  subst h
  unfold L2.atI ixN
  rw [if_pos (by omega), if_pos (by omega)]
  simp [hn]
theorem dCmp_ii {p : Int → Int → Bool} : dCmp p (.int i) (.int j) = some (.frz (.bl (p i j))) := rfl
theorem dEq_is : onS (dEq d e) Q ↔ okE false 12 d e = true ∧ Q (.frz (.bl (beqD d e))) := by
  unfold dEq; rw [onS_ite]; rfl
theorem dNe_is : onS (dNe d e) Q ↔ okN 11 d e = true ∧ Q (.frz (.bl (!beqD d e))) := by
  unfold dNe; rw [onS_ite]; rfl
theorem okE_ii : okE false 12 (.int i) (.int j) = true := rfl
theorem okN_ii : okN 11 (.int i) (.int j) = true := rfl
theorem okE_ss : okE false 12 (.str x) (.str y) = true := rfl
theorem okN_ss : okN 11 (.str x) (.str y) = true := rfl
theorem okE_bb {a b : Bool} : okE false 12 (.bl a) (.bl b) = true := rfl
theorem okN_bb {a b : Bool} : okN 11 (.bl a) (.bl b) = true := rfl
theorem beqD_ii : beqD (.int i) (.int j) = (i == j) := rfl
theorem beqD_ss : beqD (.str x) (.str y) = (x == y) := rfl
theorem beqD_bb {a b : Bool} : beqD (.bl a) (.bl b) = (a == b) := rfl
theorem okE_l0 : okE false 12 (.lst xs) (.lst []) = true := by cases xs <;> simp [okE]
theorem okN_l0 : okN 11 (.lst xs) (.lst []) = true := by cases xs <;> simp [okN, okE]
theorem beqD_l0 : beqD (.lst xs) (.lst []) = xs.isEmpty := by cases xs <;> simp [beqD, beqL]
theorem dIs_non : dIs false .non .non = some (.frz (.bl true)) := rfl
theorem dInt_i : dInt [.int i] = some (.frz (.int i)) := rfl
theorem dLen_l : dLen [.lst xs] = some (.frz (.int xs.length)) := rfl
theorem dLen_t : dLen [.tup xs] = some (.frz (.int xs.length)) := rfl
theorem dLen_scr {ns : List Int} : dLen [.scr ns] = some (.frz (.int ns.length)) := rfl
theorem dLen_s : onS (dLen [.str x]) Q ↔ x.length ≤ 16777216 ∧ Q (.frz (.int x.length)) := by
  show onS (if _ then _ else _) _ ↔ _
  rw [onS_ite]; rfl
theorem dList_l : dList [.lst xs] = some (.tmp (.lst xs)) := rfl
theorem dList_t : dList [.tup xs] = some (.tmp (.lst xs)) := rfl
theorem dTuple_l : dTuple [.lst xs] = some (.frz (.tup xs)) := rfl
theorem dStr_s : dStr [.str x] = some (.frz (.str x)) := rfl
theorem dListK_d {kvs : List (Key × D)} : dListK [.dic kvs] = some (.tmp (.lst (kvs.map fun kv => keyD kv.1))) := rfl
theorem dMin2_ii : dMin2 [.int i, .int j] = some (.frz (.int (if j < i then j else i))) := rfl
theorem dSum_l {ns : List Int} : dSum [.lst (ns.map .int)] = some (.frz (.int ns.sum)) := by
  show (ints? _).map _ = _
  rw [ints_of]; rfl
theorem dDx_s {kvs : List (Key × D)} : dDx (.dic kvs) (.str x) = (lookD kvs (.inr x)).map .frz := rfl
theorem dIn_d {kvs : List (Key × D)} : dIn (.str x) (.dic kvs) = some (.frz (.bl (lookD kvs (.inr x)).isSome)) := rfl
theorem putIn_s {kvs : List (Key × D)} {v : D} {Q : D → Prop} : onS (putIn (.dic kvs) (.str x) v) Q ↔ kvs.length < 16777216 ∧ letS (D.dic (putD kvs (.inr x) v)) fun d => Q d := by
  show onS (if _ then _ else _) _ ↔ _
  rw [onS_ite]; rfl
theorem dIx_l : dIx (.lst xs) (.int i) = (L2.atI xs i).map .frz := rfl
theorem dIx_t : dIx (.tup xs) (.int i) = (L2.atI xs i).map .frz := rfl
theorem dIx_s : onS (dIx (.str x) (.int i)) Q ↔ x.length ≤ 16777216 ∧ onS (L2.atI x.cps.toList i) fun c => Q (.frz (.str ⟨#[c]⟩)) := by
  show onS (if _ then _ else _) _ ↔ _
  rw [onS_ite, onS_map]; rfl
theorem cut_l {b : Bool} {lo hi : Option Int} : cutM b (.lst xs) lo hi = some (.tmp (.lst (cutD xs lo hi))) := rfl
theorem cut_scr {b : Bool} {ns : List Int} {lo hi : Option Int} : cutM b (.scr ns) lo hi = some (.tmp (.lst (cutD (ns.map .int) lo hi))) := rfl
theorem cut_s {b : Bool} {lo hi : Option Int} : onS (cutM b (.str x) lo hi) Q ↔ x.length ≤ 16777216 ∧ Q (.frz (.str (cutS x lo hi))) := by
  show onS (if _ then _ else _) _ ↔ _
  rw [onS_ite]; rfl
theorem app_l {v : D} {Q : D → Prop} : onS (apD v (.lst xs)) Q ↔ xs.length < 16777216 ∧ Q (.lst (xs ++ [v])) := by
  show onS (if _ then _ else _) _ ↔ _
  rw [onS_ite]; rfl
theorem bne_no {i : Nat} : ((none : Option Nat) != some i) = true := rfl
theorem bne_so {i j : Nat} : ((some j : Option Nat) != some i) = (j != i) := by
  rw [Bool.eq_iff_iff]; simp
theorem rng_0 : rngD 0 0 = [] := rfl
theorem rng_1 : rngD 0 1 = [.int 0] := rfl
theorem line_is : sizeLine = 16777216 := rfl
theorem putFd_0 {c : Nat} {v : D} : putFd c 0 v (.obj c []) = some (.obj c [v]) := by simp [putFd]
theorem putFd_1 {c : Nat} {v a : D} : putFd c 1 v (.obj c [a]) = some (.obj c [a, v]) := by simp [putFd]
theorem putFd_2 {c : Nat} {v a b : D} : putFd c 2 v (.obj c [a, b]) = some (.obj c [a, b, v]) := by simp [putFd]
theorem isi_ob {c c' : Nat} {fs : List D} : isiM c (.obj c' fs) = if c' = c then some true else none := rfl
theorem isi_int {c : Nat} : isiM c (.int i) = some false := rfl
theorem isi_tup {c : Nat} : isiM c (.tup xs) = some false := rfl
theorem isi_lst {c : Nat} : isiM c (.lst xs) = some false := rfl
theorem isi_str {c : Nat} : isiM c (.str x) = some false := rfl
theorem ro_obj {cs : List Nat} {c : Nat} {fs : List D} : rightOk cs (.obj c fs) = cs.contains c := rfl
theorem ro_int {cs : List Nat} : rightOk cs (.int i) = true := rfl
theorem ro_tup {cs : List Nat} : rightOk cs (.tup xs) = true := rfl
theorem ro_lst {cs : List Nat} : rightOk cs (.lst xs) = true := rfl
theorem ro_str {cs : List Nat} : rightOk cs (.str x) = true := rfl
end
end U
end

section
set_option Elab.async false
set_option linter.all false
set_option maxRecDepth 100000
set_option maxHeartbeats 400000
set_option autoImplicit false
/-! V4: dicts from texts to ints. -/
namespace U
open PySem L2
abbrev SI := List (Str × Int)
def kvI (ps : SI) : List (Key × D) := ps.map fun p => (.inr p.1, .int p.2)
def ksI (ps : SI) : List Str := ps.map (·.1)
def lkO (ps : SI) (w : Str) : Option Int := (ps.find? fun p => decide (p.1 = w)).map (·.2)
def lk (ps : SI) (w : Str) : Int := (lkO ps w).getD 0
def setI (ps : SI) (w : Str) (v : Int) : SI := if (ps.any fun p => decide (p.1 = w)) = true then ps.map (fun p => if p.1 = w then (p.1, v) else p) else ps ++ [(w, v)]
section
variable {ps qs : SI} {w x : Str} {v c : Int}
theorem kvI_nil : kvI [] = [] := rfl
theorem kvI_len : (kvI ps).length = ps.length := by simp [kvI]
theorem look_kvI : lookD (kvI ps) (.inr w) = (lkO ps w).map D.int := by
  unfold lookD kvI lkO
  induction ps with
  | nil => rfl
  | cons p r ih =>
    by_cases h : p.1 = w
    · simp [List.find?_cons, h]
    · simpa [List.find?_cons, h] using ih
theorem getR_kvI : getR (.frz (.int c)) ((lkO ps w).map D.int) = .frz (.int ((lkO ps w).getD c)) := by
  cases lkO ps w <;> rfl
theorem put_kvI : putD (kvI ps) (.inr w) (.int v) = kvI (setI ps w v) := by
  unfold putD setI kvI
  have e : ((ps.map fun p => ((.inr p.1 : Key), D.int p.2)).any fun kv => decide (kv.1 = .inr w)) = (ps.any fun p => decide (p.1 = w)) := by
    rw [List.any_map]
    congr 1
    funext p
    simp
  rw [e]
  split
  · rw [List.map_map, List.map_map]
    congr 1
    funext p
    simp only [Function.comp]
    by_cases h : p.1 = w
    · simp [h]
    · simp [h]
  · simp
theorem keys_kvI : ((kvI ps).map fun kv => keyD kv.1) = (ksI ps).map D.str := by
  simp [kvI, ksI, keyD]
theorem items_kvI : ((kvI ps).map fun kv => D.tup [keyD kv.1, kv.2]) = ps.map fun p => D.tup [.str p.1, .int p.2] := by
  simp [kvI, keyD]
theorem len_setI : (setI ps w v).length ≤ ps.length + 1 := by
  unfold setI
  split <;> simp
theorem ks_setI (h : (ksI ps).Nodup) : (ksI (setI ps w v)).Nodup := by
  unfold setI
  split
  · have : ksI (ps.map fun p => if p.1 = w then (p.1, v) else p) = ksI ps := by
      unfold ksI
      rw [List.map_map]
      congr 1
      funext p
      simp only [Function.comp]
      split <;> rfl
    rw [this]; exact h
  · rename_i hn
    unfold ksI at *
    rw [List.map_append, List.nodup_append]
    refine ⟨h, by simp, fun a ha b hb e => ?_⟩
    simp at hb
    subst hb; subst e
    obtain ⟨p, hp, e⟩ := List.mem_map.mp ha
    exact hn (by rw [List.any_eq_true]; exact ⟨p, hp, by simpa using e⟩)
theorem mem_setI {p : Str × Int} (h : p ∈ setI ps w v) : p ∈ ps ∨ p = (w, v) := by
  unfold setI at h
  split at h
  · obtain ⟨q, hq, e⟩ := List.mem_map.mp h
    split at e
    · rename_i hw; right; rw [← e, hw]
    · left; rw [← e]; exact hq
  · simp at h
    rcases h with h | h
    · exact .inl h
    · exact .inr h
theorem lkO_nil : lkO [] w = none := rfl
theorem lkO_cons {p : Str × Int} : lkO (p :: ps) w = if p.1 = w then some p.2 else lkO ps w := by
  unfold lkO
  by_cases h : p.1 = w <;> simp [List.find?_cons, h]
theorem lkO_none (h : w ∉ ksI ps) : lkO ps w = none := by
  induction ps with
  | nil => rfl
  | cons p r ih =>
    simp [ksI] at h
    rw [lkO_cons, if_neg (fun e => h.1 e.symm)]
    exact ih (by simp [ksI]; exact h.2)
theorem lkO_mem (hn : (ksI ps).Nodup) : lkO ps w = some v ↔ (w, v) ∈ ps := by
  induction ps with
  | nil => simp [lkO]
  | cons p r ih =>
    obtain ⟨a, b⟩ := p
    unfold ksI at hn
    rw [List.map_cons, List.nodup_cons] at hn
    rw [lkO_cons]
    by_cases h : a = w
    · subst h
      simp only [if_true, List.mem_cons, Prod.mk.injEq, true_and, Option.some.injEq]
      constructor
      · intro e; exact .inl e.symm
      · rintro (e | e)
        · exact e.symm
        · exact absurd (List.mem_map_of_mem (f := (·.1)) e) hn.1
    · rw [if_neg h, ih hn.2]
      simp only [List.mem_cons, Prod.mk.injEq]
      constructor
      · exact .inr
      · rintro (e | e)
        · exact absurd e.1.symm h
        · exact e
theorem lkO_perm (h : ps.Perm qs) (hn : (ksI ps).Nodup) : lkO ps w = lkO qs w := by
  have hq : (ksI qs).Nodup := (h.map _).nodup_iff.mp hn
  cases e : lkO qs w with
  | some v => exact (lkO_mem hn).mpr (h.mem_iff.mpr ((lkO_mem hq).mp e))
  | none =>
    cases e2 : lkO ps w with
    | none => rfl
    | some v =>
      have := (lkO_mem hq).mpr (h.mem_iff.mp ((lkO_mem hn).mp e2))
      rw [e] at this; cases this
theorem lkO_setI (hn : (ksI ps).Nodup) : lkO (setI ps w v) x = if w = x then some v else lkO ps x := by
  have hs := ks_setI (w := w) (v := v) hn
  split
  · rename_i e
    subst e
    rw [lkO_mem hs]
    unfold setI
    split
    · rename_i ha
      simp at ha
      obtain ⟨b, hb⟩ := ha
      exact List.mem_map.mpr ⟨(w, b), hb, by simp⟩
    · simp
  · rename_i ne
    cases e : lkO ps x with
    | some y =>
      rw [lkO_mem hs]
      have hm := (lkO_mem hn).mp e
      unfold setI
      split
      · exact List.mem_map.mpr ⟨_, hm, by simp; exact fun z => absurd z.symm ne⟩
      · simp [hm]
    | none =>
      cases e2 : lkO (setI ps w v) x with
      | none => rfl
      | some y =>
        rcases mem_setI ((lkO_mem hs).mp e2) with h | h
        · rw [(lkO_mem hn).mpr h] at e; cases e
        · cases h; exact absurd rfl ne
theorem merge_nodup {more : List (Key × D)} (h : (more.map (·.1)).Nodup) : mergeD [] more = more := by
  have key : ∀ (more acc : List (Key × D)), ((acc ++ more).map (·.1)).Nodup → mergeD acc more = acc ++ more := by
    intro more
    induction more with
    | nil => intro acc _; simp [mergeD]
    | cons p r ih =>
      intro acc hn
      unfold mergeD
      simp only [List.foldl_cons]
      have e : putD acc p.1 p.2 = acc ++ [p] := by
        unfold putD
        rw [if_neg]
        intro z
        obtain ⟨q, hq, e⟩ := List.any_eq_true.mp z
        have e := of_decide_eq_true e
        rw [List.map_append, List.nodup_append] at hn
        exact hn.2.2 q.1 (List.mem_map_of_mem hq) p.1 (by simp) e
      rw [e]
      have := ih (acc ++ [p]) (by simpa using hn)
      unfold mergeD at this
      rw [this]
      simp
  simpa using key more [] (by simpa using h)
theorem ins_perm {y : Str} : ∀ {xs : List Str}, (insS y xs).Perm (y :: xs)
  | [] => .refl _
  | z :: r => by
    unfold insS
    split
    · exact .refl _
    · exact (ins_perm.cons z).trans (.swap ..)
theorem srt_perm : ∀ {xs : List Str}, (srtS xs).Perm xs
  | [] => .refl _
  | y :: r => by
    unfold srtS
    exact ins_perm.trans (srt_perm.cons y)
/-- ascending words, numbers above 0 -/
def cl (ps : SI) : SI := ((srtS (ksI ps)).filter fun w => decide (0 < lk ps w)).map fun w => (w, lk ps w)
def Pos (ps : SI) : Prop := (ksI ps).Nodup ∧ ∀ p ∈ ps, 0 < p.2
theorem lk_mem (h : (ksI ps).Nodup) {p : Str × Int} (hp : p ∈ ps) : lk ps p.1 = p.2 := by
  unfold lk
  rw [(lkO_mem h).mpr (show (p.1, p.2) ∈ ps from hp)]
  rfl
theorem ks_cl : ksI (cl ps) = (srtS (ksI ps)).filter fun w => decide (0 < lk ps w) := by
  unfold cl ksI
  rw [List.map_map]
  exact List.map_id _
theorem cl_nodup (h : (ksI ps).Nodup) : (ksI (cl ps)).Nodup := by
  rw [ks_cl]
  exact (srt_perm.nodup_iff.mpr h).filter _
theorem cl_pos (h : (ksI ps).Nodup) : Pos (cl ps) := by
  refine ⟨cl_nodup h, fun p hp => ?_⟩
  unfold cl at hp
  obtain ⟨w, hw, rfl⟩ := List.mem_map.mp hp
  simpa using (List.mem_filter.mp hw).2
theorem lkO_cl (h : (ksI ps).Nodup) : lkO (cl ps) w = if 0 < lk ps w then lkO ps w else none := by
  split
  · rename_i h0
    have e : lkO ps w = some (lk ps w) := by
      unfold lk at *
      cases e : lkO ps w with
      | none => rw [e] at h0; simp at h0
      | some v => rfl
    rw [e, lkO_mem (cl_nodup h)]
    unfold cl
    refine List.mem_map.mpr ⟨w, List.mem_filter.mpr ⟨srt_perm.mem_iff.mpr ?_, by simpa using h0⟩, rfl⟩
    exact List.mem_map.mpr ⟨_, (lkO_mem h).mp e, rfl⟩
  · rename_i h0
    refine lkO_none fun z => ?_
    rw [ks_cl] at z
    exact h0 (by simpa using (List.mem_filter.mp z).2)
theorem lk_cl (h : (ksI ps).Nodup) (hp : ∀ p ∈ ps, 0 ≤ p.2) : lk (cl ps) w = lk ps w := by
  have e : 0 ≤ lk ps w := by
    unfold lk
    cases e : lkO ps w with
    | none => simp
    | some v => exact hp _ ((lkO_mem h).mp e)
  conv => lhs; unfold lk
  rw [lkO_cl h]
  split
  · rfl
  · simp; omega
theorem Pos.lkO_cl (h : Pos ps) : lkO (cl ps) w = lkO ps w := by
  rw [U.lkO_cl h.1]
  split
  · rfl
  · rename_i h0
    unfold lk at h0
    cases e : lkO ps w with
    | none => rfl
    | some v =>
      rw [e] at h0
      exact absurd (h.2 _ ((lkO_mem h.1).mp e)) h0
theorem Pos.cl_perm (h : Pos ps) : (cl ps).Perm ps := by
  unfold cl
  have e1 : (srtS (ksI ps)).filter (fun w => decide (0 < lk ps w)) = srtS (ksI ps) := by
    rw [List.filter_eq_self]
    intro w hw
    have hw := srt_perm.mem_iff.mp hw
    obtain ⟨p, hp, rfl⟩ := List.mem_map.mp hw
    have := h.2 p hp
    rw [lk_mem h.1 hp]
    simpa using this
  rw [e1]
  refine (srt_perm.map _).trans ?_
  unfold ksI
  rw [List.map_map]
  have e2 : ps.map ((fun w => (w, lk ps w)) ∘ fun x => x.1) = ps := by
    conv => rhs; rw [← List.map_id ps]
    refine List.map_congr_left fun p hp => ?_
    simp only [Function.comp, id]
    rw [lk_mem h.1 hp]
  rw [e2]
theorem sub_len {α : Type} [DecidableEq α] : ∀ {a b : List α}, a.Nodup → (∀ x ∈ a, x ∈ b) → a.length ≤ b.length
  | [], _, _, _ => by simp
  | x :: a, b, hn, hs => by
    rw [List.nodup_cons] at hn
    have hx := hs x (by simp)
    have := sub_len (a := a) (b := b.erase x) hn.2 fun y hy => by
      have : y ≠ x := fun z => hn.1 (z ▸ hy)
      exact (List.mem_erase_of_ne this).mpr (hs y (by simp [hy]))
    rw [List.length_erase_of_mem hx] at this
    have : 0 < b.length := List.length_pos_of_mem hx
    simp
    omega
theorem sub_of_len {α : Type} [DecidableEq α] : ∀ {a b : List α}, a.Nodup → (∀ x ∈ a, x ∈ b) → b.length ≤ a.length → ∀ x ∈ b, x ∈ a
  | [], b, _, _, hl, x, hx => by
    have : 0 < b.length := List.length_pos_of_mem hx
    simp at hl
    rw [hl] at this; simp at this
  | z :: a, b, hn, hs, hl, x, hx => by
    rw [List.nodup_cons] at hn
    have hz := hs z (by simp)
    by_cases e : x = z
    · simp [e]
    · have h1 := sub_of_len (a := a) (b := b.erase z) hn.2 (fun y hy => by
        have : y ≠ z := fun q => hn.1 (q ▸ hy)
        exact (List.mem_erase_of_ne this).mpr (hs y (by simp [hy]))) (by
        rw [List.length_erase_of_mem hz]; simp at hl; omega) x ((List.mem_erase_of_ne e).mpr hx)
      simp [h1]
theorem beqK_kvI : beqK (kvI ps) (kvI qs) = ps.all fun p => decide (lkO qs p.1 = some p.2) := by
  induction ps with
  | nil => rfl
  | cons p r ih =>
    show beqK ((.inr p.1, .int p.2) :: kvI r) (kvI qs) = _
    rw [beqK_cons, ih, List.all_cons, look_kvI]
    congr 1
    cases lkO qs p.1 with
    | none => rfl
    | some v =>
      simp [beqD]
      rw [Bool.eq_iff_iff]
      simp
      exact eq_comm
theorem nodup_of_ks (h : (ksI ps).Nodup) : ps.Nodup := List.Pairwise.of_map (S := fun a b => a ≠ b) (f := (·.1)) (fun a b hne e => hne (by rw [e])) h
theorem beq_kvI (hp : (ksI ps).Nodup) (hq : (ksI qs).Nodup) : beqD (.dic (kvI ps)) (.dic (kvI qs)) = true ↔ ∀ w, lkO ps w = lkO qs w := by
  show ((kvI ps).length == (kvI qs).length && beqK (kvI ps) (kvI qs)) = true ↔ _
  rw [Bool.and_eq_true, beqK_kvI, kvI_len, kvI_len, List.all_eq_true]
  constructor
  · rintro ⟨hl, ha⟩ w
    have hl : ps.length = qs.length := by simpa using hl
    have s1 : ∀ x ∈ ps, x ∈ qs := fun x hx => (lkO_mem hq).mp (of_decide_eq_true (ha x hx))
    have s2 := sub_of_len (nodup_of_ks hp) s1 (by omega)
    cases e : lkO qs w with
    | some v => exact (lkO_mem hp).mpr (s2 _ ((lkO_mem hq).mp e))
    | none =>
      cases e2 : lkO ps w with
      | none => rfl
      | some v =>
        have := (lkO_mem hq).mpr (s1 _ ((lkO_mem hp).mp e2))
        rw [e] at this; cases this
  · intro h
    have s1 : ∀ x ∈ ps, x ∈ qs := fun x hx => (lkO_mem hq).mp (by rw [← h]; exact (lkO_mem hp).mpr hx)
    have s2 : ∀ x ∈ qs, x ∈ ps := fun x hx => (lkO_mem hp).mp (by rw [h]; exact (lkO_mem hq).mpr hx)
    refine ⟨?_, fun x hx => decide_eq_true ((lkO_mem hq).mpr (s1 x hx))⟩
    have l1 := sub_len (nodup_of_ks hp) s1
    have l2 := sub_len (nodup_of_ks hq) s2
    simp
    omega
theorem okE_int (nd : Bool) (n : Nat) {i j : Int} : okE nd n (.int i) (.int j) = true := by
  cases n <;> simp [okE, D.sc]
theorem okE_kvI (n : Nat) : okE false (n + 1) (.dic (kvI ps)) (.dic (kvI qs)) = true := by
  unfold okE
  simp only [Bool.not_false, Bool.true_and, List.all_eq_true]
  intro p hp
  obtain ⟨q, hq, rfl⟩ := List.mem_map.mp hp
  simp only [look_kvI]
  cases lkO qs q.1 with
  | none => rfl
  | some v => exact okE_int _ _
theorem okN_kvI : okN 11 (.dic (kvI ps)) (.dic (kvI qs)) = true := by
  unfold okN
  simp only [List.all_eq_true]
  intro p hp
  obtain ⟨q, hq, rfl⟩ := List.mem_map.mp hp
  simp only [look_kvI]
  cases lkO qs q.1 with
  | none => rfl
  | some v => exact okE_int _ _
/-! sums -/
def dotI (t ps : SI) : Int := (ps.map fun p => lk t p.1 * p.2).sum
theorem sum_perm {a b : List Int} (h : a.Perm b) : a.sum = b.sum := by
  induction h with
  | nil => rfl
  | cons x _ ih => simp [ih]
  | swap x y l => simp; omega
  | trans _ _ h1 h2 => exact h1.trans h2
theorem dot_perm {t : SI} (h : ps.Perm qs) : dotI t ps = dotI t qs := sum_perm (h.map _)
theorem dot_lk {t u : SI} (h : ∀ w, lk t w = lk u w) : dotI t ps = dotI u ps := by
  unfold dotI
  simp only [h]
theorem dot_cl {t : SI} (ht : Pos t) (hp : Pos ps) : dotI (cl t) (cl ps) = dotI t ps := by
  rw [dot_perm hp.cl_perm]
  exact dot_lk fun w => by unfold lk; rw [ht.lkO_cl]
theorem dot_nil {t : SI} : dotI t [] = 0 := rfl
theorem dot_cons {t : SI} {p : Str × Int} : dotI t (p :: ps) = lk t p.1 * p.2 + dotI t ps := by simp [dotI]
theorem Pos.lk0 (h : Pos ps) : 0 ≤ lk ps w := by
  unfold lk
  cases e : lkO ps w with
  | none => simp
  | some v => have := h.2 _ ((lkO_mem h.1).mp e); simp at this ⊢; omega
/-- parts above 0, at most B, few -/
structure Bg (B : Int) (n : Nat) (ps : SI) : Prop where
  pos : Pos ps
  le : ∀ p ∈ ps, p.2 ≤ B
  len : ps.length ≤ n
theorem Bg.nil {B : Int} {n : Nat} : Bg B n [] := ⟨⟨by simp [ksI], by simp⟩, by simp, by simp⟩
theorem Bg.set {B : Int} {n : Nat} (h : Bg B n ps) (h0 : 0 < v) (h1 : v ≤ B) : Bg B (n + 1) (setI ps w v) := by
  refine ⟨⟨ks_setI h.pos.1, fun p hp => ?_⟩, fun p hp => ?_, Nat.le_trans len_setI (by have := h.len; omega)⟩
  · rcases mem_setI hp with h2 | rfl
    · exact h.pos.2 p h2
    · exact h0
  · rcases mem_setI hp with h2 | rfl
    · exact h.le p h2
    · exact h1
theorem Bg.mono {B C : Int} {n m : Nat} (h : Bg B n ps) (hb : B ≤ C) (hn : n ≤ m) : Bg C m ps := ⟨h.pos, fun p hp => Int.le_trans (h.le p hp) hb, Nat.le_trans h.len hn⟩
theorem Bg.cl {B : Int} {n : Nat} (h : Bg B n ps) : Bg B n (U.cl ps) :=
  ⟨cl_pos h.pos.1, fun p hp => h.le p (h.pos.cl_perm.mem_iff.mp hp), by rw [h.pos.cl_perm.length_eq]; exact h.len⟩
theorem Bg.lk {B : Int} {n : Nat} (h : Bg B n ps) (hB : 0 ≤ B) : 0 ≤ lk ps w ∧ lk ps w ≤ B := by
  refine ⟨h.pos.lk0, ?_⟩
  unfold U.lk
  cases e : lkO ps w with
  | none => simpa using hB
  | some v => exact h.le _ ((lkO_mem h.pos.1).mp e)
end
end U
end

section
set_option Elab.async false
set_option linter.all false
set_option maxRecDepth 100000
set_option maxHeartbeats 400000
set_option autoImplicit false
/-! V5: comprehensions over lists of things of one kind. -/
namespace U
open PySem L2
section
variable {fm : Fm}
theorem lc_mapA {A : Type} {g : GM} {t : M Bool} {e : M D} {L : List Nat} {Q : List D → Fm → Prop} (enc : A → D) (p : A → Bool) (h : A → D) {ls : List A} (hl : ls.length ≤ sizeLine)
    (hs : ∀ a, a ∈ ls → onS (g (enc a) fm) fun f1 => wpM t f1 (fun b f2 => b = p a ∧ brP b (wpM e f2 (fun y f3 => y = h a ∧ onS (wipeM L f3) fun f4 => f4 = fm) noE) (onS (wipeM L f2) fun f4 => f4 = fm)) noE)
    (he : Q ((ls.filter p).map h) fm) : lcP g t e L (ls.map enc) [] fm Q := by
  refine lc_inv (fun ds' acc f => f = fm ∧ ∃ d0 r, ls = d0 ++ r ∧ ds' = r.map enc ∧ acc = (d0.filter p).map h) ?_ ?_ (ls.map enc) [] fm ⟨rfl, [], ls, rfl, rfl, rfl⟩
  · rintro d ds' acc f ⟨rfl, d0, r, e0, e1, rfl⟩
    cases r with
    | nil => cases e1
    | cons a r =>
      cases e1
      subst e0
      obtain ⟨f1, e1, q⟩ := onS_ex.mp (hs a (by simp))
      rw [e1]
      refine wpM.mono q ?_
      rintro b f2 ⟨rfl, q⟩
      rcases hb : p a with _ | _
      · rw [hb] at q
        have q := brP_false.mp q
        refine brP_false.mpr ?_
        obtain ⟨f4, e4, rfl⟩ := onS_ex.mp q
        rw [e4]
        exact ⟨rfl, d0 ++ [a], r, by simp, rfl, by simp [hb]⟩
      · rw [hb] at q
        have q := brP_true.mp q
        refine brP_true.mpr (q.mono ?_)
        rintro y f3 ⟨rfl, q⟩
        refine ⟨?_, ?_⟩
        · have : (d0.filter p).length ≤ d0.length := List.length_filter_le _ _
          simp at hl ⊢
          omega
        obtain ⟨f4, e4, rfl⟩ := onS_ex.mp q
        rw [e4]
        exact ⟨rfl, d0 ++ [a], r, by simp, rfl, by simp [hb]⟩
  · rintro acc f ⟨rfl, d0, r, e0, e1, rfl⟩
    have e1 : r = [] := by simpa using e1.symm
    subst e1
    have e0 : ls = d0 := by simpa using e0
    subst e0
    exact he
end
end U
end

section
set_option Elab.async false
set_option linter.all false
set_option maxRecDepth 100000
set_option maxHeartbeats 4000000
set_option autoImplicit false
/-! The walk of the law's program: printed by gen.py. -/
namespace Wk
open PySem L2 U
open He (ga ma)
abbrev prg : Program := PySem.Challenge.pw_unseenstores_k09_stores
def top (i : Nat) : Stmt := prg.main.body.getD i (.Pass ⟨0, 0, 0, 0⟩)
def wd (K : PySem.W.Frag) : Wd where
  K := K
  cad := fun c => match c with
    | 0 => ga K "Bag"
    | 1 => ga K "Shop"
    | 2 => ga K "Store"
    | _ => 0
  fns := fun c => match c with
    | 0 => ["parts"]
    | 1 => ["stores"]
    | 2 => ["begin", "takes", "gives"]
    | _ => []
abbrev s__law_pen : Stmt := top 33
abbrev s__law_draw : Stmt := top 34
abbrev s__law_pick : Stmt := top 35
abbrev s__law_deeds : Stmt := top 36
abbrev s__law_size : Stmt := top 37
abbrev s__law_shop : Stmt := top 40
abbrev s_Shop___init__ : Stmt := inClass (top 25) 0
abbrev s_Store___init__ : Stmt := inClass (top 24) 0
abbrev s_ascending : Stmt := top 13
abbrev s_cleaned : Stmt := top 14
abbrev s_Bag___init__ : Stmt := inClass (top 22) 0
abbrev s__law_stores : Stmt := top 42
abbrev s_Store_plain : Stmt := inClass (top 24) 1
abbrev s_Shop___len__ : Stmt := inClass (top 25) 2
abbrev s_is_plain : Stmt := top 27
abbrev s_Shop_plain : Stmt := inClass (top 25) 1
abbrev s__law_counts : Stmt := top 43
abbrev s__law_plus : Stmt := top 38
abbrev s__law_step : Stmt := top 39
abbrev s_taken : Stmt := top 28
abbrev s_gained : Stmt := top 29
abbrev s_held : Stmt := top 30
abbrev s_Store___call__ : Stmt := inClass (top 24) 2
abbrev s__law_spare : Stmt := top 41
abbrev s_spare : Stmt := top 31
abbrev s_Store_lets : Stmt := inClass (top 24) 4
abbrev s_parts_of : Stmt := top 26
abbrev s_Store___eq__ : Stmt := inClass (top 24) 3
abbrev s_added : Stmt := top 15
abbrev s_Bag___add__ : Stmt := inClass (top 22) 5
abbrev s__law_is_store_right : Stmt := top 44
abbrev s_Shop___eq__ : Stmt := inClass (top 25) 3
abbrev s_law : Stmt := top 45
/-! what each def is worth -/
def d__law_pen_b : MS :=
    (retuM (eDisp [((eC (.str "cells")), (eCallB dList [(eSlice (eVar 0) none (some (eC (.int 63))))])), ((eC (.str "at")), (eC (.int 0))), ((eC (.str "left")), (eC (.int 0)))]))
def d__law_pen : Fn := fnM 1 1 d__law_pen_b
def d__law_draw_b : MS :=
    (seqM (ifM (tOfE (eBin (dCmp fun i j => decide (j ≤ i)) (eBin dDx (eVar 0) (eC (.str "left"))) (eVar 1))) (seqM (setM 5 (eBin dMod (eCallB dInt [(eBin dDx (eVar 0) (eC (.str "left")))]) (eVar 1)))
    (seqM (putM putIn 0 (eC (.str "left")) (eEat (eBin dDiv (eBin dDx (eVar 0) (eC (.str "left"))) (eVar 1))))
    (retuM (eVar 5)))) nextM)
    (seqM (setM 2 (eBin dDx (eVar 0) (eC (.str "at"))))
    (seqM (putM putIn 0 (eC (.str "at")) (eEat (eBin dAdd (eVar 2) (eC (.int 1)))))
    (seqM (setM 3 (eBin dAdd (eBin dMul (eC (.int 41)) (eVar 2)) (eC (.int 23))))
    (seqM (ifM (tOfE (eBin dNe (eBin dDx (eVar 0) (eC (.str "cells"))) (eLst []))) (setM 3 (eBin dIx (eBin dDx (eVar 0) (eC (.str "cells"))) (eBin dMod (eCallB dInt [(eVar 2)]) (eCallB dLen [(eBin dDx (eVar 0) (eC (.str "cells")))])))) nextM)
    (seqM (ifM (tAndM (tOfE (eBin (dCmp fun i j => decide (i < j)) (eVar 2) (eCallB dLen [(eBin dDx (eVar 0) (eC (.str "cells")))]))) (tOfE (eBin (dCmp fun i j => decide (j ≤ i)) (eVar 3) (eBin dPow (eC (.int 10)) (eC (.int 18)))))) (seqM (putM putIn 0 (eC (.str "left")) (eEat (eBin dDiv (eBin dSub (eVar 3) (eBin dPow (eC (.int 10)) (eC (.int 18)))) (eVar 1))))
    (retuM (eBin dMod (eCallB dInt [(eBin dSub (eVar 3) (eBin dPow (eC (.int 10)) (eC (.int 18))))]) (eVar 1)))) nextM)
    (seqM (setM 4 (eBin dAdd (eBin dAdd (eBin dAdd (eBin dMul (eBin dMod (eCallB dInt [(eVar 3)]) (eC (.int 2147483587))) (eC (.int 48271))) (eBin dMul (eBin dMul (eC (.int 40014)) (eVar 2)) (eVar 2))) (eBin dMul (eC (.int 59)) (eVar 2))) (eC (.int 17))))
    (seqM (setM 4 (eBin dMod (eCallB dInt [(eVar 4)]) (eC (.int 2147483629))))
    (seqM (setM 4 (eBin dMod (eCallB dInt [(eBin dMul (eVar 4) (eBin dAdd (eVar 4) (eC (.int 69621))))]) (eC (.int 2147483549))))
    (retuM (eBin dMod (eCallB dInt [(eBin dDiv (eBin dMod (eCallB dInt [(eBin dMul (eVar 4) (eVar 4))]) (eC (.int 2147483579))) (eC (.int 32)))]) (eVar 1))))))))))))
def d__law_draw : Fn := fnM 2 6 d__law_draw_b
def d__law_pick_b : MS :=
    (retuM (eBin dIx (eVar 1) (eCall d__law_draw [.bor 0, .val (eCallB dLen [(eVar 1)])])))
def d__law_pick : Fn := fnM 2 2 d__law_pick_b
def d__law_deeds_b : MS :=
    (seqM (setM 2 (eC (.str "abcdefghijklmnopqrstuvwxyz")))
    (seqM (setM 3 (eJoin (eC (.str "")) (eLc (iRngM (eCall d__law_draw [.bor 0, .val (eC (.int 8))])) (gNm 9) (retM true) (eEat (eCall d__law_pick [.bor 0, .val (eVar 2)])) [9])))
    (seqM (asgM (gTp (gsC (gNm 7) (gsC (gNm 8) gs0)) 2) (eEat (eTup [(eCall d__law_draw [.bor 0, .val (eBin dAdd (eCallB dLen [(eVar 3)]) (eC (.int 1)))]), (eCall d__law_draw [.bor 0, .val (eC (.int 26))])])))
    (seqM (setM 4 (eCall d__law_pick [.bor 0, .val (eLst [(eC (.int 1)), (eC (.int 3)), (eC (.int 5)), (eC (.int 7)), (eC (.int 9)), (eC (.int 11))])]))
    (seqM (setM 5 (eLc (iRngM (eC (.int 26))) (gNm 9) (retM true) (eEat (eBin dIx (eVar 2) (eBin dMod (eCallB dInt [(eBin dAdd (eVar 8) (eBin dMul (eVar 4) (eVar 9)))]) (eC (.int 26))))) [9]))
    (seqM (setM 6 (eLc (iLstM (eVar 5)) (gNm 10) (retM true) (eEat (eBin dAdd (eBin dAdd (eSlice (eVar 3) none (some (eVar 7))) (eVar 10)) (eSlice (eVar 3) (some (eVar 7)) none))) [10]))
    (retuM (eSlice (eLc (iLstM (eVar 6)) (gNm 11) (tOfE (eBin dNe (eVar 11) (eC (.str "ever")))) (eEat (eVar 11)) [11]) none (some (eVar 1))))))))))
def d__law_deeds : Fn := fnM 2 12 d__law_deeds_b
def d__law_size_b : MS :=
    (seqM (par2 3 4 (eCall d__law_pick [.bor 0, .val (eVar 1)]) (eC (.int 0)))
    (seqM (eForM (iRngM (eC (.int 7))) (gNm 2) (setM 4 (eBin dAdd (eBin dMul (eVar 4) (eC (.int 1000003))) (eCall d__law_draw [.bor 0, .val (eC (.int 1000003))]))))
    (retuM (eBin dMod (eCallB dInt [(eVar 4)]) (eVar 3)))))
def d__law_size : Fn := fnM 2 5 d__law_size_b
def d__law_shop_b : MS :=
    (seqM (setM 3 (eLst []))
    (seqM (eForM (iRngM (eCall d__law_draw [.bor 0, .val (eC (.int 4))])) (gNm 4) (seqM (par2 6 7 eDic0 eDic0)
    (seqM (eForM (iLstM (eVar 1)) (gNm 5) (seqM (setM 8 (eCall d__law_draw [.bor 0, .val (eC (.int 4))]))
    (seqM (ifM (tOfE (eBin (dCmp fun i j => decide (i < j)) (eVar 8) (eC (.int 2)))) (putM putIn 6 (eVar 5) (eEat (eBin dAdd (eC (.int 1)) (eCall d__law_size [.bor 0, .val (eLst [(eC (.int 1)), (eC (.int 2)), (eC (.int 5)), (eC (.int 1000))])])))) nextM)
    (ifM (tOrM (tOfE (eBin dEq (eVar 8) (eC (.int 2)))) (tAndM (tOfE (eBin dEq (eVar 8) (eC (.int 1)))) (tNotM (tOfE (eVar 2))))) (putM putIn 7 (eVar 5) (eEat (eBin dAdd (eC (.int 1)) (eCall d__law_size [.bor 0, .val (eLst [(eC (.int 1)), (eC (.int 2)), (eC (.int 5)), (eC (.int 1000))])])))) nextM))))
    (appM 3 (eEat (eTup [(eCall d__law_size [.bor 0, .val (eLst [(eC (.int 1)), (eC (.int 5)), (eC (.int 30)), (eC (.int 1000)), (eBin dPow (eC (.int 10)) (eC (.int 31)))])]), (eVar 6), (eVar 7)]))))))
    (retuM (eVar 3))))
def d__law_shop : Fn := fnM 3 9 d__law_shop_b
def d_Shop___init___b : MS :=
    (fldSetM 0 1 0 (eEat (eCallB dTuple [(eVar 1)])))
def d_Shop___init__ : Fn := fnM 2 2 d_Shop___init___b
def d_Store___init___b : MS :=
    (seqM (fldSetM 0 2 0 (eEat (eVar 1)))
    (seqM (fldSetM 0 2 1 (eEat (eVar 2)))
    (fldSetM 0 2 2 (eEat (eVar 3)))))
def d_Store___init__ : Fn := fnM 4 4 d_Store___init___b
def d_ascending_b : MS :=
    (retuM (eCallB dSorted [(eLc (iKeyM (eDc (iKeyM (eVar 0)) (gNm 1) (retM true) (eEat (eVar 1)) (eEat (eC (.bl true))) [1])) (gNm 1) (retM true) (eEat (eCallB dStr [(eVar 1)])) [1])]))
def d_ascending : Fn := fnM 1 2 d_ascending_b
def d_cleaned_b : MS :=
    (retuM (eDc (iLstM (eCall d_ascending [.val (eVar 0)])) (gNm 1) (tOfE (eBin (dCmp fun i j => decide (j < i)) (eBin dDx (eVar 0) (eVar 1)) (eC (.int 0)))) (eEat (eVar 1)) (eEat (eBin dDx (eVar 0) (eVar 1))) [1]))
def d_cleaned : Fn := fnM 1 2 d_cleaned_b
def d_Bag___init___b : MS :=
    (fldSetM 0 0 0 (eEat (eCall d_cleaned [.val (eVar 1)])))
def d_Bag___init__ : Fn := fnM 2 2 d_Bag___init___b
def d__law_stores_b : MS :=
    (retuM (eMake 1 d_Shop___init__ [.val (eLc (iLstM (eVar 0)) (gTp (gsC (gNm 1) (gsC (gNm 2) (gsC (gNm 3) gs0))) 3) (retM true) (eEat (eMake 2 d_Store___init__ [.val (eVar 1), .val (eMake 0 d_Bag___init__ [.val (eVar 2)]), .val (eMake 0 d_Bag___init__ [.val (eVar 3)])])) [1, 2, 3])]))
def d__law_stores : Fn := fnM 1 4 d__law_stores_b
def d_Store_plain_b : MS :=
    (retuM (eBin dEq (eLc (iKeyM (eFld 0 0 (eFld 2 1 (eVar 0)))) (gNm 1) (tOfE (eBin dIn (eVar 1) (eFld 0 0 (eFld 2 2 (eVar 0))))) (eEat (eVar 1)) [1]) (eLst [])))
def d_Store_plain : Fn := fnM 1 2 d_Store_plain_b
def d_Shop___len___b : MS :=
    (retuM (eCallB dLen [(eFld 1 0 (eVar 0))]))
def d_Shop___len__ : Fn := fnM 1 1 d_Shop___len___b
def d_is_plain_b : MS :=
    (retuM (eBin dEq (eLc (iKeyM (eFld 0 0 (eFld 2 1 (eVar 0)))) (gNm 1) (tOfE (eBin dIn (eVar 1) (eFld 0 0 (eFld 2 2 (eVar 0))))) (eEat (eVar 1)) [1]) (eLst [])))
def d_is_plain : Fn := fnM 1 2 d_is_plain_b
def d_Shop_plain_b : MS :=
    (retuM (eBin dEq (eLc (iTupM (eFld 1 0 (eVar 0))) (gNm 1) (tNotM (tOfE (eCall d_is_plain [.val (eVar 1)]))) (eEat (eVar 1)) [1]) (eLst [])))
def d_Shop_plain : Fn := fnM 1 2 d_Shop_plain_b
def d__law_counts_b : MS :=
    (seqM (setM 2 eDic0)
    (seqM (eForM (iLstM (eVar 1)) (gNm 3) (seqM (setM 4 (eCall d__law_size [.bor 0, .val (eLst [(eC (.int 1)), (eC (.int 3)), (eC (.int 100)), (eBin dPow (eC (.int 10)) (eC (.int 20))), (eBin dPow (eC (.int 10)) (eC (.int 40)))])]))
    (ifM (tOfE (eBin (dCmp fun i j => decide (j < i)) (eVar 4) (eC (.int 0)))) (putM putIn 2 (eVar 3) (eEat (eVar 4))) nextM)))
    (retuM (eVar 2))))
def d__law_counts : Fn := fnM 2 5 d__law_counts_b
def d__law_plus_b : MS :=
    (seqM (setM 3 eDic0)
    (seqM (eForM (iLstM (eBin dAdd (eCallB dListK [(eVar 0)]) (eCallB dListK [(eVar 1)]))) (gNm 4) (seqM (setM 5 (eBin dAdd (eGet (eVar 0) (eVar 4) (eC (.int 0))) (eBin dMul (eVar 2) (eGet (eVar 1) (eVar 4) (eC (.int 0))))))
    (ifM (tOfE (eBin dNe (eVar 5) (eC (.int 0)))) (putM putIn 3 (eVar 4) (eEat (eVar 5))) nextM)))
    (retuM (eVar 3))))
def d__law_plus : Fn := fnM 3 6 d__law_plus_b
def d__law_step_b : MS :=
    (seqM (setM 2 (eCall d__law_pick [.bor 0, .val (eLst [(eC (.int 1)), (eC (.int 1)), (eC (.int 1)), (eC (.int 1)), (eC (.int 2))])]))
    (seqM (setM 3 (eDisp [((eCall d__law_pick [.bor 0, .val (eVar 1)]), (eCall d__law_pick [.bor 0, .val (eLst [(eC (.int 1)), (eC (.int 1)), (eC (.int 1)), (eC (.int 2)), (eC (.int 5)), (eBin dPow (eC (.int 10)) (eC (.int 6)))])]))]))
    (seqM (eForM (iRngM (eBin dSub (eVar 2) (eC (.int 1)))) (gNm 4) (setM 3 (eCall d__law_plus [.val (eVar 3), .val (eDisp [((eCall d__law_pick [.bor 0, .val (eVar 1)]), (eC (.int 1)))]), .val (eC (.int 1))])))
    (retuM (eVar 3)))))
def d__law_step : Fn := fnM 2 5 d__law_step_b
def d_taken_b : MS :=
    (retuM (eCallB dSum [(eLc (iItmM (eVar 1)) (gTp (gsC (gNm 2) (gsC (gNm 3) gs0)) 2) (retM true) (eEat (eBin dMul (eGet (eFld 0 0 (eFld 2 1 (eVar 0))) (eVar 2) (eC (.int 0))) (eVar 3))) [2, 3])]))
def d_taken : Fn := fnM 2 4 d_taken_b
def d_gained_b : MS :=
    (retuM (eBin dSub (eCallB dSum [(eLc (iItmM (eVar 1)) (gTp (gsC (gNm 2) (gsC (gNm 3) gs0)) 2) (retM true) (eEat (eBin dMul (eGet (eFld 0 0 (eFld 2 2 (eVar 0))) (eVar 2) (eC (.int 0))) (eVar 3))) [2, 3])]) (eCall d_taken [.val (eVar 0), .val (eVar 1)])))
def d_gained : Fn := fnM 2 4 d_gained_b
def d_held_b : MS :=
    (retuM (eBin dAdd (eFld 2 0 (eVar 0)) (eCall d_gained [.val (eVar 0), .val (eVar 1)])))
def d_held : Fn := fnM 2 2 d_held_b
def d_Store___call___b : MS :=
    (retuM (eCall d_held [.val (eVar 0), .val (eFld 0 0 (eVar 1))]))
def d_Store___call__ : Fn := fnM 2 2 d_Store___call___b
def d__law_spare_b : MS :=
    (seqM (asgM (gTp (gsC (gNm 5) (gsC (gNm 6) (gsC (gNm 7) gs0))) 3) (eEat (eVar 0)))
    (seqM (setM 3 (eVar 5))
    (seqM (eForL (iKeyM (eVar 1)) (gNm 4) (setM 3 (eBin dAdd (eVar 3) (eBin dMul (eBin dDx (eVar 1) (eVar 4)) (eBin dSub (eGet (eVar 7) (eVar 4) (eC (.int 0))) (eGet (eVar 6) (eVar 4) (eC (.int 0))))))))
    (seqM (eForL (iKeyM (eVar 2)) (gNm 4) (setM 3 (eBin dSub (eVar 3) (eBin dMul (eBin dDx (eVar 2) (eVar 4)) (eGet (eVar 6) (eVar 4) (eC (.int 0)))))))
    (retuM (eVar 3))))))
def d__law_spare : Fn := fnM 3 8 d__law_spare_b
def d_spare_b : MS :=
    (retuM (eBin dSub (eCall d_held [.val (eVar 0), .val (eVar 1)]) (eCall d_taken [.val (eVar 0), .val (eVar 2)])))
def d_spare : Fn := fnM 3 3 d_spare_b
def d_Store_lets_b : MS :=
    (retuM (eBin (dCmp fun i j => decide (j ≤ i)) (eCall d_spare [.val (eVar 0), .val (eFld 0 0 (eVar 1)), .val (eFld 0 0 (eVar 2))]) (eC (.int 0))))
def d_Store_lets : Fn := fnM 3 3 d_Store_lets_b
def d_parts_of_b : MS :=
    (retuM (eTup [(eFld 2 0 (eVar 0)), (eFld 0 0 (eFld 2 1 (eVar 0))), (eFld 0 0 (eFld 2 2 (eVar 0)))]))
def d_parts_of : Fn := fnM 1 1 d_parts_of_b
def d_Store___eq___b : MS :=
    (retuM (eAnd (eIsi 2 (eVar 1)) (eBin dEq (eCall d_parts_of [.val (eVar 0)]) (eCall d_parts_of [.val (eVar 1)]))))
def d_Store___eq__ : Fn := fnM 2 2 d_Store___eq___b
def d_added_b : MS :=
    (retuM (eCall d_cleaned [.val (eDc (iLstM (eLstX (eStar (eVar 0) (eStar (eVar 1) (retM []))))) (gNm 3) (retM true) (eEat (eVar 3)) (eEat (eBin dAdd (eGet (eVar 0) (eVar 3) (eC (.int 0))) (eBin dMul (eVar 2) (eGet (eVar 1) (eVar 3) (eC (.int 0)))))) [3])]))
def d_added : Fn := fnM 3 4 d_added_b
def d_Bag___add___b : MS :=
    (retuM (eMake 0 d_Bag___init__ [.val (eCall d_added [.val (eFld 0 0 (eVar 0)), .val (eFld 0 0 (eVar 1)), .val (eC (.int 1))])]))
def d_Bag___add__ : Fn := fnM 2 2 d_Bag___add___b
def d__law_is_store_right_b : MS :=
    (seqM (asgM (gTp (gsC (gNm 5) (gsC (gNm 6) (gsC (gNm 7) gs0))) 3) (eEat (eVar 3)))
    (seqM (par2 8 9 (eCall d__law_counts [.bor 0, .val (eVar 1)]) (eCall d__law_step [.bor 0, .val (eVar 1)]))
    (seqM (ifM (tOrM (tOfE (eBin dNe (eFld 2 0 (eVar 2)) (eVar 5))) (tOrM (tOfE (eBin dNe (eFld 0 0 (eFld 2 1 (eVar 2))) (eVar 6))) (tOfE (eBin dNe (eFld 0 0 (eFld 2 2 (eVar 2))) (eVar 7))))) (retuM (eC (.bl false))) nextM)
    (seqM (ifM (tOrM (tOfE (eBin dNe (eCallO 2 d_Store___call__ (.val (eVar 2)) [.val (eMake 0 d_Bag___init__ [.val (eVar 8)])]) (eCall d__law_spare [.val (eVar 3), .val (eVar 8), .val eDic0]))) (tOfE (eBin dNe (eCallO 2 d_Store___call__ (.val (eVar 2)) [.val (eMake 0 d_Bag___init__ [.val eDic0])]) (eVar 5)))) (retuM (eC (.bl false))) nextM)
    (seqM (par2 10 11 (eCall d__law_spare [.val (eVar 3), .val (eVar 8), .val (eVar 9)]) (eTup [(eMake 0 d_Bag___init__ [.val (eVar 8)]), (eMake 0 d_Bag___init__ [.val (eVar 9)])]))
    (seqM (ifM (tOfE (eBin dNe (eMeth 2 d_Store_lets (.val (eVar 2)) [.val (eBin dIx (eVar 11) (eC (.int 0))), .val (eBin dIx (eVar 11) (eC (.int 1)))]) (eBin (dCmp fun i j => decide (j ≤ i)) (eVar 10) (eC (.int 0))))) (retuM (eC (.bl false))) nextM)
    (seqM (setM 4 (eBin dSub (eVar 5) (eVar 10)))
    (seqM (ifM (tAndM (tOfE (eBin (dCmp fun i j => decide (j ≤ i)) (eVar 4) (eC (.int 0)))) (tNotM (tOfE (eMeth 2 d_Store_lets (.val (eMake 2 d_Store___init__ [.val (eVar 4), .val (eMake 0 d_Bag___init__ [.val (eVar 6)]), .val (eMake 0 d_Bag___init__ [.val (eVar 7)])])) [.val (eBin dIx (eVar 11) (eC (.int 0))), .val (eBin dIx (eVar 11) (eC (.int 1)))])))) (retuM (eC (.bl false))) nextM)
    (seqM (ifM (tAndM (tOfE (eBin (dCmp fun i j => decide (j < i)) (eVar 4) (eC (.int 0)))) (tOfE (eMeth 2 d_Store_lets (.val (eMake 2 d_Store___init__ [.val (eBin dSub (eVar 4) (eC (.int 1))), .val (eMake 0 d_Bag___init__ [.val (eVar 6)]), .val (eMake 0 d_Bag___init__ [.val (eVar 7)])])) [.val (eBin dIx (eVar 11) (eC (.int 0))), .val (eBin dIx (eVar 11) (eC (.int 1)))]))) (retuM (eC (.bl false))) nextM)
    (seqM (ifM (tOfE (eBin dNe (eProp 2 d_Store_plain (eVar 2)) (eBin dEq (eLc (iKeyM (eVar 6)) (gNm 12) (tOfE (eBin dIn (eVar 12) (eVar 7))) (eEat (eVar 12)) [12]) (eLst [])))) (retuM (eC (.bl false))) nextM)
    (seqM (ifM (tOrM (tNotM (tOfE (eOwn2 2 [2] d_Store___eq__ (eVar 2) (eMake 2 d_Store___init__ [.val (eVar 5), .val (eMake 0 d_Bag___init__ [.val (eVar 6)]), .val (eMake 0 d_Bag___init__ [.val (eVar 7)])])))) (tOfE (eOwn2 2 [2] d_Store___eq__ (eVar 2) (eMake 2 d_Store___init__ [.val (eBin dAdd (eVar 5) (eC (.int 1))), .val (eMake 0 d_Bag___init__ [.val (eVar 6)]), .val (eMake 0 d_Bag___init__ [.val (eVar 7)])])))) (retuM (eC (.bl false))) nextM)
    (seqM (ifM (tOfE (eOwn2 2 [2] d_Store___eq__ (eVar 2) (eMake 2 d_Store___init__ [.val (eVar 5), .val (eOwnB 0 d_Bag___add__ (eMake 0 d_Bag___init__ [.val (eVar 6)]) (eMake 0 d_Bag___init__ [.val (eDisp [((eC (.str "zz")), (eC (.int 1)))])])), .val (eMake 0 d_Bag___init__ [.val (eVar 7)])]))) (retuM (eC (.bl false))) nextM)
    (retuM (eAnd (eNot (eOwn2 2 [2] d_Store___eq__ (eVar 2) (eMake 2 d_Store___init__ [.val (eVar 5), .val (eMake 0 d_Bag___init__ [.val (eVar 6)]), .val (eOwnB 0 d_Bag___add__ (eMake 0 d_Bag___init__ [.val (eVar 7)]) (eMake 0 d_Bag___init__ [.val (eDisp [((eC (.str "zz")), (eC (.int 1)))])]))]))) (eNot (eOwn2 2 [2] d_Store___eq__ (eVar 2) (eVar 5)))))))))))))))))
def d__law_is_store_right : Fn := fnM 4 13 d__law_is_store_right_b
def d_Shop___eq___b : MS :=
    (seqM (ifM (tNotM (tOfE (eIsi 1 (eVar 1)))) (retuM (eC (.bl false))) nextM)
    (retuM (eBin dEq (eLc (iTupM (eFld 1 0 (eVar 0))) (gNm 2) (retM true) (eEat (eCall d_parts_of [.val (eVar 2)])) [2]) (eLc (iTupM (eFld 1 0 (eVar 1))) (gNm 2) (retM true) (eEat (eCall d_parts_of [.val (eVar 2)])) [2]))))
def d_Shop___eq__ : Fn := fnM 2 3 d_Shop___eq___b
def d_law_b : MS :=
    (seqM (setM 1 (eCall d__law_pen [.val (eVar 0)]))
    (seqM (eForM (iRngM (eBin dAdd (eC (.int 5)) (eCallB dMin2 [(eC (.int 6)), (eCallB dLen [(eVar 0)])]))) (gNm 2) (seqM (setM 3 (eCall d__law_deeds [.bor 1, .val (eBin dAdd (eC (.int 1)) (eCall d__law_draw [.bor 1, .val (eC (.int 4))]))]))
    (seqM (setM 4 (eCall d__law_shop [.bor 1, .val (eVar 3), .val (eBin dEq (eCall d__law_draw [.bor 1, .val (eC (.int 2))]) (eC (.int 0)))]))
    (seqM (appM 4 (eEat (eTup [(eCall d__law_size [.bor 1, .val (eLst [(eC (.int 1)), (eC (.int 9))])]), (eDisp [((eBin dIx (eVar 3) (eC (.int 0))), (eC (.int 2)))]), (eDisp [((eBin dIx (eVar 3) (eNeg (eC (.int 1)))), (eC (.int 1)))])])))
    (seqM (setM 5 (eCall d__law_stores [.val (eVar 4)]))
    (seqM (setM 6 (eLc (iTupM (eFld 1 0 (eVar 5))) (gNm 8) (tNotM (tOfE (eProp 2 d_Store_plain (eVar 8)))) (eEat (eVar 8)) [8]))
    (seqM (ifM (tOrM (tOfE (eBin dNe (eLenOwn 1 d_Shop___len__ (eVar 5)) (eCallB dLen [(eVar 4)]))) (tOfE (eBin dNe (eProp 1 d_Shop_plain (eVar 5)) (eBin dEq (eVar 6) (eLst []))))) (retuM (eC (.bl false))) nextM)
    (seqM (eForM (iRngM (eCallB dLen [(eVar 4)])) (gNm 7) (ifM (tNotM (tOfE (eCall d__law_is_store_right [.bor 1, .val (eVar 3), .val (eBin dIx (eFld 1 0 (eVar 5)) (eVar 7)), .val (eBin dIx (eVar 4) (eVar 7))]))) (retuM (eC (.bl false))) nextM))
    (seqM (ifM (tOrM (tNotM (tOfE (eOwn2 1 [1] d_Shop___eq__ (eVar 5) (eCall d__law_stores [.val (eVar 4)])))) (tOrM (tOfE (eOwn2 1 [1] d_Shop___eq__ (eVar 5) (eCall d__law_stores [.val (eBin dAdd (eVar 4) (eSlice (eVar 4) none (some (eC (.int 1)))))]))) (tOfE (eOwn2 1 [1] d_Shop___eq__ (eVar 5) (eFld 1 0 (eVar 5)))))) (retuM (eC (.bl false))) nextM)
    (ifM (tOfE (eBin dNe (eOwn2 1 [1] d_Shop___eq__ (eVar 5) (eCall d__law_stores [.val (eRev (eVar 4))])) (eBin dEq (eVar 4) (eRev (eVar 4))))) (retuM (eC (.bl false))) nextM))))))))))
    (retuM (eAnd (eBin dEq (eLenOwn 1 d_Shop___len__ (eMake 1 d_Shop___init__ [.val (eLst [])])) (eC (.int 0))) (eProp 1 d_Shop_plain (eMake 1 d_Shop___init__ [.val (eLst [])]))))))
def d_law : Fn := fnM 1 9 d_law_b
/-! what is known of the top -/
structure Env (K : PySem.W.Frag) (mg : Str → Option Value) where
  fd__law_pen : FuncData
  F__law_pen : FunD K "_law_pen" "_law_pen" (defArgs s__law_pen) (defBody s__law_pen) (defScope s__law_pen) [] [] (ga K "_law_pen") fd__law_pen
  fd__law_draw : FuncData
  F__law_draw : FunD K "_law_draw" "_law_draw" (defArgs s__law_draw) (defBody s__law_draw) (defScope s__law_draw) [] [] (ga K "_law_draw") fd__law_draw
  fd__law_pick : FuncData
  F__law_pick : FunD K "_law_pick" "_law_pick" (defArgs s__law_pick) (defBody s__law_pick) (defScope s__law_pick) [] [] (ga K "_law_pick") fd__law_pick
  fd__law_deeds : FuncData
  F__law_deeds : FunD K "_law_deeds" "_law_deeds" (defArgs s__law_deeds) (defBody s__law_deeds) (defScope s__law_deeds) [] [] (ga K "_law_deeds") fd__law_deeds
  fd__law_size : FuncData
  F__law_size : FunD K "_law_size" "_law_size" (defArgs s__law_size) (defBody s__law_size) (defScope s__law_size) [] [] (ga K "_law_size") fd__law_size
  fd__law_shop : FuncData
  F__law_shop : FunD K "_law_shop" "_law_shop" (defArgs s__law_shop) (defBody s__law_shop) (defScope s__law_shop) [] [] (ga K "_law_shop") fd__law_shop
  fd_Shop___init__ : FuncData
  F_Shop___init__ : FunD K "__init__" "Shop.__init__" (defArgs s_Shop___init__) (defBody s_Shop___init__) (defScope s_Shop___init__) [] [] (ma K (ga K "Shop") "__init__") fd_Shop___init__
  fd_Store___init__ : FuncData
  F_Store___init__ : FunD K "__init__" "Store.__init__" (defArgs s_Store___init__) (defBody s_Store___init__) (defScope s_Store___init__) [] [] (ma K (ga K "Store") "__init__") fd_Store___init__
  fd_ascending : FuncData
  F_ascending : FunD K "ascending" "ascending" (defArgs s_ascending) (defBody s_ascending) (defScope s_ascending) [] [] (ga K "ascending") fd_ascending
  fd_cleaned : FuncData
  F_cleaned : FunD K "cleaned" "cleaned" (defArgs s_cleaned) (defBody s_cleaned) (defScope s_cleaned) [] [] (ga K "cleaned") fd_cleaned
  fd_Bag___init__ : FuncData
  F_Bag___init__ : FunD K "__init__" "Bag.__init__" (defArgs s_Bag___init__) (defBody s_Bag___init__) (defScope s_Bag___init__) [] [] (ma K (ga K "Bag") "__init__") fd_Bag___init__
  fd__law_stores : FuncData
  F__law_stores : FunD K "_law_stores" "_law_stores" (defArgs s__law_stores) (defBody s__law_stores) (defScope s__law_stores) [] [] (ga K "_law_stores") fd__law_stores
  fd_Store_plain : FuncData
  F_Store_plain : FunD K "plain" "Store.plain" (defArgs s_Store_plain) (defBody s_Store_plain) (defScope s_Store_plain) [] [] (getAd K "Store" "plain") fd_Store_plain
  fd_Shop___len__ : FuncData
  F_Shop___len__ : FunD K "__len__" "Shop.__len__" (defArgs s_Shop___len__) (defBody s_Shop___len__) (defScope s_Shop___len__) [] [] (ma K (ga K "Shop") "__len__") fd_Shop___len__
  fd_is_plain : FuncData
  F_is_plain : FunD K "is_plain" "is_plain" (defArgs s_is_plain) (defBody s_is_plain) (defScope s_is_plain) [] [] (ga K "is_plain") fd_is_plain
  fd_Shop_plain : FuncData
  F_Shop_plain : FunD K "plain" "Shop.plain" (defArgs s_Shop_plain) (defBody s_Shop_plain) (defScope s_Shop_plain) [] [] (getAd K "Shop" "plain") fd_Shop_plain
  fd__law_counts : FuncData
  F__law_counts : FunD K "_law_counts" "_law_counts" (defArgs s__law_counts) (defBody s__law_counts) (defScope s__law_counts) [] [] (ga K "_law_counts") fd__law_counts
  fd__law_plus : FuncData
  F__law_plus : FunD K "_law_plus" "_law_plus" (defArgs s__law_plus) (defBody s__law_plus) (defScope s__law_plus) [] [] (ga K "_law_plus") fd__law_plus
  fd__law_step : FuncData
  F__law_step : FunD K "_law_step" "_law_step" (defArgs s__law_step) (defBody s__law_step) (defScope s__law_step) [] [] (ga K "_law_step") fd__law_step
  fd_taken : FuncData
  F_taken : FunD K "taken" "taken" (defArgs s_taken) (defBody s_taken) (defScope s_taken) [] [] (ga K "taken") fd_taken
  fd_gained : FuncData
  F_gained : FunD K "gained" "gained" (defArgs s_gained) (defBody s_gained) (defScope s_gained) [] [] (ga K "gained") fd_gained
  fd_held : FuncData
  F_held : FunD K "held" "held" (defArgs s_held) (defBody s_held) (defScope s_held) [] [] (ga K "held") fd_held
  fd_Store___call__ : FuncData
  F_Store___call__ : FunD K "__call__" "Store.__call__" (defArgs s_Store___call__) (defBody s_Store___call__) (defScope s_Store___call__) [] [] (ma K (ga K "Store") "__call__") fd_Store___call__
  fd__law_spare : FuncData
  F__law_spare : FunD K "_law_spare" "_law_spare" (defArgs s__law_spare) (defBody s__law_spare) (defScope s__law_spare) [] [] (ga K "_law_spare") fd__law_spare
  fd_spare : FuncData
  F_spare : FunD K "spare" "spare" (defArgs s_spare) (defBody s_spare) (defScope s_spare) [] [] (ga K "spare") fd_spare
  fd_Store_lets : FuncData
  F_Store_lets : FunD K "lets" "Store.lets" (defArgs s_Store_lets) (defBody s_Store_lets) (defScope s_Store_lets) [] [] (ma K (ga K "Store") "lets") fd_Store_lets
  fd_parts_of : FuncData
  F_parts_of : FunD K "parts_of" "parts_of" (defArgs s_parts_of) (defBody s_parts_of) (defScope s_parts_of) [] [] (ga K "parts_of") fd_parts_of
  fd_Store___eq__ : FuncData
  F_Store___eq__ : FunD K "__eq__" "Store.__eq__" (defArgs s_Store___eq__) (defBody s_Store___eq__) (defScope s_Store___eq__) [] [] (ma K (ga K "Store") "__eq__") fd_Store___eq__
  fd_added : FuncData
  F_added : FunD K "added" "added" (defArgs s_added) (defBody s_added) (defScope s_added) [] [] (ga K "added") fd_added
  fd_Bag___add__ : FuncData
  F_Bag___add__ : FunD K "__add__" "Bag.__add__" (defArgs s_Bag___add__) (defBody s_Bag___add__) (defScope s_Bag___add__) [] [] (ma K (ga K "Bag") "__add__") fd_Bag___add__
  fd__law_is_store_right : FuncData
  F__law_is_store_right : FunD K "_law_is_store_right" "_law_is_store_right" (defArgs s__law_is_store_right) (defBody s__law_is_store_right) (defScope s__law_is_store_right) [] [] (ga K "_law_is_store_right") fd__law_is_store_right
  fd_Shop___eq__ : FuncData
  F_Shop___eq__ : FunD K "__eq__" "Shop.__eq__" (defArgs s_Shop___eq__) (defBody s_Shop___eq__) (defScope s_Shop___eq__) [] [] (ma K (ga K "Shop") "__eq__") fd_Shop___eq__
  fd_law : FuncData
  F_law : FunD K "law" "law" (defArgs s_law) (defBody s_law) (defScope s_law) [] [] (ga K "law") fd_law
  g__law_pen : mg "_law_pen" = some (.ref (ga K "_law_pen"))
  n_len : mg "len" = none
  n_min : mg "min" = none
  n_range : mg "range" = none
  g__law_draw : mg "_law_draw" = some (.ref (ga K "_law_draw"))
  g__law_deeds : mg "_law_deeds" = some (.ref (ga K "_law_deeds"))
  g__law_shop : mg "_law_shop" = some (.ref (ga K "_law_shop"))
  g__law_size : mg "_law_size" = some (.ref (ga K "_law_size"))
  g__law_stores : mg "_law_stores" = some (.ref (ga K "_law_stores"))
  c_Shop : Cls K (ga K "Shop")
  na_Shop_stores : NoAttr K (ga K "Shop") "stores"
  c_Store : Cls K (ga K "Store")
  pr_Store_plain : PropOf K (ga K "Store") "plain" (propAd K "Store" "plain") (getAd K "Store" "plain")
  me_Shop___len__ : Meth K (ga K "Shop") "__len__" (ma K (ga K "Shop") "__len__")
  pr_Shop_plain : PropOf K (ga K "Shop") "plain" (propAd K "Shop" "plain") (getAd K "Shop" "plain")
  g__law_is_store_right : mg "_law_is_store_right" = some (.ref (ga K "_law_is_store_right"))
  me_Shop___eq__ : Meth K (ga K "Shop") "__eq__" (ma K (ga K "Shop") "__eq__")
  nf_Shop : (Fu.eqo "Shop" ["Shop"]).ok K = true
  mk_Shop : Mk K (ga K "Shop") (ma K (ga K "Shop") "__init__")
  g_Shop : mg "Shop" = some (.ref (ga K "Shop"))
  n_list : mg "list" = none
  g__law_pick : mg "_law_pick" = some (.ref (ga K "_law_pick"))
  n_int : mg "int" = none
  mk_Bag : Mk K (ga K "Bag") (ma K (ga K "Bag") "__init__")
  g_Bag : mg "Bag" = some (.ref (ga K "Bag"))
  mk_Store : Mk K (ga K "Store") (ma K (ga K "Store") "__init__")
  g_Store : mg "Store" = some (.ref (ga K "Store"))
  n_tuple : mg "tuple" = none
  na_Store_begin : NoAttr K (ga K "Store") "begin"
  na_Store_takes : NoAttr K (ga K "Store") "takes"
  na_Store_gives : NoAttr K (ga K "Store") "gives"
  g_cleaned : mg "cleaned" = some (.ref (ga K "cleaned"))
  c_Bag : Cls K (ga K "Bag")
  na_Bag_parts : NoAttr K (ga K "Bag") "parts"
  g_ascending : mg "ascending" = some (.ref (ga K "ascending"))
  n_str : mg "str" = none
  n_sorted : mg "sorted" = none
  g_is_plain : mg "is_plain" = some (.ref (ga K "is_plain"))
  g__law_counts : mg "_law_counts" = some (.ref (ga K "_law_counts"))
  g__law_step : mg "_law_step" = some (.ref (ga K "_law_step"))
  me_Store___call__ : Meth K (ga K "Store") "__call__" (ma K (ga K "Store") "__call__")
  fi_Store___call__ : PySem.W.fnIn K (ma K (ga K "Store") "__call__") = true
  g__law_spare : mg "_law_spare" = some (.ref (ga K "_law_spare"))
  me_Store_lets : Meth K (ga K "Store") "lets" (ma K (ga K "Store") "lets")
  me_Store___eq__ : Meth K (ga K "Store") "__eq__" (ma K (ga K "Store") "__eq__")
  nf_Store : (Fu.eqo "Store" ["Store"]).ok K = true
  me_Bag___add__ : Meth K (ga K "Bag") "__add__" (ma K (ga K "Bag") "__add__")
  sf_Bag : PySem.W.selfFirst K (ga K "Bag") = true
  g__law_plus : mg "_law_plus" = some (.ref (ga K "_law_plus"))
  g_held : mg "held" = some (.ref (ga K "held"))
  g_gained : mg "gained" = some (.ref (ga K "gained"))
  n_sum : mg "sum" = none
  g_taken : mg "taken" = some (.ref (ga K "taken"))
  g_spare : mg "spare" = some (.ref (ga K "spare"))
  n_isinstance : mg "isinstance" = none
  is_Store : (Fu.isi "Store").ok K = true
  g_parts_of : mg "parts_of" = some (.ref (ga K "parts_of"))
  g_added : mg "added" = some (.ref (ga K "added"))
  is_Shop : (Fu.isi "Shop").ok K = true
  g_law : mg "law" = some (.ref (ga K "law"))
section
variable {P : Program} {w : World} {K : PySem.W.Frag} {mg : Str → Option Value} {base : Heap}
def pb__law_pen : { b : List Stmt // b = defBody s__law_pen } := ⟨_, by conv => rhs; whnf⟩
def ps__law_pen : { b : Scope // b = defScope s__law_pen } := ⟨_, by conv => rhs; whnf⟩
theorem sc__law_pen : FnScope ["_law_script"] ["_law_script"] ps__law_pen.1 := ⟨rfl, rfl, rfl, by decide +kernel, rfl, by decide +kernel, by decide +kernel⟩
theorem bi__law_pen (E : Env K mg) : Binds K E.fd__law_pen ["_law_script"] [] := E.F__law_pen.bindsN fun _ _ _ _ _ _ us hl => match us, hl with | [_], _ => rfl
theorem ok__law_pen (E : Env K mg) : FnOk P w K mg base (L2.CX P w) 1 (ga K "_law_pen") E.fd__law_pen ["_law_script"] (spF (wd K) 1 d__law_pen) := by
  have NN := sc__law_pen.nd
  have FF := E.F__law_pen
  rw [← pb__law_pen.2, ← ps__law_pen.2] at FF
  have hF : FnOk P w K mg base (L2.CX P w) 1 (ga K "_law_pen") E.fd__law_pen ["_law_script"] (spF (wd K) (["_law_script"] : List Str).length (fnM (["_law_script"] : List Str).length (["_law_script"] : List Str).length d__law_pen_b)) := by
    refine fn_okD (N := ["_law_script"]) (ps := ["_law_script"]) (k := 0) (wd := wd K) (m := d__law_pen_b) FF sc__law_pen fun cdv A outer s H X0 hr tk => ?_
    have PO := passes_of (X := cxOf (L2.CX P w) P w K mg base ["_law_script"] "_law_pen" ps__law_pen.1 (ga K "_law_pen") cdv A outer s H X0) rfl
    refine sss_one ?_
    refine ss_ret ?_
    refine se_dispz ?_
    refine spz_cons se_str ?_ ?_
    · refine se_callT cd_list (by exact rfl) (by exact E.n_list) bt_list ?_
      refine sa_cons ?_ sa_nil
      refine se_slice (by exact rfl) ?_ so_none ?_
      · exact se_v 0
      · exact so_some se_int
    · refine spz_cons se_str se_int ?_
      exact spz_cons se_str se_int spz_nil
  exact hF
def pb__law_draw : { b : List Stmt // b = defBody s__law_draw } := ⟨_, by conv => rhs; whnf⟩
def ps__law_draw : { b : Scope // b = defScope s__law_draw } := ⟨_, by conv => rhs; whnf⟩
theorem sc__law_draw : FnScope ["_law_pen_here", "_law_many", "_law_at", "_law_cell", "_law_mixed", "_law_digit"] ["_law_pen_here", "_law_many"] ps__law_draw.1 := ⟨rfl, rfl, rfl, by decide +kernel, rfl, by decide +kernel, by decide +kernel⟩
theorem bi__law_draw (E : Env K mg) : Binds K E.fd__law_draw ["_law_pen_here", "_law_many"] [] := E.F__law_draw.bindsN fun _ _ _ _ _ _ us hl => match us, hl with | [_, _], _ => rfl
theorem ok__law_draw (E : Env K mg) : FnOk P w K mg base (L2.CX P w) 1 (ga K "_law_draw") E.fd__law_draw ["_law_pen_here", "_law_many"] (spF (wd K) 2 d__law_draw) := by
  have NN := sc__law_draw.nd
  have FF := E.F__law_draw
  rw [← pb__law_draw.2, ← ps__law_draw.2] at FF
  have hF : FnOk P w K mg base (L2.CX P w) 1 (ga K "_law_draw") E.fd__law_draw ["_law_pen_here", "_law_many"] (spF (wd K) (["_law_pen_here", "_law_many"] : List Str).length (fnM (["_law_pen_here", "_law_many"] : List Str).length (["_law_pen_here", "_law_many", "_law_at", "_law_cell", "_law_mixed", "_law_digit"] : List Str).length d__law_draw_b)) := by
    refine fn_okD (N := ["_law_pen_here", "_law_many", "_law_at", "_law_cell", "_law_mixed", "_law_digit"]) (ps := ["_law_pen_here", "_law_many"]) (k := 0) (wd := wd K) (m := d__law_draw_b) FF sc__law_draw fun cdv A outer s H X0 hr tk => ?_
    have PO := passes_of (X := cxOf (L2.CX P w) P w K mg base ["_law_pen_here", "_law_many", "_law_at", "_law_cell", "_law_mixed", "_law_digit"] "_law_draw" ps__law_draw.1 (ga K "_law_draw") cdv A outer s H X0) rfl
    refine sss_cons ?_ ?_
    · refine ss_if ?_ ?_ sss_nil
      · refine st_cmp opd_ge ?_ ?_ (by exact rfl)
        · refine se_dx (by exact (hu_of hr)) ?_ se_str
          exact se_v 0
        · exact se_v 1
      · refine sss_cons ?_ ?_
        · refine ss_set (by exact NN) (by exact rfl) (by exact (.inl rfl)) ?_
          refine se_bin opd_mod ?_ ?_
          · refine se_callT cd_int (by exact rfl) (by exact E.n_int) bt_int ?_
            refine sa_cons ?_ sa_nil
            refine se_dx (by exact (hu_of hr)) ?_ se_str
            exact se_v 0
          · exact se_v 1
        · refine sss_cons ?_ ?_
          · refine ss_put (set_dict (by exact (hu_of hr))) putD_dic (pv 0) se_str ?_
            refine sd_eat ?_
            refine se_bin opd_div ?_ ?_
            · refine se_dx (by exact (hu_of hr)) ?_ se_str
              exact se_v 0
            · exact se_v 1
          · refine sss_one ?_
            refine ss_ret ?_
            exact se_v 5
    · refine sss_cons ?_ ?_
      · refine ss_set (by exact NN) (by exact rfl) (by exact (.inl rfl)) ?_
        refine se_dx (by exact (hu_of hr)) ?_ se_str
        exact se_v 0
      · refine sss_cons ?_ ?_
        · refine ss_put (set_dict (by exact (hu_of hr))) putD_dic (pv 0) se_str ?_
          refine sd_eat ?_
          refine se_bin opd_add ?_ se_int
          exact se_v 2
        · refine sss_cons ?_ ?_
          · refine ss_set (by exact NN) (by exact rfl) (by exact (.inl rfl)) ?_
            refine se_bin opd_add ?_ se_int
            refine se_bin opd_mul se_int ?_
            exact se_v 2
          · refine sss_cons ?_ ?_
            · refine ss_if ?_ ?_ sss_nil
              · refine st_cmp (opd_ne (by exact hr.units)) ?_ ?_ (by exact rfl)
                · refine se_dx (by exact (hu_of hr)) ?_ se_str
                  exact se_v 0
                · exact se_lst sad_nil
              · refine sss_one ?_
                refine ss_set (by exact NN) (by exact rfl) (by exact (.inl rfl)) ?_
                refine se_ix ?_ ?_
                · refine se_dx (by exact (hu_of hr)) ?_ se_str
                  exact se_v 0
                · refine se_bin opd_mod ?_ ?_
                  · refine se_callT cd_int (by exact rfl) (by exact E.n_int) bt_int ?_
                    refine sa_cons ?_ sa_nil
                    exact se_v 2
                  · refine se_callB (cd_len (by exact rfl)) (by exact rfl) (by exact E.n_len) bt_len ?_
                    refine sa_cons ?_ sa_nil
                    refine se_dx (by exact (hu_of hr)) ?_ se_str
                    exact se_v 0
            · refine sss_cons ?_ ?_
              · refine ss_if ?_ ?_ sss_nil
                · refine SW.st ?_
                  refine sw_and ?_ ?_
                  · refine st_cmp opd_lt ?_ ?_ (by exact rfl)
                    · exact se_v 2
                    · refine se_callB (cd_len (by exact rfl)) (by exact rfl) (by exact E.n_len) bt_len ?_
                      refine sa_cons ?_ sa_nil
                      refine se_dx (by exact (hu_of hr)) ?_ se_str
                      exact se_v 0
                  · refine sw_and1 ?_
                    refine st_cmp opd_ge ?_ ?_ (by exact rfl)
                    · exact se_v 3
                    · exact se_bin opd_pow se_int se_int
                · refine sss_cons ?_ ?_
                  · refine ss_put (set_dict (by exact (hu_of hr))) putD_dic (pv 0) se_str ?_
                    refine sd_eat ?_
                    refine se_bin opd_div ?_ ?_
                    · refine se_bin opd_sub ?_ ?_
                      · exact se_v 3
                      · exact se_bin opd_pow se_int se_int
                    · exact se_v 1
                  · refine sss_one ?_
                    refine ss_ret ?_
                    refine se_bin opd_mod ?_ ?_
                    · refine se_callT cd_int (by exact rfl) (by exact E.n_int) bt_int ?_
                      refine sa_cons ?_ sa_nil
                      refine se_bin opd_sub ?_ ?_
                      · exact se_v 3
                      · exact se_bin opd_pow se_int se_int
                    · exact se_v 1
              · refine sss_cons ?_ ?_
                · refine ss_set (by exact NN) (by exact rfl) (by exact (.inl rfl)) ?_
                  refine se_bin opd_add ?_ se_int
                  refine se_bin opd_add ?_ ?_
                  · refine se_bin opd_add ?_ ?_
                    · refine se_bin opd_mul ?_ se_int
                      refine se_bin opd_mod ?_ se_int
                      refine se_callT cd_int (by exact rfl) (by exact E.n_int) bt_int ?_
                      refine sa_cons ?_ sa_nil
                      exact se_v 3
                    · refine se_bin opd_mul ?_ ?_
                      · refine se_bin opd_mul se_int ?_
                        exact se_v 2
                      · exact se_v 2
                  · refine se_bin opd_mul se_int ?_
                    exact se_v 2
                · refine sss_cons ?_ ?_
                  · refine ss_set (by exact NN) (by exact rfl) (by exact (.inl rfl)) ?_
                    refine se_bin opd_mod ?_ se_int
                    refine se_callT cd_int (by exact rfl) (by exact E.n_int) bt_int ?_
                    refine sa_cons ?_ sa_nil
                    exact se_v 4
                  · refine sss_cons ?_ ?_
                    · refine ss_set (by exact NN) (by exact rfl) (by exact (.inl rfl)) ?_
                      refine se_bin opd_mod ?_ se_int
                      refine se_callT cd_int (by exact rfl) (by exact E.n_int) bt_int ?_
                      refine sa_cons ?_ sa_nil
                      refine se_bin opd_mul ?_ ?_
                      · exact se_v 4
                      · refine se_bin opd_add ?_ se_int
                        exact se_v 4
                    · refine sss_one ?_
                      refine ss_ret ?_
                      refine se_bin opd_mod ?_ ?_
                      · refine se_callT cd_int (by exact rfl) (by exact E.n_int) bt_int ?_
                        refine sa_cons ?_ sa_nil
                        refine se_bin opd_div ?_ se_int
                        refine se_bin opd_mod ?_ se_int
                        refine se_callT cd_int (by exact rfl) (by exact E.n_int) bt_int ?_
                        refine sa_cons ?_ sa_nil
                        refine se_bin opd_mul ?_ ?_
                        · exact se_v 4
                        · exact se_v 4
                      · exact se_v 1
  exact hF
def pb__law_pick : { b : List Stmt // b = defBody s__law_pick } := ⟨_, by conv => rhs; whnf⟩
def ps__law_pick : { b : Scope // b = defScope s__law_pick } := ⟨_, by conv => rhs; whnf⟩
theorem sc__law_pick : FnScope ["_law_pen_here", "_law_items"] ["_law_pen_here", "_law_items"] ps__law_pick.1 := ⟨rfl, rfl, rfl, by decide +kernel, rfl, by decide +kernel, by decide +kernel⟩
theorem bi__law_pick (E : Env K mg) : Binds K E.fd__law_pick ["_law_pen_here", "_law_items"] [] := E.F__law_pick.bindsN fun _ _ _ _ _ _ us hl => match us, hl with | [_, _], _ => rfl
theorem ok__law_pick (E : Env K mg) : FnOk P w K mg base (L2.CX P w) 2 (ga K "_law_pick") E.fd__law_pick ["_law_pen_here", "_law_items"] (spF (wd K) 2 d__law_pick) := by
  have h__law_draw := ok__law_draw (P := P) (w := w) (base := base) E
  have b__law_draw := bi__law_draw E
  have NN := sc__law_pick.nd
  have FF := E.F__law_pick
  rw [← pb__law_pick.2, ← ps__law_pick.2] at FF
  have hF : FnOk P w K mg base (L2.CX P w) 2 (ga K "_law_pick") E.fd__law_pick ["_law_pen_here", "_law_items"] (spF (wd K) (["_law_pen_here", "_law_items"] : List Str).length (fnM (["_law_pen_here", "_law_items"] : List Str).length (["_law_pen_here", "_law_items"] : List Str).length d__law_pick_b)) := by
    refine fn_okD (N := ["_law_pen_here", "_law_items"]) (ps := ["_law_pen_here", "_law_items"]) (k := 1) (wd := wd K) (m := d__law_pick_b) FF sc__law_pick fun cdv A outer s H X0 hr tk => ?_
    have PO := passes_of (X := cxOf (L2.CX P w) P w K mg base ["_law_pen_here", "_law_items"] "_law_pick" ps__law_pick.1 (ga K "_law_pick") cdv A outer s H X0) rfl
    refine sss_one ?_
    refine ss_ret ?_
    refine se_ix ?_ ?_
    · exact se_v 1
    · refine se_call (as := [.bor 0, .val (eCallB dLen [(eVar 1)])]) (by exact h__law_draw) (by exact (hr.mono (by decide))) (by exact rfl) (by exact E.g__law_draw) (by exact E.F__law_draw.kp) (by exact b__law_draw) (by exact tk) ?_
      refine sa_cons ?_ ?_
      · exact se_v 0
      · refine sa_cons ?_ sa_nil
        refine se_callB (cd_len (by exact rfl)) (by exact rfl) (by exact E.n_len) bt_len ?_
        refine sa_cons ?_ sa_nil
        exact se_v 1
  exact hF
def pb__law_deeds : { b : List Stmt // b = defBody s__law_deeds } := ⟨_, by conv => rhs; whnf⟩
def ps__law_deeds : { b : Scope // b = defScope s__law_deeds } := ⟨_, by conv => rhs; whnf⟩
theorem sc__law_deeds : FnScope ["_law_pen_here", "_law_many", "_law_letters", "_law_stem", "_law_step_here", "_law_drawn", "_law_found", "_law_at", "_law_first", "_law_k", "_law_letter", "_law_word"] ["_law_pen_here", "_law_many"] ps__law_deeds.1 := ⟨rfl, rfl, rfl, by decide +kernel, rfl, by decide +kernel, by decide +kernel⟩
theorem bi__law_deeds (E : Env K mg) : Binds K E.fd__law_deeds ["_law_pen_here", "_law_many"] [] := E.F__law_deeds.bindsN fun _ _ _ _ _ _ us hl => match us, hl with | [_, _], _ => rfl
theorem ok__law_deeds (E : Env K mg) : FnOk P w K mg base (L2.CX P w) 3 (ga K "_law_deeds") E.fd__law_deeds ["_law_pen_here", "_law_many"] (spF (wd K) 2 d__law_deeds) := by
  have h__law_draw := ok__law_draw (P := P) (w := w) (base := base) E
  have b__law_draw := bi__law_draw E
  have h__law_pick := ok__law_pick (P := P) (w := w) (base := base) E
  have b__law_pick := bi__law_pick E
  have NN := sc__law_deeds.nd
  have FF := E.F__law_deeds
  rw [← pb__law_deeds.2, ← ps__law_deeds.2] at FF
  have hF : FnOk P w K mg base (L2.CX P w) 3 (ga K "_law_deeds") E.fd__law_deeds ["_law_pen_here", "_law_many"] (spF (wd K) (["_law_pen_here", "_law_many"] : List Str).length (fnM (["_law_pen_here", "_law_many"] : List Str).length (["_law_pen_here", "_law_many", "_law_letters", "_law_stem", "_law_step_here", "_law_drawn", "_law_found", "_law_at", "_law_first", "_law_k", "_law_letter", "_law_word"] : List Str).length d__law_deeds_b)) := by
    refine fn_okD (N := ["_law_pen_here", "_law_many", "_law_letters", "_law_stem", "_law_step_here", "_law_drawn", "_law_found", "_law_at", "_law_first", "_law_k", "_law_letter", "_law_word"]) (ps := ["_law_pen_here", "_law_many"]) (k := 2) (wd := wd K) (m := d__law_deeds_b) FF sc__law_deeds fun cdv A outer s H X0 hr tk => ?_
    have PO := passes_of (X := cxOf (L2.CX P w) P w K mg base ["_law_pen_here", "_law_many", "_law_letters", "_law_stem", "_law_step_here", "_law_drawn", "_law_found", "_law_at", "_law_first", "_law_k", "_law_letter", "_law_word"] "_law_deeds" ps__law_deeds.1 (ga K "_law_deeds") cdv A outer s H X0) rfl
    refine sss_cons ?_ ?_
    · exact ss_set (by exact NN) (by exact rfl) (by exact (.inr rfl)) se_str
    · refine sss_cons ?_ ?_
      · refine ss_set (by exact NN) (by exact rfl) (by exact (.inr rfl)) ?_
        refine se_join se_str ?_
        refine se_lc (own := [("_law_k", 9)]) (by exact rfl) (by exact NN) ?_ (by exact (blkOk_by rfl)) (fun _ _ _ _ _ => (sg_nm (by exact NN) (by exact rfl) (by exact (.inl rfl)))) ?_ ?_
        · refine IM.il ?_
          refine im_rng (by exact rfl) (by exact E.n_range) ?_
          refine se_call (as := [.bor 0, .val (eC (.int 8))]) (by exact h__law_draw) (by exact (hr.mono (by decide))) (by exact rfl) (by exact E.g__law_draw) (by exact E.F__law_draw.kp) (by exact b__law_draw) (by exact tk) ?_
          refine sa_cons ?_ ?_
          · exact se_v 0
          · exact sa_cons se_int sa_nil
        · intro _ _ _ _ _
          exact sts_nil
        · intro _ _ _ _ _
          refine sd_eat ?_
          refine se_call (as := [.bor 0, .val (eVar 2)]) (by exact h__law_pick) (by exact (hr.mono (by decide))) (by exact rfl) (by exact E.g__law_pick) (by exact E.F__law_pick.kp) (by exact b__law_pick) (by exact takes0) ?_
          refine sa_cons ?_ ?_
          · exact se_v 0
          · refine sa_cons ?_ sa_nil
            exact se_v 2
      · refine sss_cons ?_ ?_
        · refine ss_asg ?_ (sg_tup (by exact rfl) (sgs_cons (sg_nm (by exact NN) (by exact rfl) (by exact (.inr rfl))) (sgs_cons (sg_nm (by exact NN) (by exact rfl) (by exact (.inr rfl))) sgs_nil)))
          refine sd_eat ?_
          refine se_tup ?_
          refine sad_cons ?_ ?_
          · refine se_call (as := [.bor 0, .val (eBin dAdd (eCallB dLen [(eVar 3)]) (eC (.int 1)))]) (by exact h__law_draw) (by exact (hr.mono (by decide))) (by exact rfl) (by exact E.g__law_draw) (by exact E.F__law_draw.kp) (by exact b__law_draw) (by exact tk) ?_
            refine sa_cons ?_ ?_
            · exact se_v 0
            · refine sa_cons ?_ sa_nil
              refine se_bin opd_add ?_ se_int
              refine se_callB (cd_len (by exact rfl)) (by exact rfl) (by exact E.n_len) bt_len ?_
              refine sa_cons ?_ sa_nil
              exact se_v 3
          · refine sad_cons ?_ sad_nil
            refine se_call (as := [.bor 0, .val (eC (.int 26))]) (by exact h__law_draw) (by exact (hr.mono (by decide))) (by exact rfl) (by exact E.g__law_draw) (by exact E.F__law_draw.kp) (by exact b__law_draw) (by exact tk) ?_
            refine sa_cons ?_ ?_
            · exact se_v 0
            · exact sa_cons se_int sa_nil
        · refine sss_cons ?_ ?_
          · refine ss_set (by exact NN) (by exact rfl) (by exact (.inr rfl)) ?_
            refine se_call (as := [.bor 0, .val (eLst [(eC (.int 1)), (eC (.int 3)), (eC (.int 5)), (eC (.int 7)), (eC (.int 9)), (eC (.int 11))])]) (by exact h__law_pick) (by exact (hr.mono (by decide))) (by exact rfl) (by exact E.g__law_pick) (by exact E.F__law_pick.kp) (by exact b__law_pick) (by exact tk) ?_
            refine sa_cons ?_ ?_
            · exact se_v 0
            · refine sa_cons ?_ sa_nil
              refine se_lst ?_
              refine sad_cons se_int ?_
              refine sad_cons se_int ?_
              refine sad_cons se_int ?_
              refine sad_cons se_int ?_
              refine sad_cons se_int ?_
              exact sad_cons se_int sad_nil
          · refine sss_cons ?_ ?_
            · refine ss_setLc (own := [("_law_k", 9)]) (by exact rfl) (by exact NN) (by exact rfl) (by exact rfl) (by exact (sw_true rfl rfl rfl rfl)) ?_ (by exact (blkOk_by rfl)) (fun _ _ _ _ _ => (sg_nm (by exact NN) (by exact rfl) (by exact (.inl rfl)))) ?_ ?_
              · refine IM.il ?_
                exact im_rng (by exact rfl) (by exact E.n_range) se_int
              · intro _ _ _ _ _
                exact sts_nil
              · intro _ _ _ _ _
                refine sd_eat ?_
                refine se_ix ?_ ?_
                · exact se_v 2
                · refine se_bin opd_mod ?_ se_int
                  refine se_callT cd_int (by exact rfl) (by exact E.n_int) bt_int ?_
                  refine sa_cons ?_ sa_nil
                  refine se_bin opd_add ?_ ?_
                  · exact se_v 8
                  · refine se_bin opd_mul ?_ ?_
                    · exact se_v 4
                    · exact se_v 9
            · refine sss_cons ?_ ?_
              · refine ss_setLc (own := [("_law_letter", 10)]) (by exact rfl) (by exact NN) (by exact rfl) (by exact rfl) (by exact (sw_true rfl rfl rfl rfl)) ?_ (by exact (blkOk_by rfl)) (fun _ _ _ _ _ => (sg_nm (by exact NN) (by exact rfl) (by exact (.inl rfl)))) ?_ ?_
                · refine IM.il ?_
                  refine im_lst ?_
                  exact se_v 5
                · intro _ _ _ _ _
                  exact sts_nil
                · intro _ _ _ _ _
                  refine sd_eat ?_
                  refine se_bin opd_add ?_ ?_
                  · refine se_bin opd_add ?_ ?_
                    · refine se_slice (by exact rfl) ?_ so_none ?_
                      · exact se_v 3
                      · refine so_some ?_
                        exact se_v 7
                    · exact se_v 10
                  · refine se_slice (by exact rfl) ?_ ?_ so_none
                    · exact se_v 3
                    · refine so_some ?_
                      exact se_v 7
              · refine sss_one ?_
                refine ss_ret ?_
                refine se_slice (by exact rfl) ?_ so_none ?_
                · refine se_lc (own := [("_law_word", 11)]) (by exact rfl) (by exact NN) ?_ (by exact (blkOk_by rfl)) (fun _ _ _ _ _ => (sg_nm (by exact NN) (by exact rfl) (by exact (.inl rfl)))) ?_ ?_
                  · refine IM.il ?_
                    refine im_lst ?_
                    exact se_v 6
                  · intro _ _ _ _ _
                    refine sts_one ?_
                    refine st_cmp (opd_ne (by exact hr.units)) ?_ se_str (by exact rfl)
                    exact se_v 11
                  · intro _ _ _ _ _
                    refine sd_eat ?_
                    exact se_v 11
                · refine so_some ?_
                  exact se_v 1
  exact hF
def pb__law_size : { b : List Stmt // b = defBody s__law_size } := ⟨_, by conv => rhs; whnf⟩
def ps__law_size : { b : Scope // b = defScope s__law_size } := ⟨_, by conv => rhs; whnf⟩
theorem sc__law_size : FnScope ["_law_pen_here", "_law_sizes", "_law_digit", "_law_size_here", "_law_told"] ["_law_pen_here", "_law_sizes"] ps__law_size.1 := ⟨rfl, rfl, rfl, by decide +kernel, rfl, by decide +kernel, by decide +kernel⟩
theorem bi__law_size (E : Env K mg) : Binds K E.fd__law_size ["_law_pen_here", "_law_sizes"] [] := E.F__law_size.bindsN fun _ _ _ _ _ _ us hl => match us, hl with | [_, _], _ => rfl
theorem ok__law_size (E : Env K mg) : FnOk P w K mg base (L2.CX P w) 3 (ga K "_law_size") E.fd__law_size ["_law_pen_here", "_law_sizes"] (spF (wd K) 2 d__law_size) := by
  have h__law_pick := ok__law_pick (P := P) (w := w) (base := base) E
  have b__law_pick := bi__law_pick E
  have h__law_draw := ok__law_draw (P := P) (w := w) (base := base) E
  have b__law_draw := bi__law_draw E
  have NN := sc__law_size.nd
  have FF := E.F__law_size
  rw [← pb__law_size.2, ← ps__law_size.2] at FF
  have hF : FnOk P w K mg base (L2.CX P w) 3 (ga K "_law_size") E.fd__law_size ["_law_pen_here", "_law_sizes"] (spF (wd K) (["_law_pen_here", "_law_sizes"] : List Str).length (fnM (["_law_pen_here", "_law_sizes"] : List Str).length (["_law_pen_here", "_law_sizes", "_law_digit", "_law_size_here", "_law_told"] : List Str).length d__law_size_b)) := by
    refine fn_okD (N := ["_law_pen_here", "_law_sizes", "_law_digit", "_law_size_here", "_law_told"]) (ps := ["_law_pen_here", "_law_sizes"]) (k := 2) (wd := wd K) (m := d__law_size_b) FF sc__law_size fun cdv A outer s H X0 hr tk => ?_
    have PO := passes_of (X := cxOf (L2.CX P w) P w K mg base ["_law_pen_here", "_law_sizes", "_law_digit", "_law_size_here", "_law_told"] "_law_size" ps__law_size.1 (ga K "_law_size") cdv A outer s H X0) rfl
    refine sss_cons ?_ ?_
    · refine ss_par2 (by exact rfl) (by exact NN) (by exact rfl) (by exact rfl) (by decide) (by exact rfl) (by exact rfl) ?_ se_int (by exact rfl)
      refine se_call (as := [.bor 0, .val (eVar 1)]) (by exact h__law_pick) (by exact (hr.mono (by decide))) (by exact rfl) (by exact E.g__law_pick) (by exact E.F__law_pick.kp) (by exact b__law_pick) (by exact tk) ?_
      refine sa_cons ?_ ?_
      · exact se_v 0
      · refine sa_cons ?_ sa_nil
        exact se_v 1
    · refine sss_cons ?_ ?_
      · refine ss_for (by exact PO) (by exact rfl) ?_ (sg_nm (by exact NN) (by exact rfl) (by exact (.inl rfl))) ?_
        · exact im_rng (by exact rfl) (by exact E.n_range) se_int
        · refine sss_one ?_
          refine ss_set (by exact NN) (by exact rfl) (by exact (.inl rfl)) ?_
          refine se_bin opd_add ?_ ?_
          · refine se_bin opd_mul ?_ se_int
            exact se_v 4
          · refine se_call (as := [.bor 0, .val (eC (.int 1000003))]) (by exact h__law_draw) (by exact (hr.mono (by decide))) (by exact rfl) (by exact E.g__law_draw) (by exact E.F__law_draw.kp) (by exact b__law_draw) (by exact tk) ?_
            refine sa_cons ?_ ?_
            · exact se_v 0
            · exact sa_cons se_int sa_nil
      · refine sss_one ?_
        refine ss_ret ?_
        refine se_bin opd_mod ?_ ?_
        · refine se_callT cd_int (by exact rfl) (by exact E.n_int) bt_int ?_
          refine sa_cons ?_ sa_nil
          exact se_v 4
        · exact se_v 3
  exact hF
def pb__law_shop : { b : List Stmt // b = defBody s__law_shop } := ⟨_, by conv => rhs; whnf⟩
def ps__law_shop : { b : Scope // b = defScope s__law_shop } := ⟨_, by conv => rhs; whnf⟩
theorem sc__law_shop : FnScope ["_law_pen_here", "_law_deeds_here", "_law_plain", "_law_found", "_law_turn", "_law_deed", "_law_takes", "_law_gives", "_law_sort"] ["_law_pen_here", "_law_deeds_here", "_law_plain"] ps__law_shop.1 := ⟨rfl, rfl, rfl, by decide +kernel, rfl, by decide +kernel, by decide +kernel⟩
theorem bi__law_shop (E : Env K mg) : Binds K E.fd__law_shop ["_law_pen_here", "_law_deeds_here", "_law_plain"] [] := E.F__law_shop.bindsN fun _ _ _ _ _ _ us hl => match us, hl with | [_, _, _], _ => rfl
theorem ok__law_shop (E : Env K mg) : FnOk P w K mg base (L2.CX P w) 4 (ga K "_law_shop") E.fd__law_shop ["_law_pen_here", "_law_deeds_here", "_law_plain"] (spF (wd K) 3 d__law_shop) := by
  have h__law_draw := ok__law_draw (P := P) (w := w) (base := base) E
  have b__law_draw := bi__law_draw E
  have h__law_size := ok__law_size (P := P) (w := w) (base := base) E
  have b__law_size := bi__law_size E
  have NN := sc__law_shop.nd
  have FF := E.F__law_shop
  rw [← pb__law_shop.2, ← ps__law_shop.2] at FF
  have hF : FnOk P w K mg base (L2.CX P w) 4 (ga K "_law_shop") E.fd__law_shop ["_law_pen_here", "_law_deeds_here", "_law_plain"] (spF (wd K) (["_law_pen_here", "_law_deeds_here", "_law_plain"] : List Str).length (fnM (["_law_pen_here", "_law_deeds_here", "_law_plain"] : List Str).length (["_law_pen_here", "_law_deeds_here", "_law_plain", "_law_found", "_law_turn", "_law_deed", "_law_takes", "_law_gives", "_law_sort"] : List Str).length d__law_shop_b)) := by
    refine fn_okD (N := ["_law_pen_here", "_law_deeds_here", "_law_plain", "_law_found", "_law_turn", "_law_deed", "_law_takes", "_law_gives", "_law_sort"]) (ps := ["_law_pen_here", "_law_deeds_here", "_law_plain"]) (k := 3) (wd := wd K) (m := d__law_shop_b) FF sc__law_shop fun cdv A outer s H X0 hr tk => ?_
    have PO := passes_of (X := cxOf (L2.CX P w) P w K mg base ["_law_pen_here", "_law_deeds_here", "_law_plain", "_law_found", "_law_turn", "_law_deed", "_law_takes", "_law_gives", "_law_sort"] "_law_shop" ps__law_shop.1 (ga K "_law_shop") cdv A outer s H X0) rfl
    refine sss_cons ?_ ?_
    · refine ss_set (by exact NN) (by exact rfl) (by exact (.inl rfl)) ?_
      exact se_lst sad_nil
    · refine sss_cons ?_ ?_
      · refine ss_for (by exact PO) (by exact rfl) ?_ (sg_nm (by exact NN) (by exact rfl) (by exact (.inl rfl))) ?_
        · refine im_rng (by exact rfl) (by exact E.n_range) ?_
          refine se_call (as := [.bor 0, .val (eC (.int 4))]) (by exact h__law_draw) (by exact (hr.mono (by decide))) (by exact rfl) (by exact E.g__law_draw) (by exact E.F__law_draw.kp) (by exact b__law_draw) (by exact tk) ?_
          refine sa_cons ?_ ?_
          · exact se_v 0
          · exact sa_cons se_int sa_nil
        · refine sss_cons ?_ ?_
          · exact ss_par2 (by exact rfl) (by exact NN) (by exact rfl) (by exact rfl) (by decide) (by exact rfl) (by exact rfl) se_dic0 se_dic0 (by exact rfl)
          · refine sss_cons ?_ ?_
            · refine ss_for (by exact PO) (by exact rfl) ?_ (sg_nm (by exact NN) (by exact rfl) (by exact (.inl rfl))) ?_
              · refine im_lst ?_
                exact se_v 1
              · refine sss_cons ?_ ?_
                · refine ss_set (by exact NN) (by exact rfl) (by exact (.inl rfl)) ?_
                  refine se_call (as := [.bor 0, .val (eC (.int 4))]) (by exact h__law_draw) (by exact (hr.mono (by decide))) (by exact rfl) (by exact E.g__law_draw) (by exact E.F__law_draw.kp) (by exact b__law_draw) (by exact tk) ?_
                  refine sa_cons ?_ ?_
                  · exact se_v 0
                  · exact sa_cons se_int sa_nil
                · refine sss_cons ?_ ?_
                  · refine ss_if ?_ ?_ sss_nil
                    · refine st_cmp opd_lt ?_ se_int (by exact rfl)
                      exact se_v 8
                    · refine sss_one ?_
                      refine ss_put (set_dict (by exact (hu_of hr))) putD_dic (pv 6) ?_ ?_
                      · exact se_v 5
                      · refine sd_eat ?_
                        refine se_bin opd_add se_int ?_
                        refine se_call (as := [.bor 0, .val (eLst [(eC (.int 1)), (eC (.int 2)), (eC (.int 5)), (eC (.int 1000))])]) (by exact h__law_size) (by exact (hr.mono (by decide))) (by exact rfl) (by exact E.g__law_size) (by exact E.F__law_size.kp) (by exact b__law_size) (by exact tk) ?_
                        refine sa_cons ?_ ?_
                        · exact se_v 0
                        · refine sa_cons ?_ sa_nil
                          refine se_lst ?_
                          refine sad_cons se_int ?_
                          refine sad_cons se_int ?_
                          refine sad_cons se_int ?_
                          exact sad_cons se_int sad_nil
                  · refine sss_one ?_
                    refine ss_if ?_ ?_ sss_nil
                    · refine SW.st ?_
                      refine sw_or ?_ ?_
                      · refine st_cmp (opd_eq (by exact hr.units)) ?_ se_int (by exact rfl)
                        exact se_v 8
                      · refine sw_or1 ?_
                        refine SW.st ?_
                        refine sw_and ?_ ?_
                        · refine st_cmp (opd_eq (by exact hr.units)) ?_ se_int (by exact rfl)
                          exact se_v 8
                        · refine sw_and1 ?_
                          refine st_not ?_
                          refine st_val ?_
                          exact se_v 2
                    · refine sss_one ?_
                      refine ss_put (set_dict (by exact (hu_of hr))) putD_dic (pv 7) ?_ ?_
                      · exact se_v 5
                      · refine sd_eat ?_
                        refine se_bin opd_add se_int ?_
                        refine se_call (as := [.bor 0, .val (eLst [(eC (.int 1)), (eC (.int 2)), (eC (.int 5)), (eC (.int 1000))])]) (by exact h__law_size) (by exact (hr.mono (by decide))) (by exact rfl) (by exact E.g__law_size) (by exact E.F__law_size.kp) (by exact b__law_size) (by exact tk) ?_
                        refine sa_cons ?_ ?_
                        · exact se_v 0
                        · refine sa_cons ?_ sa_nil
                          refine se_lst ?_
                          refine sad_cons se_int ?_
                          refine sad_cons se_int ?_
                          refine sad_cons se_int ?_
                          exact sad_cons se_int sad_nil
            · refine sss_one ?_
              refine ss_append (pv 3) ?_
              refine sd_eat ?_
              refine se_tup ?_
              refine sad_cons ?_ ?_
              · refine se_call (as := [.bor 0, .val (eLst [(eC (.int 1)), (eC (.int 5)), (eC (.int 30)), (eC (.int 1000)), (eBin dPow (eC (.int 10)) (eC (.int 31)))])]) (by exact h__law_size) (by exact (hr.mono (by decide))) (by exact rfl) (by exact E.g__law_size) (by exact E.F__law_size.kp) (by exact b__law_size) (by exact tk) ?_
                refine sa_cons ?_ ?_
                · exact se_v 0
                · refine sa_cons ?_ sa_nil
                  refine se_lst ?_
                  refine sad_cons se_int ?_
                  refine sad_cons se_int ?_
                  refine sad_cons se_int ?_
                  refine sad_cons se_int ?_
                  refine sad_cons ?_ sad_nil
                  exact se_bin opd_pow se_int se_int
              · refine sad_cons ?_ ?_
                · exact se_v 6
                · refine sad_cons ?_ sad_nil
                  exact se_v 7
      · refine sss_one ?_
        refine ss_ret ?_
        exact se_v 3
  exact hF
def pb_Shop___init__ : { b : List Stmt // b = defBody s_Shop___init__ } := ⟨_, by conv => rhs; whnf⟩
def ps_Shop___init__ : { b : Scope // b = defScope s_Shop___init__ } := ⟨_, by conv => rhs; whnf⟩
theorem sc_Shop___init__ : FnScope ["self", "stores"] ["self", "stores"] ps_Shop___init__.1 := ⟨rfl, rfl, rfl, by decide +kernel, rfl, by decide +kernel, by decide +kernel⟩
theorem bi_Shop___init__ (E : Env K mg) : Binds K E.fd_Shop___init__ ["self", "stores"] [] := E.F_Shop___init__.bindsN fun _ _ _ _ _ _ us hl => match us, hl with | [_, _], _ => rfl
theorem ok_Shop___init__ (E : Env K mg) : FnOk P w K mg base (L2.CX P w) 1 (ma K (ga K "Shop") "__init__") E.fd_Shop___init__ ["self", "stores"] (spF (wd K) 2 d_Shop___init__) := by
  have NN := sc_Shop___init__.nd
  have FF := E.F_Shop___init__
  rw [← pb_Shop___init__.2, ← ps_Shop___init__.2] at FF
  have hF : FnOk P w K mg base (L2.CX P w) 1 (ma K (ga K "Shop") "__init__") E.fd_Shop___init__ ["self", "stores"] (spF (wd K) (["self", "stores"] : List Str).length (fnM (["self", "stores"] : List Str).length (["self", "stores"] : List Str).length d_Shop___init___b)) := by
    refine fn_okD (N := ["self", "stores"]) (ps := ["self", "stores"]) (k := 0) (wd := wd K) (m := d_Shop___init___b) FF sc_Shop___init__ fun cdv A outer s H X0 hr tk => ?_
    have PO := passes_of (X := cxOf (L2.CX P w) P w K mg base ["self", "stores"] "Shop.__init__" ps_Shop___init__.1 (ma K (ga K "Shop") "__init__") cdv A outer s H X0) rfl
    refine sss_one ?_
    refine ss_fld (c := 1) (pv 0) ?_ (by exact E.c_Shop) (by exact E.na_Shop_stores) (by exact rfl)
    refine sd_eat ?_
    refine se_callT cd_tuple (by exact rfl) (by exact E.n_tuple) bt_tuple ?_
    refine sa_cons ?_ sa_nil
    exact se_v 1
  exact hF
def pb_Store___init__ : { b : List Stmt // b = defBody s_Store___init__ } := ⟨_, by conv => rhs; whnf⟩
def ps_Store___init__ : { b : Scope // b = defScope s_Store___init__ } := ⟨_, by conv => rhs; whnf⟩
theorem sc_Store___init__ : FnScope ["self", "begin", "takes", "gives"] ["self", "begin", "takes", "gives"] ps_Store___init__.1 := ⟨rfl, rfl, rfl, by decide +kernel, rfl, by decide +kernel, by decide +kernel⟩
theorem bi_Store___init__ (E : Env K mg) : Binds K E.fd_Store___init__ ["self", "begin", "takes", "gives"] [] := E.F_Store___init__.bindsN fun _ _ _ _ _ _ us hl => match us, hl with | [_, _, _, _], _ => rfl
theorem ok_Store___init__ (E : Env K mg) : FnOk P w K mg base (L2.CX P w) 1 (ma K (ga K "Store") "__init__") E.fd_Store___init__ ["self", "begin", "takes", "gives"] (spF (wd K) 4 d_Store___init__) := by
  have NN := sc_Store___init__.nd
  have FF := E.F_Store___init__
  rw [← pb_Store___init__.2, ← ps_Store___init__.2] at FF
  have hF : FnOk P w K mg base (L2.CX P w) 1 (ma K (ga K "Store") "__init__") E.fd_Store___init__ ["self", "begin", "takes", "gives"] (spF (wd K) (["self", "begin", "takes", "gives"] : List Str).length (fnM (["self", "begin", "takes", "gives"] : List Str).length (["self", "begin", "takes", "gives"] : List Str).length d_Store___init___b)) := by
    refine fn_okD (N := ["self", "begin", "takes", "gives"]) (ps := ["self", "begin", "takes", "gives"]) (k := 0) (wd := wd K) (m := d_Store___init___b) FF sc_Store___init__ fun cdv A outer s H X0 hr tk => ?_
    have PO := passes_of (X := cxOf (L2.CX P w) P w K mg base ["self", "begin", "takes", "gives"] "Store.__init__" ps_Store___init__.1 (ma K (ga K "Store") "__init__") cdv A outer s H X0) rfl
    refine sss_cons ?_ ?_
    · refine ss_fld (c := 2) (pv 0) ?_ (by exact E.c_Store) (by exact E.na_Store_begin) (by exact rfl)
      refine sd_eat ?_
      exact se_v 1
    · refine sss_cons ?_ ?_
      · refine ss_fld (c := 2) (pv 0) ?_ (by exact E.c_Store) (by exact E.na_Store_takes) (by exact rfl)
        refine sd_eat ?_
        exact se_v 2
      · refine sss_one ?_
        refine ss_fld (c := 2) (pv 0) ?_ (by exact E.c_Store) (by exact E.na_Store_gives) (by exact rfl)
        refine sd_eat ?_
        exact se_v 3
  exact hF
def pb_ascending : { b : List Stmt // b = defBody s_ascending } := ⟨_, by conv => rhs; whnf⟩
def ps_ascending : { b : Scope // b = defScope s_ascending } := ⟨_, by conv => rhs; whnf⟩
theorem sc_ascending : FnScope ["words", "word"] ["words"] ps_ascending.1 := ⟨rfl, rfl, rfl, by decide +kernel, rfl, by decide +kernel, by decide +kernel⟩
theorem bi_ascending (E : Env K mg) : Binds K E.fd_ascending ["words"] [] := E.F_ascending.bindsN fun _ _ _ _ _ _ us hl => match us, hl with | [_], _ => rfl
theorem ok_ascending (E : Env K mg) : FnOk P w K mg base (L2.CX P w) 1 (ga K "ascending") E.fd_ascending ["words"] (spF (wd K) 1 d_ascending) := by
  have NN := sc_ascending.nd
  have FF := E.F_ascending
  rw [← pb_ascending.2, ← ps_ascending.2] at FF
  have hF : FnOk P w K mg base (L2.CX P w) 1 (ga K "ascending") E.fd_ascending ["words"] (spF (wd K) (["words"] : List Str).length (fnM (["words"] : List Str).length (["words", "word"] : List Str).length d_ascending_b)) := by
    refine fn_okD (N := ["words", "word"]) (ps := ["words"]) (k := 0) (wd := wd K) (m := d_ascending_b) FF sc_ascending fun cdv A outer s H X0 hr tk => ?_
    have PO := passes_of (X := cxOf (L2.CX P w) P w K mg base ["words", "word"] "ascending" ps_ascending.1 (ga K "ascending") cdv A outer s H X0) rfl
    refine sss_one ?_
    refine ss_ret ?_
    refine se_callB cd_sorted (by exact rfl) (by exact E.n_sorted) bt_sorted ?_
    refine sa_cons ?_ sa_nil
    refine se_lc (own := [("word", 1)]) (by exact rfl) (by exact NN) ?_ (by exact (blkOk_by rfl)) (fun _ _ _ _ _ => (sg_nm (by exact NN) (by exact rfl) (by exact (.inl rfl)))) ?_ ?_
    · refine il_keys ?_
      refine se_dc (own := [("word", 1)]) (by exact rfl) (by exact NN) ?_ (by exact (blkOk_by rfl)) (fun _ _ _ _ _ => (sg_nm (by exact NN) (by exact rfl) (by exact (.inl rfl)))) ?_ ?_ ?_
      · refine il_keys ?_
        exact se_v 0
      · intro _ _ _ _ _
        exact sts_nil
      · intro _ _ _ _ _
        refine sd_eat ?_
        exact se_v 1
      · intro _ _ _ _ _
        exact sd_eat se_bl
    · intro _ _ _ _ _
      exact sts_nil
    · intro _ _ _ _ _
      refine sd_eat ?_
      refine se_callT cd_str (by exact rfl) (by exact E.n_str) bt_str ?_
      refine sa_cons ?_ sa_nil
      exact se_v 1
  exact hF
def pb_cleaned : { b : List Stmt // b = defBody s_cleaned } := ⟨_, by conv => rhs; whnf⟩
def ps_cleaned : { b : Scope // b = defScope s_cleaned } := ⟨_, by conv => rhs; whnf⟩
theorem sc_cleaned : FnScope ["parts", "word"] ["parts"] ps_cleaned.1 := ⟨rfl, rfl, rfl, by decide +kernel, rfl, by decide +kernel, by decide +kernel⟩
theorem bi_cleaned (E : Env K mg) : Binds K E.fd_cleaned ["parts"] [] := E.F_cleaned.bindsN fun _ _ _ _ _ _ us hl => match us, hl with | [_], _ => rfl
theorem ok_cleaned (E : Env K mg) : FnOk P w K mg base (L2.CX P w) 2 (ga K "cleaned") E.fd_cleaned ["parts"] (spF (wd K) 1 d_cleaned) := by
  have h_ascending := ok_ascending (P := P) (w := w) (base := base) E
  have b_ascending := bi_ascending E
  have NN := sc_cleaned.nd
  have FF := E.F_cleaned
  rw [← pb_cleaned.2, ← ps_cleaned.2] at FF
  have hF : FnOk P w K mg base (L2.CX P w) 2 (ga K "cleaned") E.fd_cleaned ["parts"] (spF (wd K) (["parts"] : List Str).length (fnM (["parts"] : List Str).length (["parts", "word"] : List Str).length d_cleaned_b)) := by
    refine fn_okD (N := ["parts", "word"]) (ps := ["parts"]) (k := 1) (wd := wd K) (m := d_cleaned_b) FF sc_cleaned fun cdv A outer s H X0 hr tk => ?_
    have PO := passes_of (X := cxOf (L2.CX P w) P w K mg base ["parts", "word"] "cleaned" ps_cleaned.1 (ga K "cleaned") cdv A outer s H X0) rfl
    refine sss_one ?_
    refine ss_ret ?_
    refine se_dc (own := [("word", 1)]) (by exact rfl) (by exact NN) ?_ (by exact (blkOk_by rfl)) (fun _ _ _ _ _ => (sg_nm (by exact NN) (by exact rfl) (by exact (.inl rfl)))) ?_ ?_ ?_
    · refine IM.il ?_
      refine im_lst ?_
      refine se_call (as := [.val (eVar 0)]) (by exact h_ascending) (by exact (hr.mono (by decide))) (by exact rfl) (by exact E.g_ascending) (by exact E.F_ascending.kp) (by exact b_ascending) (by exact tk) ?_
      refine sa_cons ?_ sa_nil
      exact se_v 0
    · intro _ _ _ _ _
      refine sts_one ?_
      refine st_cmp opd_gt ?_ se_int (by exact rfl)
      refine se_dx (by exact (hu_of hr)) ?_ ?_
      · exact se_v 0
      · exact se_v 1
    · intro _ _ _ _ _
      refine sd_eat ?_
      exact se_v 1
    · intro _ _ _ _ _
      refine sd_eat ?_
      refine se_dx (by exact (hu_of hr)) ?_ ?_
      · exact se_v 0
      · exact se_v 1
  exact hF
def pb_Bag___init__ : { b : List Stmt // b = defBody s_Bag___init__ } := ⟨_, by conv => rhs; whnf⟩
def ps_Bag___init__ : { b : Scope // b = defScope s_Bag___init__ } := ⟨_, by conv => rhs; whnf⟩
theorem sc_Bag___init__ : FnScope ["self", "parts"] ["self", "parts"] ps_Bag___init__.1 := ⟨rfl, rfl, rfl, by decide +kernel, rfl, by decide +kernel, by decide +kernel⟩
theorem bi_Bag___init__ (E : Env K mg) : Binds K E.fd_Bag___init__ ["self", "parts"] [] := E.F_Bag___init__.bindsN fun _ _ _ _ _ _ us hl => match us, hl with | [_, _], _ => rfl
theorem ok_Bag___init__ (E : Env K mg) : FnOk P w K mg base (L2.CX P w) 3 (ma K (ga K "Bag") "__init__") E.fd_Bag___init__ ["self", "parts"] (spF (wd K) 2 d_Bag___init__) := by
  have h_cleaned := ok_cleaned (P := P) (w := w) (base := base) E
  have b_cleaned := bi_cleaned E
  have NN := sc_Bag___init__.nd
  have FF := E.F_Bag___init__
  rw [← pb_Bag___init__.2, ← ps_Bag___init__.2] at FF
  have hF : FnOk P w K mg base (L2.CX P w) 3 (ma K (ga K "Bag") "__init__") E.fd_Bag___init__ ["self", "parts"] (spF (wd K) (["self", "parts"] : List Str).length (fnM (["self", "parts"] : List Str).length (["self", "parts"] : List Str).length d_Bag___init___b)) := by
    refine fn_okD (N := ["self", "parts"]) (ps := ["self", "parts"]) (k := 2) (wd := wd K) (m := d_Bag___init___b) FF sc_Bag___init__ fun cdv A outer s H X0 hr tk => ?_
    have PO := passes_of (X := cxOf (L2.CX P w) P w K mg base ["self", "parts"] "Bag.__init__" ps_Bag___init__.1 (ma K (ga K "Bag") "__init__") cdv A outer s H X0) rfl
    refine sss_one ?_
    refine ss_fld (c := 0) (pv 0) ?_ (by exact E.c_Bag) (by exact E.na_Bag_parts) (by exact rfl)
    refine sd_eat ?_
    refine se_call (as := [.val (eVar 1)]) (by exact h_cleaned) (by exact (hr.mono (by decide))) (by exact rfl) (by exact E.g_cleaned) (by exact E.F_cleaned.kp) (by exact b_cleaned) (by exact tk) ?_
    refine sa_cons ?_ sa_nil
    exact se_v 1
  exact hF
def pb__law_stores : { b : List Stmt // b = defBody s__law_stores } := ⟨_, by conv => rhs; whnf⟩
def ps__law_stores : { b : Scope // b = defScope s__law_stores } := ⟨_, by conv => rhs; whnf⟩
theorem sc__law_stores : FnScope ["_law_stores_here", "_law_begin", "_law_takes", "_law_gives"] ["_law_stores_here"] ps__law_stores.1 := ⟨rfl, rfl, rfl, by decide +kernel, rfl, by decide +kernel, by decide +kernel⟩
theorem bi__law_stores (E : Env K mg) : Binds K E.fd__law_stores ["_law_stores_here"] [] := E.F__law_stores.bindsN fun _ _ _ _ _ _ us hl => match us, hl with | [_], _ => rfl
theorem ok__law_stores (E : Env K mg) : FnOk P w K mg base (L2.CX P w) 5 (ga K "_law_stores") E.fd__law_stores ["_law_stores_here"] (spF (wd K) 1 d__law_stores) := by
  have h_Shop___init__ := ok_Shop___init__ (P := P) (w := w) (base := base) E
  have b_Shop___init__ := bi_Shop___init__ E
  have h_Store___init__ := ok_Store___init__ (P := P) (w := w) (base := base) E
  have b_Store___init__ := bi_Store___init__ E
  have h_Bag___init__ := ok_Bag___init__ (P := P) (w := w) (base := base) E
  have b_Bag___init__ := bi_Bag___init__ E
  have NN := sc__law_stores.nd
  have FF := E.F__law_stores
  rw [← pb__law_stores.2, ← ps__law_stores.2] at FF
  have hF : FnOk P w K mg base (L2.CX P w) 5 (ga K "_law_stores") E.fd__law_stores ["_law_stores_here"] (spF (wd K) (["_law_stores_here"] : List Str).length (fnM (["_law_stores_here"] : List Str).length (["_law_stores_here", "_law_begin", "_law_takes", "_law_gives"] : List Str).length d__law_stores_b)) := by
    refine fn_okD (N := ["_law_stores_here", "_law_begin", "_law_takes", "_law_gives"]) (ps := ["_law_stores_here"]) (k := 4) (wd := wd K) (m := d__law_stores_b) FF sc__law_stores fun cdv A outer s H X0 hr tk => ?_
    have PO := passes_of (X := cxOf (L2.CX P w) P w K mg base ["_law_stores_here", "_law_begin", "_law_takes", "_law_gives"] "_law_stores" ps__law_stores.1 (ga K "_law_stores") cdv A outer s H X0) rfl
    refine sss_one ?_
    refine ss_ret ?_
    refine se_make (c := 1) (as := [.val (eLc (iLstM (eVar 0)) (gTp (gsC (gNm 1) (gsC (gNm 2) (gsC (gNm 3) gs0))) 3) (retM true) (eEat (eMake 2 d_Store___init__ [.val (eVar 1), .val (eMake 0 d_Bag___init__ [.val (eVar 2)]), .val (eMake 0 d_Bag___init__ [.val (eVar 3)])])) [1, 2, 3])]) (by exact E.mk_Shop) (by exact h_Shop___init__) (by exact (hr.mono (by decide))) (by exact rfl) (by exact E.g_Shop) (by exact b_Shop___init__) (by exact tk) ?_
    refine sa_cons ?_ sa_nil
    refine se_lc (own := [("_law_begin", 1), ("_law_takes", 2), ("_law_gives", 3)]) (by exact rfl) (by exact NN) ?_ (by exact (blkOk_by rfl)) (fun _ _ _ _ _ => (sg_tup (by exact rfl) (sgs_cons (sg_nm (by exact NN) (by exact rfl) (by exact (.inl rfl))) (sgs_cons (sg_nm (by exact NN) (by exact rfl) (by exact (.inl rfl))) (sgs_cons (sg_nm (by exact NN) (by exact rfl) (by exact (.inl rfl))) sgs_nil))))) ?_ ?_
    · refine IM.il ?_
      refine im_lst ?_
      exact se_v 0
    · intro _ _ _ _ _
      exact sts_nil
    · intro _ _ _ _ _
      refine sd_eat ?_
      refine se_make (c := 2) (as := [.val (eVar 1), .val (eMake 0 d_Bag___init__ [.val (eVar 2)]), .val (eMake 0 d_Bag___init__ [.val (eVar 3)])]) (by exact E.mk_Store) (by exact h_Store___init__) (by exact (hr.mono (by decide))) (by exact rfl) (by exact E.g_Store) (by exact b_Store___init__) (by exact takes0) ?_
      refine sa_cons ?_ ?_
      · exact se_v 1
      · refine sa_cons ?_ ?_
        · refine se_make (c := 0) (as := [.val (eVar 2)]) (by exact E.mk_Bag) (by exact h_Bag___init__) (by exact (hr.mono (by decide))) (by exact rfl) (by exact E.g_Bag) (by exact b_Bag___init__) (by exact takes0) ?_
          refine sa_cons ?_ sa_nil
          exact se_v 2
        · refine sa_cons ?_ sa_nil
          refine se_make (c := 0) (as := [.val (eVar 3)]) (by exact E.mk_Bag) (by exact h_Bag___init__) (by exact (hr.mono (by decide))) (by exact rfl) (by exact E.g_Bag) (by exact b_Bag___init__) (by exact takes0) ?_
          refine sa_cons ?_ sa_nil
          exact se_v 3
  exact hF
def pb_Store_plain : { b : List Stmt // b = defBody s_Store_plain } := ⟨_, by conv => rhs; whnf⟩
def ps_Store_plain : { b : Scope // b = defScope s_Store_plain } := ⟨_, by conv => rhs; whnf⟩
theorem sc_Store_plain : FnScope ["self", "word"] ["self"] ps_Store_plain.1 := ⟨rfl, rfl, rfl, by decide +kernel, rfl, by decide +kernel, by decide +kernel⟩
theorem bi_Store_plain (E : Env K mg) : Binds K E.fd_Store_plain ["self"] [] := E.F_Store_plain.bindsN fun _ _ _ _ _ _ us hl => match us, hl with | [_], _ => rfl
theorem ok_Store_plain (E : Env K mg) : FnOk P w K mg base (L2.CX P w) 1 (getAd K "Store" "plain") E.fd_Store_plain ["self"] (spF (wd K) 1 d_Store_plain) := by
  have NN := sc_Store_plain.nd
  have FF := E.F_Store_plain
  rw [← pb_Store_plain.2, ← ps_Store_plain.2] at FF
  have hF : FnOk P w K mg base (L2.CX P w) 1 (getAd K "Store" "plain") E.fd_Store_plain ["self"] (spF (wd K) (["self"] : List Str).length (fnM (["self"] : List Str).length (["self", "word"] : List Str).length d_Store_plain_b)) := by
    refine fn_okD (N := ["self", "word"]) (ps := ["self"]) (k := 0) (wd := wd K) (m := d_Store_plain_b) FF sc_Store_plain fun cdv A outer s H X0 hr tk => ?_
    have PO := passes_of (X := cxOf (L2.CX P w) P w K mg base ["self", "word"] "Store.plain" ps_Store_plain.1 (getAd K "Store" "plain") cdv A outer s H X0) rfl
    refine sss_one ?_
    refine ss_ret ?_
    refine se_cmp (opd_eq (by exact hr.units)) ?_ ?_ (by exact rfl)
    · refine se_lc (own := [("word", 1)]) (by exact rfl) (by exact NN) ?_ (by exact (blkOk_by rfl)) (fun _ _ _ _ _ => (sg_nm (by exact NN) (by exact rfl) (by exact (.inl rfl)))) ?_ ?_
      · refine il_keys ?_
        refine se_fld (c := 0) ?_ (by exact E.c_Bag) (by exact E.na_Bag_parts) (by exact rfl) (by exact rfl)
        refine se_fld (c := 2) ?_ (by exact E.c_Store) (by exact E.na_Store_takes) (by exact rfl) (by exact rfl)
        exact se_v 0
      · intro _ _ _ _ _
        refine sts_one ?_
        refine st_cmp (opd_in (by exact (hu_of hr))) ?_ ?_ (by exact rfl)
        · exact se_v 1
        · refine se_fld (c := 0) ?_ (by exact E.c_Bag) (by exact E.na_Bag_parts) (by exact rfl) (by exact rfl)
          refine se_fld (c := 2) ?_ (by exact E.c_Store) (by exact E.na_Store_gives) (by exact rfl) (by exact rfl)
          exact se_v 0
      · intro _ _ _ _ _
        refine sd_eat ?_
        exact se_v 1
    · exact se_lst sad_nil
  exact hF
def pb_Shop___len__ : { b : List Stmt // b = defBody s_Shop___len__ } := ⟨_, by conv => rhs; whnf⟩
def ps_Shop___len__ : { b : Scope // b = defScope s_Shop___len__ } := ⟨_, by conv => rhs; whnf⟩
theorem sc_Shop___len__ : FnScope ["self"] ["self"] ps_Shop___len__.1 := ⟨rfl, rfl, rfl, by decide +kernel, rfl, by decide +kernel, by decide +kernel⟩
theorem bi_Shop___len__ (E : Env K mg) : Binds K E.fd_Shop___len__ ["self"] [] := E.F_Shop___len__.bindsN fun _ _ _ _ _ _ us hl => match us, hl with | [_], _ => rfl
theorem ok_Shop___len__ (E : Env K mg) : FnOk P w K mg base (L2.CX P w) 1 (ma K (ga K "Shop") "__len__") E.fd_Shop___len__ ["self"] (spF (wd K) 1 d_Shop___len__) := by
  have NN := sc_Shop___len__.nd
  have FF := E.F_Shop___len__
  rw [← pb_Shop___len__.2, ← ps_Shop___len__.2] at FF
  have hF : FnOk P w K mg base (L2.CX P w) 1 (ma K (ga K "Shop") "__len__") E.fd_Shop___len__ ["self"] (spF (wd K) (["self"] : List Str).length (fnM (["self"] : List Str).length (["self"] : List Str).length d_Shop___len___b)) := by
    refine fn_okD (N := ["self"]) (ps := ["self"]) (k := 0) (wd := wd K) (m := d_Shop___len___b) FF sc_Shop___len__ fun cdv A outer s H X0 hr tk => ?_
    have PO := passes_of (X := cxOf (L2.CX P w) P w K mg base ["self"] "Shop.__len__" ps_Shop___len__.1 (ma K (ga K "Shop") "__len__") cdv A outer s H X0) rfl
    refine sss_one ?_
    refine ss_ret ?_
    refine se_callB (cd_len (by exact rfl)) (by exact rfl) (by exact E.n_len) bt_len ?_
    refine sa_cons ?_ sa_nil
    refine se_fld (c := 1) ?_ (by exact E.c_Shop) (by exact E.na_Shop_stores) (by exact rfl) (by exact rfl)
    exact se_v 0
  exact hF
def pb_is_plain : { b : List Stmt // b = defBody s_is_plain } := ⟨_, by conv => rhs; whnf⟩
def ps_is_plain : { b : Scope // b = defScope s_is_plain } := ⟨_, by conv => rhs; whnf⟩
theorem sc_is_plain : FnScope ["store", "word"] ["store"] ps_is_plain.1 := ⟨rfl, rfl, rfl, by decide +kernel, rfl, by decide +kernel, by decide +kernel⟩
theorem bi_is_plain (E : Env K mg) : Binds K E.fd_is_plain ["store"] [] := E.F_is_plain.bindsN fun _ _ _ _ _ _ us hl => match us, hl with | [_], _ => rfl
theorem ok_is_plain (E : Env K mg) : FnOk P w K mg base (L2.CX P w) 1 (ga K "is_plain") E.fd_is_plain ["store"] (spF (wd K) 1 d_is_plain) := by
  have NN := sc_is_plain.nd
  have FF := E.F_is_plain
  rw [← pb_is_plain.2, ← ps_is_plain.2] at FF
  have hF : FnOk P w K mg base (L2.CX P w) 1 (ga K "is_plain") E.fd_is_plain ["store"] (spF (wd K) (["store"] : List Str).length (fnM (["store"] : List Str).length (["store", "word"] : List Str).length d_is_plain_b)) := by
    refine fn_okD (N := ["store", "word"]) (ps := ["store"]) (k := 0) (wd := wd K) (m := d_is_plain_b) FF sc_is_plain fun cdv A outer s H X0 hr tk => ?_
    have PO := passes_of (X := cxOf (L2.CX P w) P w K mg base ["store", "word"] "is_plain" ps_is_plain.1 (ga K "is_plain") cdv A outer s H X0) rfl
    refine sss_one ?_
    refine ss_ret ?_
    refine se_cmp (opd_eq (by exact hr.units)) ?_ ?_ (by exact rfl)
    · refine se_lc (own := [("word", 1)]) (by exact rfl) (by exact NN) ?_ (by exact (blkOk_by rfl)) (fun _ _ _ _ _ => (sg_nm (by exact NN) (by exact rfl) (by exact (.inl rfl)))) ?_ ?_
      · refine il_keys ?_
        refine se_fld (c := 0) ?_ (by exact E.c_Bag) (by exact E.na_Bag_parts) (by exact rfl) (by exact rfl)
        refine se_fld (c := 2) ?_ (by exact E.c_Store) (by exact E.na_Store_takes) (by exact rfl) (by exact rfl)
        exact se_v 0
      · intro _ _ _ _ _
        refine sts_one ?_
        refine st_cmp (opd_in (by exact (hu_of hr))) ?_ ?_ (by exact rfl)
        · exact se_v 1
        · refine se_fld (c := 0) ?_ (by exact E.c_Bag) (by exact E.na_Bag_parts) (by exact rfl) (by exact rfl)
          refine se_fld (c := 2) ?_ (by exact E.c_Store) (by exact E.na_Store_gives) (by exact rfl) (by exact rfl)
          exact se_v 0
      · intro _ _ _ _ _
        refine sd_eat ?_
        exact se_v 1
    · exact se_lst sad_nil
  exact hF
def pb_Shop_plain : { b : List Stmt // b = defBody s_Shop_plain } := ⟨_, by conv => rhs; whnf⟩
def ps_Shop_plain : { b : Scope // b = defScope s_Shop_plain } := ⟨_, by conv => rhs; whnf⟩
theorem sc_Shop_plain : FnScope ["self", "store"] ["self"] ps_Shop_plain.1 := ⟨rfl, rfl, rfl, by decide +kernel, rfl, by decide +kernel, by decide +kernel⟩
theorem bi_Shop_plain (E : Env K mg) : Binds K E.fd_Shop_plain ["self"] [] := E.F_Shop_plain.bindsN fun _ _ _ _ _ _ us hl => match us, hl with | [_], _ => rfl
theorem ok_Shop_plain (E : Env K mg) : FnOk P w K mg base (L2.CX P w) 2 (getAd K "Shop" "plain") E.fd_Shop_plain ["self"] (spF (wd K) 1 d_Shop_plain) := by
  have h_is_plain := ok_is_plain (P := P) (w := w) (base := base) E
  have b_is_plain := bi_is_plain E
  have NN := sc_Shop_plain.nd
  have FF := E.F_Shop_plain
  rw [← pb_Shop_plain.2, ← ps_Shop_plain.2] at FF
  have hF : FnOk P w K mg base (L2.CX P w) 2 (getAd K "Shop" "plain") E.fd_Shop_plain ["self"] (spF (wd K) (["self"] : List Str).length (fnM (["self"] : List Str).length (["self", "store"] : List Str).length d_Shop_plain_b)) := by
    refine fn_okD (N := ["self", "store"]) (ps := ["self"]) (k := 1) (wd := wd K) (m := d_Shop_plain_b) FF sc_Shop_plain fun cdv A outer s H X0 hr tk => ?_
    have PO := passes_of (X := cxOf (L2.CX P w) P w K mg base ["self", "store"] "Shop.plain" ps_Shop_plain.1 (getAd K "Shop" "plain") cdv A outer s H X0) rfl
    refine sss_one ?_
    refine ss_ret ?_
    refine se_cmp (opd_eq (by exact hr.units)) ?_ ?_ (by exact rfl)
    · refine se_lc (own := [("store", 1)]) (by exact rfl) (by exact NN) ?_ (by exact (blkOk_by rfl)) (fun _ _ _ _ _ => (sg_nm (by exact NN) (by exact rfl) (by exact (.inl rfl)))) ?_ ?_
      · refine IM.il ?_
        refine im_tup ?_
        refine se_fld (c := 1) ?_ (by exact E.c_Shop) (by exact E.na_Shop_stores) (by exact rfl) (by exact rfl)
        exact se_v 0
      · intro _ _ _ _ _
        refine sts_one ?_
        refine st_not ?_
        refine st_val ?_
        refine se_call (as := [.val (eVar 1)]) (by exact h_is_plain) (by exact (hr.mono (by decide))) (by exact rfl) (by exact E.g_is_plain) (by exact E.F_is_plain.kp) (by exact b_is_plain) (by exact takes0) ?_
        refine sa_cons ?_ sa_nil
        exact se_v 1
      · intro _ _ _ _ _
        refine sd_eat ?_
        exact se_v 1
    · exact se_lst sad_nil
  exact hF
def pb__law_counts : { b : List Stmt // b = defBody s__law_counts } := ⟨_, by conv => rhs; whnf⟩
def ps__law_counts : { b : Scope // b = defScope s__law_counts } := ⟨_, by conv => rhs; whnf⟩
theorem sc__law_counts : FnScope ["_law_pen_here", "_law_deeds_here", "_law_found", "_law_deed", "_law_number"] ["_law_pen_here", "_law_deeds_here"] ps__law_counts.1 := ⟨rfl, rfl, rfl, by decide +kernel, rfl, by decide +kernel, by decide +kernel⟩
theorem bi__law_counts (E : Env K mg) : Binds K E.fd__law_counts ["_law_pen_here", "_law_deeds_here"] [] := E.F__law_counts.bindsN fun _ _ _ _ _ _ us hl => match us, hl with | [_, _], _ => rfl
theorem ok__law_counts (E : Env K mg) : FnOk P w K mg base (L2.CX P w) 4 (ga K "_law_counts") E.fd__law_counts ["_law_pen_here", "_law_deeds_here"] (spF (wd K) 2 d__law_counts) := by
  have h__law_size := ok__law_size (P := P) (w := w) (base := base) E
  have b__law_size := bi__law_size E
  have NN := sc__law_counts.nd
  have FF := E.F__law_counts
  rw [← pb__law_counts.2, ← ps__law_counts.2] at FF
  have hF : FnOk P w K mg base (L2.CX P w) 4 (ga K "_law_counts") E.fd__law_counts ["_law_pen_here", "_law_deeds_here"] (spF (wd K) (["_law_pen_here", "_law_deeds_here"] : List Str).length (fnM (["_law_pen_here", "_law_deeds_here"] : List Str).length (["_law_pen_here", "_law_deeds_here", "_law_found", "_law_deed", "_law_number"] : List Str).length d__law_counts_b)) := by
    refine fn_okD (N := ["_law_pen_here", "_law_deeds_here", "_law_found", "_law_deed", "_law_number"]) (ps := ["_law_pen_here", "_law_deeds_here"]) (k := 3) (wd := wd K) (m := d__law_counts_b) FF sc__law_counts fun cdv A outer s H X0 hr tk => ?_
    have PO := passes_of (X := cxOf (L2.CX P w) P w K mg base ["_law_pen_here", "_law_deeds_here", "_law_found", "_law_deed", "_law_number"] "_law_counts" ps__law_counts.1 (ga K "_law_counts") cdv A outer s H X0) rfl
    refine sss_cons ?_ ?_
    · exact ss_set (by exact NN) (by exact rfl) (by exact (.inl rfl)) se_dic0
    · refine sss_cons ?_ ?_
      · refine ss_for (by exact PO) (by exact rfl) ?_ (sg_nm (by exact NN) (by exact rfl) (by exact (.inl rfl))) ?_
        · refine im_lst ?_
          exact se_v 1
        · refine sss_cons ?_ ?_
          · refine ss_set (by exact NN) (by exact rfl) (by exact (.inl rfl)) ?_
            refine se_call (as := [.bor 0, .val (eLst [(eC (.int 1)), (eC (.int 3)), (eC (.int 100)), (eBin dPow (eC (.int 10)) (eC (.int 20))), (eBin dPow (eC (.int 10)) (eC (.int 40)))])]) (by exact h__law_size) (by exact (hr.mono (by decide))) (by exact rfl) (by exact E.g__law_size) (by exact E.F__law_size.kp) (by exact b__law_size) (by exact tk) ?_
            refine sa_cons ?_ ?_
            · exact se_v 0
            · refine sa_cons ?_ sa_nil
              refine se_lst ?_
              refine sad_cons se_int ?_
              refine sad_cons se_int ?_
              refine sad_cons se_int ?_
              refine sad_cons ?_ ?_
              · exact se_bin opd_pow se_int se_int
              · refine sad_cons ?_ sad_nil
                exact se_bin opd_pow se_int se_int
          · refine sss_one ?_
            refine ss_if ?_ ?_ sss_nil
            · refine st_cmp opd_gt ?_ se_int (by exact rfl)
              exact se_v 4
            · refine sss_one ?_
              refine ss_put (set_dict (by exact (hu_of hr))) putD_dic (pv 2) ?_ ?_
              · exact se_v 3
              · refine sd_eat ?_
                exact se_v 4
      · refine sss_one ?_
        refine ss_ret ?_
        exact se_v 2
  exact hF
def pb__law_plus : { b : List Stmt // b = defBody s__law_plus } := ⟨_, by conv => rhs; whnf⟩
def ps__law_plus : { b : Scope // b = defScope s__law_plus } := ⟨_, by conv => rhs; whnf⟩
theorem sc__law_plus : FnScope ["_law_one", "_law_more", "_law_times", "_law_found", "_law_word", "_law_number"] ["_law_one", "_law_more", "_law_times"] ps__law_plus.1 := ⟨rfl, rfl, rfl, by decide +kernel, rfl, by decide +kernel, by decide +kernel⟩
theorem bi__law_plus (E : Env K mg) : Binds K E.fd__law_plus ["_law_one", "_law_more", "_law_times"] [] := E.F__law_plus.bindsN fun _ _ _ _ _ _ us hl => match us, hl with | [_, _, _], _ => rfl
theorem ok__law_plus (E : Env K mg) : FnOk P w K mg base (L2.CX P w) 1 (ga K "_law_plus") E.fd__law_plus ["_law_one", "_law_more", "_law_times"] (spF (wd K) 3 d__law_plus) := by
  have NN := sc__law_plus.nd
  have FF := E.F__law_plus
  rw [← pb__law_plus.2, ← ps__law_plus.2] at FF
  have hF : FnOk P w K mg base (L2.CX P w) 1 (ga K "_law_plus") E.fd__law_plus ["_law_one", "_law_more", "_law_times"] (spF (wd K) (["_law_one", "_law_more", "_law_times"] : List Str).length (fnM (["_law_one", "_law_more", "_law_times"] : List Str).length (["_law_one", "_law_more", "_law_times", "_law_found", "_law_word", "_law_number"] : List Str).length d__law_plus_b)) := by
    refine fn_okD (N := ["_law_one", "_law_more", "_law_times", "_law_found", "_law_word", "_law_number"]) (ps := ["_law_one", "_law_more", "_law_times"]) (k := 0) (wd := wd K) (m := d__law_plus_b) FF sc__law_plus fun cdv A outer s H X0 hr tk => ?_
    have PO := passes_of (X := cxOf (L2.CX P w) P w K mg base ["_law_one", "_law_more", "_law_times", "_law_found", "_law_word", "_law_number"] "_law_plus" ps__law_plus.1 (ga K "_law_plus") cdv A outer s H X0) rfl
    refine sss_cons ?_ ?_
    · exact ss_set (by exact NN) (by exact rfl) (by exact (.inl rfl)) se_dic0
    · refine sss_cons ?_ ?_
      · refine ss_for (by exact PO) (by exact rfl) ?_ (sg_nm (by exact NN) (by exact rfl) (by exact (.inl rfl))) ?_
        · refine im_lst ?_
          refine se_bin opd_add ?_ ?_
          · refine se_callT (cd_listK (by exact rfl)) (by exact rfl) (by exact E.n_list) bt_list ?_
            refine sa_cons ?_ sa_nil
            exact se_v 0
          · refine se_callT (cd_listK (by exact rfl)) (by exact rfl) (by exact E.n_list) bt_list ?_
            refine sa_cons ?_ sa_nil
            exact se_v 1
        · refine sss_cons ?_ ?_
          · refine ss_set (by exact NN) (by exact rfl) (by exact (.inl rfl)) ?_
            refine se_bin opd_add ?_ ?_
            · refine se_get (by exact (hu_of hr)) ?_ ?_ se_int (by exact ⟨rfl, rfl, rfl, rfl⟩)
              · exact se_v 0
              · exact se_v 4
            · refine se_bin opd_mul ?_ ?_
              · exact se_v 2
              · refine se_get (by exact (hu_of hr)) ?_ ?_ se_int (by exact ⟨rfl, rfl, rfl, rfl⟩)
                · exact se_v 1
                · exact se_v 4
          · refine sss_one ?_
            refine ss_if ?_ ?_ sss_nil
            · refine st_cmp (opd_ne (by exact hr.units)) ?_ se_int (by exact rfl)
              exact se_v 5
            · refine sss_one ?_
              refine ss_put (set_dict (by exact (hu_of hr))) putD_dic (pv 3) ?_ ?_
              · exact se_v 4
              · refine sd_eat ?_
                exact se_v 5
      · refine sss_one ?_
        refine ss_ret ?_
        exact se_v 3
  exact hF
def pb__law_step : { b : List Stmt // b = defBody s__law_step } := ⟨_, by conv => rhs; whnf⟩
def ps__law_step : { b : Scope // b = defScope s__law_step } := ⟨_, by conv => rhs; whnf⟩
theorem sc__law_step : FnScope ["_law_pen_here", "_law_deeds_here", "_law_many", "_law_step_here", "_law_turn"] ["_law_pen_here", "_law_deeds_here"] ps__law_step.1 := ⟨rfl, rfl, rfl, by decide +kernel, rfl, by decide +kernel, by decide +kernel⟩
theorem bi__law_step (E : Env K mg) : Binds K E.fd__law_step ["_law_pen_here", "_law_deeds_here"] [] := E.F__law_step.bindsN fun _ _ _ _ _ _ us hl => match us, hl with | [_, _], _ => rfl
theorem ok__law_step (E : Env K mg) : FnOk P w K mg base (L2.CX P w) 3 (ga K "_law_step") E.fd__law_step ["_law_pen_here", "_law_deeds_here"] (spF (wd K) 2 d__law_step) := by
  have h__law_pick := ok__law_pick (P := P) (w := w) (base := base) E
  have b__law_pick := bi__law_pick E
  have h__law_plus := ok__law_plus (P := P) (w := w) (base := base) E
  have b__law_plus := bi__law_plus E
  have NN := sc__law_step.nd
  have FF := E.F__law_step
  rw [← pb__law_step.2, ← ps__law_step.2] at FF
  have hF : FnOk P w K mg base (L2.CX P w) 3 (ga K "_law_step") E.fd__law_step ["_law_pen_here", "_law_deeds_here"] (spF (wd K) (["_law_pen_here", "_law_deeds_here"] : List Str).length (fnM (["_law_pen_here", "_law_deeds_here"] : List Str).length (["_law_pen_here", "_law_deeds_here", "_law_many", "_law_step_here", "_law_turn"] : List Str).length d__law_step_b)) := by
    refine fn_okD (N := ["_law_pen_here", "_law_deeds_here", "_law_many", "_law_step_here", "_law_turn"]) (ps := ["_law_pen_here", "_law_deeds_here"]) (k := 2) (wd := wd K) (m := d__law_step_b) FF sc__law_step fun cdv A outer s H X0 hr tk => ?_
    have PO := passes_of (X := cxOf (L2.CX P w) P w K mg base ["_law_pen_here", "_law_deeds_here", "_law_many", "_law_step_here", "_law_turn"] "_law_step" ps__law_step.1 (ga K "_law_step") cdv A outer s H X0) rfl
    refine sss_cons ?_ ?_
    · refine ss_set (by exact NN) (by exact rfl) (by exact (.inl rfl)) ?_
      refine se_call (as := [.bor 0, .val (eLst [(eC (.int 1)), (eC (.int 1)), (eC (.int 1)), (eC (.int 1)), (eC (.int 2))])]) (by exact h__law_pick) (by exact (hr.mono (by decide))) (by exact rfl) (by exact E.g__law_pick) (by exact E.F__law_pick.kp) (by exact b__law_pick) (by exact tk) ?_
      refine sa_cons ?_ ?_
      · exact se_v 0
      · refine sa_cons ?_ sa_nil
        refine se_lst ?_
        refine sad_cons se_int ?_
        refine sad_cons se_int ?_
        refine sad_cons se_int ?_
        refine sad_cons se_int ?_
        exact sad_cons se_int sad_nil
    · refine sss_cons ?_ ?_
      · refine ss_set (by exact NN) (by exact rfl) (by exact (.inl rfl)) ?_
        refine se_dispz ?_
        refine spz_cons ?_ ?_ spz_nil
        · refine se_call (as := [.bor 0, .val (eVar 1)]) (by exact h__law_pick) (by exact (hr.mono (by decide))) (by exact rfl) (by exact E.g__law_pick) (by exact E.F__law_pick.kp) (by exact b__law_pick) (by exact tk) ?_
          refine sa_cons ?_ ?_
          · exact se_v 0
          · refine sa_cons ?_ sa_nil
            exact se_v 1
        · refine se_call (as := [.bor 0, .val (eLst [(eC (.int 1)), (eC (.int 1)), (eC (.int 1)), (eC (.int 2)), (eC (.int 5)), (eBin dPow (eC (.int 10)) (eC (.int 6)))])]) (by exact h__law_pick) (by exact (hr.mono (by decide))) (by exact rfl) (by exact E.g__law_pick) (by exact E.F__law_pick.kp) (by exact b__law_pick) (by exact tk) ?_
          refine sa_cons ?_ ?_
          · exact se_v 0
          · refine sa_cons ?_ sa_nil
            refine se_lst ?_
            refine sad_cons se_int ?_
            refine sad_cons se_int ?_
            refine sad_cons se_int ?_
            refine sad_cons se_int ?_
            refine sad_cons se_int ?_
            refine sad_cons ?_ sad_nil
            exact se_bin opd_pow se_int se_int
      · refine sss_cons ?_ ?_
        · refine ss_for (by exact PO) (by exact rfl) ?_ (sg_nm (by exact NN) (by exact rfl) (by exact (.inl rfl))) ?_
          · refine im_rng (by exact rfl) (by exact E.n_range) ?_
            refine se_bin opd_sub ?_ se_int
            exact se_v 2
          · refine sss_one ?_
            refine ss_set (by exact NN) (by exact rfl) (by exact (.inl rfl)) ?_
            refine se_call (as := [.val (eVar 3), .val (eDisp [((eCall d__law_pick [.bor 0, .val (eVar 1)]), (eC (.int 1)))]), .val (eC (.int 1))]) (by exact h__law_plus) (by exact (hr.mono (by decide))) (by exact rfl) (by exact E.g__law_plus) (by exact E.F__law_plus.kp) (by exact b__law_plus) (by exact tk) ?_
            refine sa_cons ?_ ?_
            · exact se_v 3
            · refine sa_cons ?_ ?_
              · refine se_dispz ?_
                refine spz_cons ?_ se_int spz_nil
                refine se_call (as := [.bor 0, .val (eVar 1)]) (by exact h__law_pick) (by exact (hr.mono (by decide))) (by exact rfl) (by exact E.g__law_pick) (by exact E.F__law_pick.kp) (by exact b__law_pick) (by exact tk) ?_
                refine sa_cons ?_ ?_
                · exact se_v 0
                · refine sa_cons ?_ sa_nil
                  exact se_v 1
              · exact sa_cons se_int sa_nil
        · refine sss_one ?_
          refine ss_ret ?_
          exact se_v 3
  exact hF
def pb_taken : { b : List Stmt // b = defBody s_taken } := ⟨_, by conv => rhs; whnf⟩
def ps_taken : { b : Scope // b = defScope s_taken } := ⟨_, by conv => rhs; whnf⟩
theorem sc_taken : FnScope ["store", "parts", "word", "number"] ["store", "parts"] ps_taken.1 := ⟨rfl, rfl, rfl, by decide +kernel, rfl, by decide +kernel, by decide +kernel⟩
theorem bi_taken (E : Env K mg) : Binds K E.fd_taken ["store", "parts"] [] := E.F_taken.bindsN fun _ _ _ _ _ _ us hl => match us, hl with | [_, _], _ => rfl
theorem ok_taken (E : Env K mg) : FnOk P w K mg base (L2.CX P w) 1 (ga K "taken") E.fd_taken ["store", "parts"] (spF (wd K) 2 d_taken) := by
  have NN := sc_taken.nd
  have FF := E.F_taken
  rw [← pb_taken.2, ← ps_taken.2] at FF
  have hF : FnOk P w K mg base (L2.CX P w) 1 (ga K "taken") E.fd_taken ["store", "parts"] (spF (wd K) (["store", "parts"] : List Str).length (fnM (["store", "parts"] : List Str).length (["store", "parts", "word", "number"] : List Str).length d_taken_b)) := by
    refine fn_okD (N := ["store", "parts", "word", "number"]) (ps := ["store", "parts"]) (k := 0) (wd := wd K) (m := d_taken_b) FF sc_taken fun cdv A outer s H X0 hr tk => ?_
    have PO := passes_of (X := cxOf (L2.CX P w) P w K mg base ["store", "parts", "word", "number"] "taken" ps_taken.1 (ga K "taken") cdv A outer s H X0) rfl
    refine sss_one ?_
    refine ss_ret ?_
    refine se_callB (cd_sum (by exact rfl)) (by exact rfl) (by exact E.n_sum) bt_sum ?_
    refine sa_cons ?_ sa_nil
    refine se_lc (own := [("word", 2), ("number", 3)]) (by exact rfl) (by exact NN) ?_ (by exact (blkOk_by rfl)) (fun _ _ _ _ _ => (sg_tup (by exact rfl) (sgs_cons (sg_nm (by exact NN) (by exact rfl) (by exact (.inl rfl))) (sgs_cons (sg_nm (by exact NN) (by exact rfl) (by exact (.inl rfl))) sgs_nil)))) ?_ ?_
    · refine il_items ?_
      exact se_v 1
    · intro _ _ _ _ _
      exact sts_nil
    · intro _ _ _ _ _
      refine sd_eat ?_
      refine se_bin opd_mul ?_ ?_
      · refine se_get (by exact (hu_of hr)) ?_ ?_ se_int (by exact ⟨rfl, rfl, rfl, rfl⟩)
        · refine se_fld (c := 0) ?_ (by exact E.c_Bag) (by exact E.na_Bag_parts) (by exact rfl) (by exact rfl)
          refine se_fld (c := 2) ?_ (by exact E.c_Store) (by exact E.na_Store_takes) (by exact rfl) (by exact rfl)
          exact se_v 0
        · exact se_v 2
      · exact se_v 3
  exact hF
def pb_gained : { b : List Stmt // b = defBody s_gained } := ⟨_, by conv => rhs; whnf⟩
def ps_gained : { b : Scope // b = defScope s_gained } := ⟨_, by conv => rhs; whnf⟩
theorem sc_gained : FnScope ["store", "parts", "word", "number"] ["store", "parts"] ps_gained.1 := ⟨rfl, rfl, rfl, by decide +kernel, rfl, by decide +kernel, by decide +kernel⟩
theorem bi_gained (E : Env K mg) : Binds K E.fd_gained ["store", "parts"] [] := E.F_gained.bindsN fun _ _ _ _ _ _ us hl => match us, hl with | [_, _], _ => rfl
theorem ok_gained (E : Env K mg) : FnOk P w K mg base (L2.CX P w) 2 (ga K "gained") E.fd_gained ["store", "parts"] (spF (wd K) 2 d_gained) := by
  have h_taken := ok_taken (P := P) (w := w) (base := base) E
  have b_taken := bi_taken E
  have NN := sc_gained.nd
  have FF := E.F_gained
  rw [← pb_gained.2, ← ps_gained.2] at FF
  have hF : FnOk P w K mg base (L2.CX P w) 2 (ga K "gained") E.fd_gained ["store", "parts"] (spF (wd K) (["store", "parts"] : List Str).length (fnM (["store", "parts"] : List Str).length (["store", "parts", "word", "number"] : List Str).length d_gained_b)) := by
    refine fn_okD (N := ["store", "parts", "word", "number"]) (ps := ["store", "parts"]) (k := 1) (wd := wd K) (m := d_gained_b) FF sc_gained fun cdv A outer s H X0 hr tk => ?_
    have PO := passes_of (X := cxOf (L2.CX P w) P w K mg base ["store", "parts", "word", "number"] "gained" ps_gained.1 (ga K "gained") cdv A outer s H X0) rfl
    refine sss_one ?_
    refine ss_ret ?_
    refine se_bin opd_sub ?_ ?_
    · refine se_callB (cd_sum (by exact rfl)) (by exact rfl) (by exact E.n_sum) bt_sum ?_
      refine sa_cons ?_ sa_nil
      refine se_lc (own := [("word", 2), ("number", 3)]) (by exact rfl) (by exact NN) ?_ (by exact (blkOk_by rfl)) (fun _ _ _ _ _ => (sg_tup (by exact rfl) (sgs_cons (sg_nm (by exact NN) (by exact rfl) (by exact (.inl rfl))) (sgs_cons (sg_nm (by exact NN) (by exact rfl) (by exact (.inl rfl))) sgs_nil)))) ?_ ?_
      · refine il_items ?_
        exact se_v 1
      · intro _ _ _ _ _
        exact sts_nil
      · intro _ _ _ _ _
        refine sd_eat ?_
        refine se_bin opd_mul ?_ ?_
        · refine se_get (by exact (hu_of hr)) ?_ ?_ se_int (by exact ⟨rfl, rfl, rfl, rfl⟩)
          · refine se_fld (c := 0) ?_ (by exact E.c_Bag) (by exact E.na_Bag_parts) (by exact rfl) (by exact rfl)
            refine se_fld (c := 2) ?_ (by exact E.c_Store) (by exact E.na_Store_gives) (by exact rfl) (by exact rfl)
            exact se_v 0
          · exact se_v 2
        · exact se_v 3
    · refine se_call (as := [.val (eVar 0), .val (eVar 1)]) (by exact h_taken) (by exact (hr.mono (by decide))) (by exact rfl) (by exact E.g_taken) (by exact E.F_taken.kp) (by exact b_taken) (by exact tk) ?_
      refine sa_cons ?_ ?_
      · exact se_v 0
      · refine sa_cons ?_ sa_nil
        exact se_v 1
  exact hF
def pb_held : { b : List Stmt // b = defBody s_held } := ⟨_, by conv => rhs; whnf⟩
def ps_held : { b : Scope // b = defScope s_held } := ⟨_, by conv => rhs; whnf⟩
theorem sc_held : FnScope ["store", "parts"] ["store", "parts"] ps_held.1 := ⟨rfl, rfl, rfl, by decide +kernel, rfl, by decide +kernel, by decide +kernel⟩
theorem bi_held (E : Env K mg) : Binds K E.fd_held ["store", "parts"] [] := E.F_held.bindsN fun _ _ _ _ _ _ us hl => match us, hl with | [_, _], _ => rfl
theorem ok_held (E : Env K mg) : FnOk P w K mg base (L2.CX P w) 3 (ga K "held") E.fd_held ["store", "parts"] (spF (wd K) 2 d_held) := by
  have h_gained := ok_gained (P := P) (w := w) (base := base) E
  have b_gained := bi_gained E
  have NN := sc_held.nd
  have FF := E.F_held
  rw [← pb_held.2, ← ps_held.2] at FF
  have hF : FnOk P w K mg base (L2.CX P w) 3 (ga K "held") E.fd_held ["store", "parts"] (spF (wd K) (["store", "parts"] : List Str).length (fnM (["store", "parts"] : List Str).length (["store", "parts"] : List Str).length d_held_b)) := by
    refine fn_okD (N := ["store", "parts"]) (ps := ["store", "parts"]) (k := 2) (wd := wd K) (m := d_held_b) FF sc_held fun cdv A outer s H X0 hr tk => ?_
    have PO := passes_of (X := cxOf (L2.CX P w) P w K mg base ["store", "parts"] "held" ps_held.1 (ga K "held") cdv A outer s H X0) rfl
    refine sss_one ?_
    refine ss_ret ?_
    refine se_bin opd_add ?_ ?_
    · refine se_fld (c := 2) ?_ (by exact E.c_Store) (by exact E.na_Store_begin) (by exact rfl) (by exact rfl)
      exact se_v 0
    · refine se_call (as := [.val (eVar 0), .val (eVar 1)]) (by exact h_gained) (by exact (hr.mono (by decide))) (by exact rfl) (by exact E.g_gained) (by exact E.F_gained.kp) (by exact b_gained) (by exact tk) ?_
      refine sa_cons ?_ ?_
      · exact se_v 0
      · refine sa_cons ?_ sa_nil
        exact se_v 1
  exact hF
def pb_Store___call__ : { b : List Stmt // b = defBody s_Store___call__ } := ⟨_, by conv => rhs; whnf⟩
def ps_Store___call__ : { b : Scope // b = defScope s_Store___call__ } := ⟨_, by conv => rhs; whnf⟩
theorem sc_Store___call__ : FnScope ["self", "counts"] ["self", "counts"] ps_Store___call__.1 := ⟨rfl, rfl, rfl, by decide +kernel, rfl, by decide +kernel, by decide +kernel⟩
theorem bi_Store___call__ (E : Env K mg) : Binds K E.fd_Store___call__ ["self", "counts"] [] := E.F_Store___call__.bindsN fun _ _ _ _ _ _ us hl => match us, hl with | [_, _], _ => rfl
theorem ok_Store___call__ (E : Env K mg) : FnOk P w K mg base (L2.CX P w) 4 (ma K (ga K "Store") "__call__") E.fd_Store___call__ ["self", "counts"] (spF (wd K) 2 d_Store___call__) := by
  have h_held := ok_held (P := P) (w := w) (base := base) E
  have b_held := bi_held E
  have NN := sc_Store___call__.nd
  have FF := E.F_Store___call__
  rw [← pb_Store___call__.2, ← ps_Store___call__.2] at FF
  have hF : FnOk P w K mg base (L2.CX P w) 4 (ma K (ga K "Store") "__call__") E.fd_Store___call__ ["self", "counts"] (spF (wd K) (["self", "counts"] : List Str).length (fnM (["self", "counts"] : List Str).length (["self", "counts"] : List Str).length d_Store___call___b)) := by
    refine fn_okD (N := ["self", "counts"]) (ps := ["self", "counts"]) (k := 3) (wd := wd K) (m := d_Store___call___b) FF sc_Store___call__ fun cdv A outer s H X0 hr tk => ?_
    have PO := passes_of (X := cxOf (L2.CX P w) P w K mg base ["self", "counts"] "Store.__call__" ps_Store___call__.1 (ma K (ga K "Store") "__call__") cdv A outer s H X0) rfl
    refine sss_one ?_
    refine ss_ret ?_
    refine se_call (as := [.val (eVar 0), .val (eFld 0 0 (eVar 1))]) (by exact h_held) (by exact (hr.mono (by decide))) (by exact rfl) (by exact E.g_held) (by exact E.F_held.kp) (by exact b_held) (by exact tk) ?_
    refine sa_cons ?_ ?_
    · exact se_v 0
    · refine sa_cons ?_ sa_nil
      refine se_fld (c := 0) ?_ (by exact E.c_Bag) (by exact E.na_Bag_parts) (by exact rfl) (by exact rfl)
      exact se_v 1
  exact hF
def pb__law_spare : { b : List Stmt // b = defBody s__law_spare } := ⟨_, by conv => rhs; whnf⟩
def ps__law_spare : { b : Scope // b = defScope s__law_spare } := ⟨_, by conv => rhs; whnf⟩
theorem sc__law_spare : FnScope ["_law_store", "_law_counts_here", "_law_step_here", "_law_told", "_law_word", "_law_begin", "_law_takes", "_law_gives"] ["_law_store", "_law_counts_here", "_law_step_here"] ps__law_spare.1 := ⟨rfl, rfl, rfl, by decide +kernel, rfl, by decide +kernel, by decide +kernel⟩
theorem bi__law_spare (E : Env K mg) : Binds K E.fd__law_spare ["_law_store", "_law_counts_here", "_law_step_here"] [] := E.F__law_spare.bindsN fun _ _ _ _ _ _ us hl => match us, hl with | [_, _, _], _ => rfl
theorem ok__law_spare (E : Env K mg) : FnOk P w K mg base (L2.CX P w) 1 (ga K "_law_spare") E.fd__law_spare ["_law_store", "_law_counts_here", "_law_step_here"] (spF (wd K) 3 d__law_spare) := by
  have NN := sc__law_spare.nd
  have FF := E.F__law_spare
  rw [← pb__law_spare.2, ← ps__law_spare.2] at FF
  have hF : FnOk P w K mg base (L2.CX P w) 1 (ga K "_law_spare") E.fd__law_spare ["_law_store", "_law_counts_here", "_law_step_here"] (spF (wd K) (["_law_store", "_law_counts_here", "_law_step_here"] : List Str).length (fnM (["_law_store", "_law_counts_here", "_law_step_here"] : List Str).length (["_law_store", "_law_counts_here", "_law_step_here", "_law_told", "_law_word", "_law_begin", "_law_takes", "_law_gives"] : List Str).length d__law_spare_b)) := by
    refine fn_okD (N := ["_law_store", "_law_counts_here", "_law_step_here", "_law_told", "_law_word", "_law_begin", "_law_takes", "_law_gives"]) (ps := ["_law_store", "_law_counts_here", "_law_step_here"]) (k := 0) (wd := wd K) (m := d__law_spare_b) FF sc__law_spare fun cdv A outer s H X0 hr tk => ?_
    have PO := passes_of (X := cxOf (L2.CX P w) P w K mg base ["_law_store", "_law_counts_here", "_law_step_here", "_law_told", "_law_word", "_law_begin", "_law_takes", "_law_gives"] "_law_spare" ps__law_spare.1 (ga K "_law_spare") cdv A outer s H X0) rfl
    refine sss_cons ?_ ?_
    · refine ss_asg ?_ (sg_tup (by exact rfl) (sgs_cons (sg_nm (by exact NN) (by exact rfl) (by exact (.inl rfl))) (sgs_cons (sg_nm (by exact NN) (by exact rfl) (by exact (.inl rfl))) (sgs_cons (sg_nm (by exact NN) (by exact rfl) (by exact (.inl rfl))) sgs_nil))))
      refine sd_eat ?_
      exact se_v 0
    · refine sss_cons ?_ ?_
      · refine ss_set (by exact NN) (by exact rfl) (by exact (.inl rfl)) ?_
        exact se_v 5
      · refine sss_cons ?_ ?_
        · refine ss_forL (by exact PO) (by exact rfl) ?_ (sg_nm (by exact NN) (by exact rfl) (by exact (.inl rfl))) ?_
          · refine il_keys ?_
            exact se_v 1
          · refine sss_one ?_
            refine ss_set (by exact NN) (by exact rfl) (by exact (.inl rfl)) ?_
            refine se_bin opd_add ?_ ?_
            · exact se_v 3
            · refine se_bin opd_mul ?_ ?_
              · refine se_dx (by exact (hu_of hr)) ?_ ?_
                · exact se_v 1
                · exact se_v 4
              · refine se_bin opd_sub ?_ ?_
                · refine se_get (by exact (hu_of hr)) ?_ ?_ se_int (by exact ⟨rfl, rfl, rfl, rfl⟩)
                  · exact se_v 7
                  · exact se_v 4
                · refine se_get (by exact (hu_of hr)) ?_ ?_ se_int (by exact ⟨rfl, rfl, rfl, rfl⟩)
                  · exact se_v 6
                  · exact se_v 4
        · refine sss_cons ?_ ?_
          · refine ss_forL (by exact PO) (by exact rfl) ?_ (sg_nm (by exact NN) (by exact rfl) (by exact (.inl rfl))) ?_
            · refine il_keys ?_
              exact se_v 2
            · refine sss_one ?_
              refine ss_set (by exact NN) (by exact rfl) (by exact (.inl rfl)) ?_
              refine se_bin opd_sub ?_ ?_
              · exact se_v 3
              · refine se_bin opd_mul ?_ ?_
                · refine se_dx (by exact (hu_of hr)) ?_ ?_
                  · exact se_v 2
                  · exact se_v 4
                · refine se_get (by exact (hu_of hr)) ?_ ?_ se_int (by exact ⟨rfl, rfl, rfl, rfl⟩)
                  · exact se_v 6
                  · exact se_v 4
          · refine sss_one ?_
            refine ss_ret ?_
            exact se_v 3
  exact hF
def pb_spare : { b : List Stmt // b = defBody s_spare } := ⟨_, by conv => rhs; whnf⟩
def ps_spare : { b : Scope // b = defScope s_spare } := ⟨_, by conv => rhs; whnf⟩
theorem sc_spare : FnScope ["store", "parts", "more"] ["store", "parts", "more"] ps_spare.1 := ⟨rfl, rfl, rfl, by decide +kernel, rfl, by decide +kernel, by decide +kernel⟩
theorem bi_spare (E : Env K mg) : Binds K E.fd_spare ["store", "parts", "more"] [] := E.F_spare.bindsN fun _ _ _ _ _ _ us hl => match us, hl with | [_, _, _], _ => rfl
theorem ok_spare (E : Env K mg) : FnOk P w K mg base (L2.CX P w) 4 (ga K "spare") E.fd_spare ["store", "parts", "more"] (spF (wd K) 3 d_spare) := by
  have h_held := ok_held (P := P) (w := w) (base := base) E
  have b_held := bi_held E
  have h_taken := ok_taken (P := P) (w := w) (base := base) E
  have b_taken := bi_taken E
  have NN := sc_spare.nd
  have FF := E.F_spare
  rw [← pb_spare.2, ← ps_spare.2] at FF
  have hF : FnOk P w K mg base (L2.CX P w) 4 (ga K "spare") E.fd_spare ["store", "parts", "more"] (spF (wd K) (["store", "parts", "more"] : List Str).length (fnM (["store", "parts", "more"] : List Str).length (["store", "parts", "more"] : List Str).length d_spare_b)) := by
    refine fn_okD (N := ["store", "parts", "more"]) (ps := ["store", "parts", "more"]) (k := 3) (wd := wd K) (m := d_spare_b) FF sc_spare fun cdv A outer s H X0 hr tk => ?_
    have PO := passes_of (X := cxOf (L2.CX P w) P w K mg base ["store", "parts", "more"] "spare" ps_spare.1 (ga K "spare") cdv A outer s H X0) rfl
    refine sss_one ?_
    refine ss_ret ?_
    refine se_bin opd_sub ?_ ?_
    · refine se_call (as := [.val (eVar 0), .val (eVar 1)]) (by exact h_held) (by exact (hr.mono (by decide))) (by exact rfl) (by exact E.g_held) (by exact E.F_held.kp) (by exact b_held) (by exact tk) ?_
      refine sa_cons ?_ ?_
      · exact se_v 0
      · refine sa_cons ?_ sa_nil
        exact se_v 1
    · refine se_call (as := [.val (eVar 0), .val (eVar 2)]) (by exact h_taken) (by exact (hr.mono (by decide))) (by exact rfl) (by exact E.g_taken) (by exact E.F_taken.kp) (by exact b_taken) (by exact tk) ?_
      refine sa_cons ?_ ?_
      · exact se_v 0
      · refine sa_cons ?_ sa_nil
        exact se_v 2
  exact hF
def pb_Store_lets : { b : List Stmt // b = defBody s_Store_lets } := ⟨_, by conv => rhs; whnf⟩
def ps_Store_lets : { b : Scope // b = defScope s_Store_lets } := ⟨_, by conv => rhs; whnf⟩
theorem sc_Store_lets : FnScope ["self", "counts", "bag"] ["self", "counts", "bag"] ps_Store_lets.1 := ⟨rfl, rfl, rfl, by decide +kernel, rfl, by decide +kernel, by decide +kernel⟩
theorem bi_Store_lets (E : Env K mg) : Binds K E.fd_Store_lets ["self", "counts", "bag"] [] := E.F_Store_lets.bindsN fun _ _ _ _ _ _ us hl => match us, hl with | [_, _, _], _ => rfl
theorem ok_Store_lets (E : Env K mg) : FnOk P w K mg base (L2.CX P w) 5 (ma K (ga K "Store") "lets") E.fd_Store_lets ["self", "counts", "bag"] (spF (wd K) 3 d_Store_lets) := by
  have h_spare := ok_spare (P := P) (w := w) (base := base) E
  have b_spare := bi_spare E
  have NN := sc_Store_lets.nd
  have FF := E.F_Store_lets
  rw [← pb_Store_lets.2, ← ps_Store_lets.2] at FF
  have hF : FnOk P w K mg base (L2.CX P w) 5 (ma K (ga K "Store") "lets") E.fd_Store_lets ["self", "counts", "bag"] (spF (wd K) (["self", "counts", "bag"] : List Str).length (fnM (["self", "counts", "bag"] : List Str).length (["self", "counts", "bag"] : List Str).length d_Store_lets_b)) := by
    refine fn_okD (N := ["self", "counts", "bag"]) (ps := ["self", "counts", "bag"]) (k := 4) (wd := wd K) (m := d_Store_lets_b) FF sc_Store_lets fun cdv A outer s H X0 hr tk => ?_
    have PO := passes_of (X := cxOf (L2.CX P w) P w K mg base ["self", "counts", "bag"] "Store.lets" ps_Store_lets.1 (ma K (ga K "Store") "lets") cdv A outer s H X0) rfl
    refine sss_one ?_
    refine ss_ret ?_
    refine se_cmp opd_ge ?_ se_int (by exact rfl)
    refine se_call (as := [.val (eVar 0), .val (eFld 0 0 (eVar 1)), .val (eFld 0 0 (eVar 2))]) (by exact h_spare) (by exact (hr.mono (by decide))) (by exact rfl) (by exact E.g_spare) (by exact E.F_spare.kp) (by exact b_spare) (by exact tk) ?_
    refine sa_cons ?_ ?_
    · exact se_v 0
    · refine sa_cons ?_ ?_
      · refine se_fld (c := 0) ?_ (by exact E.c_Bag) (by exact E.na_Bag_parts) (by exact rfl) (by exact rfl)
        exact se_v 1
      · refine sa_cons ?_ sa_nil
        refine se_fld (c := 0) ?_ (by exact E.c_Bag) (by exact E.na_Bag_parts) (by exact rfl) (by exact rfl)
        exact se_v 2
  exact hF
def pb_parts_of : { b : List Stmt // b = defBody s_parts_of } := ⟨_, by conv => rhs; whnf⟩
def ps_parts_of : { b : Scope // b = defScope s_parts_of } := ⟨_, by conv => rhs; whnf⟩
theorem sc_parts_of : FnScope ["store"] ["store"] ps_parts_of.1 := ⟨rfl, rfl, rfl, by decide +kernel, rfl, by decide +kernel, by decide +kernel⟩
theorem bi_parts_of (E : Env K mg) : Binds K E.fd_parts_of ["store"] [] := E.F_parts_of.bindsN fun _ _ _ _ _ _ us hl => match us, hl with | [_], _ => rfl
theorem ok_parts_of (E : Env K mg) : FnOk P w K mg base (L2.CX P w) 1 (ga K "parts_of") E.fd_parts_of ["store"] (spF (wd K) 1 d_parts_of) := by
  have NN := sc_parts_of.nd
  have FF := E.F_parts_of
  rw [← pb_parts_of.2, ← ps_parts_of.2] at FF
  have hF : FnOk P w K mg base (L2.CX P w) 1 (ga K "parts_of") E.fd_parts_of ["store"] (spF (wd K) (["store"] : List Str).length (fnM (["store"] : List Str).length (["store"] : List Str).length d_parts_of_b)) := by
    refine fn_okD (N := ["store"]) (ps := ["store"]) (k := 0) (wd := wd K) (m := d_parts_of_b) FF sc_parts_of fun cdv A outer s H X0 hr tk => ?_
    have PO := passes_of (X := cxOf (L2.CX P w) P w K mg base ["store"] "parts_of" ps_parts_of.1 (ga K "parts_of") cdv A outer s H X0) rfl
    refine sss_one ?_
    refine ss_ret ?_
    refine se_tup ?_
    refine sad_cons ?_ ?_
    · refine se_fld (c := 2) ?_ (by exact E.c_Store) (by exact E.na_Store_begin) (by exact rfl) (by exact rfl)
      exact se_v 0
    · refine sad_cons ?_ ?_
      · refine se_fld (c := 0) ?_ (by exact E.c_Bag) (by exact E.na_Bag_parts) (by exact rfl) (by exact rfl)
        refine se_fld (c := 2) ?_ (by exact E.c_Store) (by exact E.na_Store_takes) (by exact rfl) (by exact rfl)
        exact se_v 0
      · refine sad_cons ?_ sad_nil
        refine se_fld (c := 0) ?_ (by exact E.c_Bag) (by exact E.na_Bag_parts) (by exact rfl) (by exact rfl)
        refine se_fld (c := 2) ?_ (by exact E.c_Store) (by exact E.na_Store_gives) (by exact rfl) (by exact rfl)
        exact se_v 0
  exact hF
def pb_Store___eq__ : { b : List Stmt // b = defBody s_Store___eq__ } := ⟨_, by conv => rhs; whnf⟩
def ps_Store___eq__ : { b : Scope // b = defScope s_Store___eq__ } := ⟨_, by conv => rhs; whnf⟩
theorem sc_Store___eq__ : FnScope ["self", "other"] ["self", "other"] ps_Store___eq__.1 := ⟨rfl, rfl, rfl, by decide +kernel, rfl, by decide +kernel, by decide +kernel⟩
theorem bi_Store___eq__ (E : Env K mg) : Binds K E.fd_Store___eq__ ["self", "other"] [] := E.F_Store___eq__.bindsN fun _ _ _ _ _ _ us hl => match us, hl with | [_, _], _ => rfl
theorem ok_Store___eq__ (E : Env K mg) : FnOk P w K mg base (L2.CX P w) 2 (ma K (ga K "Store") "__eq__") E.fd_Store___eq__ ["self", "other"] (spF (wd K) 2 d_Store___eq__) := by
  have h_parts_of := ok_parts_of (P := P) (w := w) (base := base) E
  have b_parts_of := bi_parts_of E
  have NN := sc_Store___eq__.nd
  have FF := E.F_Store___eq__
  rw [← pb_Store___eq__.2, ← ps_Store___eq__.2] at FF
  have hF : FnOk P w K mg base (L2.CX P w) 2 (ma K (ga K "Store") "__eq__") E.fd_Store___eq__ ["self", "other"] (spF (wd K) (["self", "other"] : List Str).length (fnM (["self", "other"] : List Str).length (["self", "other"] : List Str).length d_Store___eq___b)) := by
    refine fn_okD (N := ["self", "other"]) (ps := ["self", "other"]) (k := 1) (wd := wd K) (m := d_Store___eq___b) FF sc_Store___eq__ fun cdv A outer s H X0 hr tk => ?_
    have PO := passes_of (X := cxOf (L2.CX P w) P w K mg base ["self", "other"] "Store.__eq__" ps_Store___eq__.1 (ma K (ga K "Store") "__eq__") cdv A outer s H X0) rfl
    refine sss_one ?_
    refine ss_ret ?_
    refine se_and ?_ ?_
    · refine se_isi (c := 2) (by exact rfl) (by exact E.n_isinstance) (by exact rfl) (by exact E.g_Store) (by exact (isi_ok E.is_Store E.c_Store)) ?_
      exact se_v 1
    · refine se_one ?_
      refine se_cmp (opd_eq (by exact hr.units)) ?_ ?_ (by exact rfl)
      · refine se_call (as := [.val (eVar 0)]) (by exact h_parts_of) (by exact (hr.mono (by decide))) (by exact rfl) (by exact E.g_parts_of) (by exact E.F_parts_of.kp) (by exact b_parts_of) (by exact tk) ?_
        refine sa_cons ?_ sa_nil
        exact se_v 0
      · refine se_call (as := [.val (eVar 1)]) (by exact h_parts_of) (by exact (hr.mono (by decide))) (by exact rfl) (by exact E.g_parts_of) (by exact E.F_parts_of.kp) (by exact b_parts_of) (by exact tk) ?_
        refine sa_cons ?_ sa_nil
        exact se_v 1
  exact hF
def pb_added : { b : List Stmt // b = defBody s_added } := ⟨_, by conv => rhs; whnf⟩
def ps_added : { b : Scope // b = defScope s_added } := ⟨_, by conv => rhs; whnf⟩
theorem sc_added : FnScope ["parts", "more", "times", "word"] ["parts", "more", "times"] ps_added.1 := ⟨rfl, rfl, rfl, by decide +kernel, rfl, by decide +kernel, by decide +kernel⟩
theorem bi_added (E : Env K mg) : Binds K E.fd_added ["parts", "more", "times"] [] := E.F_added.bindsN fun _ _ _ _ _ _ us hl => match us, hl with | [_, _, _], _ => rfl
theorem ok_added (E : Env K mg) : FnOk P w K mg base (L2.CX P w) 3 (ga K "added") E.fd_added ["parts", "more", "times"] (spF (wd K) 3 d_added) := by
  have h_cleaned := ok_cleaned (P := P) (w := w) (base := base) E
  have b_cleaned := bi_cleaned E
  have NN := sc_added.nd
  have FF := E.F_added
  rw [← pb_added.2, ← ps_added.2] at FF
  have hF : FnOk P w K mg base (L2.CX P w) 3 (ga K "added") E.fd_added ["parts", "more", "times"] (spF (wd K) (["parts", "more", "times"] : List Str).length (fnM (["parts", "more", "times"] : List Str).length (["parts", "more", "times", "word"] : List Str).length d_added_b)) := by
    refine fn_okD (N := ["parts", "more", "times", "word"]) (ps := ["parts", "more", "times"]) (k := 2) (wd := wd K) (m := d_added_b) FF sc_added fun cdv A outer s H X0 hr tk => ?_
    have PO := passes_of (X := cxOf (L2.CX P w) P w K mg base ["parts", "more", "times", "word"] "added" ps_added.1 (ga K "added") cdv A outer s H X0) rfl
    refine sss_one ?_
    refine ss_ret ?_
    refine se_call (as := [.val (eDc (iLstM (eLstX (eStar (eVar 0) (eStar (eVar 1) (retM []))))) (gNm 3) (retM true) (eEat (eVar 3)) (eEat (eBin dAdd (eGet (eVar 0) (eVar 3) (eC (.int 0))) (eBin dMul (eVar 2) (eGet (eVar 1) (eVar 3) (eC (.int 0)))))) [3])]) (by exact h_cleaned) (by exact (hr.mono (by decide))) (by exact rfl) (by exact E.g_cleaned) (by exact E.F_cleaned.kp) (by exact b_cleaned) (by exact tk) ?_
    refine sa_cons ?_ sa_nil
    refine se_dc (own := [("word", 3)]) (by exact rfl) (by exact NN) ?_ (by exact (blkOk_by rfl)) (fun _ _ _ _ _ => (sg_nm (by exact NN) (by exact rfl) (by exact (.inl rfl)))) ?_ ?_ ?_
    · refine IM.il ?_
      refine im_lst ?_
      refine se_lstX ?_
      refine sax_star (by exact rfl) ?_ ?_
      · exact se_v 0
      · refine sax_star (by exact rfl) ?_ sax_nil
        exact se_v 1
    · intro _ _ _ _ _
      exact sts_nil
    · intro _ _ _ _ _
      refine sd_eat ?_
      exact se_v 3
    · intro _ _ _ _ _
      refine sd_eat ?_
      refine se_bin opd_add ?_ ?_
      · refine se_get (by exact (hu_of hr)) ?_ ?_ se_int (by exact ⟨rfl, rfl, rfl, rfl⟩)
        · exact se_v 0
        · exact se_v 3
      · refine se_bin opd_mul ?_ ?_
        · exact se_v 2
        · refine se_get (by exact (hu_of hr)) ?_ ?_ se_int (by exact ⟨rfl, rfl, rfl, rfl⟩)
          · exact se_v 1
          · exact se_v 3
  exact hF
def pb_Bag___add__ : { b : List Stmt // b = defBody s_Bag___add__ } := ⟨_, by conv => rhs; whnf⟩
def ps_Bag___add__ : { b : Scope // b = defScope s_Bag___add__ } := ⟨_, by conv => rhs; whnf⟩
theorem sc_Bag___add__ : FnScope ["self", "other"] ["self", "other"] ps_Bag___add__.1 := ⟨rfl, rfl, rfl, by decide +kernel, rfl, by decide +kernel, by decide +kernel⟩
theorem bi_Bag___add__ (E : Env K mg) : Binds K E.fd_Bag___add__ ["self", "other"] [] := E.F_Bag___add__.bindsN fun _ _ _ _ _ _ us hl => match us, hl with | [_, _], _ => rfl
theorem ok_Bag___add__ (E : Env K mg) : FnOk P w K mg base (L2.CX P w) 5 (ma K (ga K "Bag") "__add__") E.fd_Bag___add__ ["self", "other"] (spF (wd K) 2 d_Bag___add__) := by
  have h_Bag___init__ := ok_Bag___init__ (P := P) (w := w) (base := base) E
  have b_Bag___init__ := bi_Bag___init__ E
  have h_added := ok_added (P := P) (w := w) (base := base) E
  have b_added := bi_added E
  have NN := sc_Bag___add__.nd
  have FF := E.F_Bag___add__
  rw [← pb_Bag___add__.2, ← ps_Bag___add__.2] at FF
  have hF : FnOk P w K mg base (L2.CX P w) 5 (ma K (ga K "Bag") "__add__") E.fd_Bag___add__ ["self", "other"] (spF (wd K) (["self", "other"] : List Str).length (fnM (["self", "other"] : List Str).length (["self", "other"] : List Str).length d_Bag___add___b)) := by
    refine fn_okD (N := ["self", "other"]) (ps := ["self", "other"]) (k := 4) (wd := wd K) (m := d_Bag___add___b) FF sc_Bag___add__ fun cdv A outer s H X0 hr tk => ?_
    have PO := passes_of (X := cxOf (L2.CX P w) P w K mg base ["self", "other"] "Bag.__add__" ps_Bag___add__.1 (ma K (ga K "Bag") "__add__") cdv A outer s H X0) rfl
    refine sss_one ?_
    refine ss_ret ?_
    refine se_make (c := 0) (as := [.val (eCall d_added [.val (eFld 0 0 (eVar 0)), .val (eFld 0 0 (eVar 1)), .val (eC (.int 1))])]) (by exact E.mk_Bag) (by exact h_Bag___init__) (by exact (hr.mono (by decide))) (by exact rfl) (by exact E.g_Bag) (by exact b_Bag___init__) (by exact tk) ?_
    refine sa_cons ?_ sa_nil
    refine se_call (as := [.val (eFld 0 0 (eVar 0)), .val (eFld 0 0 (eVar 1)), .val (eC (.int 1))]) (by exact h_added) (by exact (hr.mono (by decide))) (by exact rfl) (by exact E.g_added) (by exact E.F_added.kp) (by exact b_added) (by exact tk) ?_
    refine sa_cons ?_ ?_
    · refine se_fld (c := 0) ?_ (by exact E.c_Bag) (by exact E.na_Bag_parts) (by exact rfl) (by exact rfl)
      exact se_v 0
    · refine sa_cons ?_ ?_
      · refine se_fld (c := 0) ?_ (by exact E.c_Bag) (by exact E.na_Bag_parts) (by exact rfl) (by exact rfl)
        exact se_v 1
      · exact sa_cons se_int sa_nil
  exact hF
def pb__law_is_store_right : { b : List Stmt // b = defBody s__law_is_store_right } := ⟨_, by conv => rhs; whnf⟩
def ps__law_is_store_right : { b : Scope // b = defScope s__law_is_store_right } := ⟨_, by conv => rhs; whnf⟩
theorem sc__law_is_store_right : FnScope ["_law_pen_here", "_law_deeds_here", "_law_store", "_law_told", "_law_near", "_law_begin", "_law_takes", "_law_gives", "_law_counts_here", "_law_step_here", "_law_rest", "_law_pair", "_law_word"] ["_law_pen_here", "_law_deeds_here", "_law_store", "_law_told"] ps__law_is_store_right.1 := ⟨rfl, rfl, rfl, by decide +kernel, rfl, by decide +kernel, by decide +kernel⟩
theorem bi__law_is_store_right (E : Env K mg) : Binds K E.fd__law_is_store_right ["_law_pen_here", "_law_deeds_here", "_law_store", "_law_told"] [] := E.F__law_is_store_right.bindsN fun _ _ _ _ _ _ us hl => match us, hl with | [_, _, _, _], _ => rfl
theorem ok__law_is_store_right (E : Env K mg) : FnOk P w K mg base (L2.CX P w) 6 (ga K "_law_is_store_right") E.fd__law_is_store_right ["_law_pen_here", "_law_deeds_here", "_law_store", "_law_told"] (spF (wd K) 4 d__law_is_store_right) := by
  have h__law_counts := ok__law_counts (P := P) (w := w) (base := base) E
  have b__law_counts := bi__law_counts E
  have h__law_step := ok__law_step (P := P) (w := w) (base := base) E
  have b__law_step := bi__law_step E
  have h_Store___call__ := ok_Store___call__ (P := P) (w := w) (base := base) E
  have b_Store___call__ := bi_Store___call__ E
  have h_Bag___init__ := ok_Bag___init__ (P := P) (w := w) (base := base) E
  have b_Bag___init__ := bi_Bag___init__ E
  have h__law_spare := ok__law_spare (P := P) (w := w) (base := base) E
  have b__law_spare := bi__law_spare E
  have h_Store_lets := ok_Store_lets (P := P) (w := w) (base := base) E
  have b_Store_lets := bi_Store_lets E
  have h_Store___init__ := ok_Store___init__ (P := P) (w := w) (base := base) E
  have b_Store___init__ := bi_Store___init__ E
  have h_Store_plain := ok_Store_plain (P := P) (w := w) (base := base) E
  have b_Store_plain := bi_Store_plain E
  have h_Store___eq__ := ok_Store___eq__ (P := P) (w := w) (base := base) E
  have b_Store___eq__ := bi_Store___eq__ E
  have h_Bag___add__ := ok_Bag___add__ (P := P) (w := w) (base := base) E
  have b_Bag___add__ := bi_Bag___add__ E
  have NN := sc__law_is_store_right.nd
  have FF := E.F__law_is_store_right
  rw [← pb__law_is_store_right.2, ← ps__law_is_store_right.2] at FF
  have hF : FnOk P w K mg base (L2.CX P w) 6 (ga K "_law_is_store_right") E.fd__law_is_store_right ["_law_pen_here", "_law_deeds_here", "_law_store", "_law_told"] (spF (wd K) (["_law_pen_here", "_law_deeds_here", "_law_store", "_law_told"] : List Str).length (fnM (["_law_pen_here", "_law_deeds_here", "_law_store", "_law_told"] : List Str).length (["_law_pen_here", "_law_deeds_here", "_law_store", "_law_told", "_law_near", "_law_begin", "_law_takes", "_law_gives", "_law_counts_here", "_law_step_here", "_law_rest", "_law_pair", "_law_word"] : List Str).length d__law_is_store_right_b)) := by
    refine fn_okD (N := ["_law_pen_here", "_law_deeds_here", "_law_store", "_law_told", "_law_near", "_law_begin", "_law_takes", "_law_gives", "_law_counts_here", "_law_step_here", "_law_rest", "_law_pair", "_law_word"]) (ps := ["_law_pen_here", "_law_deeds_here", "_law_store", "_law_told"]) (k := 5) (wd := wd K) (m := d__law_is_store_right_b) FF sc__law_is_store_right fun cdv A outer s H X0 hr tk => ?_
    have PO := passes_of (X := cxOf (L2.CX P w) P w K mg base ["_law_pen_here", "_law_deeds_here", "_law_store", "_law_told", "_law_near", "_law_begin", "_law_takes", "_law_gives", "_law_counts_here", "_law_step_here", "_law_rest", "_law_pair", "_law_word"] "_law_is_store_right" ps__law_is_store_right.1 (ga K "_law_is_store_right") cdv A outer s H X0) rfl
    refine sss_cons ?_ ?_
    · refine ss_asg ?_ (sg_tup (by exact rfl) (sgs_cons (sg_nm (by exact NN) (by exact rfl) (by exact (.inl rfl))) (sgs_cons (sg_nm (by exact NN) (by exact rfl) (by exact (.inl rfl))) (sgs_cons (sg_nm (by exact NN) (by exact rfl) (by exact (.inr rfl))) sgs_nil))))
      refine sd_eat ?_
      exact se_v 3
    · refine sss_cons ?_ ?_
      · refine ss_par2 (by exact rfl) (by exact NN) (by exact rfl) (by exact rfl) (by decide) (by exact rfl) (by exact rfl) ?_ ?_ (by exact rfl)
        · refine se_call (as := [.bor 0, .val (eVar 1)]) (by exact h__law_counts) (by exact (hr.mono (by decide))) (by exact rfl) (by exact E.g__law_counts) (by exact E.F__law_counts.kp) (by exact b__law_counts) (by exact tk) ?_
          refine sa_cons ?_ ?_
          · exact se_v 0
          · refine sa_cons ?_ sa_nil
            exact se_v 1
        · refine se_call (as := [.bor 0, .val (eVar 1)]) (by exact h__law_step) (by exact (hr.mono (by decide))) (by exact rfl) (by exact E.g__law_step) (by exact E.F__law_step.kp) (by exact b__law_step) (by exact tk) ?_
          refine sa_cons ?_ ?_
          · exact se_v 0
          · refine sa_cons ?_ sa_nil
            exact se_v 1
      · refine sss_cons ?_ ?_
        · refine ss_if ?_ ?_ sss_nil
          · refine SW.st ?_
            refine sw_or ?_ ?_
            · refine st_cmp (opd_ne (by exact hr.units)) ?_ ?_ (by exact rfl)
              · refine se_fld (c := 2) ?_ (by exact E.c_Store) (by exact E.na_Store_begin) (by exact rfl) (by exact rfl)
                exact se_v 2
              · exact se_v 5
            · refine sw_or ?_ ?_
              · refine st_cmp (opd_ne (by exact hr.units)) ?_ ?_ (by exact rfl)
                · refine se_fld (c := 0) ?_ (by exact E.c_Bag) (by exact E.na_Bag_parts) (by exact rfl) (by exact rfl)
                  refine se_fld (c := 2) ?_ (by exact E.c_Store) (by exact E.na_Store_takes) (by exact rfl) (by exact rfl)
                  exact se_v 2
                · exact se_v 6
              · refine sw_or1 ?_
                refine st_cmp (opd_ne (by exact hr.units)) ?_ ?_ (by exact rfl)
                · refine se_fld (c := 0) ?_ (by exact E.c_Bag) (by exact E.na_Bag_parts) (by exact rfl) (by exact rfl)
                  refine se_fld (c := 2) ?_ (by exact E.c_Store) (by exact E.na_Store_gives) (by exact rfl) (by exact rfl)
                  exact se_v 2
                · exact se_v 7
          · refine sss_one ?_
            exact ss_ret se_bl
        · refine sss_cons ?_ ?_
          · refine ss_if ?_ ?_ sss_nil
            · refine SW.st ?_
              refine sw_or ?_ ?_
              · refine st_cmp (opd_ne (by exact hr.units)) ?_ ?_ (by exact rfl)
                · refine se_callO (c := 2) (ag := .val (eVar 2)) (as := [.val (eMake 0 d_Bag___init__ [.val (eVar 8)])]) (by exact ⟨E.me_Store___call__.at_, E.me_Store___call__.fn, E.fi_Store___call__⟩) (by exact h_Store___call__) (by exact (hr.mono (by decide))) (by exact b_Store___call__) (by exact tk) ?_ ?_
                  · exact se_v 2
                  · refine sa_cons ?_ sa_nil
                    refine se_make (c := 0) (as := [.val (eVar 8)]) (by exact E.mk_Bag) (by exact h_Bag___init__) (by exact (hr.mono (by decide))) (by exact rfl) (by exact E.g_Bag) (by exact b_Bag___init__) (by exact tk) ?_
                    refine sa_cons ?_ sa_nil
                    exact se_v 8
                · refine se_call (as := [.val (eVar 3), .val (eVar 8), .val eDic0]) (by exact h__law_spare) (by exact (hr.mono (by decide))) (by exact rfl) (by exact E.g__law_spare) (by exact E.F__law_spare.kp) (by exact b__law_spare) (by exact tk) ?_
                  refine sa_cons ?_ ?_
                  · exact se_v 3
                  · refine sa_cons ?_ ?_
                    · exact se_v 8
                    · exact sa_cons se_dic0 sa_nil
              · refine sw_or1 ?_
                refine st_cmp (opd_ne (by exact hr.units)) ?_ ?_ (by exact rfl)
                · refine se_callO (c := 2) (ag := .val (eVar 2)) (as := [.val (eMake 0 d_Bag___init__ [.val eDic0])]) (by exact ⟨E.me_Store___call__.at_, E.me_Store___call__.fn, E.fi_Store___call__⟩) (by exact h_Store___call__) (by exact (hr.mono (by decide))) (by exact b_Store___call__) (by exact tk) ?_ ?_
                  · exact se_v 2
                  · refine sa_cons ?_ sa_nil
                    refine se_make (c := 0) (as := [.val eDic0]) (by exact E.mk_Bag) (by exact h_Bag___init__) (by exact (hr.mono (by decide))) (by exact rfl) (by exact E.g_Bag) (by exact b_Bag___init__) (by exact tk) ?_
                    exact sa_cons se_dic0 sa_nil
                · exact se_v 5
            · refine sss_one ?_
              exact ss_ret se_bl
          · refine sss_cons ?_ ?_
            · refine ss_par2 (by exact rfl) (by exact NN) (by exact rfl) (by exact rfl) (by decide) (by exact rfl) (by exact rfl) ?_ ?_ (by exact rfl)
              · refine se_call (as := [.val (eVar 3), .val (eVar 8), .val (eVar 9)]) (by exact h__law_spare) (by exact (hr.mono (by decide))) (by exact rfl) (by exact E.g__law_spare) (by exact E.F__law_spare.kp) (by exact b__law_spare) (by exact tk) ?_
                refine sa_cons ?_ ?_
                · exact se_v 3
                · refine sa_cons ?_ ?_
                  · exact se_v 8
                  · refine sa_cons ?_ sa_nil
                    exact se_v 9
              · refine se_tup ?_
                refine sad_cons ?_ ?_
                · refine se_make (c := 0) (as := [.val (eVar 8)]) (by exact E.mk_Bag) (by exact h_Bag___init__) (by exact (hr.mono (by decide))) (by exact rfl) (by exact E.g_Bag) (by exact b_Bag___init__) (by exact tk) ?_
                  refine sa_cons ?_ sa_nil
                  exact se_v 8
                · refine sad_cons ?_ sad_nil
                  refine se_make (c := 0) (as := [.val (eVar 9)]) (by exact E.mk_Bag) (by exact h_Bag___init__) (by exact (hr.mono (by decide))) (by exact rfl) (by exact E.g_Bag) (by exact b_Bag___init__) (by exact tk) ?_
                  refine sa_cons ?_ sa_nil
                  exact se_v 9
            · refine sss_cons ?_ ?_
              · refine ss_if ?_ ?_ sss_nil
                · refine st_cmp (opd_ne (by exact hr.units)) ?_ ?_ (by exact rfl)
                  · refine se_meth (c := 2) (a := .val (eVar 2)) (as := [.val (eBin dIx (eVar 11) (eC (.int 0))), .val (eBin dIx (eVar 11) (eC (.int 1)))]) ?_ (by exact E.c_Store) (by exact E.me_Store_lets) (by exact rfl) (by exact h_Store_lets) (by exact (hr.mono (by decide))) (by exact b_Store_lets) (by exact tk) ?_
                    · exact se_v 2
                    · refine sa_cons ?_ ?_
                      · refine se_ix ?_ se_int
                        exact se_v 11
                      · refine sa_cons ?_ sa_nil
                        refine se_ix ?_ se_int
                        exact se_v 11
                  · refine se_cmp opd_ge ?_ se_int (by exact rfl)
                    exact se_v 10
                · refine sss_one ?_
                  exact ss_ret se_bl
              · refine sss_cons ?_ ?_
                · refine ss_set (by exact NN) (by exact rfl) (by exact (.inl rfl)) ?_
                  refine se_bin opd_sub ?_ ?_
                  · exact se_v 5
                  · exact se_v 10
                · refine sss_cons ?_ ?_
                  · refine ss_if ?_ ?_ sss_nil
                    · refine SW.st ?_
                      refine sw_and ?_ ?_
                      · refine st_cmp opd_ge ?_ se_int (by exact rfl)
                        exact se_v 4
                      · refine sw_and1 ?_
                        refine st_not ?_
                        refine st_val ?_
                        refine se_meth (c := 2) (a := .val (eMake 2 d_Store___init__ [.val (eVar 4), .val (eMake 0 d_Bag___init__ [.val (eVar 6)]), .val (eMake 0 d_Bag___init__ [.val (eVar 7)])])) (as := [.val (eBin dIx (eVar 11) (eC (.int 0))), .val (eBin dIx (eVar 11) (eC (.int 1)))]) ?_ (by exact E.c_Store) (by exact E.me_Store_lets) (by exact rfl) (by exact h_Store_lets) (by exact (hr.mono (by decide))) (by exact b_Store_lets) (by exact tk) ?_
                        · refine se_make (c := 2) (as := [.val (eVar 4), .val (eMake 0 d_Bag___init__ [.val (eVar 6)]), .val (eMake 0 d_Bag___init__ [.val (eVar 7)])]) (by exact E.mk_Store) (by exact h_Store___init__) (by exact (hr.mono (by decide))) (by exact rfl) (by exact E.g_Store) (by exact b_Store___init__) (by exact tk) ?_
                          refine sa_cons ?_ ?_
                          · exact se_v 4
                          · refine sa_cons ?_ ?_
                            · refine se_make (c := 0) (as := [.val (eVar 6)]) (by exact E.mk_Bag) (by exact h_Bag___init__) (by exact (hr.mono (by decide))) (by exact rfl) (by exact E.g_Bag) (by exact b_Bag___init__) (by exact tk) ?_
                              refine sa_cons ?_ sa_nil
                              exact se_v 6
                            · refine sa_cons ?_ sa_nil
                              refine se_make (c := 0) (as := [.val (eVar 7)]) (by exact E.mk_Bag) (by exact h_Bag___init__) (by exact (hr.mono (by decide))) (by exact rfl) (by exact E.g_Bag) (by exact b_Bag___init__) (by exact tk) ?_
                              refine sa_cons ?_ sa_nil
                              exact se_v 7
                        · refine sa_cons ?_ ?_
                          · refine se_ix ?_ se_int
                            exact se_v 11
                          · refine sa_cons ?_ sa_nil
                            refine se_ix ?_ se_int
                            exact se_v 11
                    · refine sss_one ?_
                      exact ss_ret se_bl
                  · refine sss_cons ?_ ?_
                    · refine ss_if ?_ ?_ sss_nil
                      · refine SW.st ?_
                        refine sw_and ?_ ?_
                        · refine st_cmp opd_gt ?_ se_int (by exact rfl)
                          exact se_v 4
                        · refine sw_and1 ?_
                          refine st_val ?_
                          refine se_meth (c := 2) (a := .val (eMake 2 d_Store___init__ [.val (eBin dSub (eVar 4) (eC (.int 1))), .val (eMake 0 d_Bag___init__ [.val (eVar 6)]), .val (eMake 0 d_Bag___init__ [.val (eVar 7)])])) (as := [.val (eBin dIx (eVar 11) (eC (.int 0))), .val (eBin dIx (eVar 11) (eC (.int 1)))]) ?_ (by exact E.c_Store) (by exact E.me_Store_lets) (by exact rfl) (by exact h_Store_lets) (by exact (hr.mono (by decide))) (by exact b_Store_lets) (by exact tk) ?_
                          · refine se_make (c := 2) (as := [.val (eBin dSub (eVar 4) (eC (.int 1))), .val (eMake 0 d_Bag___init__ [.val (eVar 6)]), .val (eMake 0 d_Bag___init__ [.val (eVar 7)])]) (by exact E.mk_Store) (by exact h_Store___init__) (by exact (hr.mono (by decide))) (by exact rfl) (by exact E.g_Store) (by exact b_Store___init__) (by exact tk) ?_
                            refine sa_cons ?_ ?_
                            · refine se_bin opd_sub ?_ se_int
                              exact se_v 4
                            · refine sa_cons ?_ ?_
                              · refine se_make (c := 0) (as := [.val (eVar 6)]) (by exact E.mk_Bag) (by exact h_Bag___init__) (by exact (hr.mono (by decide))) (by exact rfl) (by exact E.g_Bag) (by exact b_Bag___init__) (by exact tk) ?_
                                refine sa_cons ?_ sa_nil
                                exact se_v 6
                              · refine sa_cons ?_ sa_nil
                                refine se_make (c := 0) (as := [.val (eVar 7)]) (by exact E.mk_Bag) (by exact h_Bag___init__) (by exact (hr.mono (by decide))) (by exact rfl) (by exact E.g_Bag) (by exact b_Bag___init__) (by exact tk) ?_
                                refine sa_cons ?_ sa_nil
                                exact se_v 7
                          · refine sa_cons ?_ ?_
                            · refine se_ix ?_ se_int
                              exact se_v 11
                            · refine sa_cons ?_ sa_nil
                              refine se_ix ?_ se_int
                              exact se_v 11
                      · refine sss_one ?_
                        exact ss_ret se_bl
                    · refine sss_cons ?_ ?_
                      · refine ss_if ?_ ?_ sss_nil
                        · refine st_cmp (opd_ne (by exact hr.units)) ?_ ?_ (by exact rfl)
                          · refine se_prop (c := 2) ?_ (by exact E.c_Store) (by exact E.pr_Store_plain) (by exact h_Store_plain) (by exact (hr.mono (by decide))) (by exact b_Store_plain) (by exact rfl)
                            exact se_v 2
                          · refine se_cmp (opd_eq (by exact hr.units)) ?_ ?_ (by exact rfl)
                            · refine se_lc (own := [("_law_word", 12)]) (by exact rfl) (by exact NN) ?_ (by exact (blkOk_by rfl)) (fun _ _ _ _ _ => (sg_nm (by exact NN) (by exact rfl) (by exact (.inl rfl)))) ?_ ?_
                              · refine il_keys ?_
                                exact se_v 6
                              · intro _ _ _ _ _
                                refine sts_one ?_
                                refine st_cmp (opd_in (by exact (hu_of hr))) ?_ ?_ (by exact rfl)
                                · exact se_v 12
                                · exact se_v 7
                              · intro _ _ _ _ _
                                refine sd_eat ?_
                                exact se_v 12
                            · exact se_lst sad_nil
                        · refine sss_one ?_
                          exact ss_ret se_bl
                      · refine sss_cons ?_ ?_
                        · refine ss_if ?_ ?_ sss_nil
                          · refine SW.st ?_
                            refine sw_or ?_ ?_
                            · refine st_not ?_
                              refine st_cmpOwn (c := 2) (cs := [2]) (by exact (fun _ _ => rfl)) (by exact E.me_Store___eq__.at_) (by exact E.me_Store___eq__.fn) (by exact (nf_ok (x := "Store") E.nf_Store rfl (fun c hc => ⟨_, List.mem_cons_self, by rw [List.mem_singleton.mp hc] <;> rfl⟩))) (by exact h_Store___eq__) (by exact (hr.mono (by decide))) (by exact b_Store___eq__) (by exact tk) ?_ ?_ (by exact rfl)
                              · exact se_v 2
                              · refine se_make (c := 2) (as := [.val (eVar 5), .val (eMake 0 d_Bag___init__ [.val (eVar 6)]), .val (eMake 0 d_Bag___init__ [.val (eVar 7)])]) (by exact E.mk_Store) (by exact h_Store___init__) (by exact (hr.mono (by decide))) (by exact rfl) (by exact E.g_Store) (by exact b_Store___init__) (by exact tk) ?_
                                refine sa_cons ?_ ?_
                                · exact se_v 5
                                · refine sa_cons ?_ ?_
                                  · refine se_make (c := 0) (as := [.val (eVar 6)]) (by exact E.mk_Bag) (by exact h_Bag___init__) (by exact (hr.mono (by decide))) (by exact rfl) (by exact E.g_Bag) (by exact b_Bag___init__) (by exact tk) ?_
                                    refine sa_cons ?_ sa_nil
                                    exact se_v 6
                                  · refine sa_cons ?_ sa_nil
                                    refine se_make (c := 0) (as := [.val (eVar 7)]) (by exact E.mk_Bag) (by exact h_Bag___init__) (by exact (hr.mono (by decide))) (by exact rfl) (by exact E.g_Bag) (by exact b_Bag___init__) (by exact tk) ?_
                                    refine sa_cons ?_ sa_nil
                                    exact se_v 7
                            · refine sw_or1 ?_
                              refine st_cmpOwn (c := 2) (cs := [2]) (by exact (fun _ _ => rfl)) (by exact E.me_Store___eq__.at_) (by exact E.me_Store___eq__.fn) (by exact (nf_ok (x := "Store") E.nf_Store rfl (fun c hc => ⟨_, List.mem_cons_self, by rw [List.mem_singleton.mp hc] <;> rfl⟩))) (by exact h_Store___eq__) (by exact (hr.mono (by decide))) (by exact b_Store___eq__) (by exact tk) ?_ ?_ (by exact rfl)
                              · exact se_v 2
                              · refine se_make (c := 2) (as := [.val (eBin dAdd (eVar 5) (eC (.int 1))), .val (eMake 0 d_Bag___init__ [.val (eVar 6)]), .val (eMake 0 d_Bag___init__ [.val (eVar 7)])]) (by exact E.mk_Store) (by exact h_Store___init__) (by exact (hr.mono (by decide))) (by exact rfl) (by exact E.g_Store) (by exact b_Store___init__) (by exact tk) ?_
                                refine sa_cons ?_ ?_
                                · refine se_bin opd_add ?_ se_int
                                  exact se_v 5
                                · refine sa_cons ?_ ?_
                                  · refine se_make (c := 0) (as := [.val (eVar 6)]) (by exact E.mk_Bag) (by exact h_Bag___init__) (by exact (hr.mono (by decide))) (by exact rfl) (by exact E.g_Bag) (by exact b_Bag___init__) (by exact tk) ?_
                                    refine sa_cons ?_ sa_nil
                                    exact se_v 6
                                  · refine sa_cons ?_ sa_nil
                                    refine se_make (c := 0) (as := [.val (eVar 7)]) (by exact E.mk_Bag) (by exact h_Bag___init__) (by exact (hr.mono (by decide))) (by exact rfl) (by exact E.g_Bag) (by exact b_Bag___init__) (by exact tk) ?_
                                    refine sa_cons ?_ sa_nil
                                    exact se_v 7
                          · refine sss_one ?_
                            exact ss_ret se_bl
                        · refine sss_cons ?_ ?_
                          · refine ss_if ?_ ?_ sss_nil
                            · refine st_cmpOwn (c := 2) (cs := [2]) (by exact (fun _ _ => rfl)) (by exact E.me_Store___eq__.at_) (by exact E.me_Store___eq__.fn) (by exact (nf_ok (x := "Store") E.nf_Store rfl (fun c hc => ⟨_, List.mem_cons_self, by rw [List.mem_singleton.mp hc] <;> rfl⟩))) (by exact h_Store___eq__) (by exact (hr.mono (by decide))) (by exact b_Store___eq__) (by exact tk) ?_ ?_ (by exact rfl)
                              · exact se_v 2
                              · refine se_make (c := 2) (as := [.val (eVar 5), .val (eOwnB 0 d_Bag___add__ (eMake 0 d_Bag___init__ [.val (eVar 6)]) (eMake 0 d_Bag___init__ [.val (eDisp [((eC (.str "zz")), (eC (.int 1)))])])), .val (eMake 0 d_Bag___init__ [.val (eVar 7)])]) (by exact E.mk_Store) (by exact h_Store___init__) (by exact (hr.mono (by decide))) (by exact rfl) (by exact E.g_Store) (by exact b_Store___init__) (by exact tk) ?_
                                refine sa_cons ?_ ?_
                                · exact se_v 5
                                · refine sa_cons ?_ ?_
                                  · refine se_binOwn (c := 0) (op := .Add) (by exact E.me_Bag___add__.at_) (by exact E.me_Bag___add__.fn) (by exact E.sf_Bag) (by exact h_Bag___add__) (by exact (hr.mono (by decide))) (by exact b_Bag___add__) (by exact tk) ?_ ?_
                                    · refine se_make (c := 0) (as := [.val (eVar 6)]) (by exact E.mk_Bag) (by exact h_Bag___init__) (by exact (hr.mono (by decide))) (by exact rfl) (by exact E.g_Bag) (by exact b_Bag___init__) (by exact tk) ?_
                                      refine sa_cons ?_ sa_nil
                                      exact se_v 6
                                    · refine se_make (c := 0) (as := [.val (eDisp [((eC (.str "zz")), (eC (.int 1)))])]) (by exact E.mk_Bag) (by exact h_Bag___init__) (by exact (hr.mono (by decide))) (by exact rfl) (by exact E.g_Bag) (by exact b_Bag___init__) (by exact tk) ?_
                                      refine sa_cons ?_ sa_nil
                                      refine se_dispz ?_
                                      exact spz_cons se_str se_int spz_nil
                                  · refine sa_cons ?_ sa_nil
                                    refine se_make (c := 0) (as := [.val (eVar 7)]) (by exact E.mk_Bag) (by exact h_Bag___init__) (by exact (hr.mono (by decide))) (by exact rfl) (by exact E.g_Bag) (by exact b_Bag___init__) (by exact tk) ?_
                                    refine sa_cons ?_ sa_nil
                                    exact se_v 7
                            · refine sss_one ?_
                              exact ss_ret se_bl
                          · refine sss_one ?_
                            refine ss_ret ?_
                            refine se_and ?_ ?_
                            · refine se_not ?_
                              refine se_cmpOwn (c := 2) (cs := [2]) (by exact (fun _ _ => rfl)) (by exact E.me_Store___eq__.at_) (by exact E.me_Store___eq__.fn) (by exact (nf_ok (x := "Store") E.nf_Store rfl (fun c hc => ⟨_, List.mem_cons_self, by rw [List.mem_singleton.mp hc] <;> rfl⟩))) (by exact h_Store___eq__) (by exact (hr.mono (by decide))) (by exact b_Store___eq__) (by exact tk) ?_ ?_ (by exact rfl)
                              · exact se_v 2
                              · refine se_make (c := 2) (as := [.val (eVar 5), .val (eMake 0 d_Bag___init__ [.val (eVar 6)]), .val (eOwnB 0 d_Bag___add__ (eMake 0 d_Bag___init__ [.val (eVar 7)]) (eMake 0 d_Bag___init__ [.val (eDisp [((eC (.str "zz")), (eC (.int 1)))])]))]) (by exact E.mk_Store) (by exact h_Store___init__) (by exact (hr.mono (by decide))) (by exact rfl) (by exact E.g_Store) (by exact b_Store___init__) (by exact tk) ?_
                                refine sa_cons ?_ ?_
                                · exact se_v 5
                                · refine sa_cons ?_ ?_
                                  · refine se_make (c := 0) (as := [.val (eVar 6)]) (by exact E.mk_Bag) (by exact h_Bag___init__) (by exact (hr.mono (by decide))) (by exact rfl) (by exact E.g_Bag) (by exact b_Bag___init__) (by exact tk) ?_
                                    refine sa_cons ?_ sa_nil
                                    exact se_v 6
                                  · refine sa_cons ?_ sa_nil
                                    refine se_binOwn (c := 0) (op := .Add) (by exact E.me_Bag___add__.at_) (by exact E.me_Bag___add__.fn) (by exact E.sf_Bag) (by exact h_Bag___add__) (by exact (hr.mono (by decide))) (by exact b_Bag___add__) (by exact tk) ?_ ?_
                                    · refine se_make (c := 0) (as := [.val (eVar 7)]) (by exact E.mk_Bag) (by exact h_Bag___init__) (by exact (hr.mono (by decide))) (by exact rfl) (by exact E.g_Bag) (by exact b_Bag___init__) (by exact tk) ?_
                                      refine sa_cons ?_ sa_nil
                                      exact se_v 7
                                    · refine se_make (c := 0) (as := [.val (eDisp [((eC (.str "zz")), (eC (.int 1)))])]) (by exact E.mk_Bag) (by exact h_Bag___init__) (by exact (hr.mono (by decide))) (by exact rfl) (by exact E.g_Bag) (by exact b_Bag___init__) (by exact tk) ?_
                                      refine sa_cons ?_ sa_nil
                                      refine se_dispz ?_
                                      exact spz_cons se_str se_int spz_nil
                            · refine se_one ?_
                              refine se_not ?_
                              refine se_cmpOwn (c := 2) (cs := [2]) (by exact (fun _ _ => rfl)) (by exact E.me_Store___eq__.at_) (by exact E.me_Store___eq__.fn) (by exact (nf_ok (x := "Store") E.nf_Store rfl (fun c hc => ⟨_, List.mem_cons_self, by rw [List.mem_singleton.mp hc] <;> rfl⟩))) (by exact h_Store___eq__) (by exact (hr.mono (by decide))) (by exact b_Store___eq__) (by exact tk) ?_ ?_ (by exact rfl)
                              · exact se_v 2
                              · exact se_v 5
  exact hF
def pb_Shop___eq__ : { b : List Stmt // b = defBody s_Shop___eq__ } := ⟨_, by conv => rhs; whnf⟩
def ps_Shop___eq__ : { b : Scope // b = defScope s_Shop___eq__ } := ⟨_, by conv => rhs; whnf⟩
theorem sc_Shop___eq__ : FnScope ["self", "other", "store"] ["self", "other"] ps_Shop___eq__.1 := ⟨rfl, rfl, rfl, by decide +kernel, rfl, by decide +kernel, by decide +kernel⟩
theorem bi_Shop___eq__ (E : Env K mg) : Binds K E.fd_Shop___eq__ ["self", "other"] [] := E.F_Shop___eq__.bindsN fun _ _ _ _ _ _ us hl => match us, hl with | [_, _], _ => rfl
theorem ok_Shop___eq__ (E : Env K mg) : FnOk P w K mg base (L2.CX P w) 2 (ma K (ga K "Shop") "__eq__") E.fd_Shop___eq__ ["self", "other"] (spF (wd K) 2 d_Shop___eq__) := by
  have h_parts_of := ok_parts_of (P := P) (w := w) (base := base) E
  have b_parts_of := bi_parts_of E
  have NN := sc_Shop___eq__.nd
  have FF := E.F_Shop___eq__
  rw [← pb_Shop___eq__.2, ← ps_Shop___eq__.2] at FF
  have hF : FnOk P w K mg base (L2.CX P w) 2 (ma K (ga K "Shop") "__eq__") E.fd_Shop___eq__ ["self", "other"] (spF (wd K) (["self", "other"] : List Str).length (fnM (["self", "other"] : List Str).length (["self", "other", "store"] : List Str).length d_Shop___eq___b)) := by
    refine fn_okD (N := ["self", "other", "store"]) (ps := ["self", "other"]) (k := 1) (wd := wd K) (m := d_Shop___eq___b) FF sc_Shop___eq__ fun cdv A outer s H X0 hr tk => ?_
    have PO := passes_of (X := cxOf (L2.CX P w) P w K mg base ["self", "other", "store"] "Shop.__eq__" ps_Shop___eq__.1 (ma K (ga K "Shop") "__eq__") cdv A outer s H X0) rfl
    refine sss_cons ?_ ?_
    · refine ss_if ?_ ?_ sss_nil
      · refine st_not ?_
        refine st_val ?_
        refine se_isi (c := 1) (by exact rfl) (by exact E.n_isinstance) (by exact rfl) (by exact E.g_Shop) (by exact (isi_ok E.is_Shop E.c_Shop)) ?_
        exact se_v 1
      · refine sss_one ?_
        exact ss_ret se_bl
    · refine sss_one ?_
      refine ss_ret ?_
      refine se_cmp (opd_eq (by exact hr.units)) ?_ ?_ (by exact rfl)
      · refine se_lc (own := [("store", 2)]) (by exact rfl) (by exact NN) ?_ (by exact (blkOk_by rfl)) (fun _ _ _ _ _ => (sg_nm (by exact NN) (by exact rfl) (by exact (.inl rfl)))) ?_ ?_
        · refine IM.il ?_
          refine im_tup ?_
          refine se_fld (c := 1) ?_ (by exact E.c_Shop) (by exact E.na_Shop_stores) (by exact rfl) (by exact rfl)
          exact se_v 0
        · intro _ _ _ _ _
          exact sts_nil
        · intro _ _ _ _ _
          refine sd_eat ?_
          refine se_call (as := [.val (eVar 2)]) (by exact h_parts_of) (by exact (hr.mono (by decide))) (by exact rfl) (by exact E.g_parts_of) (by exact E.F_parts_of.kp) (by exact b_parts_of) (by exact takes0) ?_
          refine sa_cons ?_ sa_nil
          exact se_v 2
      · refine se_lc (own := [("store", 2)]) (by exact rfl) (by exact NN) ?_ (by exact (blkOk_by rfl)) (fun _ _ _ _ _ => (sg_nm (by exact NN) (by exact rfl) (by exact (.inl rfl)))) ?_ ?_
        · refine IM.il ?_
          refine im_tup ?_
          refine se_fld (c := 1) ?_ (by exact E.c_Shop) (by exact E.na_Shop_stores) (by exact rfl) (by exact rfl)
          exact se_v 1
        · intro _ _ _ _ _
          exact sts_nil
        · intro _ _ _ _ _
          refine sd_eat ?_
          refine se_call (as := [.val (eVar 2)]) (by exact h_parts_of) (by exact (hr.mono (by decide))) (by exact rfl) (by exact E.g_parts_of) (by exact E.F_parts_of.kp) (by exact b_parts_of) (by exact takes0) ?_
          refine sa_cons ?_ sa_nil
          exact se_v 2
  exact hF
def pb_law : { b : List Stmt // b = defBody s_law } := ⟨_, by conv => rhs; whnf⟩
def ps_law : { b : Scope // b = defScope s_law } := ⟨_, by conv => rhs; whnf⟩
theorem sc_law : FnScope ["_law_script", "_law_pen_here", "_law_turn", "_law_deeds_here", "_law_stores_here", "_law_shop_here", "_law_bent", "_law_k", "_law_store"] ["_law_script"] ps_law.1 := ⟨rfl, rfl, rfl, by decide +kernel, rfl, by decide +kernel, by decide +kernel⟩
theorem bi_law (E : Env K mg) : Binds K E.fd_law ["_law_script"] [] := E.F_law.bindsN fun _ _ _ _ _ _ us hl => match us, hl with | [_], _ => rfl
theorem ok_law (E : Env K mg) : FnOk P w K mg base (L2.CX P w) 7 (ga K "law") E.fd_law ["_law_script"] (spF (wd K) 1 d_law) := by
  have h__law_pen := ok__law_pen (P := P) (w := w) (base := base) E
  have b__law_pen := bi__law_pen E
  have h__law_deeds := ok__law_deeds (P := P) (w := w) (base := base) E
  have b__law_deeds := bi__law_deeds E
  have h__law_draw := ok__law_draw (P := P) (w := w) (base := base) E
  have b__law_draw := bi__law_draw E
  have h__law_shop := ok__law_shop (P := P) (w := w) (base := base) E
  have b__law_shop := bi__law_shop E
  have h__law_size := ok__law_size (P := P) (w := w) (base := base) E
  have b__law_size := bi__law_size E
  have h__law_stores := ok__law_stores (P := P) (w := w) (base := base) E
  have b__law_stores := bi__law_stores E
  have h_Store_plain := ok_Store_plain (P := P) (w := w) (base := base) E
  have b_Store_plain := bi_Store_plain E
  have h_Shop___len__ := ok_Shop___len__ (P := P) (w := w) (base := base) E
  have b_Shop___len__ := bi_Shop___len__ E
  have h_Shop_plain := ok_Shop_plain (P := P) (w := w) (base := base) E
  have b_Shop_plain := bi_Shop_plain E
  have h__law_is_store_right := ok__law_is_store_right (P := P) (w := w) (base := base) E
  have b__law_is_store_right := bi__law_is_store_right E
  have h_Shop___eq__ := ok_Shop___eq__ (P := P) (w := w) (base := base) E
  have b_Shop___eq__ := bi_Shop___eq__ E
  have h_Shop___init__ := ok_Shop___init__ (P := P) (w := w) (base := base) E
  have b_Shop___init__ := bi_Shop___init__ E
  have NN := sc_law.nd
  have FF := E.F_law
  rw [← pb_law.2, ← ps_law.2] at FF
  have hF : FnOk P w K mg base (L2.CX P w) 7 (ga K "law") E.fd_law ["_law_script"] (spF (wd K) (["_law_script"] : List Str).length (fnM (["_law_script"] : List Str).length (["_law_script", "_law_pen_here", "_law_turn", "_law_deeds_here", "_law_stores_here", "_law_shop_here", "_law_bent", "_law_k", "_law_store"] : List Str).length d_law_b)) := by
    refine fn_okD (N := ["_law_script", "_law_pen_here", "_law_turn", "_law_deeds_here", "_law_stores_here", "_law_shop_here", "_law_bent", "_law_k", "_law_store"]) (ps := ["_law_script"]) (k := 6) (wd := wd K) (m := d_law_b) FF sc_law fun cdv A outer s H X0 hr tk => ?_
    have PO := passes_of (X := cxOf (L2.CX P w) P w K mg base ["_law_script", "_law_pen_here", "_law_turn", "_law_deeds_here", "_law_stores_here", "_law_shop_here", "_law_bent", "_law_k", "_law_store"] "law" ps_law.1 (ga K "law") cdv A outer s H X0) rfl
    refine sss_cons ?_ ?_
    · refine ss_set (by exact NN) (by exact rfl) (by exact (.inl rfl)) ?_
      refine se_call (as := [.val (eVar 0)]) (by exact h__law_pen) (by exact (hr.mono (by decide))) (by exact rfl) (by exact E.g__law_pen) (by exact E.F__law_pen.kp) (by exact b__law_pen) (by exact tk) ?_
      refine sa_cons ?_ sa_nil
      exact se_v 0
    · refine sss_cons ?_ ?_
      · refine ss_for (by exact PO) (by exact rfl) ?_ (sg_nm (by exact NN) (by exact rfl) (by exact (.inl rfl))) ?_
        · refine im_rng (by exact rfl) (by exact E.n_range) ?_
          refine se_bin opd_add se_int ?_
          refine se_callB (cd_min2 (by exact rfl)) (by exact rfl) (by exact E.n_min) bt_min ?_
          refine sa_cons se_int ?_
          refine sa_cons ?_ sa_nil
          refine se_callB (cd_len (by exact rfl)) (by exact rfl) (by exact E.n_len) bt_len ?_
          refine sa_cons ?_ sa_nil
          exact se_v 0
        · refine sss_cons ?_ ?_
          · refine ss_set (by exact NN) (by exact rfl) (by exact (.inl rfl)) ?_
            refine se_call (as := [.bor 1, .val (eBin dAdd (eC (.int 1)) (eCall d__law_draw [.bor 1, .val (eC (.int 4))]))]) (by exact h__law_deeds) (by exact (hr.mono (by decide))) (by exact rfl) (by exact E.g__law_deeds) (by exact E.F__law_deeds.kp) (by exact b__law_deeds) (by exact tk) ?_
            refine sa_cons ?_ ?_
            · exact se_v 1
            · refine sa_cons ?_ sa_nil
              refine se_bin opd_add se_int ?_
              refine se_call (as := [.bor 1, .val (eC (.int 4))]) (by exact h__law_draw) (by exact (hr.mono (by decide))) (by exact rfl) (by exact E.g__law_draw) (by exact E.F__law_draw.kp) (by exact b__law_draw) (by exact tk) ?_
              refine sa_cons ?_ ?_
              · exact se_v 1
              · exact sa_cons se_int sa_nil
          · refine sss_cons ?_ ?_
            · refine ss_set (by exact NN) (by exact rfl) (by exact (.inl rfl)) ?_
              refine se_call (as := [.bor 1, .val (eVar 3), .val (eBin dEq (eCall d__law_draw [.bor 1, .val (eC (.int 2))]) (eC (.int 0)))]) (by exact h__law_shop) (by exact (hr.mono (by decide))) (by exact rfl) (by exact E.g__law_shop) (by exact E.F__law_shop.kp) (by exact b__law_shop) (by exact tk) ?_
              refine sa_cons ?_ ?_
              · exact se_v 1
              · refine sa_cons ?_ ?_
                · exact se_v 3
                · refine sa_cons ?_ sa_nil
                  refine se_cmp (opd_eq (by exact hr.units)) ?_ se_int (by exact rfl)
                  refine se_call (as := [.bor 1, .val (eC (.int 2))]) (by exact h__law_draw) (by exact (hr.mono (by decide))) (by exact rfl) (by exact E.g__law_draw) (by exact E.F__law_draw.kp) (by exact b__law_draw) (by exact tk) ?_
                  refine sa_cons ?_ ?_
                  · exact se_v 1
                  · exact sa_cons se_int sa_nil
            · refine sss_cons ?_ ?_
              · refine ss_append (pv 4) ?_
                refine sd_eat ?_
                refine se_tup ?_
                refine sad_cons ?_ ?_
                · refine se_call (as := [.bor 1, .val (eLst [(eC (.int 1)), (eC (.int 9))])]) (by exact h__law_size) (by exact (hr.mono (by decide))) (by exact rfl) (by exact E.g__law_size) (by exact E.F__law_size.kp) (by exact b__law_size) (by exact tk) ?_
                  refine sa_cons ?_ ?_
                  · exact se_v 1
                  · refine sa_cons ?_ sa_nil
                    refine se_lst ?_
                    refine sad_cons se_int ?_
                    exact sad_cons se_int sad_nil
                · refine sad_cons ?_ ?_
                  · refine se_dispz ?_
                    refine spz_cons ?_ se_int spz_nil
                    refine se_ix ?_ se_int
                    exact se_v 3
                  · refine sad_cons ?_ sad_nil
                    refine se_dispz ?_
                    refine spz_cons ?_ se_int spz_nil
                    refine se_ix ?_ ?_
                    · exact se_v 3
                    · exact se_neg se_int
              · refine sss_cons ?_ ?_
                · refine ss_set (by exact NN) (by exact rfl) (by exact (.inl rfl)) ?_
                  refine se_call (as := [.val (eVar 4)]) (by exact h__law_stores) (by exact (hr.mono (by decide))) (by exact rfl) (by exact E.g__law_stores) (by exact E.F__law_stores.kp) (by exact b__law_stores) (by exact tk) ?_
                  refine sa_cons ?_ sa_nil
                  exact se_v 4
                · refine sss_cons ?_ ?_
                  · refine ss_setLc (own := [("_law_store", 8)]) (by exact rfl) (by exact NN) (by exact rfl) (by exact rfl) (by exact (sw_true rfl rfl rfl rfl)) ?_ (by exact (blkOk_by rfl)) (fun _ _ _ _ _ => (sg_nm (by exact NN) (by exact rfl) (by exact (.inl rfl)))) ?_ ?_
                    · refine IM.il ?_
                      refine im_tup ?_
                      refine se_fld (c := 1) ?_ (by exact E.c_Shop) (by exact E.na_Shop_stores) (by exact rfl) (by exact rfl)
                      exact se_v 5
                    · intro _ _ _ _ _
                      refine sts_one ?_
                      refine st_not ?_
                      refine st_val ?_
                      refine se_prop (c := 2) ?_ (by exact E.c_Store) (by exact E.pr_Store_plain) (by exact h_Store_plain) (by exact (hr.mono (by decide))) (by exact b_Store_plain) (by exact rfl)
                      exact se_v 8
                    · intro _ _ _ _ _
                      refine sd_eat ?_
                      exact se_v 8
                  · refine sss_cons ?_ ?_
                    · refine ss_if ?_ ?_ sss_nil
                      · refine SW.st ?_
                        refine sw_or ?_ ?_
                        · refine st_cmp (opd_ne (by exact hr.units)) ?_ ?_ (by exact rfl)
                          · refine se_lenOwn (c := 1) (by exact rfl) (by exact E.n_len) (by exact E.me_Shop___len__.at_) (by exact E.me_Shop___len__.fn) (by exact h_Shop___len__) (by exact (hr.mono (by decide))) (by exact b_Shop___len__) ?_
                            exact se_v 5
                          · refine se_callB (cd_len (by exact rfl)) (by exact rfl) (by exact E.n_len) bt_len ?_
                            refine sa_cons ?_ sa_nil
                            exact se_v 4
                        · refine sw_or1 ?_
                          refine st_cmp (opd_ne (by exact hr.units)) ?_ ?_ (by exact rfl)
                          · refine se_prop (c := 1) ?_ (by exact E.c_Shop) (by exact E.pr_Shop_plain) (by exact h_Shop_plain) (by exact (hr.mono (by decide))) (by exact b_Shop_plain) (by exact rfl)
                            exact se_v 5
                          · refine se_cmp (opd_eq (by exact hr.units)) ?_ ?_ (by exact rfl)
                            · exact se_v 6
                            · exact se_lst sad_nil
                      · refine sss_one ?_
                        exact ss_ret se_bl
                    · refine sss_cons ?_ ?_
                      · refine ss_for (by exact PO) (by exact rfl) ?_ (sg_nm (by exact NN) (by exact rfl) (by exact (.inl rfl))) ?_
                        · refine im_rng (by exact rfl) (by exact E.n_range) ?_
                          refine se_callB (cd_len (by exact rfl)) (by exact rfl) (by exact E.n_len) bt_len ?_
                          refine sa_cons ?_ sa_nil
                          exact se_v 4
                        · refine sss_one ?_
                          refine ss_if ?_ ?_ sss_nil
                          · refine st_not ?_
                            refine st_val ?_
                            refine se_call (as := [.bor 1, .val (eVar 3), .val (eBin dIx (eFld 1 0 (eVar 5)) (eVar 7)), .val (eBin dIx (eVar 4) (eVar 7))]) (by exact h__law_is_store_right) (by exact (hr.mono (by decide))) (by exact rfl) (by exact E.g__law_is_store_right) (by exact E.F__law_is_store_right.kp) (by exact b__law_is_store_right) (by exact tk) ?_
                            refine sa_cons ?_ ?_
                            · exact se_v 1
                            · refine sa_cons ?_ ?_
                              · exact se_v 3
                              · refine sa_cons ?_ ?_
                                · refine se_ix ?_ ?_
                                  · refine se_fld (c := 1) ?_ (by exact E.c_Shop) (by exact E.na_Shop_stores) (by exact rfl) (by exact rfl)
                                    exact se_v 5
                                  · exact se_v 7
                                · refine sa_cons ?_ sa_nil
                                  refine se_ix ?_ ?_
                                  · exact se_v 4
                                  · exact se_v 7
                          · refine sss_one ?_
                            exact ss_ret se_bl
                      · refine sss_cons ?_ ?_
                        · refine ss_if ?_ ?_ sss_nil
                          · refine SW.st ?_
                            refine sw_or ?_ ?_
                            · refine st_not ?_
                              refine st_cmpOwn (c := 1) (cs := [1]) (by exact (fun _ _ => rfl)) (by exact E.me_Shop___eq__.at_) (by exact E.me_Shop___eq__.fn) (by exact (nf_ok (x := "Shop") E.nf_Shop rfl (fun c hc => ⟨_, List.mem_cons_self, by rw [List.mem_singleton.mp hc] <;> rfl⟩))) (by exact h_Shop___eq__) (by exact (hr.mono (by decide))) (by exact b_Shop___eq__) (by exact tk) ?_ ?_ (by exact rfl)
                              · exact se_v 5
                              · refine se_call (as := [.val (eVar 4)]) (by exact h__law_stores) (by exact (hr.mono (by decide))) (by exact rfl) (by exact E.g__law_stores) (by exact E.F__law_stores.kp) (by exact b__law_stores) (by exact tk) ?_
                                refine sa_cons ?_ sa_nil
                                exact se_v 4
                            · refine sw_or ?_ ?_
                              · refine st_cmpOwn (c := 1) (cs := [1]) (by exact (fun _ _ => rfl)) (by exact E.me_Shop___eq__.at_) (by exact E.me_Shop___eq__.fn) (by exact (nf_ok (x := "Shop") E.nf_Shop rfl (fun c hc => ⟨_, List.mem_cons_self, by rw [List.mem_singleton.mp hc] <;> rfl⟩))) (by exact h_Shop___eq__) (by exact (hr.mono (by decide))) (by exact b_Shop___eq__) (by exact tk) ?_ ?_ (by exact rfl)
                                · exact se_v 5
                                · refine se_call (as := [.val (eBin dAdd (eVar 4) (eSlice (eVar 4) none (some (eC (.int 1)))))]) (by exact h__law_stores) (by exact (hr.mono (by decide))) (by exact rfl) (by exact E.g__law_stores) (by exact E.F__law_stores.kp) (by exact b__law_stores) (by exact tk) ?_
                                  refine sa_cons ?_ sa_nil
                                  refine se_bin opd_add ?_ ?_
                                  · exact se_v 4
                                  · refine se_slice (by exact rfl) ?_ so_none ?_
                                    · exact se_v 4
                                    · exact so_some se_int
                              · refine sw_or1 ?_
                                refine st_cmpOwn (c := 1) (cs := [1]) (by exact (fun _ _ => rfl)) (by exact E.me_Shop___eq__.at_) (by exact E.me_Shop___eq__.fn) (by exact (nf_ok (x := "Shop") E.nf_Shop rfl (fun c hc => ⟨_, List.mem_cons_self, by rw [List.mem_singleton.mp hc] <;> rfl⟩))) (by exact h_Shop___eq__) (by exact (hr.mono (by decide))) (by exact b_Shop___eq__) (by exact tk) ?_ ?_ (by exact rfl)
                                · exact se_v 5
                                · refine se_fld (c := 1) ?_ (by exact E.c_Shop) (by exact E.na_Shop_stores) (by exact rfl) (by exact rfl)
                                  exact se_v 5
                          · refine sss_one ?_
                            exact ss_ret se_bl
                        · refine sss_one ?_
                          refine ss_if ?_ ?_ sss_nil
                          · refine st_cmp (opd_ne (by exact hr.units)) ?_ ?_ (by exact rfl)
                            · refine se_cmpOwn (c := 1) (cs := [1]) (by exact (fun _ _ => rfl)) (by exact E.me_Shop___eq__.at_) (by exact E.me_Shop___eq__.fn) (by exact (nf_ok (x := "Shop") E.nf_Shop rfl (fun c hc => ⟨_, List.mem_cons_self, by rw [List.mem_singleton.mp hc] <;> rfl⟩))) (by exact h_Shop___eq__) (by exact (hr.mono (by decide))) (by exact b_Shop___eq__) (by exact tk) ?_ ?_ (by exact rfl)
                              · exact se_v 5
                              · refine se_call (as := [.val (eRev (eVar 4))]) (by exact h__law_stores) (by exact (hr.mono (by decide))) (by exact rfl) (by exact E.g__law_stores) (by exact E.F__law_stores.kp) (by exact b__law_stores) (by exact tk) ?_
                                refine sa_cons ?_ sa_nil
                                refine se_rev ?_
                                exact se_v 4
                            · refine se_cmp (opd_eq (by exact hr.units)) ?_ ?_ (by exact rfl)
                              · exact se_v 4
                              · refine se_rev ?_
                                exact se_v 4
                          · refine sss_one ?_
                            exact ss_ret se_bl
      · refine sss_one ?_
        refine ss_ret ?_
        refine se_and ?_ ?_
        · refine se_cmp (opd_eq (by exact hr.units)) ?_ se_int (by exact rfl)
          refine se_lenOwn (c := 1) (by exact rfl) (by exact E.n_len) (by exact E.me_Shop___len__.at_) (by exact E.me_Shop___len__.fn) (by exact h_Shop___len__) (by exact (hr.mono (by decide))) (by exact b_Shop___len__) ?_
          refine se_make (c := 1) (as := [.val (eLst [])]) (by exact E.mk_Shop) (by exact h_Shop___init__) (by exact (hr.mono (by decide))) (by exact rfl) (by exact E.g_Shop) (by exact b_Shop___init__) (by exact tk) ?_
          refine sa_cons ?_ sa_nil
          exact se_lst sad_nil
        · refine se_one ?_
          refine se_prop (c := 1) ?_ (by exact E.c_Shop) (by exact E.pr_Shop_plain) (by exact h_Shop_plain) (by exact (hr.mono (by decide))) (by exact b_Shop_plain) (by exact rfl)
          refine se_make (c := 1) (as := [.val (eLst [])]) (by exact E.mk_Shop) (by exact h_Shop___init__) (by exact (hr.mono (by decide))) (by exact rfl) (by exact E.g_Shop) (by exact b_Shop___init__) (by exact tk) ?_
          refine sa_cons ?_ sa_nil
          exact se_lst sad_nil
  exact hF
end
end Wk
end

section
set_option Elab.async false
set_option linter.all false
set_option maxRecDepth 100000
set_option maxHeartbeats 0
namespace Hd
open PySem PySem.Spec PyProof.Rows L2 U Wk
open He (ga ma)
def fns : List DefU := [⟨fun K => ga K "_law_pen", "_law_pen", "_law_pen", s__law_pen⟩,
  ⟨fun K => ga K "_law_draw", "_law_draw", "_law_draw", s__law_draw⟩,
  ⟨fun K => ga K "_law_pick", "_law_pick", "_law_pick", s__law_pick⟩,
  ⟨fun K => ga K "_law_deeds", "_law_deeds", "_law_deeds", s__law_deeds⟩,
  ⟨fun K => ga K "_law_size", "_law_size", "_law_size", s__law_size⟩,
  ⟨fun K => ga K "_law_shop", "_law_shop", "_law_shop", s__law_shop⟩,
  ⟨fun K => ma K (ga K "Shop") "__init__", "__init__", "Shop.__init__", s_Shop___init__⟩,
  ⟨fun K => ma K (ga K "Store") "__init__", "__init__", "Store.__init__", s_Store___init__⟩,
  ⟨fun K => ga K "ascending", "ascending", "ascending", s_ascending⟩,
  ⟨fun K => ga K "cleaned", "cleaned", "cleaned", s_cleaned⟩,
  ⟨fun K => ma K (ga K "Bag") "__init__", "__init__", "Bag.__init__", s_Bag___init__⟩,
  ⟨fun K => ga K "_law_stores", "_law_stores", "_law_stores", s__law_stores⟩,
  ⟨fun K => getAd K "Store" "plain", "plain", "Store.plain", s_Store_plain⟩,
  ⟨fun K => ma K (ga K "Shop") "__len__", "__len__", "Shop.__len__", s_Shop___len__⟩,
  ⟨fun K => ga K "is_plain", "is_plain", "is_plain", s_is_plain⟩,
  ⟨fun K => getAd K "Shop" "plain", "plain", "Shop.plain", s_Shop_plain⟩,
  ⟨fun K => ga K "_law_counts", "_law_counts", "_law_counts", s__law_counts⟩,
  ⟨fun K => ga K "_law_plus", "_law_plus", "_law_plus", s__law_plus⟩,
  ⟨fun K => ga K "_law_step", "_law_step", "_law_step", s__law_step⟩,
  ⟨fun K => ga K "taken", "taken", "taken", s_taken⟩,
  ⟨fun K => ga K "gained", "gained", "gained", s_gained⟩,
  ⟨fun K => ga K "held", "held", "held", s_held⟩,
  ⟨fun K => ma K (ga K "Store") "__call__", "__call__", "Store.__call__", s_Store___call__⟩,
  ⟨fun K => ga K "_law_spare", "_law_spare", "_law_spare", s__law_spare⟩,
  ⟨fun K => ga K "spare", "spare", "spare", s_spare⟩,
  ⟨fun K => ma K (ga K "Store") "lets", "lets", "Store.lets", s_Store_lets⟩,
  ⟨fun K => ga K "parts_of", "parts_of", "parts_of", s_parts_of⟩,
  ⟨fun K => ma K (ga K "Store") "__eq__", "__eq__", "Store.__eq__", s_Store___eq__⟩,
  ⟨fun K => ga K "added", "added", "added", s_added⟩,
  ⟨fun K => ma K (ga K "Bag") "__add__", "__add__", "Bag.__add__", s_Bag___add__⟩,
  ⟨fun K => ga K "_law_is_store_right", "_law_is_store_right", "_law_is_store_right", s__law_is_store_right⟩,
  ⟨fun K => ma K (ga K "Shop") "__eq__", "__eq__", "Shop.__eq__", s_Shop___eq__⟩,
  ⟨fun K => ga K "law", "law", "law", s_law⟩]
def fus : List Fu := [.fa (.glo "_law_pen"),
  .fa (.free "len"),
  .fa (.free "min"),
  .fa (.free "range"),
  .fa (.glo "_law_draw"),
  .fa (.glo "_law_deeds"),
  .fa (.glo "_law_shop"),
  .fa (.glo "_law_size"),
  .fa (.glo "_law_stores"),
  .fa (.cls "Shop"),
  .fa (.noat "Shop" "stores"),
  .fa (.cls "Store"),
  .prop "Store" "plain",
  .fa (.meth "Shop" "__len__"),
  .prop "Shop" "plain",
  .fa (.glo "_law_is_store_right"),
  .fa (.meth "Shop" "__eq__"),
  .eqo "Shop" ["Shop"],
  .fa (.mkr "Shop"),
  .fa (.glo "Shop"),
  .fa (.free "list"),
  .fa (.glo "_law_pick"),
  .fa (.free "int"),
  .fa (.mkr "Bag"),
  .fa (.glo "Bag"),
  .fa (.mkr "Store"),
  .fa (.glo "Store"),
  .fa (.free "tuple"),
  .fa (.noat "Store" "begin"),
  .fa (.noat "Store" "takes"),
  .fa (.noat "Store" "gives"),
  .fa (.glo "cleaned"),
  .fa (.cls "Bag"),
  .fa (.noat "Bag" "parts"),
  .fa (.glo "ascending"),
  .fa (.free "str"),
  .fa (.free "sorted"),
  .fa (.glo "is_plain"),
  .fa (.glo "_law_counts"),
  .fa (.glo "_law_step"),
  .fa (.meth "Store" "__call__"),
  .fnin "Store" "__call__",
  .fa (.glo "_law_spare"),
  .fa (.meth "Store" "lets"),
  .fa (.meth "Store" "__eq__"),
  .eqo "Store" ["Store"],
  .fa (.meth "Bag" "__add__"),
  .self "Bag",
  .fa (.glo "_law_plus"),
  .fa (.glo "held"),
  .fa (.glo "gained"),
  .fa (.free "sum"),
  .fa (.glo "taken"),
  .fa (.glo "spare"),
  .fa (.free "isinstance"),
  .isi "Store",
  .fa (.glo "parts_of"),
  .fa (.glo "added"),
  .isi "Shop",
  .fa (.glo "law")]
def lo0 : List PySem.Str := ["_wall", "ShopError", "BadText", "BadBag", "LETTERS", "DIGITS", "MOST_LETTERS", "MOST_DIGITS", "EVER", "is_word", "read_number", "ascending", "cleaned", "added", "scaled", "lacking", "parts_text", "read_part", "read_parts", "Bag", "Store", "Shop", "parts_of", "is_plain", "taken", "gained", "held", "spare", "_law_pen", "_law_draw"]
def lo1 : List PySem.Str := ["_law_pick", "_law_deeds", "_law_size", "_law_plus", "_law_step", "_law_shop", "_law_spare", "_law_stores", "_law_counts", "_law_is_store_right"]
def loose : List PySem.Str := lo0 ++ lo1
abbrev RR : PySem.W.OpenRow := PySem.W.OpenLaw.row PySem.Challenge.rw_unseenstores_k09_stores
abbrev hk : PySem.W.Hook := hookU 7 fus fns
def ob (s : PySem.W.SharedT) : AlU := obsUG 7 fus fns (HandSHeadRun.getT s)
theorem ob_eq (s : PySem.W.SharedT) : ob s = hk.obs s.abs := obsUG_eq (HandSHeadRun.getT_eq s)
theorem run (w : World) : HandSHeadRun.RunEq RR (PySem.W.view RR.prog [45]) hk ob 12000 loose w := by
  intro os
  kernel_rfl
noncomputable def mkEnv {K : PySem.W.Frag} {h : Heap} {mg : Str → Option Value} (X : K.In h) (G : h.Ns mainGlobals mg) (c : SaysU fus fns K) : Env K mg where
  fd__law_pen := (c.def_ 0 (d := ⟨fun K => ga K "_law_pen", "_law_pen", "_law_pen", s__law_pen⟩) rfl).choose
  F__law_pen := (c.def_ 0 (d := ⟨fun K => ga K "_law_pen", "_law_pen", "_law_pen", s__law_pen⟩) rfl).choose_spec
  fd__law_draw := (c.def_ 1 (d := ⟨fun K => ga K "_law_draw", "_law_draw", "_law_draw", s__law_draw⟩) rfl).choose
  F__law_draw := (c.def_ 1 (d := ⟨fun K => ga K "_law_draw", "_law_draw", "_law_draw", s__law_draw⟩) rfl).choose_spec
  fd__law_pick := (c.def_ 2 (d := ⟨fun K => ga K "_law_pick", "_law_pick", "_law_pick", s__law_pick⟩) rfl).choose
  F__law_pick := (c.def_ 2 (d := ⟨fun K => ga K "_law_pick", "_law_pick", "_law_pick", s__law_pick⟩) rfl).choose_spec
  fd__law_deeds := (c.def_ 3 (d := ⟨fun K => ga K "_law_deeds", "_law_deeds", "_law_deeds", s__law_deeds⟩) rfl).choose
  F__law_deeds := (c.def_ 3 (d := ⟨fun K => ga K "_law_deeds", "_law_deeds", "_law_deeds", s__law_deeds⟩) rfl).choose_spec
  fd__law_size := (c.def_ 4 (d := ⟨fun K => ga K "_law_size", "_law_size", "_law_size", s__law_size⟩) rfl).choose
  F__law_size := (c.def_ 4 (d := ⟨fun K => ga K "_law_size", "_law_size", "_law_size", s__law_size⟩) rfl).choose_spec
  fd__law_shop := (c.def_ 5 (d := ⟨fun K => ga K "_law_shop", "_law_shop", "_law_shop", s__law_shop⟩) rfl).choose
  F__law_shop := (c.def_ 5 (d := ⟨fun K => ga K "_law_shop", "_law_shop", "_law_shop", s__law_shop⟩) rfl).choose_spec
  fd_Shop___init__ := (c.def_ 6 (d := ⟨fun K => ma K (ga K "Shop") "__init__", "__init__", "Shop.__init__", s_Shop___init__⟩) rfl).choose
  F_Shop___init__ := (c.def_ 6 (d := ⟨fun K => ma K (ga K "Shop") "__init__", "__init__", "Shop.__init__", s_Shop___init__⟩) rfl).choose_spec
  fd_Store___init__ := (c.def_ 7 (d := ⟨fun K => ma K (ga K "Store") "__init__", "__init__", "Store.__init__", s_Store___init__⟩) rfl).choose
  F_Store___init__ := (c.def_ 7 (d := ⟨fun K => ma K (ga K "Store") "__init__", "__init__", "Store.__init__", s_Store___init__⟩) rfl).choose_spec
  fd_ascending := (c.def_ 8 (d := ⟨fun K => ga K "ascending", "ascending", "ascending", s_ascending⟩) rfl).choose
  F_ascending := (c.def_ 8 (d := ⟨fun K => ga K "ascending", "ascending", "ascending", s_ascending⟩) rfl).choose_spec
  fd_cleaned := (c.def_ 9 (d := ⟨fun K => ga K "cleaned", "cleaned", "cleaned", s_cleaned⟩) rfl).choose
  F_cleaned := (c.def_ 9 (d := ⟨fun K => ga K "cleaned", "cleaned", "cleaned", s_cleaned⟩) rfl).choose_spec
  fd_Bag___init__ := (c.def_ 10 (d := ⟨fun K => ma K (ga K "Bag") "__init__", "__init__", "Bag.__init__", s_Bag___init__⟩) rfl).choose
  F_Bag___init__ := (c.def_ 10 (d := ⟨fun K => ma K (ga K "Bag") "__init__", "__init__", "Bag.__init__", s_Bag___init__⟩) rfl).choose_spec
  fd__law_stores := (c.def_ 11 (d := ⟨fun K => ga K "_law_stores", "_law_stores", "_law_stores", s__law_stores⟩) rfl).choose
  F__law_stores := (c.def_ 11 (d := ⟨fun K => ga K "_law_stores", "_law_stores", "_law_stores", s__law_stores⟩) rfl).choose_spec
  fd_Store_plain := (c.def_ 12 (d := ⟨fun K => getAd K "Store" "plain", "plain", "Store.plain", s_Store_plain⟩) rfl).choose
  F_Store_plain := (c.def_ 12 (d := ⟨fun K => getAd K "Store" "plain", "plain", "Store.plain", s_Store_plain⟩) rfl).choose_spec
  fd_Shop___len__ := (c.def_ 13 (d := ⟨fun K => ma K (ga K "Shop") "__len__", "__len__", "Shop.__len__", s_Shop___len__⟩) rfl).choose
  F_Shop___len__ := (c.def_ 13 (d := ⟨fun K => ma K (ga K "Shop") "__len__", "__len__", "Shop.__len__", s_Shop___len__⟩) rfl).choose_spec
  fd_is_plain := (c.def_ 14 (d := ⟨fun K => ga K "is_plain", "is_plain", "is_plain", s_is_plain⟩) rfl).choose
  F_is_plain := (c.def_ 14 (d := ⟨fun K => ga K "is_plain", "is_plain", "is_plain", s_is_plain⟩) rfl).choose_spec
  fd_Shop_plain := (c.def_ 15 (d := ⟨fun K => getAd K "Shop" "plain", "plain", "Shop.plain", s_Shop_plain⟩) rfl).choose
  F_Shop_plain := (c.def_ 15 (d := ⟨fun K => getAd K "Shop" "plain", "plain", "Shop.plain", s_Shop_plain⟩) rfl).choose_spec
  fd__law_counts := (c.def_ 16 (d := ⟨fun K => ga K "_law_counts", "_law_counts", "_law_counts", s__law_counts⟩) rfl).choose
  F__law_counts := (c.def_ 16 (d := ⟨fun K => ga K "_law_counts", "_law_counts", "_law_counts", s__law_counts⟩) rfl).choose_spec
  fd__law_plus := (c.def_ 17 (d := ⟨fun K => ga K "_law_plus", "_law_plus", "_law_plus", s__law_plus⟩) rfl).choose
  F__law_plus := (c.def_ 17 (d := ⟨fun K => ga K "_law_plus", "_law_plus", "_law_plus", s__law_plus⟩) rfl).choose_spec
  fd__law_step := (c.def_ 18 (d := ⟨fun K => ga K "_law_step", "_law_step", "_law_step", s__law_step⟩) rfl).choose
  F__law_step := (c.def_ 18 (d := ⟨fun K => ga K "_law_step", "_law_step", "_law_step", s__law_step⟩) rfl).choose_spec
  fd_taken := (c.def_ 19 (d := ⟨fun K => ga K "taken", "taken", "taken", s_taken⟩) rfl).choose
  F_taken := (c.def_ 19 (d := ⟨fun K => ga K "taken", "taken", "taken", s_taken⟩) rfl).choose_spec
  fd_gained := (c.def_ 20 (d := ⟨fun K => ga K "gained", "gained", "gained", s_gained⟩) rfl).choose
  F_gained := (c.def_ 20 (d := ⟨fun K => ga K "gained", "gained", "gained", s_gained⟩) rfl).choose_spec
  fd_held := (c.def_ 21 (d := ⟨fun K => ga K "held", "held", "held", s_held⟩) rfl).choose
  F_held := (c.def_ 21 (d := ⟨fun K => ga K "held", "held", "held", s_held⟩) rfl).choose_spec
  fd_Store___call__ := (c.def_ 22 (d := ⟨fun K => ma K (ga K "Store") "__call__", "__call__", "Store.__call__", s_Store___call__⟩) rfl).choose
  F_Store___call__ := (c.def_ 22 (d := ⟨fun K => ma K (ga K "Store") "__call__", "__call__", "Store.__call__", s_Store___call__⟩) rfl).choose_spec
  fd__law_spare := (c.def_ 23 (d := ⟨fun K => ga K "_law_spare", "_law_spare", "_law_spare", s__law_spare⟩) rfl).choose
  F__law_spare := (c.def_ 23 (d := ⟨fun K => ga K "_law_spare", "_law_spare", "_law_spare", s__law_spare⟩) rfl).choose_spec
  fd_spare := (c.def_ 24 (d := ⟨fun K => ga K "spare", "spare", "spare", s_spare⟩) rfl).choose
  F_spare := (c.def_ 24 (d := ⟨fun K => ga K "spare", "spare", "spare", s_spare⟩) rfl).choose_spec
  fd_Store_lets := (c.def_ 25 (d := ⟨fun K => ma K (ga K "Store") "lets", "lets", "Store.lets", s_Store_lets⟩) rfl).choose
  F_Store_lets := (c.def_ 25 (d := ⟨fun K => ma K (ga K "Store") "lets", "lets", "Store.lets", s_Store_lets⟩) rfl).choose_spec
  fd_parts_of := (c.def_ 26 (d := ⟨fun K => ga K "parts_of", "parts_of", "parts_of", s_parts_of⟩) rfl).choose
  F_parts_of := (c.def_ 26 (d := ⟨fun K => ga K "parts_of", "parts_of", "parts_of", s_parts_of⟩) rfl).choose_spec
  fd_Store___eq__ := (c.def_ 27 (d := ⟨fun K => ma K (ga K "Store") "__eq__", "__eq__", "Store.__eq__", s_Store___eq__⟩) rfl).choose
  F_Store___eq__ := (c.def_ 27 (d := ⟨fun K => ma K (ga K "Store") "__eq__", "__eq__", "Store.__eq__", s_Store___eq__⟩) rfl).choose_spec
  fd_added := (c.def_ 28 (d := ⟨fun K => ga K "added", "added", "added", s_added⟩) rfl).choose
  F_added := (c.def_ 28 (d := ⟨fun K => ga K "added", "added", "added", s_added⟩) rfl).choose_spec
  fd_Bag___add__ := (c.def_ 29 (d := ⟨fun K => ma K (ga K "Bag") "__add__", "__add__", "Bag.__add__", s_Bag___add__⟩) rfl).choose
  F_Bag___add__ := (c.def_ 29 (d := ⟨fun K => ma K (ga K "Bag") "__add__", "__add__", "Bag.__add__", s_Bag___add__⟩) rfl).choose_spec
  fd__law_is_store_right := (c.def_ 30 (d := ⟨fun K => ga K "_law_is_store_right", "_law_is_store_right", "_law_is_store_right", s__law_is_store_right⟩) rfl).choose
  F__law_is_store_right := (c.def_ 30 (d := ⟨fun K => ga K "_law_is_store_right", "_law_is_store_right", "_law_is_store_right", s__law_is_store_right⟩) rfl).choose_spec
  fd_Shop___eq__ := (c.def_ 31 (d := ⟨fun K => ma K (ga K "Shop") "__eq__", "__eq__", "Shop.__eq__", s_Shop___eq__⟩) rfl).choose
  F_Shop___eq__ := (c.def_ 31 (d := ⟨fun K => ma K (ga K "Shop") "__eq__", "__eq__", "Shop.__eq__", s_Shop___eq__⟩) rfl).choose_spec
  fd_law := (c.def_ 32 (d := ⟨fun K => ga K "law", "law", "law", s_law⟩) rfl).choose
  F_law := (c.def_ 32 (d := ⟨fun K => ga K "law", "law", "law", s_law⟩) rfl).choose_spec
  g__law_pen := He.glo_ok X G (c.fact 0 (f := .fa (.glo "_law_pen")) rfl)
  n_len := He.free_ok X G (c.fact 1 (f := .fa (.free "len")) rfl)
  n_min := He.free_ok X G (c.fact 2 (f := .fa (.free "min")) rfl)
  n_range := He.free_ok X G (c.fact 3 (f := .fa (.free "range")) rfl)
  g__law_draw := He.glo_ok X G (c.fact 4 (f := .fa (.glo "_law_draw")) rfl)
  g__law_deeds := He.glo_ok X G (c.fact 5 (f := .fa (.glo "_law_deeds")) rfl)
  g__law_shop := He.glo_ok X G (c.fact 6 (f := .fa (.glo "_law_shop")) rfl)
  g__law_size := He.glo_ok X G (c.fact 7 (f := .fa (.glo "_law_size")) rfl)
  g__law_stores := He.glo_ok X G (c.fact 8 (f := .fa (.glo "_law_stores")) rfl)
  c_Shop := He.cls_ok (c.fact 9 (f := .fa (.cls "Shop")) rfl)
  na_Shop_stores := He.noat_ok (c.fact 10 (f := .fa (.noat "Shop" "stores")) rfl)
  c_Store := He.cls_ok (c.fact 11 (f := .fa (.cls "Store")) rfl)
  pr_Store_plain := prop_ok (c.fact 12 (f := .prop "Store" "plain") rfl)
  me_Shop___len__ := He.meth_ok (c.fact 13 (f := .fa (.meth "Shop" "__len__")) rfl)
  pr_Shop_plain := prop_ok (c.fact 14 (f := .prop "Shop" "plain") rfl)
  g__law_is_store_right := He.glo_ok X G (c.fact 15 (f := .fa (.glo "_law_is_store_right")) rfl)
  me_Shop___eq__ := He.meth_ok (c.fact 16 (f := .fa (.meth "Shop" "__eq__")) rfl)
  nf_Shop := (c.fact 17 (f := .eqo "Shop" ["Shop"]) rfl)
  mk_Shop := He.mkr_ok (c.fact 18 (f := .fa (.mkr "Shop")) rfl)
  g_Shop := He.glo_ok X G (c.fact 19 (f := .fa (.glo "Shop")) rfl)
  n_list := He.free_ok X G (c.fact 20 (f := .fa (.free "list")) rfl)
  g__law_pick := He.glo_ok X G (c.fact 21 (f := .fa (.glo "_law_pick")) rfl)
  n_int := He.free_ok X G (c.fact 22 (f := .fa (.free "int")) rfl)
  mk_Bag := He.mkr_ok (c.fact 23 (f := .fa (.mkr "Bag")) rfl)
  g_Bag := He.glo_ok X G (c.fact 24 (f := .fa (.glo "Bag")) rfl)
  mk_Store := He.mkr_ok (c.fact 25 (f := .fa (.mkr "Store")) rfl)
  g_Store := He.glo_ok X G (c.fact 26 (f := .fa (.glo "Store")) rfl)
  n_tuple := He.free_ok X G (c.fact 27 (f := .fa (.free "tuple")) rfl)
  na_Store_begin := He.noat_ok (c.fact 28 (f := .fa (.noat "Store" "begin")) rfl)
  na_Store_takes := He.noat_ok (c.fact 29 (f := .fa (.noat "Store" "takes")) rfl)
  na_Store_gives := He.noat_ok (c.fact 30 (f := .fa (.noat "Store" "gives")) rfl)
  g_cleaned := He.glo_ok X G (c.fact 31 (f := .fa (.glo "cleaned")) rfl)
  c_Bag := He.cls_ok (c.fact 32 (f := .fa (.cls "Bag")) rfl)
  na_Bag_parts := He.noat_ok (c.fact 33 (f := .fa (.noat "Bag" "parts")) rfl)
  g_ascending := He.glo_ok X G (c.fact 34 (f := .fa (.glo "ascending")) rfl)
  n_str := He.free_ok X G (c.fact 35 (f := .fa (.free "str")) rfl)
  n_sorted := He.free_ok X G (c.fact 36 (f := .fa (.free "sorted")) rfl)
  g_is_plain := He.glo_ok X G (c.fact 37 (f := .fa (.glo "is_plain")) rfl)
  g__law_counts := He.glo_ok X G (c.fact 38 (f := .fa (.glo "_law_counts")) rfl)
  g__law_step := He.glo_ok X G (c.fact 39 (f := .fa (.glo "_law_step")) rfl)
  me_Store___call__ := He.meth_ok (c.fact 40 (f := .fa (.meth "Store" "__call__")) rfl)
  fi_Store___call__ := (c.fact 41 (f := .fnin "Store" "__call__") rfl)
  g__law_spare := He.glo_ok X G (c.fact 42 (f := .fa (.glo "_law_spare")) rfl)
  me_Store_lets := He.meth_ok (c.fact 43 (f := .fa (.meth "Store" "lets")) rfl)
  me_Store___eq__ := He.meth_ok (c.fact 44 (f := .fa (.meth "Store" "__eq__")) rfl)
  nf_Store := (c.fact 45 (f := .eqo "Store" ["Store"]) rfl)
  me_Bag___add__ := He.meth_ok (c.fact 46 (f := .fa (.meth "Bag" "__add__")) rfl)
  sf_Bag := (c.fact 47 (f := .self "Bag") rfl)
  g__law_plus := He.glo_ok X G (c.fact 48 (f := .fa (.glo "_law_plus")) rfl)
  g_held := He.glo_ok X G (c.fact 49 (f := .fa (.glo "held")) rfl)
  g_gained := He.glo_ok X G (c.fact 50 (f := .fa (.glo "gained")) rfl)
  n_sum := He.free_ok X G (c.fact 51 (f := .fa (.free "sum")) rfl)
  g_taken := He.glo_ok X G (c.fact 52 (f := .fa (.glo "taken")) rfl)
  g_spare := He.glo_ok X G (c.fact 53 (f := .fa (.glo "spare")) rfl)
  n_isinstance := He.free_ok X G (c.fact 54 (f := .fa (.free "isinstance")) rfl)
  is_Store := (c.fact 55 (f := .isi "Store") rfl)
  g_parts_of := He.glo_ok X G (c.fact 56 (f := .fa (.glo "parts_of")) rfl)
  g_added := He.glo_ok X G (c.fact 57 (f := .fa (.glo "added")) rfl)
  is_Shop := (c.fact 58 (f := .isi "Shop") rfl)
  g_law := He.glo_ok X G (c.fact 59 (f := .fa (.glo "law")) rfl)
end Hd
end

section
set_option Elab.async false
set_option linter.all false
set_option maxRecDepth 100000
set_option maxHeartbeats 4000000
set_option autoImplicit false
namespace Pu
open PySem L2 U Wk
def penD (cs : List Int) (a l : Int) : D := .dic [(.inr "cells", .lst (cs.map D.int)), (.inr "at", .int a), (.inr "left", .int l)]
theorem k1 : (("cells" : Str) = "at") = False := by simp; decide
theorem k2 : (("cells" : Str) = "left") = False := by simp; decide
theorem k3 : (("at" : Str) = "left") = False := by simp; decide
theorem k3' : (("left" : Str) = "at") = False := by simp; decide
theorem dx_cells {cs : List Int} {a l : Int} : dDx (penD cs a l) (.str "cells") = some (.frz (.lst (cs.map D.int))) := by
  simp [dDx, penD, lookD, D.key?]
theorem dx_at {cs : List Int} {a l : Int} : dDx (penD cs a l) (.str "at") = some (.frz (.int a)) := by
  simp [dDx, penD, lookD, D.key?, k1]
theorem dx_left {cs : List Int} {a l : Int} : dDx (penD cs a l) (.str "left") = some (.frz (.int l)) := by
  simp [dDx, penD, lookD, D.key?, k2, k3]
theorem put_at {cs : List Int} {a l b : Int} : U.putIn (penD cs a l) (.str "at") (.int b) = some (penD cs b l) := by
  simp [U.putIn, penD, putD, D.key?, k1, k3', sizeLine]
theorem put_left {cs : List Int} {a l b : Int} : U.putIn (penD cs a l) (.str "left") (.int b) = some (penD cs a b) := by
  simp [U.putIn, penD, putD, D.key?, k2, k3, sizeLine]
local macro_rules | `(tactic| walk_at "wp") => `(tactic| simp only [↓wp_ret, ↓wp_bind, ↓wp_C, ↓wp_var, ↓wp_op2, ↓wp_bin, ↓wp_tOfE, ↓wp_and, ↓wp_or, ↓wp_not, ↓wp_eOfT, ↓wp_eIte, ↓wp_eNot, ↓wp_eAnd, ↓wp_eOr, ↓wp_eat, ↓wp_eFrz, ↓wp_args0, ↓wp_args, ↓wp_ds0, ↓wp_ds, ↓wp_tup, ↓wp_lst, ↓wp_opL, ↓wp_callB, ↓wp_callM, ↓wp_call, ↓wp_okM, ↓wp_isC, ↓wp_meth, ↓wp_prop, ↓wp_fldM, ↓wp_fld, ↓wp_makeM, ↓wp_make, ↓wp_own2M, ↓wp_own2, ↓wp_ownBM, ↓wp_ownB, ↓wp_asLen, ↓wp_lenOwn, ↓wp_callOM, ↓wp_callO, ↓wp_isi, ↓wp_getM, ↓wp_get, ↓wp_part0, ↓wp_part, ↓wp_slice, ↓wp_neg, ↓wp_pairs0, ↓wp_pairs, ↓wp_disp, ↓wp_dic0, ↓wp_join, ↓wp_rev, ↓wp_lstX, ↓wp_star, ↓wp_iLst, ↓wp_iTup, ↓wp_iSeq, ↓wp_iKey, ↓wp_iItm, ↓wp_iStr, ↓wp_iRng, ↓wp_lc, ↓wp_dc, ↓ws_next, ↓ws_break, ↓ws_cont, ↓ws_retn, ↓ws_retu, ↓ws_drop, ↓ws_set, ↓ws_if, ↓ws_seq, ↓ws_put, ↓ws_app, ↓ws_fldSet, ↓ws_asg, ↓ws_par2, ↓ws_for, ↓ws_forL, ↓seqP_nx, ↓seqP_rt, ↓seqP_bk, ↓seqP_ct, ↓seqP_ex, ↓loopP_nx, ↓loopP_ct, ↓loopP_bk, ↓loopP_rt, ↓loopP_ex, ↓for_nil, ↓for_cons, ↓ws_nox, ↓noxP_nx, ↓noxP_rt, ↓noxP_bk, ↓noxP_ct, ↓outF_ok, ↓outF_ex, ↓onS_some, ↓onS_none, ↓onS_ite, ↓onS_map, ↓all_nil, ↓all_cons, ↓slots_nil, ↓slots_cons, ↓wipe_nil, ↓wipe_cons, ↓rest_nil, ↓rest_cons, ↓g_nm, ↓g_tp, ↓g_0, ↓g_C, ↓st_tmp, ↓st_frz, ↓st_var, ↓chg_is, ↓brP_true, ↓brP_false, ↓brP_not, ↓dMul_ii, ↓dDiv_ii, ↓dMod_ii, ↓dPow_ii, ↓dEq_is, ↓dNe_is, ↓dAdd_ss, ↓dAdd_ll, ↓dLen_s, ↓putIn_s, ↓dIx_s, ↓cut_s, ↓app_l, onS_some, onS_none, onS_ite, onS_map, all_nil, all_cons, slots_nil, slots_cons, wipe_nil, wipe_cons, rest_nil, rest_cons, g_nm, g_tp, g_0, g_C, st_tmp, st_frz, st_var, chg_is, brP_true, brP_false, brP_not, dMul_ii, dDiv_ii, dMod_ii, dPow_ii, dEq_is, dNe_is, dAdd_ss, dAdd_ll, dLen_s, putIn_s, dIx_s, cut_s, app_l, varR_frz, varR_own, varR_bor, varR_ro, slD_some, soft_frz, soft_tmp, soft_var, get_frz, get_tmp, get_var, bool_frz, eatS_own, eatS_frz, eat_frz, eat_tmp, eat_var, slot_frz, slot_var, sv_frz, sv_ro, sv_own, sv_bor, sv_own1, sv_bor1, ns_lst, ns_tup, ns_dic, ns_obj, bset_0, bset_S, wb_bor, wb_val, wb_nil, ix_frz, ix_tmp, ix_var, ap_nil, ap_frz, ap_var, ag_mv, ag_mb, ag_bv, ag_bb, isOb_obj, fldD_obj, mkFin_ok, mkFinX_ok, int_frz, str_frz, kvs_dic, getR_some, getR_none, key_frz, kd_str, kd_int, lstOf_ok, tupOf_ok, lockS_own, lockS_frz, lockS_ro, lock_var, lock_frz, lock_tmp, seqOf_lst, seqOf_tup, slotFrz_is, sfz_none, sfz_frz, slotFree_is, sfr_none, sfr_frz, sfr_own, thS_ok, chS_own, chS_bor, isL_ok, end_nx, end_frz, end_tmp, end_var, end_ex, endS_own, endS_frz, dat_some, dat_none, nv_frz, nv_tmp, letS_is, rng_0, rng_1, bne_no, bne_so, CPow_is, dAdd_ii, dSub_ii, dCmp_ii, okE_ii, okN_ii, okE_ss, okN_ss, okE_bb, okN_bb, beqD_ii, beqD_ss, beqD_bb, okE_l0, okN_l0, beqD_l0, dIs_non, dInt_i, dLen_l, dLen_t, dLen_scr, dList_l, dList_t, dTuple_l, dStr_s, dListK_d, dMin2_ii, dSum_l, dDx_s, dIn_d, dIx_l, dIx_t, cut_l, cut_scr, line_is, putFd_0, putFd_1, putFd_2, isi_ob, isi_int, isi_tup, isi_lst, isi_str, ro_obj, ro_int, ro_tup, ro_lst, ro_str, dx_left, dx_at, dx_cells, put_at, put_left, List.length_map, List.getElem?_cons_zero, List.getElem?_cons_succ, List.set_cons_zero, List.set_cons_succ, List.map_cons, List.map_nil, List.length_cons, List.length_nil, List.zip_cons_cons, List.zip_nil_left, List.zip_nil_right, List.all_cons, List.all_nil, List.take_succ_cons, List.take_zero, List.replicate_succ, List.replicate_zero, List.cons_append, List.nil_append, Option.getD_some, Option.isNone_none, Option.isNone_some, Bool.and_true, Bool.true_and, Bool.or_true, Bool.or_false, Bool.false_or, Nat.reduceBneDiff, Bool.true_or, Bool.not_true, Bool.not_false, Bool.and_false, Bool.false_and, true_and, and_true, if_true, ↓reduceIte, Nat.reduceLeDiff, Nat.reduceAdd, Nat.reduceSub, and_self, eq_self, decide_true, decide_false, Bool.false_eq_true, bne_self_eq_false, Nat.zero_le, Nat.reduceEqDiff, reduceCtorEq, Nat.reduceBEq, List.contains_cons, BEq.rfl, Int.reducePow, Int.reduceToNat, Int.reduceLT, Int.reduceLE, Nat.reducePow, Nat.reduceLT, Int.reduceSub, Int.reduceAdd, Int.reduceMul, Int.reduceNeg, Int.reduceDiv, Nat.reduceMul])
/-- a pen from which r more can be drawn -/
def PenR (r : Nat) (d : D) : Prop := ∃ cs a l, d = penD cs a l ∧ 0 ≤ a ∧ a + r ≤ 1000000
theorem PenR.mono {r r' : Nat} {d : D} (h : PenR r d) (k : r' ≤ r) : PenR r' d := by
  obtain ⟨cs, a, l, e, h1, h2⟩ := h
  exact ⟨cs, a, l, e, h1, by omega⟩
theorem emod_r {x k : Int} (h : 0 < k) : 0 ≤ x % k ∧ x % k < k := ⟨Int.emod_nonneg x (by omega), Int.emod_lt_of_pos x h⟩
set_option hygiene false
local macro_rules | `(tactic| walk_at "tail2") => `(tactic| (
  walk_at "wp"
  refine ⟨cm (by omega) (by omega), cm (by omega) (by omega), cm (by omega) (by omega), cm (by omega) (by omega), cm (by omega) (by omega), cm (by omega) (by omega), cd (by omega) (by omega), hk0, ?_⟩
  exact h _ _ (emod_r hk0).1 (emod_r hk0).2 ⟨cs, _, _, rfl, by omega, by omega⟩))
local macro_rules | `(tactic| walk_at "drawtail") => `(tactic| (
  refine brP_dec (fun c3 => ?_) fun c3 => ?_
  · walk_at "wp"
    refine brP_dec (fun c4 => ?_) fun c4 => ?_
    · walk_at "wp"
      refine ⟨cd hk0 hk, hk0, ?_⟩
      exact h _ _ (emod_r hk0).1 (emod_r hk0).2 ⟨cs, _, _, rfl, by omega, by omega⟩
    · walk_at "tail2"
  · walk_at "tail2"))
theorem draw_w {r : Nat} {d : D} {k : Int} {P : R → List D → Prop} {E : Exn → List D → Prop} (hd : PenR (r + 1) d) (hk0 : 0 < k) (hk : k < 2 ^ 200) (h : ∀ v d', 0 ≤ v → v < k → PenR r d' → P (.frz (.int v)) [d', .int k]) : wpF d__law_draw [⟨.bor, d⟩, ⟨.frz, .int k⟩] P E := by
  obtain ⟨cs, a, l, rfl, ha0, ha⟩ := hd
  unfold d__law_draw
  rw [wf_fn]
  unfold d__law_draw_b
  walk_at "wp"
  refine brP_dec (fun c1 => ?_) fun c1 => ?_
  · walk_at "wp"
    exact ⟨hk0, cd hk0 hk, h _ _ (emod_r hk0).1 (emod_r hk0).2 ⟨cs, a, _, rfl, ha0, by omega⟩⟩
  walk_at "wp"
  refine ⟨cm (by omega) (by omega), ?_⟩
  refine brP_of (fun c2 => ?_) fun c2 => ?_
  · walk_at "wp"
    walk_at "drawtail"
  · walk_at "wp"
    have hne : cs ≠ [] := fun z => by subst z; simp at c2
    have hl : 0 < cs.length := List.length_pos_iff.mpr hne
    have hm := emod_r (x := a) (k := (cs.length : Int)) (by omega)
    rw [atI_nat (n := (a % (cs.length : Int)).toNat) (by omega) (by simp; omega)]
    simp only [List.getElem_map]
    refine ⟨by omega, ?_⟩
    walk_at "wp"
    walk_at "drawtail"
theorem pick_w {r : Nat} {d : D} {b : Kd} {items : List D} {P : R → List D → Prop} {E : Exn → List D → Prop} (hb : b = .frz ∨ b = .ro) (hd : PenR (r + 1) d) (h0 : 0 < items.length) (hi : items.length < 1000) (h : ∀ (n : Nat) (hn : n < items.length) d', PenR r d' → P (.frz items[n]) [d', .lst items]) : wpF d__law_pick [⟨.bor, d⟩, ⟨b, .lst items⟩] P E := by
  unfold d__law_pick
  rw [wf_fn]
  unfold d__law_pick_b
  rcases hb with rfl | rfl
  all_goals
    walk_at "wp"

    refine draw_w hd (by omega) (by omega) fun v d' h1 h2 hd' => ?_
    walk_at "wp"
    rw [atI_nat (n := v.toNat) (by omega) (by omega)]
    walk_at "wp"
    exact h _ _ _ hd'
end Pu
end

section
set_option Elab.async false
set_option linter.all false
set_option maxRecDepth 100000
set_option maxHeartbeats 4000000
set_option autoImplicit false
namespace Pu
open PySem L2 U Wk
local macro_rules | `(tactic| walk_at "wp") => `(tactic| simp only [↓wp_ret, ↓wp_bind, ↓wp_C, ↓wp_var, ↓wp_op2, ↓wp_bin, ↓wp_tOfE, ↓wp_and, ↓wp_or, ↓wp_not, ↓wp_eOfT, ↓wp_eIte, ↓wp_eNot, ↓wp_eAnd, ↓wp_eOr, ↓wp_eat, ↓wp_eFrz, ↓wp_args0, ↓wp_args, ↓wp_ds0, ↓wp_ds, ↓wp_tup, ↓wp_lst, ↓wp_opL, ↓wp_callB, ↓wp_callM, ↓wp_call, ↓wp_okM, ↓wp_isC, ↓wp_meth, ↓wp_prop, ↓wp_fldM, ↓wp_fld, ↓wp_makeM, ↓wp_make, ↓wp_own2M, ↓wp_own2, ↓wp_ownBM, ↓wp_ownB, ↓wp_asLen, ↓wp_lenOwn, ↓wp_callOM, ↓wp_callO, ↓wp_isi, ↓wp_getM, ↓wp_get, ↓wp_part0, ↓wp_part, ↓wp_slice, ↓wp_neg, ↓wp_pairs0, ↓wp_pairs, ↓wp_disp, ↓wp_dic0, ↓wp_join, ↓wp_rev, ↓wp_lstX, ↓wp_star, ↓wp_iLst, ↓wp_iTup, ↓wp_iSeq, ↓wp_iKey, ↓wp_iItm, ↓wp_iStr, ↓wp_iRng, ↓wp_lc, ↓wp_dc, ↓ws_next, ↓ws_break, ↓ws_cont, ↓ws_retn, ↓ws_retu, ↓ws_drop, ↓ws_set, ↓ws_if, ↓ws_seq, ↓ws_put, ↓ws_app, ↓ws_fldSet, ↓ws_asg, ↓ws_par2, ↓ws_for, ↓ws_forL, ↓seqP_nx, ↓seqP_rt, ↓seqP_bk, ↓seqP_ct, ↓seqP_ex, ↓loopP_nx, ↓loopP_ct, ↓loopP_bk, ↓loopP_rt, ↓loopP_ex, ↓for_nil, ↓for_cons, ↓ws_nox, ↓noxP_nx, ↓noxP_rt, ↓noxP_bk, ↓noxP_ct, ↓outF_ok, ↓outF_ex, ↓onS_some, ↓onS_none, ↓onS_ite, ↓onS_map, ↓all_nil, ↓all_cons, ↓slots_nil, ↓slots_cons, ↓wipe_nil, ↓wipe_cons, ↓rest_nil, ↓rest_cons, ↓g_nm, ↓g_tp, ↓g_0, ↓g_C, ↓st_tmp, ↓st_frz, ↓st_var, ↓chg_is, ↓brP_true, ↓brP_false, ↓brP_not, ↓dMul_ii, ↓dDiv_ii, ↓dMod_ii, ↓dPow_ii, ↓dEq_is, ↓dNe_is, ↓dAdd_ss, ↓dAdd_ll, ↓dLen_s, ↓putIn_s, ↓dIx_s, ↓cut_s, ↓app_l, onS_some, onS_none, onS_ite, onS_map, all_nil, all_cons, slots_nil, slots_cons, wipe_nil, wipe_cons, rest_nil, rest_cons, g_nm, g_tp, g_0, g_C, st_tmp, st_frz, st_var, chg_is, brP_true, brP_false, brP_not, dMul_ii, dDiv_ii, dMod_ii, dPow_ii, dEq_is, dNe_is, dAdd_ss, dAdd_ll, dLen_s, putIn_s, dIx_s, cut_s, app_l, varR_frz, varR_own, varR_bor, varR_ro, slD_some, soft_frz, soft_tmp, soft_var, get_frz, get_tmp, get_var, bool_frz, eatS_own, eatS_frz, eat_frz, eat_tmp, eat_var, slot_frz, slot_var, sv_frz, sv_ro, sv_own, sv_bor, sv_own1, sv_bor1, ns_lst, ns_tup, ns_dic, ns_obj, bset_0, bset_S, wb_bor, wb_val, wb_nil, ix_frz, ix_tmp, ix_var, ap_nil, ap_frz, ap_var, ag_mv, ag_mb, ag_bv, ag_bb, isOb_obj, fldD_obj, mkFin_ok, mkFinX_ok, int_frz, str_frz, kvs_dic, getR_some, getR_none, key_frz, kd_str, kd_int, lstOf_ok, tupOf_ok, lockS_own, lockS_frz, lockS_ro, lock_var, lock_frz, lock_tmp, seqOf_lst, seqOf_tup, slotFrz_is, sfz_none, sfz_frz, slotFree_is, sfr_none, sfr_frz, sfr_own, thS_ok, chS_own, chS_bor, isL_ok, end_nx, end_frz, end_tmp, end_var, end_ex, endS_own, endS_frz, dat_some, dat_none, nv_frz, nv_tmp, letS_is, rng_0, rng_1, bne_no, bne_so, CPow_is, dAdd_ii, dSub_ii, dCmp_ii, okE_ii, okN_ii, okE_ss, okN_ss, okE_bb, okN_bb, beqD_ii, beqD_ss, beqD_bb, okE_l0, okN_l0, beqD_l0, dIs_non, dInt_i, dLen_l, dLen_t, dLen_scr, dList_l, dList_t, dTuple_l, dStr_s, dListK_d, dMin2_ii, dSum_l, dDx_s, dIn_d, dIx_l, dIx_t, cut_l, cut_scr, line_is, putFd_0, putFd_1, putFd_2, isi_ob, isi_int, isi_tup, isi_lst, isi_str, ro_obj, ro_int, ro_tup, ro_lst, ro_str, List.getElem?_cons_zero, List.getElem?_cons_succ, List.set_cons_zero, List.set_cons_succ, List.map_cons, List.map_nil, List.length_cons, List.length_nil, List.zip_cons_cons, List.zip_nil_left, List.zip_nil_right, List.all_cons, List.all_nil, List.take_succ_cons, List.take_zero, List.replicate_succ, List.replicate_zero, List.cons_append, List.nil_append, Option.getD_some, Option.isNone_none, Option.isNone_some, Bool.and_true, Bool.true_and, Bool.or_true, Bool.or_false, Bool.false_or, Nat.reduceBneDiff, Bool.true_or, Bool.not_true, Bool.not_false, Bool.and_false, Bool.false_and, true_and, and_true, if_true, ↓reduceIte, Nat.reduceLeDiff, Nat.reduceAdd, Nat.reduceSub, and_self, eq_self, decide_true, decide_false, Bool.false_eq_true, bne_self_eq_false, Nat.zero_le, Nat.reduceEqDiff, reduceCtorEq, Nat.reduceBEq, List.contains_cons, BEq.rfl, Int.reducePow, Int.reduceToNat, Int.reduceLT, Int.reduceLE, Nat.reducePow, Nat.reduceLT, Int.reduceSub, Int.reduceAdd, Int.reduceMul, Int.reduceNeg, Int.reduceDiv, Nat.reduceMul])
theorem pen_w {ns : List Int} {P : R → List D → Prop} {E : Exn → List D → Prop} (h : ∀ d, PenR 900000 d → P (.tmp d) [.scr ns]) : wpF d__law_pen [⟨.frz, .scr ns⟩] P E := by
  unfold d__law_pen
  rw [wf_fn]
  unfold d__law_pen_b
  walk_at "wp"
  refine h _ ⟨(ns.take 63), 0, 0, ?_, by omega, by omega⟩
  have e : cutD (ns.map D.int) none (some 63) = (ns.take 63).map D.int := by
    unfold cutD
    rw [show (some 63 : Option Int) = some ((63 : Nat) : Int) from rfl, HT.sIx_nat, HT.sIx_none]
    simp [List.map_take, List.take_take]
  rw [e]
  simp [mergeD, penD, putD, k1, k2, k3]
theorem size_w {r : Nat} {d : D} {sizes : List D} {B : Int} {P : R → List D → Prop} {E : Exn → List D → Prop} (hd : PenR (r + 8) d) (h0 : 0 < sizes.length) (hi : sizes.length < 1000) (hs : ∀ x ∈ sizes, ∃ k : Int, x = .int k ∧ 0 < k ∧ k ≤ B) (h : ∀ v d', 0 ≤ v → v < B → PenR r d' → P (.frz (.int v)) [d', .lst sizes]) : wpF d__law_size [⟨.bor, d⟩, ⟨.frz, .lst sizes⟩] P E := by
  unfold d__law_size
  rw [wf_fn]
  unfold d__law_size_b
  walk_at "wp"
  refine pick_w (.inl rfl) hd h0 hi fun n hn d1 hd1 => ?_
  obtain ⟨k, hk, k0, kB⟩ := hs _ (List.getElem_mem hn)
  rw [hk]
  walk_at "wp"
  refine ws_forI (fun ds f => ∃ d2 x told j, f = [some ⟨.bor, d2⟩, some ⟨.frz, .lst sizes⟩, x, some ⟨.frz, .int k⟩, some ⟨.frz, .int told⟩] ∧ sfr (some x) = true ∧ j + ds.length = 7 ∧ PenR (r + ds.length) d2 ∧ 0 ≤ told ∧ told < 1000003 ^ j) ?_ ?_ _ _ ⟨d1, none, 0, 0, rfl, rfl, rfl, hd1, by omega, by omega⟩
  · rintro dd ds f ⟨d2, x, told, j, rfl, hx, hj, hd2, t0, t1⟩
    walk_at "wp"
    refine ⟨hx, ?_⟩
    have tb : told < 2 ^ 200 := by
      have : j = 0 ∨ j = 1 ∨ j = 2 ∨ j = 3 ∨ j = 4 ∨ j = 5 ∨ j = 6 := by simp at hj; omega
      rcases this with rfl | rfl | rfl | rfl | rfl | rfl | rfl <;> omega
    refine ⟨cm (by omega) (by omega), ?_⟩
    refine draw_w hd2 (by omega) (by omega) fun v d3 v0 v1 hd3 => ?_
    walk_at "wp"
    refine ⟨d3, _, _, j + 1, rfl, rfl, by simp at hj; omega, hd3, by omega, ?_⟩
    rw [Int.pow_succ]
    omega
  · rintro f ⟨d2, x, told, j, rfl, hx, hj, hd2, t0, t1⟩
    walk_at "wp"
    have := emod_r (x := told) k0
    exact ⟨k0, h _ _ this.1 (by omega) hd2⟩
end Pu
end

section
set_option Elab.async false
set_option linter.all false
set_option maxRecDepth 100000
set_option maxHeartbeats 4000000
set_option autoImplicit false
namespace Pu
open PySem L2 U Wk
local macro_rules | `(tactic| walk_at "wp") => `(tactic| simp only [↓wp_ret, ↓wp_bind, ↓wp_C, ↓wp_var, ↓wp_op2, ↓wp_bin, ↓wp_tOfE, ↓wp_and, ↓wp_or, ↓wp_not, ↓wp_eOfT, ↓wp_eIte, ↓wp_eNot, ↓wp_eAnd, ↓wp_eOr, ↓wp_eat, ↓wp_eFrz, ↓wp_args0, ↓wp_args, ↓wp_ds0, ↓wp_ds, ↓wp_tup, ↓wp_lst, ↓wp_opL, ↓wp_callB, ↓wp_callM, ↓wp_call, ↓wp_okM, ↓wp_isC, ↓wp_meth, ↓wp_prop, ↓wp_fldM, ↓wp_fld, ↓wp_makeM, ↓wp_make, ↓wp_own2M, ↓wp_own2, ↓wp_ownBM, ↓wp_ownB, ↓wp_asLen, ↓wp_lenOwn, ↓wp_callOM, ↓wp_callO, ↓wp_isi, ↓wp_getM, ↓wp_get, ↓wp_part0, ↓wp_part, ↓wp_slice, ↓wp_neg, ↓wp_pairs0, ↓wp_pairs, ↓wp_disp, ↓wp_dic0, ↓wp_join, ↓wp_rev, ↓wp_lstX, ↓wp_star, ↓wp_iLst, ↓wp_iTup, ↓wp_iSeq, ↓wp_iKey, ↓wp_iItm, ↓wp_iStr, ↓wp_iRng, ↓wp_lc, ↓wp_dc, ↓ws_next, ↓ws_break, ↓ws_cont, ↓ws_retn, ↓ws_retu, ↓ws_drop, ↓ws_set, ↓ws_if, ↓ws_seq, ↓ws_put, ↓ws_app, ↓ws_fldSet, ↓ws_asg, ↓ws_par2, ↓ws_for, ↓ws_forL, ↓seqP_nx, ↓seqP_rt, ↓seqP_bk, ↓seqP_ct, ↓seqP_ex, ↓loopP_nx, ↓loopP_ct, ↓loopP_bk, ↓loopP_rt, ↓loopP_ex, ↓for_nil, ↓for_cons, ↓ws_nox, ↓noxP_nx, ↓noxP_rt, ↓noxP_bk, ↓noxP_ct, ↓outF_ok, ↓outF_ex, ↓onS_some, ↓onS_none, ↓onS_ite, ↓onS_map, ↓all_nil, ↓all_cons, ↓slots_nil, ↓slots_cons, ↓wipe_nil, ↓wipe_cons, ↓rest_nil, ↓rest_cons, ↓g_nm, ↓g_tp, ↓g_0, ↓g_C, ↓st_tmp, ↓st_frz, ↓st_var, ↓chg_is, ↓brP_true, ↓brP_false, ↓brP_not, ↓dMul_ii, ↓dDiv_ii, ↓dMod_ii, ↓dPow_ii, ↓dEq_is, ↓dNe_is, ↓dAdd_ss, ↓dAdd_ll, ↓dLen_s, ↓putIn_s, ↓dIx_s, ↓cut_s, ↓app_l, onS_some, onS_none, onS_ite, onS_map, all_nil, all_cons, slots_nil, slots_cons, wipe_nil, wipe_cons, rest_nil, rest_cons, g_nm, g_tp, g_0, g_C, st_tmp, st_frz, st_var, chg_is, brP_true, brP_false, brP_not, dMul_ii, dDiv_ii, dMod_ii, dPow_ii, dEq_is, dNe_is, dAdd_ss, dAdd_ll, dLen_s, putIn_s, dIx_s, cut_s, app_l, varR_frz, varR_own, varR_bor, varR_ro, slD_some, soft_frz, soft_tmp, soft_var, get_frz, get_tmp, get_var, bool_frz, eatS_own, eatS_frz, eat_frz, eat_tmp, eat_var, slot_frz, slot_var, sv_frz, sv_ro, sv_own, sv_bor, sv_own1, sv_bor1, ns_lst, ns_tup, ns_dic, ns_obj, bset_0, bset_S, wb_bor, wb_val, wb_nil, ix_frz, ix_tmp, ix_var, ap_nil, ap_frz, ap_var, ag_mv, ag_mb, ag_bv, ag_bb, isOb_obj, fldD_obj, mkFin_ok, mkFinX_ok, int_frz, str_frz, kvs_dic, getR_some, getR_none, key_frz, kd_str, kd_int, lstOf_ok, tupOf_ok, lockS_own, lockS_frz, lockS_ro, lock_var, lock_frz, lock_tmp, seqOf_lst, seqOf_tup, slotFrz_is, sfz_none, sfz_frz, slotFree_is, sfr_none, sfr_frz, sfr_own, thS_ok, chS_own, chS_bor, isL_ok, end_nx, end_frz, end_tmp, end_var, end_ex, endS_own, endS_frz, dat_some, dat_none, nv_frz, nv_tmp, letS_is, rng_0, rng_1, bne_no, bne_so, CPow_is, dAdd_ii, dSub_ii, dCmp_ii, okE_ii, okN_ii, okE_ss, okN_ss, okE_bb, okN_bb, beqD_ii, beqD_ss, beqD_bb, okE_l0, okN_l0, beqD_l0, dIs_non, dInt_i, dLen_l, dLen_t, dLen_scr, dList_l, dList_t, dTuple_l, dStr_s, dListK_d, dMin2_ii, dSum_l, dDx_s, dIn_d, dIx_l, dIx_t, cut_l, cut_scr, line_is, putFd_0, putFd_1, putFd_2, isi_ob, isi_int, isi_tup, isi_lst, isi_str, ro_obj, ro_int, ro_tup, ro_lst, ro_str, keys_kvI, items_kvI, look_kvI, getR_kvI, kvI_len, put_kvI, List.getElem?_cons_zero, List.getElem?_cons_succ, List.set_cons_zero, List.set_cons_succ, List.map_cons, List.map_nil, List.length_cons, List.length_nil, List.zip_cons_cons, List.zip_nil_left, List.zip_nil_right, List.all_cons, List.all_nil, List.take_succ_cons, List.take_zero, List.replicate_succ, List.replicate_zero, List.cons_append, List.nil_append, Option.getD_some, Option.isNone_none, Option.isNone_some, Bool.and_true, Bool.true_and, Bool.or_true, Bool.or_false, Bool.false_or, Nat.reduceBneDiff, Bool.true_or, Bool.not_true, Bool.not_false, Bool.and_false, Bool.false_and, true_and, and_true, if_true, ↓reduceIte, Nat.reduceLeDiff, Nat.reduceAdd, Nat.reduceSub, and_self, eq_self, decide_true, decide_false, Bool.false_eq_true, bne_self_eq_false, Nat.zero_le, Nat.reduceEqDiff, reduceCtorEq, Nat.reduceBEq, List.contains_cons, BEq.rfl, Int.reducePow, Int.reduceToNat, Int.reduceLT, Int.reduceLE, Nat.reducePow, Nat.reduceLT, Int.reduceSub, Int.reduceAdd, Int.reduceMul, Int.reduceNeg, Int.reduceDiv, Nat.reduceMul])
def kyD (d : D) : Key := d.key?.getD (.inl 0)
theorem kyD_s {w : Str} : kyD (.str w) = .inr w := rfl
theorem asc_w {ps : SI} {k : Kd} {P : R → List D → Prop} {E : Exn → List D → Prop} (hk : k = .frz ∨ k = .ro) (hn : (ksI ps).Nodup) (hl : ps.length < 64) (h : P (.tmp (.lst ((srtS (ksI ps)).map .str))) [.dic (kvI ps)]) : wpF d_ascending [⟨k, .dic (kvI ps)⟩] P E := by
  unfold d_ascending
  rw [wf_fn]
  unfold d_ascending_b
  have l1 : (ksI ps).length = ps.length := by simp [ksI]
  rcases hk with rfl | rfl
  all_goals
    walk_at "wp"
    refine dc_map (fun _ => true) kyD (fun _ => .bl true) (by simp [l1, line_is]; omega) ?_ ?_
    · intro d hd
      obtain ⟨w, hw, rfl⟩ := List.mem_map.mp hd
      walk_at "wp"
      exact rfl
    have e : mergeD [] (((ksI ps).map D.str).filter (fun _ => true) |>.map fun d => (kyD d, D.bl true)) = (ksI ps).map fun w => (.inr w, D.bl true) := by
      rw [List.filter_eq_self.mpr (by simp), List.map_map, merge_nodup]
      · rfl
      · rw [List.map_map]
        exact List.Pairwise.map _ (fun a b hne e => hne (by cases e; rfl)) hn
    rw [e]
    walk_at "wp"
    have e2 : (List.map (fun kv => keyD kv.fst) (List.map (fun w => ((.inr w : Key), D.bl true)) (ksI ps))) = (ksI ps).map D.str := by
      simp [keyD]
    rw [e2]
    refine lc_map (fun _ => true) id (by simp [l1, line_is]; omega) ?_ ?_
    · intro d hd
      obtain ⟨w, hw, rfl⟩ := List.mem_map.mp hd
      walk_at "wp"
      exact rfl
    walk_at "wp"
    rw [List.filter_eq_self.mpr (by simp), List.map_id]
    have e3 : dSorted [.lst ((ksI ps).map .str)] = some (.tmp (.lst ((srtS (ksI ps)).map .str))) := by
      unfold dSorted
      simp only [strs_of]
      rw [if_pos (by rw [l1]; exact hl)]
    rw [e3]
    walk_at "wp"
    exact h
end Pu
end

section
set_option Elab.async false
set_option linter.all false
set_option maxRecDepth 100000
set_option maxHeartbeats 4000000
set_option autoImplicit false
namespace Pu
open PySem L2 U Wk
local macro_rules | `(tactic| walk_at "wp") => `(tactic| simp only [↓wp_ret, ↓wp_bind, ↓wp_C, ↓wp_var, ↓wp_op2, ↓wp_bin, ↓wp_tOfE, ↓wp_and, ↓wp_or, ↓wp_not, ↓wp_eOfT, ↓wp_eIte, ↓wp_eNot, ↓wp_eAnd, ↓wp_eOr, ↓wp_eat, ↓wp_eFrz, ↓wp_args0, ↓wp_args, ↓wp_ds0, ↓wp_ds, ↓wp_tup, ↓wp_lst, ↓wp_opL, ↓wp_callB, ↓wp_callM, ↓wp_call, ↓wp_okM, ↓wp_isC, ↓wp_meth, ↓wp_prop, ↓wp_fldM, ↓wp_fld, ↓wp_makeM, ↓wp_make, ↓wp_own2M, ↓wp_own2, ↓wp_ownBM, ↓wp_ownB, ↓wp_asLen, ↓wp_lenOwn, ↓wp_callOM, ↓wp_callO, ↓wp_isi, ↓wp_getM, ↓wp_get, ↓wp_part0, ↓wp_part, ↓wp_slice, ↓wp_neg, ↓wp_pairs0, ↓wp_pairs, ↓wp_disp, ↓wp_dic0, ↓wp_join, ↓wp_rev, ↓wp_lstX, ↓wp_star, ↓wp_iLst, ↓wp_iTup, ↓wp_iSeq, ↓wp_iKey, ↓wp_iItm, ↓wp_iStr, ↓wp_iRng, ↓wp_lc, ↓wp_dc, ↓ws_next, ↓ws_break, ↓ws_cont, ↓ws_retn, ↓ws_retu, ↓ws_drop, ↓ws_set, ↓ws_if, ↓ws_seq, ↓ws_put, ↓ws_app, ↓ws_fldSet, ↓ws_asg, ↓ws_par2, ↓ws_for, ↓ws_forL, ↓seqP_nx, ↓seqP_rt, ↓seqP_bk, ↓seqP_ct, ↓seqP_ex, ↓loopP_nx, ↓loopP_ct, ↓loopP_bk, ↓loopP_rt, ↓loopP_ex, ↓for_nil, ↓for_cons, ↓ws_nox, ↓noxP_nx, ↓noxP_rt, ↓noxP_bk, ↓noxP_ct, ↓outF_ok, ↓outF_ex, ↓onS_some, ↓onS_none, ↓onS_ite, ↓onS_map, ↓all_nil, ↓all_cons, ↓slots_nil, ↓slots_cons, ↓wipe_nil, ↓wipe_cons, ↓rest_nil, ↓rest_cons, ↓g_nm, ↓g_tp, ↓g_0, ↓g_C, ↓st_tmp, ↓st_frz, ↓st_var, ↓chg_is, ↓brP_true, ↓brP_false, ↓brP_not, ↓dMul_ii, ↓dDiv_ii, ↓dMod_ii, ↓dPow_ii, ↓dEq_is, ↓dNe_is, ↓dAdd_ss, ↓dAdd_ll, ↓dLen_s, ↓putIn_s, ↓dIx_s, ↓cut_s, ↓app_l, onS_some, onS_none, onS_ite, onS_map, all_nil, all_cons, slots_nil, slots_cons, wipe_nil, wipe_cons, rest_nil, rest_cons, g_nm, g_tp, g_0, g_C, st_tmp, st_frz, st_var, chg_is, brP_true, brP_false, brP_not, dMul_ii, dDiv_ii, dMod_ii, dPow_ii, dEq_is, dNe_is, dAdd_ss, dAdd_ll, dLen_s, putIn_s, dIx_s, cut_s, app_l, varR_frz, varR_own, varR_bor, varR_ro, slD_some, soft_frz, soft_tmp, soft_var, get_frz, get_tmp, get_var, bool_frz, eatS_own, eatS_frz, eat_frz, eat_tmp, eat_var, slot_frz, slot_var, sv_frz, sv_ro, sv_own, sv_bor, sv_own1, sv_bor1, ns_lst, ns_tup, ns_dic, ns_obj, bset_0, bset_S, wb_bor, wb_val, wb_nil, ix_frz, ix_tmp, ix_var, ap_nil, ap_frz, ap_var, ag_mv, ag_mb, ag_bv, ag_bb, isOb_obj, fldD_obj, mkFin_ok, mkFinX_ok, int_frz, str_frz, kvs_dic, getR_some, getR_none, key_frz, kd_str, kd_int, lstOf_ok, tupOf_ok, lockS_own, lockS_frz, lockS_ro, lock_var, lock_frz, lock_tmp, seqOf_lst, seqOf_tup, slotFrz_is, sfz_none, sfz_frz, slotFree_is, sfr_none, sfr_frz, sfr_own, thS_ok, chS_own, chS_bor, isL_ok, end_nx, end_frz, end_tmp, end_var, end_ex, endS_own, endS_frz, dat_some, dat_none, nv_frz, nv_tmp, letS_is, rng_0, rng_1, bne_no, bne_so, CPow_is, dAdd_ii, dSub_ii, dCmp_ii, okE_ii, okN_ii, okE_ss, okN_ss, okE_bb, okN_bb, beqD_ii, beqD_ss, beqD_bb, okE_l0, okN_l0, beqD_l0, dIs_non, dInt_i, dLen_l, dLen_t, dLen_scr, dList_l, dList_t, dTuple_l, dStr_s, dListK_d, dMin2_ii, dSum_l, dDx_s, dIn_d, dIx_l, dIx_t, cut_l, cut_scr, line_is, putFd_0, putFd_1, putFd_2, isi_ob, isi_int, isi_tup, isi_lst, isi_str, ro_obj, ro_int, ro_tup, ro_lst, ro_str, keys_kvI, items_kvI, look_kvI, getR_kvI, kvI_len, put_kvI, List.getElem?_cons_zero, List.getElem?_cons_succ, List.set_cons_zero, List.set_cons_succ, List.map_cons, List.map_nil, List.length_cons, List.length_nil, List.zip_cons_cons, List.zip_nil_left, List.zip_nil_right, List.all_cons, List.all_nil, List.take_succ_cons, List.take_zero, List.replicate_succ, List.replicate_zero, List.cons_append, List.nil_append, Option.getD_some, Option.isNone_none, Option.isNone_some, Bool.and_true, Bool.true_and, Bool.or_true, Bool.or_false, Bool.false_or, Nat.reduceBneDiff, Bool.true_or, Bool.not_true, Bool.not_false, Bool.and_false, Bool.false_and, true_and, and_true, if_true, ↓reduceIte, Nat.reduceLeDiff, Nat.reduceAdd, Nat.reduceSub, and_self, eq_self, decide_true, decide_false, Bool.false_eq_true, bne_self_eq_false, Nat.zero_le, Nat.reduceEqDiff, reduceCtorEq, Nat.reduceBEq, List.contains_cons, BEq.rfl, Int.reducePow, Int.reduceToNat, Int.reduceLT, Int.reduceLE, Nat.reducePow, Nat.reduceLT, Int.reduceSub, Int.reduceAdd, Int.reduceMul, Int.reduceNeg, Int.reduceDiv, Nat.reduceMul])
def wdD : D → Str
  | .str w => w
  | _ => ""
theorem lkO_in {ps : SI} {w : Str} (hn : (ksI ps).Nodup) (h : w ∈ ksI ps) : lkO ps w = some (lk ps w) := by
  obtain ⟨p, hp, rfl⟩ := List.mem_map.mp h
  rw [(lkO_mem hn).mpr (show (p.1, p.2) ∈ ps from hp), lk_mem hn hp]
theorem cleaned_w {ps : SI} {k : Kd} {P : R → List D → Prop} {E : Exn → List D → Prop} (hk : k = .frz ∨ k = .ro) (hn : (ksI ps).Nodup) (hl : ps.length < 64) (h : P (.tmp (.dic (kvI (cl ps)))) [.dic (kvI ps)]) : wpF d_cleaned [⟨k, .dic (kvI ps)⟩] P E := by
  unfold d_cleaned
  rw [wf_fn]
  unfold d_cleaned_b
  have l1 : (ksI ps).length = ps.length := by simp [ksI]
  have l2 : (srtS (ksI ps)).length = ps.length := by rw [srt_perm.length_eq, l1]
  rcases hk with rfl | rfl
  all_goals
    walk_at "wp"
    refine asc_w (by simp) hn hl ?_
    walk_at "wp"
    refine dc_map (fun d => decide (0 < lk ps (wdD d))) kyD (fun d => .int (lk ps (wdD d))) (by simp [l2, line_is]; omega) ?_ ?_
    · intro d hd
      obtain ⟨w, hw, rfl⟩ := List.mem_map.mp hd
      have hw := srt_perm.mem_iff.mp hw
      walk_at "wp"
      rw [lkO_in hn hw]
      walk_at "wp"
      refine ⟨rfl, ?_⟩
      refine brP_of (fun _ => ?_) fun _ => ?_
      · walk_at "wp"
        rw [lkO_in hn hw]
        walk_at "wp"
        exact ⟨rfl, rfl⟩
      · walk_at "wp"
    have e : mergeD [] ((((srtS (ksI ps)).map D.str).filter fun d => decide (0 < lk ps (wdD d))).map fun d => (kyD d, D.int (lk ps (wdD d)))) = kvI (cl ps) := by
      have e1 : ((((srtS (ksI ps)).map D.str).filter fun d => decide (0 < lk ps (wdD d))).map fun d => (kyD d, D.int (lk ps (wdD d)))) = kvI (cl ps) := by
        unfold kvI cl
        rw [List.filter_map, List.map_map, List.map_map]
        rfl
      rw [e1, merge_nodup]
      unfold kvI
      rw [List.map_map]
      have := cl_nodup hn
      unfold ksI at this
      exact (List.pairwise_map.mpr ((List.pairwise_map.mp this).imp fun {a b} hne e => hne (by simpa using e)))
    rw [e]
    walk_at "wp"
    exact h
def bagD (ps : SI) : D := .obj 0 [.dic (kvI ps)]
def storeD (b : Int) (t g : SI) : D := .obj 2 [.int b, bagD t, bagD g]
def shopD (ss : List D) : D := .obj 1 [.tup ss]
theorem bag_w {ps : SI} {k : Kd} {P : R → List D → Prop} {E : Exn → List D → Prop} (hk : k = .frz ∨ k = .ro) (hn : (ksI ps).Nodup) (hl : ps.length < 64) (h : P (.frz .non) [bagD (cl ps), .dic (kvI ps)]) : wpF d_Bag___init__ [⟨.bor, .obj 0 []⟩, ⟨k, .dic (kvI ps)⟩] P E := by
  unfold d_Bag___init__
  rw [wf_fn]
  unfold d_Bag___init___b
  rcases hk with rfl | rfl
  all_goals
    walk_at "wp"
    refine cleaned_w (by simp) hn hl ?_
    walk_at "wp"
    exact h
theorem store_w {x y z : D} {P : R → List D → Prop} {E : Exn → List D → Prop} (h : P (.frz .non) [.obj 2 [x, y, z], x, y, z]) : wpF d_Store___init__ [⟨.bor, .obj 2 []⟩, ⟨.frz, x⟩, ⟨.frz, y⟩, ⟨.frz, z⟩] P E := by
  unfold d_Store___init__
  rw [wf_fn]
  unfold d_Store___init___b
  walk_at "wp"
  exact h
theorem shop_w {ss : List D} {P : R → List D → Prop} {E : Exn → List D → Prop} (h : P (.frz .non) [shopD ss, .lst ss]) : wpF d_Shop___init__ [⟨.bor, .obj 1 []⟩, ⟨.frz, .lst ss⟩] P E := by
  unfold d_Shop___init__
  rw [wf_fn]
  unfold d_Shop___init___b
  walk_at "wp"
  exact h
/-- great enough for all numbers of the law -/
def BB : Int := 10 ^ 41
def itD (t : SI) : D → D
  | .tup [.str w, .int v] => .int (lk t w * v)
  | _ => .non
theorem cmB {i j : Int} (h1 : 0 ≤ i) (h2 : i ≤ BB) (h3 : 0 ≤ j) (h4 : j ≤ BB) : CMulW i j := cm (by unfold BB at *; omega) (by unfold BB at *; omega)
theorem items_sum {t ps : SI} : (ps.map fun p => D.tup [.str p.1, .int p.2]).map (itD t) = (ps.map fun p => lk t p.1 * p.2).map D.int := by
  simp [itD]
theorem taken_w {b : Int} {t g ps : SI} {n m : Nat} {k1 k2 : Kd} {P : R → List D → Prop} {E : Exn → List D → Prop} (hk1 : k1 = .frz ∨ k1 = .ro) (hk2 : k2 = .frz ∨ k2 = .ro) (ht : Bg BB n t) (hp : Bg BB m ps) (hm : m < 64) (h : P (.frz (.int (dotI t ps))) [storeD b t g, .dic (kvI ps)]) : wpF d_taken [⟨k1, storeD b t g⟩, ⟨k2, .dic (kvI ps)⟩] P E := by
  unfold d_taken
  rw [wf_fn]
  unfold d_taken_b
  have hl := hp.len
  unfold storeD bagD
  rcases hk1 with rfl | rfl <;> rcases hk2 with rfl | rfl
  all_goals
    walk_at "wp"
    refine lc_map (fun _ => true) (itD t) (by simp [line_is]; omega) ?_ ?_
    · intro d hd
      obtain ⟨p, hp2, rfl⟩ := List.mem_map.mp hd
      walk_at "wp"
      have h1 := ht.lk (w := p.1) (by decide)
      have h2 := hp.pos.2 p hp2
      have h3 := hp.le p hp2
      exact ⟨cmB h1.1 h1.2 (by omega) h3, rfl⟩
    rw [List.filter_eq_self.mpr (by simp), items_sum]
    walk_at "wp"
    exact h
theorem gained_w {b : Int} {t g ps : SI} {n m : Nat} {k1 k2 : Kd} {P : R → List D → Prop} {E : Exn → List D → Prop} (hk1 : k1 = .frz ∨ k1 = .ro) (hk2 : k2 = .frz ∨ k2 = .ro) (ht : Bg BB n t) (hg : Bg BB n g) (hp : Bg BB m ps) (hm : m < 64) (h : P (.frz (.int (dotI g ps - dotI t ps))) [storeD b t g, .dic (kvI ps)]) : wpF d_gained [⟨k1, storeD b t g⟩, ⟨k2, .dic (kvI ps)⟩] P E := by
  unfold d_gained
  rw [wf_fn]
  unfold d_gained_b
  have hl := hp.len
  rcases hk1 with rfl | rfl <;> rcases hk2 with rfl | rfl
  all_goals
    unfold storeD bagD
    walk_at "wp"
    refine lc_map (fun _ => true) (itD g) (by simp [line_is]; omega) ?_ ?_
    · intro d hd
      obtain ⟨p, hp2, rfl⟩ := List.mem_map.mp hd
      walk_at "wp"
      have h1 := hg.lk (w := p.1) (by decide)
      have h2 := hp.pos.2 p hp2
      have h3 := hp.le p hp2
      exact ⟨cmB h1.1 h1.2 (by omega) h3, rfl⟩
    rw [List.filter_eq_self.mpr (by simp), items_sum]
    walk_at "wp"
    refine taken_w (b := b) (t := t) (g := g) (by simp) (by simp) ht hp hm ?_
    unfold storeD bagD
    walk_at "wp"
    exact h
theorem held_w {b : Int} {t g ps : SI} {n m : Nat} {k1 k2 : Kd} {P : R → List D → Prop} {E : Exn → List D → Prop} (hk1 : k1 = .frz ∨ k1 = .ro) (hk2 : k2 = .frz ∨ k2 = .ro) (ht : Bg BB n t) (hg : Bg BB n g) (hp : Bg BB m ps) (hm : m < 64) (h : P (.frz (.int (b + (dotI g ps - dotI t ps)))) [storeD b t g, .dic (kvI ps)]) : wpF d_held [⟨k1, storeD b t g⟩, ⟨k2, .dic (kvI ps)⟩] P E := by
  unfold d_held
  rw [wf_fn]
  unfold d_held_b
  rcases hk1 with rfl | rfl <;> rcases hk2 with rfl | rfl
  all_goals
    unfold storeD bagD
    walk_at "wp"
    refine gained_w (b := b) (t := t) (g := g) (by simp) (by simp) ht hg hp hm ?_
    unfold storeD bagD
    walk_at "wp"
    exact h
theorem call_w {b : Int} {t g ps : SI} {n m : Nat} {k1 k2 : Kd} {P : R → List D → Prop} {E : Exn → List D → Prop} (hk1 : k1 = .frz ∨ k1 = .ro) (hk2 : k2 = .frz ∨ k2 = .ro) (ht : Bg BB n t) (hg : Bg BB n g) (hp : Bg BB m ps) (hm : m < 64) (h : P (.frz (.int (b + (dotI g ps - dotI t ps)))) [storeD b t g, bagD ps]) : wpF d_Store___call__ [⟨k1, storeD b t g⟩, ⟨k2, bagD ps⟩] P E := by
  unfold d_Store___call__
  rw [wf_fn]
  unfold d_Store___call___b
  rcases hk1 with rfl | rfl <;> rcases hk2 with rfl | rfl
  all_goals
    unfold storeD bagD
    walk_at "wp"
    refine held_w (b := b) (t := t) (g := g) (by simp) (by simp) ht hg hp hm ?_
    unfold storeD bagD
    walk_at "wp"
    exact h
theorem spare_w {b : Int} {t g ps qs : SI} {n m : Nat} {k1 k2 k3 : Kd} {P : R → List D → Prop} {E : Exn → List D → Prop} (hk1 : k1 = .frz ∨ k1 = .ro) (hk2 : k2 = .frz ∨ k2 = .ro) (hk3 : k3 = .frz ∨ k3 = .ro) (ht : Bg BB n t) (hg : Bg BB n g) (hp : Bg BB m ps) (hq : Bg BB m qs) (hm : m < 64) (h : P (.frz (.int (b + (dotI g ps - dotI t ps) - dotI t qs))) [storeD b t g, .dic (kvI ps), .dic (kvI qs)]) : wpF d_spare [⟨k1, storeD b t g⟩, ⟨k2, .dic (kvI ps)⟩, ⟨k3, .dic (kvI qs)⟩] P E := by
  unfold d_spare
  rw [wf_fn]
  unfold d_spare_b
  rcases hk1 with rfl | rfl <;> rcases hk2 with rfl | rfl <;> rcases hk3 with rfl | rfl
  all_goals
    unfold storeD bagD
    walk_at "wp"
    refine held_w (b := b) (t := t) (g := g) (by simp) (by simp) ht hg hp hm ?_
    unfold storeD bagD
    walk_at "wp"
    refine taken_w (b := b) (t := t) (g := g) (by simp) (by simp) ht hq hm ?_
    unfold storeD bagD
    walk_at "wp"
    exact h
theorem lets_w {b : Int} {t g ps qs : SI} {n m : Nat} {k1 k2 k3 : Kd} {P : R → List D → Prop} {E : Exn → List D → Prop} (hk1 : k1 = .frz ∨ k1 = .ro) (hk2 : k2 = .frz ∨ k2 = .ro) (hk3 : k3 = .frz ∨ k3 = .ro) (ht : Bg BB n t) (hg : Bg BB n g) (hp : Bg BB m ps) (hq : Bg BB m qs) (hm : m < 64) (h : P (.frz (.bl (decide (0 ≤ b + (dotI g ps - dotI t ps) - dotI t qs)))) [storeD b t g, bagD ps, bagD qs]) : wpF d_Store_lets [⟨k1, storeD b t g⟩, ⟨k2, bagD ps⟩, ⟨k3, bagD qs⟩] P E := by
  unfold d_Store_lets
  rw [wf_fn]
  unfold d_Store_lets_b
  rcases hk1 with rfl | rfl <;> rcases hk2 with rfl | rfl <;> rcases hk3 with rfl | rfl
  all_goals
    unfold storeD bagD
    walk_at "wp"
    refine spare_w (b := b) (t := t) (g := g) (by simp) (by simp) (by simp) ht hg hp hq hm ?_
    unfold storeD bagD
    walk_at "wp"
    exact h
end Pu
end

section
set_option Elab.async false
set_option linter.all false
set_option maxRecDepth 100000
set_option maxHeartbeats 4000000
set_option autoImplicit false
namespace Pu
open PySem L2 U Wk
local macro_rules | `(tactic| walk_at "wp") => `(tactic| simp only [↓wp_ret, ↓wp_bind, ↓wp_C, ↓wp_var, ↓wp_op2, ↓wp_bin, ↓wp_tOfE, ↓wp_and, ↓wp_or, ↓wp_not, ↓wp_eOfT, ↓wp_eIte, ↓wp_eNot, ↓wp_eAnd, ↓wp_eOr, ↓wp_eat, ↓wp_eFrz, ↓wp_args0, ↓wp_args, ↓wp_ds0, ↓wp_ds, ↓wp_tup, ↓wp_lst, ↓wp_opL, ↓wp_callB, ↓wp_callM, ↓wp_call, ↓wp_okM, ↓wp_isC, ↓wp_meth, ↓wp_prop, ↓wp_fldM, ↓wp_fld, ↓wp_makeM, ↓wp_make, ↓wp_own2M, ↓wp_own2, ↓wp_ownBM, ↓wp_ownB, ↓wp_asLen, ↓wp_lenOwn, ↓wp_callOM, ↓wp_callO, ↓wp_isi, ↓wp_getM, ↓wp_get, ↓wp_part0, ↓wp_part, ↓wp_slice, ↓wp_neg, ↓wp_pairs0, ↓wp_pairs, ↓wp_disp, ↓wp_dic0, ↓wp_join, ↓wp_rev, ↓wp_lstX, ↓wp_star, ↓wp_iLst, ↓wp_iTup, ↓wp_iSeq, ↓wp_iKey, ↓wp_iItm, ↓wp_iStr, ↓wp_iRng, ↓wp_lc, ↓wp_dc, ↓ws_next, ↓ws_break, ↓ws_cont, ↓ws_retn, ↓ws_retu, ↓ws_drop, ↓ws_set, ↓ws_if, ↓ws_seq, ↓ws_put, ↓ws_app, ↓ws_fldSet, ↓ws_asg, ↓ws_par2, ↓ws_for, ↓ws_forL, ↓seqP_nx, ↓seqP_rt, ↓seqP_bk, ↓seqP_ct, ↓seqP_ex, ↓loopP_nx, ↓loopP_ct, ↓loopP_bk, ↓loopP_rt, ↓loopP_ex, ↓for_nil, ↓for_cons, ↓ws_nox, ↓noxP_nx, ↓noxP_rt, ↓noxP_bk, ↓noxP_ct, ↓outF_ok, ↓outF_ex, ↓onS_some, ↓onS_none, ↓onS_ite, ↓onS_map, ↓all_nil, ↓all_cons, ↓slots_nil, ↓slots_cons, ↓wipe_nil, ↓wipe_cons, ↓rest_nil, ↓rest_cons, ↓g_nm, ↓g_tp, ↓g_0, ↓g_C, ↓st_tmp, ↓st_frz, ↓st_var, ↓chg_is, ↓brP_true, ↓brP_false, ↓brP_not, ↓dMul_ii, ↓dDiv_ii, ↓dMod_ii, ↓dPow_ii, ↓dEq_is, ↓dNe_is, ↓dAdd_ss, ↓dAdd_ll, ↓dLen_s, ↓putIn_s, ↓dIx_s, ↓cut_s, ↓app_l, onS_some, onS_none, onS_ite, onS_map, all_nil, all_cons, slots_nil, slots_cons, wipe_nil, wipe_cons, rest_nil, rest_cons, g_nm, g_tp, g_0, g_C, st_tmp, st_frz, st_var, chg_is, brP_true, brP_false, brP_not, dMul_ii, dDiv_ii, dMod_ii, dPow_ii, dEq_is, dNe_is, dAdd_ss, dAdd_ll, dLen_s, putIn_s, dIx_s, cut_s, app_l, varR_frz, varR_own, varR_bor, varR_ro, slD_some, soft_frz, soft_tmp, soft_var, get_frz, get_tmp, get_var, bool_frz, eatS_own, eatS_frz, eat_frz, eat_tmp, eat_var, slot_frz, slot_var, sv_frz, sv_ro, sv_own, sv_bor, sv_own1, sv_bor1, ns_lst, ns_tup, ns_dic, ns_obj, bset_0, bset_S, wb_bor, wb_val, wb_nil, ix_frz, ix_tmp, ix_var, ap_nil, ap_frz, ap_var, ag_mv, ag_mb, ag_bv, ag_bb, isOb_obj, fldD_obj, mkFin_ok, mkFinX_ok, int_frz, str_frz, kvs_dic, getR_some, getR_none, key_frz, kd_str, kd_int, lstOf_ok, tupOf_ok, lockS_own, lockS_frz, lockS_ro, lock_var, lock_frz, lock_tmp, seqOf_lst, seqOf_tup, slotFrz_is, sfz_none, sfz_frz, slotFree_is, sfr_none, sfr_frz, sfr_own, thS_ok, chS_own, chS_bor, isL_ok, end_nx, end_frz, end_tmp, end_var, end_ex, endS_own, endS_frz, dat_some, dat_none, nv_frz, nv_tmp, letS_is, rng_0, rng_1, bne_no, bne_so, CPow_is, dAdd_ii, dSub_ii, dCmp_ii, okE_ii, okN_ii, okE_ss, okN_ss, okE_bb, okN_bb, beqD_ii, beqD_ss, beqD_bb, okE_l0, okN_l0, beqD_l0, dIs_non, dInt_i, dLen_l, dLen_t, dLen_scr, dList_l, dList_t, dTuple_l, dStr_s, dListK_d, dMin2_ii, dSum_l, dDx_s, dIn_d, dIx_l, dIx_t, cut_l, cut_scr, line_is, putFd_0, putFd_1, putFd_2, isi_ob, isi_int, isi_tup, isi_lst, isi_str, ro_obj, ro_int, ro_tup, ro_lst, ro_str, keys_kvI, items_kvI, look_kvI, getR_kvI, kvI_len, put_kvI, List.getElem?_cons_zero, List.getElem?_cons_succ, List.set_cons_zero, List.set_cons_succ, List.map_cons, List.map_nil, List.length_cons, List.length_nil, List.zip_cons_cons, List.zip_nil_left, List.zip_nil_right, List.all_cons, List.all_nil, List.take_succ_cons, List.take_zero, List.replicate_succ, List.replicate_zero, List.cons_append, List.nil_append, Option.getD_some, Option.isNone_none, Option.isNone_some, Bool.and_true, Bool.true_and, Bool.or_true, Bool.or_false, Bool.false_or, Nat.reduceBneDiff, Bool.true_or, Bool.not_true, Bool.not_false, Bool.and_false, Bool.false_and, true_and, and_true, if_true, ↓reduceIte, Nat.reduceLeDiff, Nat.reduceAdd, Nat.reduceSub, and_self, eq_self, decide_true, decide_false, Bool.false_eq_true, bne_self_eq_false, Nat.zero_le, Nat.reduceEqDiff, reduceCtorEq, Nat.reduceBEq, List.contains_cons, BEq.rfl, Int.reducePow, Int.reduceToNat, Int.reduceLT, Int.reduceLE, Nat.reducePow, Nat.reduceLT, Int.reduceSub, Int.reduceAdd, Int.reduceMul, Int.reduceNeg, Int.reduceDiv, Nat.reduceMul])
theorem sum_keys {ps t : SI} (hn : (ksI ps).Nodup) : ((ksI ps).map fun w => lk ps w * lk t w).sum = dotI t ps := by
  unfold dotI ksI
  rw [List.map_map]
  congr 1
  refine List.map_congr_left fun p hp => ?_
  simp only [Function.comp]
  rw [lk_mem hn hp, Int.mul_comm]
theorem sum_sub {l : List Str} {f g : Str → Int} : (l.map fun w => f w - g w).sum = (l.map f).sum - (l.map g).sum := by
  induction l with
  | nil => rfl
  | cons a r ih => simp [ih]; omega
theorem cmB2 {i j k : Int} (h1 : 0 ≤ i) (h2 : i ≤ BB) (h3 : 0 ≤ j) (h4 : j ≤ BB) (h5 : 0 ≤ k) (h6 : k ≤ BB) : CMulW i (j - k) := cm (by unfold BB at *; omega) (by unfold BB at *; omega)
def tripD (b : Int) (t g : SI) : D := .tup [.int b, .dic (kvI t), .dic (kvI g)]
theorem lspare_w {b : Int} {t g ps qs : SI} {n m : Nat} {k2 k3 : Kd} {P : R → List D → Prop} {E : Exn → List D → Prop} (hk2 : k2 = .frz ∨ k2 = .ro) (hk3 : k3 = .frz ∨ k3 = .ro) (ht : Bg BB n t) (hg : Bg BB n g) (hp : Bg BB m ps) (hq : Bg BB m qs) (h : P (.frz (.int (b + (dotI g ps - dotI t ps) - dotI t qs))) [tripD b t g, .dic (kvI ps), .dic (kvI qs)]) : wpF d__law_spare [⟨.frz, tripD b t g⟩, ⟨k2, .dic (kvI ps)⟩, ⟨k3, .dic (kvI qs)⟩] P E := by
  unfold d__law_spare
  rw [wf_fn]
  unfold d__law_spare_b
  rcases hk2 with rfl | rfl <;> rcases hk3 with rfl | rfl
  all_goals
    unfold tripD
    walk_at "wp"
    refine ws_forJ (fun F ds f => ∃ done rest x, ksI ps = done ++ rest ∧ ds = rest.map D.str ∧ sfr (some x) = true ∧ f = (F.set 3 (some ⟨.frz, .int (b + (done.map fun w => lk ps w * (lk g w - lk t w)).sum)⟩)).set 4 x) ⟨[], ksI ps, none, rfl, rfl, rfl, by simp⟩ ?_ ?_
    · rintro d ds f ⟨done, rest, x, e1, e2, hx, rfl⟩
      cases rest with
      | nil => cases e2
      | cons w rest =>
        cases e2
        have hw : w ∈ ksI ps := by rw [e1]; simp
        walk_at "wp"
        refine ⟨hx, ?_⟩
        rw [lkO_in hp.pos.1 hw]
        walk_at "wp"
        have h1 := hp.lk (w := w) (by decide)
        have h2 := ht.lk (w := w) (by decide)
        have h3 := hg.lk (w := w) (by decide)
        refine ⟨cmB2 h1.1 h1.2 h3.1 h3.2 h2.1 h2.2, done ++ [w], rest, some ⟨.frz, .str w⟩, by simp [e1], rfl, rfl, ?_⟩
        simp [lk, Int.add_assoc]
    rintro f ⟨done, rest, x, e1, e2, hx, rfl⟩
    have e2 : rest = [] := by simpa using e2.symm
    subst e2
    have e1 : ksI ps = done := by simpa using e1
    subst e1
    have es : ((ksI ps).map fun w => lk ps w * (lk g w - lk t w)).sum = dotI g ps - dotI t ps := by
      rw [← sum_keys hp.pos.1, ← sum_keys hp.pos.1, ← sum_sub]
      simp only [Int.mul_sub]
    rw [es]
    walk_at "wp"
    refine ws_forJ (fun F ds f => ∃ done rest x, ksI qs = done ++ rest ∧ ds = rest.map D.str ∧ sfr (some x) = true ∧ f = (F.set 3 (some ⟨.frz, .int (b + (dotI g ps - dotI t ps) - (done.map fun w => lk qs w * lk t w).sum)⟩)).set 4 x) ⟨[], ksI qs, _, rfl, rfl, hx, by simp⟩ ?_ ?_
    · rintro d ds f ⟨done, rest, x, e1, e2, hx, rfl⟩
      cases rest with
      | nil => cases e2
      | cons w rest =>
        cases e2
        have hw : w ∈ ksI qs := by rw [e1]; simp
        walk_at "wp"
        refine ⟨hx, ?_⟩
        rw [lkO_in hq.pos.1 hw]
        walk_at "wp"
        have h1 := hq.lk (w := w) (by decide)
        have h2 := ht.lk (w := w) (by decide)
        refine ⟨cmB h1.1 h1.2 h2.1 h2.2, done ++ [w], rest, some ⟨.frz, .str w⟩, by simp [e1], rfl, rfl, ?_⟩
        simp [lk]
        omega
    rintro f ⟨done, rest, x, e1, e2, hx, rfl⟩
    have e2 : rest = [] := by simpa using e2.symm
    subst e2
    have e1 : ksI qs = done := by simpa using e1
    subst e1
    rw [sum_keys hq.pos.1]
    walk_at "wp"
    exact h
theorem parts_w {b : Int} {t g : SI} {k1 : Kd} {P : R → List D → Prop} {E : Exn → List D → Prop} (hk1 : k1 = .frz ∨ k1 = .ro) (h : P (.frz (tripD b t g)) [storeD b t g]) : wpF d_parts_of [⟨k1, storeD b t g⟩] P E := by
  unfold d_parts_of
  rw [wf_fn]
  unfold d_parts_of_b
  rcases hk1 with rfl | rfl
  all_goals
    unfold storeD bagD
    walk_at "wp"
    exact h
end Pu
end

section
set_option Elab.async false
set_option linter.all false
set_option maxRecDepth 100000
set_option maxHeartbeats 4000000
set_option autoImplicit false
namespace Pu
open PySem L2 U Wk
local macro_rules | `(tactic| walk_at "wp") => `(tactic| simp only [↓wp_ret, ↓wp_bind, ↓wp_C, ↓wp_var, ↓wp_op2, ↓wp_bin, ↓wp_tOfE, ↓wp_and, ↓wp_or, ↓wp_not, ↓wp_eOfT, ↓wp_eIte, ↓wp_eNot, ↓wp_eAnd, ↓wp_eOr, ↓wp_eat, ↓wp_eFrz, ↓wp_args0, ↓wp_args, ↓wp_ds0, ↓wp_ds, ↓wp_tup, ↓wp_lst, ↓wp_opL, ↓wp_callB, ↓wp_callM, ↓wp_call, ↓wp_okM, ↓wp_isC, ↓wp_meth, ↓wp_prop, ↓wp_fldM, ↓wp_fld, ↓wp_makeM, ↓wp_make, ↓wp_own2M, ↓wp_own2, ↓wp_ownBM, ↓wp_ownB, ↓wp_asLen, ↓wp_lenOwn, ↓wp_callOM, ↓wp_callO, ↓wp_isi, ↓wp_getM, ↓wp_get, ↓wp_part0, ↓wp_part, ↓wp_slice, ↓wp_neg, ↓wp_pairs0, ↓wp_pairs, ↓wp_disp, ↓wp_dic0, ↓wp_join, ↓wp_rev, ↓wp_lstX, ↓wp_star, ↓wp_iLst, ↓wp_iTup, ↓wp_iSeq, ↓wp_iKey, ↓wp_iItm, ↓wp_iStr, ↓wp_iRng, ↓wp_lc, ↓wp_dc, ↓ws_next, ↓ws_break, ↓ws_cont, ↓ws_retn, ↓ws_retu, ↓ws_drop, ↓ws_set, ↓ws_if, ↓ws_seq, ↓ws_put, ↓ws_app, ↓ws_fldSet, ↓ws_asg, ↓ws_par2, ↓ws_for, ↓ws_forL, ↓seqP_nx, ↓seqP_rt, ↓seqP_bk, ↓seqP_ct, ↓seqP_ex, ↓loopP_nx, ↓loopP_ct, ↓loopP_bk, ↓loopP_rt, ↓loopP_ex, ↓for_nil, ↓for_cons, ↓ws_nox, ↓noxP_nx, ↓noxP_rt, ↓noxP_bk, ↓noxP_ct, ↓outF_ok, ↓outF_ex, ↓onS_some, ↓onS_none, ↓onS_ite, ↓onS_map, ↓all_nil, ↓all_cons, ↓slots_nil, ↓slots_cons, ↓wipe_nil, ↓wipe_cons, ↓rest_nil, ↓rest_cons, ↓g_nm, ↓g_tp, ↓g_0, ↓g_C, ↓st_tmp, ↓st_frz, ↓st_var, ↓chg_is, ↓brP_true, ↓brP_false, ↓brP_not, ↓dMul_ii, ↓dDiv_ii, ↓dMod_ii, ↓dPow_ii, ↓dEq_is, ↓dNe_is, ↓dAdd_ss, ↓dAdd_ll, ↓dLen_s, ↓putIn_s, ↓dIx_s, ↓cut_s, ↓app_l, onS_some, onS_none, onS_ite, onS_map, all_nil, all_cons, slots_nil, slots_cons, wipe_nil, wipe_cons, rest_nil, rest_cons, g_nm, g_tp, g_0, g_C, st_tmp, st_frz, st_var, chg_is, brP_true, brP_false, brP_not, dMul_ii, dDiv_ii, dMod_ii, dPow_ii, dEq_is, dNe_is, dAdd_ss, dAdd_ll, dLen_s, putIn_s, dIx_s, cut_s, app_l, varR_frz, varR_own, varR_bor, varR_ro, slD_some, soft_frz, soft_tmp, soft_var, get_frz, get_tmp, get_var, bool_frz, eatS_own, eatS_frz, eat_frz, eat_tmp, eat_var, slot_frz, slot_var, sv_frz, sv_ro, sv_own, sv_bor, sv_own1, sv_bor1, ns_lst, ns_tup, ns_dic, ns_obj, bset_0, bset_S, wb_bor, wb_val, wb_nil, ix_frz, ix_tmp, ix_var, ap_nil, ap_frz, ap_var, ag_mv, ag_mb, ag_bv, ag_bb, isOb_obj, fldD_obj, mkFin_ok, mkFinX_ok, int_frz, str_frz, kvs_dic, getR_some, getR_none, key_frz, kd_str, kd_int, lstOf_ok, tupOf_ok, lockS_own, lockS_frz, lockS_ro, lock_var, lock_frz, lock_tmp, seqOf_lst, seqOf_tup, slotFrz_is, sfz_none, sfz_frz, slotFree_is, sfr_none, sfr_frz, sfr_own, thS_ok, chS_own, chS_bor, isL_ok, end_nx, end_frz, end_tmp, end_var, end_ex, endS_own, endS_frz, dat_some, dat_none, nv_frz, nv_tmp, letS_is, rng_0, rng_1, bne_no, bne_so, CPow_is, dAdd_ii, dSub_ii, dCmp_ii, okE_ii, okN_ii, okE_ss, okN_ss, okE_bb, okN_bb, beqD_ii, beqD_ss, beqD_bb, okE_l0, okN_l0, beqD_l0, dIs_non, dInt_i, dLen_l, dLen_t, dLen_scr, dList_l, dList_t, dTuple_l, dStr_s, dListK_d, dMin2_ii, dSum_l, dDx_s, dIn_d, dIx_l, dIx_t, cut_l, cut_scr, line_is, putFd_0, putFd_1, putFd_2, isi_ob, isi_int, isi_tup, isi_lst, isi_str, ro_obj, ro_int, ro_tup, ro_lst, ro_str, keys_kvI, items_kvI, look_kvI, getR_kvI, kvI_len, put_kvI, List.getElem?_cons_zero, List.getElem?_cons_succ, List.set_cons_zero, List.set_cons_succ, List.map_cons, List.map_nil, List.length_cons, List.length_nil, List.zip_cons_cons, List.zip_nil_left, List.zip_nil_right, List.all_cons, List.all_nil, List.take_succ_cons, List.take_zero, List.replicate_succ, List.replicate_zero, List.cons_append, List.nil_append, Option.getD_some, Option.isNone_none, Option.isNone_some, Bool.and_true, Bool.true_and, Bool.or_true, Bool.or_false, Bool.false_or, Nat.reduceBneDiff, Bool.true_or, Bool.not_true, Bool.not_false, Bool.and_false, Bool.false_and, true_and, and_true, if_true, ↓reduceIte, Nat.reduceLeDiff, Nat.reduceAdd, Nat.reduceSub, and_self, eq_self, decide_true, decide_false, Bool.false_eq_true, bne_self_eq_false, Nat.zero_le, Nat.reduceEqDiff, reduceCtorEq, Nat.reduceBEq, List.contains_cons, BEq.rfl, Int.reducePow, Int.reduceToNat, Int.reduceLT, Int.reduceLE, Nat.reducePow, Nat.reduceLT, Int.reduceSub, Int.reduceAdd, Int.reduceMul, Int.reduceNeg, Int.reduceDiv, Nat.reduceMul])
theorem beq_trip {b b' : Int} {t g t' g' : SI} : beqD (tripD b t g) (tripD b' t' g') = (b == b' && (beqD (.dic (kvI t)) (.dic (kvI t')) && beqD (.dic (kvI g)) (.dic (kvI g')))) := by
  unfold tripD
  simp [beqD, beqL]
theorem okE_trip {n : Nat} {b b' : Int} {t g t' g' : SI} : okE false (n + 2) (tripD b t g) (tripD b' t' g') = true := by
  unfold tripD
  rw [okE]
  simp only [List.zip_cons_cons, List.zip_nil_left, List.all_cons, List.all_nil, okE_int, okE_kvI, Bool.and_true]
theorem store_eq_w {b b' : Int} {t g t' g' : SI} {P : R → List D → Prop} {E : Exn → List D → Prop} (h : P (.frz (.bl (beqD (tripD b t g) (tripD b' t' g')))) [storeD b t g, storeD b' t' g']) : wpF d_Store___eq__ [⟨.frz, storeD b t g⟩, ⟨.frz, storeD b' t' g'⟩] P E := by
  unfold d_Store___eq__
  rw [wf_fn]
  unfold d_Store___eq___b
  unfold storeD
  walk_at "wp"
  refine parts_w (b := b) (t := t) (g := g) (.inl rfl) ?_
  unfold storeD
  walk_at "wp"
  refine parts_w (b := b') (t := t') (g := g') (.inl rfl) ?_
  unfold storeD
  walk_at "wp"
  exact ⟨okE_trip, h⟩
theorem store_eqi_w {b i : Int} {t g : SI} {P : R → List D → Prop} {E : Exn → List D → Prop} (h : P (.frz (.bl false)) [storeD b t g, .int i]) : wpF d_Store___eq__ [⟨.frz, storeD b t g⟩, ⟨.frz, .int i⟩] P E := by
  unfold d_Store___eq__
  rw [wf_fn]
  unfold d_Store___eq___b
  unfold storeD
  walk_at "wp"
  exact h
def plainB (t g : SI) : Bool := ((ksI t).filter fun w => (lkO g w).isSome).isEmpty
theorem plain_fin {t g : SI} : ((((ksI t).map D.str).filter fun d => (lkO g (wdD d)).isSome).map id).isEmpty = plainB t g := by
  unfold plainB
  rw [List.map_id, List.filter_map, List.isEmpty_map]
  rfl
theorem plain_w {b : Int} {t g : SI} {n : Nat} {P : R → List D → Prop} {E : Exn → List D → Prop} (hl : t.length < 64) (h : P (.frz (.bl (plainB t g))) [storeD b t g]) : wpF d_Store_plain [⟨.frz, storeD b t g⟩] P E := by
  unfold d_Store_plain
  rw [wf_fn]
  unfold d_Store_plain_b
  unfold storeD bagD
  walk_at "wp"
  refine lc_map (fun d => (lkO g (wdD d)).isSome) id (by simp [line_is, ksI]; omega) ?_ ?_
  · intro d hd
    obtain ⟨w, hw, rfl⟩ := List.mem_map.mp hd
    walk_at "wp"
    refine ⟨by simp [wdD], ?_⟩
    refine brP_of (fun _ => ?_) fun _ => ?_
    · walk_at "wp"; exact rfl
    · walk_at "wp"
  walk_at "wp"
  rw [plain_fin]
  exact h
theorem is_plain_w {b : Int} {t g : SI} {n : Nat} {P : R → List D → Prop} {E : Exn → List D → Prop} (hl : t.length < 64) (h : P (.frz (.bl (plainB t g))) [storeD b t g]) : wpF d_is_plain [⟨.frz, storeD b t g⟩] P E := by
  unfold d_is_plain
  rw [wf_fn]
  unfold d_is_plain_b
  unfold storeD bagD
  walk_at "wp"
  refine lc_map (fun d => (lkO g (wdD d)).isSome) id (by simp [line_is, ksI]; omega) ?_ ?_
  · intro d hd
    obtain ⟨w, hw, rfl⟩ := List.mem_map.mp hd
    walk_at "wp"
    refine ⟨by simp [wdD], ?_⟩
    refine brP_of (fun _ => ?_) fun _ => ?_
    · walk_at "wp"; exact rfl
    · walk_at "wp"
  walk_at "wp"
  rw [plain_fin]
  exact h
/-- begin, takes, gives -/
abbrev Tr := Int × SI × SI
def stD (x : Tr) : D := storeD x.1 x.2.1 x.2.2
def trD (x : Tr) : D := tripD x.1 x.2.1 x.2.2
def plD : D → Bool
  | .obj _ [_, .obj _ [.dic t], .obj _ [.dic g]] => ((t.map fun kv => kv.1).filter fun k => (lookD g k).isSome).isEmpty
  | _ => true
theorem plD_st {x : Tr} : plD (stD x) = plainB x.2.1 x.2.2 := by
  unfold stD storeD bagD plD plainB
  simp only []
  have : (kvI x.2.1).map (fun kv => kv.1) = (ksI x.2.1).map .inr := by simp [kvI, ksI]
  rw [this, List.filter_map, List.isEmpty_map]
  congr 2
  funext w
  simp [look_kvI]
def paD : D → D
  | .obj _ [b, .obj _ [t], .obj _ [g]] => .tup [b, t, g]
  | _ => .non
theorem paD_st {x : Tr} : paD (stD x) = trD x := rfl
theorem shop_plain_w {xs : List Tr} {k1 : Kd} {P : R → List D → Prop} {E : Exn → List D → Prop} (hk1 : k1 = .frz ∨ k1 = .ro) (hl : xs.length < 64) (hx : ∀ x ∈ xs, x.2.1.length < 64) (h : P (.frz (.bl (xs.all fun x => plainB x.2.1 x.2.2))) [shopD (xs.map stD)]) : wpF d_Shop_plain [⟨k1, shopD (xs.map stD)⟩] P E := by
  unfold d_Shop_plain
  rw [wf_fn]
  unfold d_Shop_plain_b
  unfold shopD
  rcases hk1 with rfl | rfl
  all_goals
    walk_at "wp"
    refine lc_map (fun d => !plD d) id (by simp [line_is]; omega) ?_ ?_
    · intro d hd
      obtain ⟨x, hx2, rfl⟩ := List.mem_map.mp hd
      walk_at "wp"
      unfold stD
      refine is_plain_w (n := 0) (hx x hx2) ?_
      walk_at "wp"
      refine ⟨by rw [← plD_st]; rfl, ?_⟩
      refine brP_of (fun _ => ?_) fun _ => ?_
      · walk_at "wp"
      · walk_at "wp"; exact rfl
    walk_at "wp"
    have e : (((xs.map stD).filter fun d => !plD d).map id).isEmpty = xs.all fun x => plainB x.2.1 x.2.2 := by
      rw [List.map_id, List.filter_map, List.isEmpty_map, Bool.eq_iff_iff, List.isEmpty_iff, List.filter_eq_nil_iff, List.all_eq_true]
      simp [plD_st]
    rw [e]
    exact h
theorem shop_len_w {xs : List Tr} {k1 : Kd} {P : R → List D → Prop} {E : Exn → List D → Prop} (hk1 : k1 = .frz ∨ k1 = .ro) (h : P (.frz (.int xs.length)) [shopD (xs.map stD)]) : wpF d_Shop___len__ [⟨k1, shopD (xs.map stD)⟩] P E := by
  unfold d_Shop___len__
  rw [wf_fn]
  unfold d_Shop___len___b
  unfold shopD
  rcases hk1 with rfl | rfl
  all_goals
    walk_at "wp"
    simpa [shopD] using h
theorem okE_trs {n : Nat} : ∀ {xs ys : List Tr}, (((xs.map trD).zip (ys.map trD)).all fun p => okE false (n + 2) p.1 p.2) = true
  | [], _ => by simp
  | _ :: _, [] => by simp
  | x :: xs, y :: ys => by
    rw [List.map_cons, List.map_cons, List.zip_cons_cons, List.all_cons, okE_trs]
    simp only [trD, okE_trip, Bool.and_true]
theorem okE_trl {n : Nat} {xs ys : List Tr} : okE false (n + 3) (.lst (xs.map trD)) (.lst (ys.map trD)) = true := by
  rw [okE]
  simp only [okE_trs, Bool.or_true]
theorem shop_eq_w {xs ys : List Tr} {k1 : Kd} {P : R → List D → Prop} {E : Exn → List D → Prop} (hk1 : k1 = .frz ∨ k1 = .ro) (hl : xs.length < 64) (hl2 : ys.length < 64) (h : P (.frz (.bl (beqL (xs.map trD) (ys.map trD)))) [shopD (xs.map stD), shopD (ys.map stD)]) : wpF d_Shop___eq__ [⟨k1, shopD (xs.map stD)⟩, ⟨.frz, shopD (ys.map stD)⟩] P E := by
  unfold d_Shop___eq__
  rw [wf_fn]
  unfold d_Shop___eq___b
  unfold shopD
  rcases hk1 with rfl | rfl
  all_goals
    walk_at "wp"
    refine lc_map (fun d => true) paD (by simp [line_is]; omega) ?_ ?_
    · intro d hd
      obtain ⟨x, hx2, rfl⟩ := List.mem_map.mp hd
      walk_at "wp"
      unfold stD
      refine parts_w (.inl rfl) ?_
      walk_at "wp"
      exact rfl
    walk_at "wp"
    refine lc_map (fun d => true) paD (by simp [line_is]; omega) ?_ ?_
    · intro d hd
      obtain ⟨x, hx2, rfl⟩ := List.mem_map.mp hd
      walk_at "wp"
      unfold stD
      refine parts_w (.inl rfl) ?_
      walk_at "wp"
      exact rfl
    walk_at "wp"
    rw [List.filter_eq_self.mpr (by simp), List.filter_eq_self.mpr (by simp), List.map_map, List.map_map]
    have e : paD ∘ stD = trD := rfl
    rw [e]
    exact ⟨okE_trl, h⟩
theorem shop_eqt_w {xs : List Tr} {zs : List D} {k1 : Kd} {P : R → List D → Prop} {E : Exn → List D → Prop} (hk1 : k1 = .frz ∨ k1 = .ro) (h : P (.frz (.bl false)) [shopD (xs.map stD), .tup zs]) : wpF d_Shop___eq__ [⟨k1, shopD (xs.map stD)⟩, ⟨.frz, .tup zs⟩] P E := by
  unfold d_Shop___eq__
  rw [wf_fn]
  unfold d_Shop___eq___b
  unfold shopD
  rcases hk1 with rfl | rfl
  all_goals
    walk_at "wp"
    exact h
/-! sums of bags -/
  def addF (ps qs : SI) (c : Int) (acc : SI) (ws : List Str) : SI := ws.foldl (fun acc w => setI acc w (lk ps w + c * lk qs w)) acc
  def addI (ps qs : SI) (c : Int) : SI := addF ps qs c [] (ksI ps ++ ksI qs)
theorem addF_nodup {ps qs : SI} {c : Int} : ∀ {ws : List Str} {acc : SI}, (ksI acc).Nodup → (ksI (addF ps qs c acc ws)).Nodup
  | [], _, h => h
  | w :: ws, acc, h => addF_nodup (ws := ws) (ks_setI h)
theorem addF_len {ps qs : SI} {c : Int} : ∀ {ws : List Str} {acc : SI}, (addF ps qs c acc ws).length ≤ acc.length + ws.length
  | [], _ => by simp [addF]
  | w :: ws, acc => by
    have := addF_len (ps := ps) (qs := qs) (c := c) (ws := ws) (acc := setI acc w (lk ps w + c * lk qs w))
    have h2 := len_setI (ps := acc) (w := w) (v := lk ps w + c * lk qs w)
    unfold addF at this ⊢
    simp only [List.foldl_cons, List.length_cons]
    omega
theorem addF_lk {ps qs : SI} {c : Int} {x : Str} : ∀ {ws : List Str} {acc : SI}, (ksI acc).Nodup → lkO (addF ps qs c acc ws) x = if x ∈ ws then some (lk ps x + c * lk qs x) else lkO acc x
  | [], _, h => by simp [addF]
  | w :: ws, acc, h => by
    have := addF_lk (ps := ps) (qs := qs) (c := c) (x := x) (ws := ws) (acc := setI acc w (lk ps w + c * lk qs w)) (ks_setI h)
    unfold addF at this ⊢
    simp only [List.foldl_cons, this, lkO_setI h, List.mem_cons]
    by_cases h1 : x ∈ ws
    · simp [h1]
    · by_cases h2 : w = x
      · subst h2; simp
      · have h3 : ¬ x = w := fun z => h2 z.symm
        simp [h1, h2, h3]
theorem addI_nodup {ps qs : SI} {c : Int} : (ksI (addI ps qs c)).Nodup := addF_nodup (by simp [ksI])
theorem addI_lk {ps qs : SI} {c : Int} {x : Str} : lk (addI ps qs c) x = lk ps x + c * lk qs x := by
  unfold lk addI
  rw [addF_lk (by simp [ksI])]
  split
  · simp [lk]
  · rename_i h
    simp only [List.mem_append, not_or] at h
    rw [lkO_none h.1, lkO_none h.2]
    simp [lkO]
theorem addI_len {ps qs : SI} {c : Int} : (addI ps qs c).length ≤ ps.length + qs.length := by
  have := addF_len (ps := ps) (qs := qs) (c := c) (ws := ksI ps ++ ksI qs) (acc := [])
  unfold addI
  simpa [ksI] using this
theorem merge_kvI {ps qs : SI} {c : Int} : ∀ {ws : List Str} {acc : SI}, mergeD (kvI acc) (ws.map fun w => (.inr w, D.int (lk ps w + c * lk qs w))) = kvI (addF ps qs c acc ws)
  | [], _ => rfl
  | w :: ws, acc => by
    have := merge_kvI (ps := ps) (qs := qs) (c := c) (ws := ws) (acc := setI acc w (lk ps w + c * lk qs w))
    unfold mergeD addF at this ⊢
    simp only [List.map_cons, List.foldl_cons, put_kvI]
    exact this
theorem added_w {ps qs : SI} {c : Int} {n : Nat} {k1 k2 : Kd} {P : R → List D → Prop} {E : Exn → List D → Prop} (hk1 : k1 = .frz ∨ k1 = .ro) (hk2 : k2 = .frz ∨ k2 = .ro) (hp : Bg BB n ps) (hq : Bg BB n qs) (hn : n < 32) (hc : c.natAbs < 2 ^ 200) (h : P (.tmp (.dic (kvI (cl (addI ps qs c))))) [.dic (kvI ps), .dic (kvI qs), .int c]) : wpF d_added [⟨k1, .dic (kvI ps)⟩, ⟨k2, .dic (kvI qs)⟩, ⟨.frz, .int c⟩] P E := by
  unfold d_added
  rw [wf_fn]
  unfold d_added_b
  have l1 := hp.len
  have l2 := hq.len
  rcases hk1 with rfl | rfl <;> rcases hk2 with rfl | rfl
  all_goals
    walk_at "wp"
    simp only [List.append_nil, ← List.map_append]
    refine ⟨by simp [ksI]; omega, ?_⟩
    refine dc_map (fun d => true) kyD (fun d => .int (lk ps (wdD d) + c * lk qs (wdD d))) (by simp [line_is, ksI]; omega) ?_ ?_
    · intro d hd
      obtain ⟨w, hw, rfl⟩ := List.mem_map.mp hd
      walk_at "wp"
      have h2 := hq.lk (w := w) (by decide)
      exact ⟨rfl, cm hc (by unfold BB at h2; unfold lk at h2; omega), rfl⟩
    have e : mergeD [] ((((ksI ps ++ ksI qs).map D.str).filter fun d => true).map fun d => (kyD d, D.int (lk ps (wdD d) + c * lk qs (wdD d)))) = kvI (addI ps qs c) := by
      rw [List.filter_eq_self.mpr (by simp), List.map_map]
      exact merge_kvI (acc := [])
    rw [e]
    walk_at "wp"
    have l3 := addI_len (ps := ps) (qs := qs) (c := c)
    refine cleaned_w (.inl rfl) addI_nodup (by omega) ?_
    walk_at "wp"
    exact h
theorem bag_add_w {ps qs : SI} {n : Nat} {P : R → List D → Prop} {E : Exn → List D → Prop} (hp : Bg BB n ps) (hq : Bg BB n qs) (hn : n < 32) (h : P (.tmp (bagD (cl (cl (addI ps qs 1))))) [bagD ps, bagD qs]) : wpF d_Bag___add__ [⟨.frz, bagD ps⟩, ⟨.frz, bagD qs⟩] P E := by
  unfold d_Bag___add__
  rw [wf_fn]
  unfold d_Bag___add___b
  have l1 := hp.len
  have l2 := hq.len
  unfold bagD
  walk_at "wp"
  refine added_w (.inl rfl) (.inl rfl) hp hq hn (by decide) ?_
  walk_at "wp"
  have l3 := addI_len (ps := ps) (qs := qs) (c := 1)
  have l4 : (cl (addI ps qs 1)).length ≤ (addI ps qs 1).length := by
    unfold cl
    rw [List.length_map]
    refine Nat.le_trans (List.length_filter_le _ _) ?_
    rw [srt_perm.length_eq]
    simp [ksI]
  refine bag_w (.inl rfl) (cl_nodup addI_nodup) (by omega) ?_
  walk_at "wp"
  exact h
end Pu
end

section
set_option Elab.async false
set_option linter.all false
set_option maxRecDepth 100000
set_option maxHeartbeats 4000000
set_option autoImplicit false
namespace Pu
open PySem L2 U Wk
local macro_rules | `(tactic| walk_at "wp") => `(tactic| simp only [↓wp_ret, ↓wp_bind, ↓wp_C, ↓wp_var, ↓wp_op2, ↓wp_bin, ↓wp_tOfE, ↓wp_and, ↓wp_or, ↓wp_not, ↓wp_eOfT, ↓wp_eIte, ↓wp_eNot, ↓wp_eAnd, ↓wp_eOr, ↓wp_eat, ↓wp_eFrz, ↓wp_args0, ↓wp_args, ↓wp_ds0, ↓wp_ds, ↓wp_tup, ↓wp_lst, ↓wp_opL, ↓wp_callB, ↓wp_callM, ↓wp_call, ↓wp_okM, ↓wp_isC, ↓wp_meth, ↓wp_prop, ↓wp_fldM, ↓wp_fld, ↓wp_makeM, ↓wp_make, ↓wp_own2M, ↓wp_own2, ↓wp_ownBM, ↓wp_ownB, ↓wp_asLen, ↓wp_lenOwn, ↓wp_callOM, ↓wp_callO, ↓wp_isi, ↓wp_getM, ↓wp_get, ↓wp_part0, ↓wp_part, ↓wp_slice, ↓wp_neg, ↓wp_pairs0, ↓wp_pairs, ↓wp_disp, ↓wp_dic0, ↓wp_join, ↓wp_rev, ↓wp_lstX, ↓wp_star, ↓wp_iLst, ↓wp_iTup, ↓wp_iSeq, ↓wp_iKey, ↓wp_iItm, ↓wp_iStr, ↓wp_iRng, ↓wp_lc, ↓wp_dc, ↓ws_next, ↓ws_break, ↓ws_cont, ↓ws_retn, ↓ws_retu, ↓ws_drop, ↓ws_set, ↓ws_if, ↓ws_seq, ↓ws_put, ↓ws_app, ↓ws_fldSet, ↓ws_asg, ↓ws_par2, ↓ws_for, ↓ws_forL, ↓seqP_nx, ↓seqP_rt, ↓seqP_bk, ↓seqP_ct, ↓seqP_ex, ↓loopP_nx, ↓loopP_ct, ↓loopP_bk, ↓loopP_rt, ↓loopP_ex, ↓for_nil, ↓for_cons, ↓ws_nox, ↓noxP_nx, ↓noxP_rt, ↓noxP_bk, ↓noxP_ct, ↓outF_ok, ↓outF_ex, ↓onS_some, ↓onS_none, ↓onS_ite, ↓onS_map, ↓all_nil, ↓all_cons, ↓slots_nil, ↓slots_cons, ↓wipe_nil, ↓wipe_cons, ↓rest_nil, ↓rest_cons, ↓g_nm, ↓g_tp, ↓g_0, ↓g_C, ↓st_tmp, ↓st_frz, ↓st_var, ↓chg_is, ↓brP_true, ↓brP_false, ↓brP_not, ↓dMul_ii, ↓dDiv_ii, ↓dMod_ii, ↓dPow_ii, ↓dEq_is, ↓dNe_is, ↓dAdd_ss, ↓dAdd_ll, ↓dLen_s, ↓putIn_s, ↓dIx_s, ↓cut_s, ↓app_l, onS_some, onS_none, onS_ite, onS_map, all_nil, all_cons, slots_nil, slots_cons, wipe_nil, wipe_cons, rest_nil, rest_cons, g_nm, g_tp, g_0, g_C, st_tmp, st_frz, st_var, chg_is, brP_true, brP_false, brP_not, dMul_ii, dDiv_ii, dMod_ii, dPow_ii, dEq_is, dNe_is, dAdd_ss, dAdd_ll, dLen_s, putIn_s, dIx_s, cut_s, app_l, varR_frz, varR_own, varR_bor, varR_ro, slD_some, soft_frz, soft_tmp, soft_var, get_frz, get_tmp, get_var, bool_frz, eatS_own, eatS_frz, eat_frz, eat_tmp, eat_var, slot_frz, slot_var, sv_frz, sv_ro, sv_own, sv_bor, sv_own1, sv_bor1, ns_lst, ns_tup, ns_dic, ns_obj, bset_0, bset_S, wb_bor, wb_val, wb_nil, ix_frz, ix_tmp, ix_var, ap_nil, ap_frz, ap_var, ag_mv, ag_mb, ag_bv, ag_bb, isOb_obj, fldD_obj, mkFin_ok, mkFinX_ok, int_frz, str_frz, kvs_dic, getR_some, getR_none, key_frz, kd_str, kd_int, lstOf_ok, tupOf_ok, lockS_own, lockS_frz, lockS_ro, lock_var, lock_frz, lock_tmp, seqOf_lst, seqOf_tup, slotFrz_is, sfz_none, sfz_frz, slotFree_is, sfr_none, sfr_frz, sfr_own, thS_ok, chS_own, chS_bor, isL_ok, end_nx, end_frz, end_tmp, end_var, end_ex, endS_own, endS_frz, dat_some, dat_none, nv_frz, nv_tmp, letS_is, rng_0, rng_1, bne_no, bne_so, CPow_is, dAdd_ii, dSub_ii, dCmp_ii, okE_ii, okN_ii, okE_ss, okN_ss, okE_bb, okN_bb, beqD_ii, beqD_ss, beqD_bb, okE_l0, okN_l0, beqD_l0, dIs_non, dInt_i, dLen_l, dLen_t, dLen_scr, dList_l, dList_t, dTuple_l, dStr_s, dListK_d, dMin2_ii, dSum_l, dDx_s, dIn_d, dIx_l, dIx_t, cut_l, cut_scr, line_is, putFd_0, putFd_1, putFd_2, isi_ob, isi_int, isi_tup, isi_lst, isi_str, ro_obj, ro_int, ro_tup, ro_lst, ro_str, keys_kvI, items_kvI, look_kvI, getR_kvI, kvI_len, put_kvI, List.getElem?_cons_zero, List.getElem?_cons_succ, List.set_cons_zero, List.set_cons_succ, List.map_cons, List.map_nil, List.length_cons, List.length_nil, List.zip_cons_cons, List.zip_nil_left, List.zip_nil_right, List.all_cons, List.all_nil, List.take_succ_cons, List.take_zero, List.replicate_succ, List.replicate_zero, List.cons_append, List.nil_append, Option.getD_some, Option.isNone_none, Option.isNone_some, Bool.and_true, Bool.true_and, Bool.or_true, Bool.or_false, Bool.false_or, Nat.reduceBneDiff, Bool.true_or, Bool.not_true, Bool.not_false, Bool.and_false, Bool.false_and, true_and, and_true, if_true, ↓reduceIte, Nat.reduceLeDiff, Nat.reduceAdd, Nat.reduceSub, and_self, eq_self, decide_true, decide_false, Bool.false_eq_true, bne_self_eq_false, Nat.zero_le, Nat.reduceEqDiff, reduceCtorEq, Nat.reduceBEq, List.contains_cons, BEq.rfl, Int.reducePow, Int.reduceToNat, Int.reduceLT, Int.reduceLE, Nat.reducePow, Nat.reduceLT, Int.reduceSub, Int.reduceAdd, Int.reduceMul, Int.reduceNeg, Int.reduceDiv, Nat.reduceMul])
/-! one.get(w, 0) + c * more.get(w, 0), without zeros -/
def plF (ps qs : SI) (c : Int) (acc : SI) (ws : List Str) : SI := ws.foldl (fun acc w => if lk ps w + c * lk qs w = 0 then acc else setI acc w (lk ps w + c * lk qs w)) acc
def plusI (ps qs : SI) (c : Int) : SI := plF ps qs c [] (ksI ps ++ ksI qs)
theorem plF_snoc {ps qs : SI} {c : Int} {acc : SI} {ws : List Str} {w : Str} : plF ps qs c acc (ws ++ [w]) = if lk ps w + c * lk qs w = 0 then plF ps qs c acc ws else setI (plF ps qs c acc ws) w (lk ps w + c * lk qs w) := by
  unfold plF
  rw [List.foldl_append]
  rfl
theorem plF_nodup {ps qs : SI} {c : Int} : ∀ {ws : List Str} {acc : SI}, (ksI acc).Nodup → (ksI (plF ps qs c acc ws)).Nodup
  | [], _, h => h
  | w :: ws, acc, h => by
    refine plF_nodup (ws := ws) (acc := if lk ps w + c * lk qs w = 0 then acc else setI acc w (lk ps w + c * lk qs w)) ?_
    split
    · exact h
    · exact ks_setI h
theorem plF_len {ps qs : SI} {c : Int} : ∀ {ws : List Str} {acc : SI}, (plF ps qs c acc ws).length ≤ acc.length + ws.length
  | [], _ => by simp [plF]
  | w :: ws, acc => by
    have := plF_len (ps := ps) (qs := qs) (c := c) (ws := ws) (acc := if lk ps w + c * lk qs w = 0 then acc else setI acc w (lk ps w + c * lk qs w))
    have h2 := len_setI (ps := acc) (w := w) (v := lk ps w + c * lk qs w)
    unfold plF at this ⊢
    simp only [List.foldl_cons, List.length_cons]
    by_cases h : lk ps w + c * lk qs w = 0
    · rw [if_pos h] at this ⊢; omega
    · rw [if_neg h] at this ⊢; omega
theorem plF_lk {ps qs : SI} {c : Int} {x : Str} : ∀ {ws : List Str} {acc : SI}, (ksI acc).Nodup → (∀ w, lk acc w = 0 ∨ lk acc w = lk ps w + c * lk qs w) → lk (plF ps qs c acc ws) x = if x ∈ ws then lk ps x + c * lk qs x else lk acc x
  | [], _, h, _ => by simp [plF]
  | w :: ws, acc, h, ha => by
    have hs : ∀ y, lk (setI acc w (lk ps w + c * lk qs w)) y = if w = y then lk ps w + c * lk qs w else lk acc y := fun y => by
      unfold lk
      rw [lkO_setI h]
      split <;> rfl
    have := plF_lk (ps := ps) (qs := qs) (c := c) (x := x) (ws := ws) (acc := if lk ps w + c * lk qs w = 0 then acc else setI acc w (lk ps w + c * lk qs w)) (by
      split
      · exact h
      · exact ks_setI h) (fun y => by
      split
      · exact ha y
      · rw [hs]
        split
        · rename_i e; subst e; exact .inr rfl
        · exact ha y)
    unfold plF at this ⊢
    simp only [List.foldl_cons, this, List.mem_cons]
    by_cases h1 : x ∈ ws
    · simp [h1]
    · simp only [h1, or_false, if_false]
      by_cases h2 : x = w
      · subst h2
        simp only [if_true]
        split
        · rename_i e
          rcases ha x with q | q
          · rw [q, e]
          · rw [q]
        · rw [hs, if_pos rfl]
      · simp only [h2, if_false]
        split
        · rfl
        · rw [hs, if_neg (fun z => h2 z.symm)]
theorem plusI_lk {ps qs : SI} {c : Int} {x : Str} : lk (plusI ps qs c) x = lk ps x + c * lk qs x := by
  unfold plusI
  rw [plF_lk (by simp [ksI]) (fun w => .inl rfl)]
  split
  · rfl
  · rename_i h
    simp only [List.mem_append, not_or] at h
    unfold lk
    rw [lkO_none h.1, lkO_none h.2]
    simp [lkO]
theorem plF_bg {ps qs : SI} {c B : Int} {n : Nat} (hB : ∀ w, 0 ≤ lk ps w + c * lk qs w ∧ lk ps w + c * lk qs w ≤ B) : ∀ {ws : List Str} {acc : SI}, Bg B n acc → Bg B (n + ws.length) (plF ps qs c acc ws)
  | [], _, h => h
  | w :: ws, acc, h => by
    have h1 := plF_bg hB (ws := ws) (n := n + 1) (acc := if lk ps w + c * lk qs w = 0 then acc else setI acc w (lk ps w + c * lk qs w)) (by
      split
      · exact h.mono (Int.le_refl _) (by omega)
      · exact h.set (by have := hB w; omega) (hB w).2)
    exact h1.mono (Int.le_refl _) (by simp; omega)
theorem plusI_bg {ps qs : SI} {c B : Int} (hB : ∀ w, 0 ≤ lk ps w + c * lk qs w ∧ lk ps w + c * lk qs w ≤ B) : Bg B (ps.length + qs.length) (plusI ps qs c) := by
  have := plF_bg (n := 0) hB (ws := ksI ps ++ ksI qs) Bg.nil
  exact this.mono (Int.le_refl _) (by simp [ksI])
theorem plus_w {ps qs : SI} {c : Int} {n : Nat} {k1 k2 : Kd} {P : R → List D → Prop} {E : Exn → List D → Prop} (hk1 : k1 = .frz ∨ k1 = .ro) (hk2 : k2 = .frz ∨ k2 = .ro) (hp : Bg BB n ps) (hq : Bg BB n qs) (hn : n < 1000) (hc : c.natAbs < 2 ^ 200) (h : P (.tmp (.dic (kvI (plusI ps qs c)))) [.dic (kvI ps), .dic (kvI qs), .int c]) : wpF d__law_plus [⟨k1, .dic (kvI ps)⟩, ⟨k2, .dic (kvI qs)⟩, ⟨.frz, .int c⟩] P E := by
  unfold d__law_plus
  rw [wf_fn]
  unfold d__law_plus_b
  have l1 := hp.len
  have l2 := hq.len
  have l3 : (ksI ps).length = ps.length := by simp [ksI]
  have l4 : (ksI qs).length = qs.length := by simp [ksI]
  rcases hk1 with rfl | rfl <;> rcases hk2 with rfl | rfl
  all_goals
    walk_at "wp"
    refine ⟨by simp [l3, l4]; omega, ?_⟩
    rw [← List.map_append]
    refine ws_forJ (fun F ds f => ∃ done rest x y, ksI ps ++ ksI qs = done ++ rest ∧ ds = rest.map D.str ∧ f = ((F.set 3 (some ⟨.own, .dic (kvI (plF ps qs c [] done))⟩)).set 4 x).set 5 y ∧ sfr (some x) = true ∧ sfr (some y) = true) ⟨[], _, none, none, rfl, rfl, rfl, rfl, rfl⟩ ?_ ?_
    · rintro d ds f ⟨done, rest, x, y, e1, e2, rfl, hx, hy⟩
      cases rest with
      | nil => cases e2
      | cons w rest =>
        cases e2
        walk_at "wp"
        have h2 := hq.lk (w := w) (by decide)
        refine ⟨hx, cm hc (by unfold BB at h2; unfold lk at h2; omega), hy, ?_⟩
        have e3 : ksI ps ++ ksI qs = (done ++ [w]) ++ rest := by simp [e1]
        have ln : (plF ps qs c [] done).length < sizeLine := by
          have := plF_len (ps := ps) (qs := qs) (c := c) (ws := done) (acc := [])
          have q := congrArg List.length e1
          simp [l3, l4] at q this
          rw [line_is]
          omega
        refine brP_of (fun c1 => ?_) fun c1 => ?_
        · walk_at "wp"
          exact ⟨done ++ [w], rest, _, _, e3, rfl, by rw [plF_snoc, if_pos (by simpa [lk] using c1)], by rfl, by rfl⟩
        · walk_at "wp"
          exact ⟨by simpa [line_is] using ln, done ++ [w], rest, _, _, e3, rfl, by rw [plF_snoc, if_neg (by simpa [lk] using c1)]; rfl, by rfl, by rfl⟩
    rintro f ⟨done, rest, x, y, e1, e2, rfl, hx, hy⟩
    have e2 : rest = [] := by simpa using e2.symm
    subst e2
    have e1 : ksI ps ++ ksI qs = done := by simpa using e1
    subst e1
    walk_at "wp"
    exact h
end Pu
end

section
set_option Elab.async false
set_option linter.all false
set_option maxRecDepth 100000
set_option maxHeartbeats 4000000
set_option autoImplicit false
namespace Pu
open PySem L2 U Wk
theorem one_kvI {w : Str} {v : Int} : mergeD [] [((.inr w : Key), D.int v)] = kvI [(w, v)] := rfl
theorem emp_kvI : D.dic [] = .dic (kvI []) := rfl
theorem bg_one {w : Str} {v B : Int} (h0 : 0 < v) (h1 : v ≤ B) : Bg B 1 [(w, v)] := ⟨⟨by simp [ksI], by simpa using h0⟩, by simpa using h1, by simp⟩
theorem mem_of {α : Type} {p : α → Prop} {xs : List α} (h : ∀ x ∈ xs, p x) {n : Nat} (hn : n < xs.length) : p xs[n] := h _ (List.getElem_mem hn)
local macro_rules | `(tactic| walk_at "wp") => `(tactic| simp only [↓wp_ret, ↓wp_bind, ↓wp_C, ↓wp_var, ↓wp_op2, ↓wp_bin, ↓wp_tOfE, ↓wp_and, ↓wp_or, ↓wp_not, ↓wp_eOfT, ↓wp_eIte, ↓wp_eNot, ↓wp_eAnd, ↓wp_eOr, ↓wp_eat, ↓wp_eFrz, ↓wp_args0, ↓wp_args, ↓wp_ds0, ↓wp_ds, ↓wp_tup, ↓wp_lst, ↓wp_opL, ↓wp_callB, ↓wp_callM, ↓wp_call, ↓wp_okM, ↓wp_isC, ↓wp_meth, ↓wp_prop, ↓wp_fldM, ↓wp_fld, ↓wp_makeM, ↓wp_make, ↓wp_own2M, ↓wp_own2, ↓wp_ownBM, ↓wp_ownB, ↓wp_asLen, ↓wp_lenOwn, ↓wp_callOM, ↓wp_callO, ↓wp_isi, ↓wp_getM, ↓wp_get, ↓wp_part0, ↓wp_part, ↓wp_slice, ↓wp_neg, ↓wp_pairs0, ↓wp_pairs, ↓wp_disp, ↓wp_dic0, ↓wp_join, ↓wp_rev, ↓wp_lstX, ↓wp_star, ↓wp_iLst, ↓wp_iTup, ↓wp_iSeq, ↓wp_iKey, ↓wp_iItm, ↓wp_iStr, ↓wp_iRng, ↓wp_lc, ↓wp_dc, ↓ws_next, ↓ws_break, ↓ws_cont, ↓ws_retn, ↓ws_retu, ↓ws_drop, ↓ws_set, ↓ws_if, ↓ws_seq, ↓ws_put, ↓ws_app, ↓ws_fldSet, ↓ws_asg, ↓ws_par2, ↓ws_for, ↓ws_forL, ↓seqP_nx, ↓seqP_rt, ↓seqP_bk, ↓seqP_ct, ↓seqP_ex, ↓loopP_nx, ↓loopP_ct, ↓loopP_bk, ↓loopP_rt, ↓loopP_ex, ↓for_nil, ↓for_cons, ↓ws_nox, ↓noxP_nx, ↓noxP_rt, ↓noxP_bk, ↓noxP_ct, ↓outF_ok, ↓outF_ex, ↓onS_some, ↓onS_none, ↓onS_ite, ↓onS_map, ↓all_nil, ↓all_cons, ↓slots_nil, ↓slots_cons, ↓wipe_nil, ↓wipe_cons, ↓rest_nil, ↓rest_cons, ↓g_nm, ↓g_tp, ↓g_0, ↓g_C, ↓st_tmp, ↓st_frz, ↓st_var, ↓chg_is, ↓brP_true, ↓brP_false, ↓brP_not, ↓dMul_ii, ↓dDiv_ii, ↓dMod_ii, ↓dPow_ii, ↓dEq_is, ↓dNe_is, ↓dAdd_ss, ↓dAdd_ll, ↓dLen_s, ↓putIn_s, ↓dIx_s, ↓cut_s, ↓app_l, onS_some, onS_none, onS_ite, onS_map, all_nil, all_cons, slots_nil, slots_cons, wipe_nil, wipe_cons, rest_nil, rest_cons, g_nm, g_tp, g_0, g_C, st_tmp, st_frz, st_var, chg_is, brP_true, brP_false, brP_not, dMul_ii, dDiv_ii, dMod_ii, dPow_ii, dEq_is, dNe_is, dAdd_ss, dAdd_ll, dLen_s, putIn_s, dIx_s, cut_s, app_l, varR_frz, varR_own, varR_bor, varR_ro, slD_some, soft_frz, soft_tmp, soft_var, get_frz, get_tmp, get_var, bool_frz, eatS_own, eatS_frz, eat_frz, eat_tmp, eat_var, slot_frz, slot_var, sv_frz, sv_ro, sv_own, sv_bor, sv_own1, sv_bor1, ns_lst, ns_tup, ns_dic, ns_obj, bset_0, bset_S, wb_bor, wb_val, wb_nil, ix_frz, ix_tmp, ix_var, ap_nil, ap_frz, ap_var, ag_mv, ag_mb, ag_bv, ag_bb, isOb_obj, fldD_obj, mkFin_ok, mkFinX_ok, int_frz, str_frz, kvs_dic, getR_some, getR_none, key_frz, kd_str, kd_int, lstOf_ok, tupOf_ok, lockS_own, lockS_frz, lockS_ro, lock_var, lock_frz, lock_tmp, seqOf_lst, seqOf_tup, slotFrz_is, sfz_none, sfz_frz, slotFree_is, sfr_none, sfr_frz, sfr_own, thS_ok, chS_own, chS_bor, isL_ok, end_nx, end_frz, end_tmp, end_var, end_ex, endS_own, endS_frz, dat_some, dat_none, nv_frz, nv_tmp, letS_is, rng_0, rng_1, bne_no, bne_so, CPow_is, dAdd_ii, dSub_ii, dCmp_ii, okE_ii, okN_ii, okE_ss, okN_ss, okE_bb, okN_bb, beqD_ii, beqD_ss, beqD_bb, okE_l0, okN_l0, beqD_l0, dIs_non, dInt_i, dLen_l, dLen_t, dLen_scr, dList_l, dList_t, dTuple_l, dStr_s, dListK_d, dMin2_ii, dSum_l, dDx_s, dIn_d, dIx_l, dIx_t, cut_l, cut_scr, line_is, putFd_0, putFd_1, putFd_2, isi_ob, isi_int, isi_tup, isi_lst, isi_str, ro_obj, ro_int, ro_tup, ro_lst, ro_str, keys_kvI, items_kvI, look_kvI, getR_kvI, kvI_len, put_kvI, one_kvI, List.getElem?_cons_zero, List.getElem?_cons_succ, List.set_cons_zero, List.set_cons_succ, List.map_cons, List.map_nil, List.length_cons, List.length_nil, List.zip_cons_cons, List.zip_nil_left, List.zip_nil_right, List.all_cons, List.all_nil, List.take_succ_cons, List.take_zero, List.replicate_succ, List.replicate_zero, List.cons_append, List.nil_append, Option.getD_some, Option.isNone_none, Option.isNone_some, Bool.and_true, Bool.true_and, Bool.or_true, Bool.or_false, Bool.false_or, Nat.reduceBneDiff, Bool.true_or, Bool.not_true, Bool.not_false, Bool.and_false, Bool.false_and, true_and, and_true, if_true, ↓reduceIte, Nat.reduceLeDiff, Nat.reduceAdd, Nat.reduceSub, and_self, eq_self, decide_true, decide_false, Bool.false_eq_true, bne_self_eq_false, Nat.zero_le, Nat.reduceEqDiff, reduceCtorEq, Nat.reduceBEq, List.contains_cons, BEq.rfl, Int.reducePow, Int.reduceToNat, Int.reduceLT, Int.reduceLE, Nat.reducePow, Nat.reduceLT, Int.reduceSub, Int.reduceAdd, Int.reduceMul, Int.reduceNeg, Int.reduceDiv, Nat.reduceMul])
theorem step_w {r : Nat} {d : D} {ws : List Str} {k1 : Kd} {P : R → List D → Prop} {E : Exn → List D → Prop} (hk1 : k1 = .frz ∨ k1 = .ro) (hd : PenR (r + 8) d) (h0 : 0 < ws.length) (hl : ws.length ≤ 26) (h : ∀ qs d', Bg 1000001 2 qs → PenR r d' → P (.tmp (.dic (kvI qs))) [d', .lst (ws.map .str)]) : wpF d__law_step [⟨.bor, d⟩, ⟨k1, .lst (ws.map .str)⟩] P E := by
  unfold d__law_step
  rw [wf_fn]
  unfold d__law_step_b
  rcases hk1 with rfl | rfl
  all_goals
    walk_at "wp"
    refine pick_w (.inl rfl) hd (by simp) (by simp) fun n hn d1 hd1 => ?_
    obtain ⟨many, em, hm⟩ : ∃ many : Int, [D.int 1, .int 1, .int 1, .int 1, .int 2][n] = .int many ∧ (many = 1 ∨ many = 2) := mem_of (p := fun x => ∃ many : Int, x = .int many ∧ (many = 1 ∨ many = 2)) (by simp) hn
    rw [em]
    walk_at "wp"
    refine pick_w (by simp) hd1 (by simpa using h0) (by simp; omega) fun n2 hn2 d2 hd2 => ?_
    rw [List.getElem_map]
    walk_at "wp"
    refine pick_w (.inl rfl) hd2 (by simp) (by simp) fun n3 hn3 d3 hd3 => ?_
    obtain ⟨v, ev, hv⟩ : ∃ v : Int, [D.int 1, .int 1, .int 1, .int 2, .int 5, .int 1000000][n3] = .int v ∧ 0 < v ∧ v ≤ 1000000 := mem_of (p := fun x => ∃ v : Int, x = .int v ∧ 0 < v ∧ v ≤ 1000000) (by simp) hn3
    rw [ev]
    have hn2 : n2 < ws.length := by simpa using hn2
    rcases hm with rfl | rfl
    all_goals walk_at "wp"
    · exact h _ _ ((bg_one hv.1 hv.2).mono (by omega) (by omega)) (hd3.mono (by omega))
    · refine pick_w (by simp) hd3 (by simpa using h0) (by simp; omega) fun n4 hn4 d4 hd4 => ?_
      rw [List.getElem_map]
      walk_at "wp"
      have hn4 : n4 < ws.length := by simpa using hn4
      have b1 : Bg BB 1 [(ws[n2], v)] := bg_one hv.1 (by unfold BB; omega)
      have b2 : Bg BB 1 [(ws[n4], (1 : Int))] := bg_one (by omega) (by unfold BB; omega)
      refine plus_w (n := 1) (by simp) (by simp) b1 b2 (by omega) (by decide) ?_
      walk_at "wp"
      refine h _ _ ?_ (hd4.mono (by omega))
      refine (plusI_bg (ps := [(ws[n2], v)]) (qs := [(ws[n4], (1 : Int))]) (c := 1) (B := 1000001) fun w => ?_)
      have c1 : Bg 1000000 1 [(ws[n2], v)] := bg_one hv.1 hv.2
      have c2 : Bg 1 1 [(ws[n4], (1 : Int))] := bg_one (by omega) (by omega)
      have e1 := c1.lk (w := w) (by omega)
      have e2 := c2.lk (w := w) (by omega)
      omega
theorem counts_w {r : Nat} {d : D} {ws : List Str} {k1 : Kd} {P : R → List D → Prop} {E : Exn → List D → Prop} (hk1 : k1 = .frz ∨ k1 = .ro) (hd : PenR (r + 8 * ws.length) d) (hl : ws.length ≤ 26) (h : ∀ qs d', Bg (10 ^ 40) ws.length qs → PenR r d' → P (.tmp (.dic (kvI qs))) [d', .lst (ws.map .str)]) : wpF d__law_counts [⟨.bor, d⟩, ⟨k1, .lst (ws.map .str)⟩] P E := by
  unfold d__law_counts
  rw [wf_fn]
  unfold d__law_counts_b
  rcases hk1 with rfl | rfl
  all_goals
    walk_at "wp"
    refine ws_forJ (fun F ds f => ∃ done rest d2 qs x y, ws = done ++ rest ∧ ds = rest.map D.str ∧ f = [some ⟨.bor, d2⟩, F[1]?.getD none, some ⟨.own, .dic (kvI qs)⟩, x, y] ∧ sfr (some x) = true ∧ sfr (some y) = true ∧ Bg (10 ^ 40) done.length qs ∧ PenR (r + 8 * rest.length) d2) ⟨[], ws, d, [], none, none, rfl, rfl, rfl, rfl, rfl, Bg.nil, hd⟩ ?_ ?_
    · rintro dd ds f ⟨done, rest, d2, qs, x, y, e1, e2, rfl, hx, hy, hq, hd2⟩
      cases rest with
      | nil => cases e2
      | cons w rest =>
        cases e2
        walk_at "wp"
        refine ⟨hx, ?_⟩
        refine size_w (B := 10 ^ 40) (r := r + 8 * rest.length) (hd2.mono (by simp; omega)) (by simp) (by simp) (by simp) fun v d3 v0 v1 hd3 => ?_
        walk_at "wp"
        refine ⟨hy, ?_⟩
        refine brP_dec (fun c1 => ?_) fun c1 => ?_
        · walk_at "wp"
          have := hq.len
          have e4 := congrArg List.length e1
          simp at e4
          exact ⟨by omega, done ++ [w], rest, d3, _, _, _, by simp [e1], rfl, rfl, by rfl, by rfl, by simpa using hq.set c1 (by omega), hd3⟩
        · walk_at "wp"
          exact ⟨done ++ [w], rest, d3, qs, _, _, by simp [e1], rfl, rfl, by rfl, by rfl, hq.mono (Int.le_refl _) (by simp), hd3⟩
    rintro f ⟨done, rest, d2, qs, x, y, e1, e2, rfl, hx, hy, hq, hd2⟩
    have e2 : rest = [] := by simpa using e2.symm
    subst e2
    have e1 : ws = done := by simpa using e1
    subst e1
    walk_at "wp"
    exact h _ _ hq hd2
end Pu
end

section
set_option Elab.async false
set_option linter.all false
set_option maxRecDepth 100000
set_option maxHeartbeats 4000000
set_option autoImplicit false
namespace Pu
open PySem L2 U Wk
local macro_rules | `(tactic| walk_at "wp") => `(tactic| simp only [↓wp_ret, ↓wp_bind, ↓wp_C, ↓wp_var, ↓wp_op2, ↓wp_bin, ↓wp_tOfE, ↓wp_and, ↓wp_or, ↓wp_not, ↓wp_eOfT, ↓wp_eIte, ↓wp_eNot, ↓wp_eAnd, ↓wp_eOr, ↓wp_eat, ↓wp_eFrz, ↓wp_args0, ↓wp_args, ↓wp_ds0, ↓wp_ds, ↓wp_tup, ↓wp_lst, ↓wp_opL, ↓wp_callB, ↓wp_callM, ↓wp_call, ↓wp_okM, ↓wp_isC, ↓wp_meth, ↓wp_prop, ↓wp_fldM, ↓wp_fld, ↓wp_makeM, ↓wp_make, ↓wp_own2M, ↓wp_own2, ↓wp_ownBM, ↓wp_ownB, ↓wp_asLen, ↓wp_lenOwn, ↓wp_callOM, ↓wp_callO, ↓wp_isi, ↓wp_getM, ↓wp_get, ↓wp_part0, ↓wp_part, ↓wp_slice, ↓wp_neg, ↓wp_pairs0, ↓wp_pairs, ↓wp_disp, ↓wp_dic0, ↓wp_join, ↓wp_rev, ↓wp_lstX, ↓wp_star, ↓wp_iLst, ↓wp_iTup, ↓wp_iSeq, ↓wp_iKey, ↓wp_iItm, ↓wp_iStr, ↓wp_iRng, ↓wp_lc, ↓wp_dc, ↓ws_next, ↓ws_break, ↓ws_cont, ↓ws_retn, ↓ws_retu, ↓ws_drop, ↓ws_set, ↓ws_if, ↓ws_seq, ↓ws_put, ↓ws_app, ↓ws_fldSet, ↓ws_asg, ↓ws_par2, ↓ws_for, ↓ws_forL, ↓seqP_nx, ↓seqP_rt, ↓seqP_bk, ↓seqP_ct, ↓seqP_ex, ↓loopP_nx, ↓loopP_ct, ↓loopP_bk, ↓loopP_rt, ↓loopP_ex, ↓for_nil, ↓for_cons, ↓ws_nox, ↓noxP_nx, ↓noxP_rt, ↓noxP_bk, ↓noxP_ct, ↓outF_ok, ↓outF_ex, ↓onS_some, ↓onS_none, ↓onS_ite, ↓onS_map, ↓all_nil, ↓all_cons, ↓slots_nil, ↓slots_cons, ↓wipe_nil, ↓wipe_cons, ↓rest_nil, ↓rest_cons, ↓g_nm, ↓g_tp, ↓g_0, ↓g_C, ↓st_tmp, ↓st_frz, ↓st_var, ↓chg_is, ↓brP_true, ↓brP_false, ↓brP_not, ↓dMul_ii, ↓dDiv_ii, ↓dMod_ii, ↓dPow_ii, ↓dEq_is, ↓dNe_is, ↓dAdd_ss, ↓dAdd_ll, ↓dLen_s, ↓putIn_s, ↓dIx_s, ↓cut_s, ↓app_l, onS_some, onS_none, onS_ite, onS_map, all_nil, all_cons, slots_nil, slots_cons, wipe_nil, wipe_cons, rest_nil, rest_cons, g_nm, g_tp, g_0, g_C, st_tmp, st_frz, st_var, chg_is, brP_true, brP_false, brP_not, dMul_ii, dDiv_ii, dMod_ii, dPow_ii, dEq_is, dNe_is, dAdd_ss, dAdd_ll, dLen_s, putIn_s, dIx_s, cut_s, app_l, varR_frz, varR_own, varR_bor, varR_ro, slD_some, soft_frz, soft_tmp, soft_var, get_frz, get_tmp, get_var, bool_frz, eatS_own, eatS_frz, eat_frz, eat_tmp, eat_var, slot_frz, slot_var, sv_frz, sv_ro, sv_own, sv_bor, sv_own1, sv_bor1, ns_lst, ns_tup, ns_dic, ns_obj, bset_0, bset_S, wb_bor, wb_val, wb_nil, ix_frz, ix_tmp, ix_var, ap_nil, ap_frz, ap_var, ag_mv, ag_mb, ag_bv, ag_bb, isOb_obj, fldD_obj, mkFin_ok, mkFinX_ok, int_frz, str_frz, kvs_dic, getR_some, getR_none, key_frz, kd_str, kd_int, lstOf_ok, tupOf_ok, lockS_own, lockS_frz, lockS_ro, lock_var, lock_frz, lock_tmp, seqOf_lst, seqOf_tup, slotFrz_is, sfz_none, sfz_frz, slotFree_is, sfr_none, sfr_frz, sfr_own, thS_ok, chS_own, chS_bor, isL_ok, end_nx, end_frz, end_tmp, end_var, end_ex, endS_own, endS_frz, dat_some, dat_none, nv_frz, nv_tmp, letS_is, rng_0, rng_1, bne_no, bne_so, CPow_is, dAdd_ii, dSub_ii, dCmp_ii, okE_ii, okN_ii, okE_ss, okN_ss, okE_bb, okN_bb, beqD_ii, beqD_ss, beqD_bb, okE_l0, okN_l0, beqD_l0, dIs_non, dInt_i, dLen_l, dLen_t, dLen_scr, dList_l, dList_t, dTuple_l, dStr_s, dListK_d, dMin2_ii, dSum_l, dDx_s, dIn_d, dIx_l, dIx_t, cut_l, cut_scr, line_is, putFd_0, putFd_1, putFd_2, isi_ob, isi_int, isi_tup, isi_lst, isi_str, ro_obj, ro_int, ro_tup, ro_lst, ro_str, keys_kvI, items_kvI, look_kvI, getR_kvI, kvI_len, put_kvI, one_kvI, emp_kvI, List.getElem?_cons_zero, List.getElem?_cons_succ, List.set_cons_zero, List.set_cons_succ, List.map_cons, List.map_nil, List.length_cons, List.length_nil, List.zip_cons_cons, List.zip_nil_left, List.zip_nil_right, List.all_cons, List.all_nil, List.take_succ_cons, List.take_zero, List.replicate_succ, List.replicate_zero, List.cons_append, List.nil_append, Option.getD_some, Option.isNone_none, Option.isNone_some, Bool.and_true, Bool.true_and, Bool.or_true, Bool.or_false, Bool.false_or, Nat.reduceBneDiff, Bool.true_or, Bool.not_true, Bool.not_false, Bool.and_false, Bool.false_and, true_and, and_true, if_true, ↓reduceIte, Nat.reduceLeDiff, Nat.reduceAdd, Nat.reduceSub, and_self, eq_self, decide_true, decide_false, Bool.false_eq_true, bne_self_eq_false, Nat.zero_le, Nat.reduceEqDiff, reduceCtorEq, Nat.reduceBEq, List.contains_cons, BEq.rfl, Int.reducePow, Int.reduceToNat, Int.reduceLT, Int.reduceLE, Nat.reducePow, Nat.reduceLT, Int.reduceSub, Int.reduceAdd, Int.reduceMul, Int.reduceNeg, Int.reduceDiv, Nat.reduceMul])
/-- a drawn store -/
structure TrOk (n : Nat) (x : Tr) : Prop where
  b0 : 0 ≤ x.1
  b1 : x.1 ≤ 10 ^ 31
  t : Bg 1000 n x.2.1
  g : Bg 1000 n x.2.2
set_option hygiene false
local macro_rules | `(tactic| walk_at "gv_end") => `(tactic| exact ⟨done ++ [w], rest, _, _, _, _, _, by simp [e1], rfl, rfl, by rfl, by rfl, by first | exact ht2 | exact ht.mono (Int.le_refl _) (by simp), by first | exact hg2 | exact hg.mono (Int.le_refl _) (by simp), by first | exact hd5 | exact hd4 | exact hd3 | exact PenR.mono hd4 (by omega) | exact PenR.mono hd3 (by omega)⟩)
local macro_rules | `(tactic| walk_at "gv_put") => `(tactic| (
  refine size_w (B := 1000) (r := r + 17 * rest.length) (PenR.mono (by first | exact hd4 | exact hd3) (by omega)) (by simp) (by simp) (by simp) fun v2 d5 v20 v21 hd5 => ?_
  walk_at "wp"
  have hg2 := hg.set (w := w) (v := 1 + v2) (by omega) (by omega)
  have hgl := hg.len
  refine ⟨by omega, ?_⟩
  exact ⟨done ++ [w], rest, _, _, _, _, _, by simp [e1], rfl, rfl, by rfl, by rfl, by first | exact ht2 | exact ht.mono (Int.le_refl _) (by simp), by simpa using hg2, hd5⟩))
local macro_rules | `(tactic| walk_at "gv_nop") => `(tactic| (
  exact ⟨done ++ [w], rest, _, _, _, _, _, by simp [e1], rfl, rfl, by rfl, by rfl, by first | exact ht2 | exact ht.mono (Int.le_refl _) (by simp), hg.mono (Int.le_refl _) (by simp), PenR.mono (by first | exact hd4 | exact hd3) (by omega)⟩))
local macro_rules | `(tactic| walk_at "gv") => `(tactic| (
  refine brP_of (fun c2 => ?_) fun c2 => ?_
  · walk_at "wp"
    walk_at "gv_put"
  · walk_at "wp"
    refine brP_of (fun c3 => ?_) fun c3 => ?_
    · walk_at "wp"
      refine brP_of (fun c4 => ?_) fun c4 => ?_
      · walk_at "wp"
        walk_at "gv_nop"
      · walk_at "wp"
        walk_at "gv_put"
    · walk_at "wp"
      walk_at "gv_nop"))
theorem shopdraw_w {r : Nat} {d : D} {ws : List Str} {k1 : Kd} {pl : Bool} {P : R → List D → Prop} {E : Exn → List D → Prop} (hk1 : k1 = .frz ∨ k1 = .ro) (hd : PenR (r + 2000) d) (hl : ws.length ≤ 26) (h : ∀ (xs : List Tr) d', xs.length ≤ 3 → (∀ x ∈ xs, TrOk ws.length x) → PenR r d' → P (.tmp (.lst (xs.map trD))) [d', .lst (ws.map .str), .bl pl]) : wpF d__law_shop [⟨.bor, d⟩, ⟨k1, .lst (ws.map .str)⟩, ⟨.frz, .bl pl⟩] P E := by
  unfold d__law_shop
  rw [wf_fn]
  unfold d__law_shop_b
  rcases hk1 with rfl | rfl
  all_goals
    walk_at "wp"
    refine draw_w hd (by omega) (by omega) fun v0 d1 v00 v01 hd1 => ?_
    walk_at "wp"
    refine ⟨by omega, ?_⟩
    have hr : (rngD 0 v0.toNat).length ≤ 3 := by simp [rngD]; omega
    generalize rngD 0 v0.toNat = turns at hr
    refine ws_forJ (fun F ds f => ∃ d2 xs x4 x5 x6 x7 x8, f = [some ⟨.bor, d2⟩, F[1]?.getD none, F[2]?.getD none, some ⟨.own, .lst (xs.map trD)⟩, x4, x5, x6, x7, x8] ∧ sfr (some x4) = true ∧ sfr (some x5) = true ∧ sfr (some x6) = true ∧ sfr (some x7) = true ∧ sfr (some x8) = true ∧ xs.length + ds.length ≤ 3 ∧ (∀ x ∈ xs, TrOk ws.length x) ∧ PenR (r + 500 * ds.length) d2) ⟨d1, [], none, none, none, none, none, rfl, rfl, rfl, rfl, rfl, rfl, by simpa using hr, by simp, hd1.mono (by omega)⟩ ?_ ?_
    · rintro dd ds f ⟨d2, xs, x4, x5, x6, x7, x8, rfl, h4, h5, h6, h7, h8, hxl, hxs, hd2⟩
      simp only [List.length_cons] at hd2 hxl
      walk_at "wp"
      refine ⟨h4, h7, h6, ?_⟩
      refine ws_forJ (fun F ds' f => ∃ done rest d3 t g x5 x8, ws = done ++ rest ∧ ds' = rest.map D.str ∧ f = [some ⟨.bor, d3⟩, F[1]?.getD none, F[2]?.getD none, F[3]?.getD none, F[4]?.getD none, x5, some ⟨.own, .dic (kvI t)⟩, some ⟨.own, .dic (kvI g)⟩, x8] ∧ sfr (some x5) = true ∧ sfr (some x8) = true ∧ Bg 1000 done.length t ∧ Bg 1000 done.length g ∧ PenR (r + 500 * ds.length + 10 + 17 * rest.length) d3) ⟨[], ws, d2, [], [], _, _, rfl, rfl, rfl, h5, h8, Bg.nil, Bg.nil, hd2.mono (by omega)⟩ ?_ ?_
      · rintro dd' ds' f ⟨done, rest, d3, t, g, x5, x8, e1, e2, rfl, h5, h8, ht, hg, hd3⟩
        cases rest with
        | nil => cases e2
        | cons w rest =>
          cases e2
          have e4 := congrArg List.length e1
          simp at e4
          simp only [List.length_cons] at hd3
          generalize hrr : r + 500 * ds.length + 10 = r at *
          walk_at "wp"
          refine ⟨h5, ?_⟩
          refine draw_w (r := r + 17 * rest.length + 16) (hd3.mono (by omega)) (by omega) (by omega) fun v d3 v0 v1 hd3 => ?_
          walk_at "wp"
          refine ⟨h8, ?_⟩
          refine brP_dec (fun c1 => ?_) fun c1 => ?_
          · walk_at "wp"
            refine size_w (B := 1000) (r := r + 17 * rest.length + 8) (hd3.mono (by omega)) (by simp) (by simp) (by simp) fun v2 d4 v20 v21 hd4 => ?_
            walk_at "wp"
            have ht2 := ht.set (w := w) (v := 1 + v2) (by omega) (by omega)
            have htl := ht.len
            refine ⟨by omega, ?_⟩
            have ht2 : Bg 1000 (done ++ [w]).length (setI t w (1 + v2)) := by simpa using ht2
            walk_at "gv"
          · walk_at "wp"
            walk_at "gv"
      rintro f ⟨done, rest, d3, t, g, x5, x8, e1, e2, rfl, h5, h8, ht, hg, hd3⟩
      have e2 : rest = [] := by simpa using e2.symm
      subst e2
      have e1 : ws = done := by simpa using e1
      subst e1
      walk_at "wp"
      refine size_w (B := 10 ^ 31) (r := r + 500 * ds.length) (hd3.mono (by simp)) (by simp) (by simp) (by simp) fun v2 d4 v20 v21 hd4 => ?_
      walk_at "wp"
      simp only [List.length_map]
      refine ⟨by omega, d4, xs ++ [(v2, t, g)], _, _, _, _, _, by rw [List.map_append]; rfl, by rfl, h5, by rfl, by rfl, h8, by simp; omega, ?_, hd4⟩
      intro x hx
      rcases List.mem_append.mp hx with hx | hx
      · exact hxs x hx
      · simp at hx
        subst hx
        exact ⟨v20, by omega, ht, hg⟩
    rintro f ⟨d2, xs, x4, x5, x6, x7, x8, rfl, h4, h5, h6, h7, h8, hxl, hxs, hd2⟩
    walk_at "wp"
    exact h xs _ (by simpa using hxl) hxs (hd2.mono (by omega))
end Pu
end

section
set_option Elab.async false
set_option linter.all false
set_option maxRecDepth 100000
set_option maxHeartbeats 4000000
set_option autoImplicit false
namespace Pu
open PySem L2 U Wk
local macro_rules | `(tactic| walk_at "wp") => `(tactic| simp only [↓wp_ret, ↓wp_bind, ↓wp_C, ↓wp_var, ↓wp_op2, ↓wp_bin, ↓wp_tOfE, ↓wp_and, ↓wp_or, ↓wp_not, ↓wp_eOfT, ↓wp_eIte, ↓wp_eNot, ↓wp_eAnd, ↓wp_eOr, ↓wp_eat, ↓wp_eFrz, ↓wp_args0, ↓wp_args, ↓wp_ds0, ↓wp_ds, ↓wp_tup, ↓wp_lst, ↓wp_opL, ↓wp_callB, ↓wp_callM, ↓wp_call, ↓wp_okM, ↓wp_isC, ↓wp_meth, ↓wp_prop, ↓wp_fldM, ↓wp_fld, ↓wp_makeM, ↓wp_make, ↓wp_own2M, ↓wp_own2, ↓wp_ownBM, ↓wp_ownB, ↓wp_asLen, ↓wp_lenOwn, ↓wp_callOM, ↓wp_callO, ↓wp_isi, ↓wp_getM, ↓wp_get, ↓wp_part0, ↓wp_part, ↓wp_slice, ↓wp_neg, ↓wp_pairs0, ↓wp_pairs, ↓wp_disp, ↓wp_dic0, ↓wp_join, ↓wp_rev, ↓wp_lstX, ↓wp_star, ↓wp_iLst, ↓wp_iTup, ↓wp_iSeq, ↓wp_iKey, ↓wp_iItm, ↓wp_iStr, ↓wp_iRng, ↓wp_lc, ↓wp_dc, ↓ws_next, ↓ws_break, ↓ws_cont, ↓ws_retn, ↓ws_retu, ↓ws_drop, ↓ws_set, ↓ws_if, ↓ws_seq, ↓ws_put, ↓ws_app, ↓ws_fldSet, ↓ws_asg, ↓ws_par2, ↓ws_for, ↓ws_forL, ↓seqP_nx, ↓seqP_rt, ↓seqP_bk, ↓seqP_ct, ↓seqP_ex, ↓loopP_nx, ↓loopP_ct, ↓loopP_bk, ↓loopP_rt, ↓loopP_ex, ↓for_nil, ↓for_cons, ↓ws_nox, ↓noxP_nx, ↓noxP_rt, ↓noxP_bk, ↓noxP_ct, ↓outF_ok, ↓outF_ex, ↓onS_some, ↓onS_none, ↓onS_ite, ↓onS_map, ↓all_nil, ↓all_cons, ↓slots_nil, ↓slots_cons, ↓wipe_nil, ↓wipe_cons, ↓rest_nil, ↓rest_cons, ↓g_nm, ↓g_tp, ↓g_0, ↓g_C, ↓st_tmp, ↓st_frz, ↓st_var, ↓chg_is, ↓brP_true, ↓brP_false, ↓brP_not, ↓dMul_ii, ↓dDiv_ii, ↓dMod_ii, ↓dPow_ii, ↓dEq_is, ↓dNe_is, ↓dAdd_ss, ↓dAdd_ll, ↓dLen_s, ↓putIn_s, ↓dIx_s, ↓cut_s, ↓app_l, onS_some, onS_none, onS_ite, onS_map, all_nil, all_cons, slots_nil, slots_cons, wipe_nil, wipe_cons, rest_nil, rest_cons, g_nm, g_tp, g_0, g_C, st_tmp, st_frz, st_var, chg_is, brP_true, brP_false, brP_not, dMul_ii, dDiv_ii, dMod_ii, dPow_ii, dEq_is, dNe_is, dAdd_ss, dAdd_ll, dLen_s, putIn_s, dIx_s, cut_s, app_l, varR_frz, varR_own, varR_bor, varR_ro, slD_some, soft_frz, soft_tmp, soft_var, get_frz, get_tmp, get_var, bool_frz, eatS_own, eatS_frz, eat_frz, eat_tmp, eat_var, slot_frz, slot_var, sv_frz, sv_ro, sv_own, sv_bor, sv_own1, sv_bor1, ns_lst, ns_tup, ns_dic, ns_obj, bset_0, bset_S, wb_bor, wb_val, wb_nil, ix_frz, ix_tmp, ix_var, ap_nil, ap_frz, ap_var, ag_mv, ag_mb, ag_bv, ag_bb, isOb_obj, fldD_obj, mkFin_ok, mkFinX_ok, int_frz, str_frz, kvs_dic, getR_some, getR_none, key_frz, kd_str, kd_int, lstOf_ok, tupOf_ok, lockS_own, lockS_frz, lockS_ro, lock_var, lock_frz, lock_tmp, seqOf_lst, seqOf_tup, slotFrz_is, sfz_none, sfz_frz, slotFree_is, sfr_none, sfr_frz, sfr_own, thS_ok, chS_own, chS_bor, isL_ok, end_nx, end_frz, end_tmp, end_var, end_ex, endS_own, endS_frz, dat_some, dat_none, nv_frz, nv_tmp, letS_is, rng_0, rng_1, bne_no, bne_so, CPow_is, dAdd_ii, dSub_ii, dCmp_ii, okE_ii, okN_ii, okE_ss, okN_ss, okE_bb, okN_bb, beqD_ii, beqD_ss, beqD_bb, okE_l0, okN_l0, beqD_l0, dIs_non, dInt_i, dLen_l, dLen_t, dLen_scr, dList_l, dList_t, dTuple_l, dStr_s, dListK_d, dMin2_ii, dSum_l, dDx_s, dIn_d, dIx_l, dIx_t, cut_l, cut_scr, line_is, putFd_0, putFd_1, putFd_2, isi_ob, isi_int, isi_tup, isi_lst, isi_str, ro_obj, ro_int, ro_tup, ro_lst, ro_str, keys_kvI, items_kvI, look_kvI, getR_kvI, kvI_len, put_kvI, one_kvI, emp_kvI, List.getElem?_cons_zero, List.getElem?_cons_succ, List.set_cons_zero, List.set_cons_succ, List.map_cons, List.map_nil, List.length_cons, List.length_nil, List.zip_cons_cons, List.zip_nil_left, List.zip_nil_right, List.all_cons, List.all_nil, List.take_succ_cons, List.take_zero, List.replicate_succ, List.replicate_zero, List.cons_append, List.nil_append, Option.getD_some, Option.isNone_none, Option.isNone_some, Bool.and_true, Bool.true_and, Bool.or_true, Bool.or_false, Bool.false_or, Nat.reduceBneDiff, Bool.true_or, Bool.not_true, Bool.not_false, Bool.and_false, Bool.false_and, true_and, and_true, if_true, ↓reduceIte, Nat.reduceLeDiff, Nat.reduceAdd, Nat.reduceSub, and_self, eq_self, decide_true, decide_false, Bool.false_eq_true, bne_self_eq_false, Nat.zero_le, Nat.reduceEqDiff, reduceCtorEq, Nat.reduceBEq, List.contains_cons, BEq.rfl, Int.reducePow, Int.reduceToNat, Int.reduceLT, Int.reduceLE, Nat.reducePow, Nat.reduceLT, Int.reduceSub, Int.reduceAdd, Int.reduceMul, Int.reduceNeg, Int.reduceDiv, Nat.reduceMul])
abbrev abc : Str := "abcdefghijklmnopqrstuvwxyz"
def abcL : List Nat := [97, 98, 99, 100, 101, 102, 103, 104, 105, 106, 107, 108, 109, 110, 111, 112, 113, 114, 115, 116, 117, 118, 119, 120, 121, 122]
theorem abc_l : abc.cps.toList = abcL := by decide +kernel
theorem abc_len : abc.length = 26 := by decide +kernel
/-- one sign -/
def sg (c : Nat) : Str := ⟨#[c]⟩
theorem sg_len {c : Nat} : (sg c).length = 1 := rfl
theorem pickS_w {r : Nat} {d : D} {z : Str} {P : R → List D → Prop} {E : Exn → List D → Prop} (hd : PenR (r + 1) d) (h0 : 0 < z.length) (hi : z.length < 1000) (h : ∀ (c : Nat) d', PenR r d' → P (.frz (.str (sg c))) [d', .str z]) : wpF d__law_pick [⟨.bor, d⟩, ⟨.frz, .str z⟩] P E := by
  unfold d__law_pick
  rw [wf_fn]
  unfold d__law_pick_b
  walk_at "wp"
  refine ⟨by omega, ?_⟩
  refine draw_w hd (by omega) (by omega) fun v d' h1 h2 hd' => ?_
  walk_at "wp"
  have e : z.cps.toList.length = z.length := by simp [Str.length]
  refine ⟨by omega, ?_⟩
  rw [atI_nat (n := v.toNat) (by omega) (by omega)]
  walk_at "wp"
  exact h _ _ hd'
theorem joinL_flat : ∀ parts : List (List Nat), TL.joinL [] parts = parts.flatten
  | [] => rfl
  | [p] => by simp [TL.joinL]
  | p :: q :: r => by simp [TL.joinL, joinL_flat (q :: r)]
theorem join_len {cs : List Nat} : (Txt.join "" (cs.map sg)).length = cs.length := by
  rw [TL.join_eq]
  have : (TL.tl (Str.join "" (cs.map sg))).length = cs.length := by
    rw [TL.tl_join]
    have e : TL.tl ("" : Str) = [] := by decide
    rw [e, joinL_flat, List.map_map]
    have e2 : (TL.tl ∘ sg) = fun c => [c] := rfl
    rw [e2]
    induction cs with
    | nil => rfl
    | cons c r ih => simp [ih]
  simpa [TL.tl, Str.length] using this
theorem join_ok {cs : List Nat} (h : cs.length ≤ 7) : joinM "" (.lst ((cs.map sg).map D.str)) = some (Txt.join "" (cs.map sg)) := by
  unfold joinM
  simp only [strs_of]
  rw [if_pos]
  have e : ((cs.map sg).map (·.length)).sum = cs.length := by
    induction cs with
    | nil => rfl
    | cons c r ih =>
      have := ih (by simp at h; omega)
      simp only [List.map_cons, List.sum_cons, sg_len, List.length_cons]
      omega
  have e2 : (("" : Str)).length = 0 := by decide
  rw [e, e2]
  omega
theorem cut_len {z : Str} {lo hi : Option Int} : (cutS z lo hi).length ≤ z.length := by
  unfold cutS Str.length
  simp [List.length_take, List.length_drop]
  omega
theorem app_len {x y : Str} : (x ++ y).length = x.length + y.length := by
  show (x.cps ++ y.cps).size = _
  simp [Str.length]
/-- the word with a letter put in -/
def wordW (stem : Str) (a : Int) (c : Nat) : Str := cutS stem none (some a) ++ sg c ++ cutS stem (some a) none
theorem wordW_inj {stem : Str} {a : Int} {c c' : Nat} (h : wordW stem a c = wordW stem a c') : c = c' := by
  have h := congrArg TL.tl h
  unfold wordW at h
  rw [TL.tl_append, TL.tl_append, TL.tl_append, TL.tl_append] at h
  have h := List.append_cancel_left (List.append_cancel_right h)
  simpa [TL.tl, sg] using h
def letC (f s : Int) (i : Nat) : Nat := abcL.getD ((f + s * i) % 26).toNat 0
theorem abc_inj : ∀ i j : Fin 26, abcL.getD i 0 = abcL.getD j 0 → i = j := by decide +kernel
theorem letC_ne {f s : Int} (hs : s = 1 ∨ s = 3 ∨ s = 5 ∨ s = 7 ∨ s = 9 ∨ s = 11) {i j : Nat} (hi : i < 26) (hj : j < 26) (h : letC f s i = letC f s j) : i = j := by
  unfold letC at h
  have r1 := emod_r (x := f + s * i) (k := 26) (by omega)
  have r2 := emod_r (x := f + s * j) (k := 26) (by omega)
  have := abc_inj ⟨((f + s * i) % 26).toNat, by omega⟩ ⟨((f + s * j) % 26).toNat, by omega⟩ h
  have := Fin.mk.inj_iff.mp this
  rcases hs with rfl | rfl | rfl | rfl | rfl | rfl <;> omega
theorem deeds_ne {stem : Str} {a f s m : Int} (hs : s = 1 ∨ s = 3 ∨ s = 5 ∨ s = 7 ∨ s = 9 ∨ s = 11) (hm : 0 < m) (hm2 : m ≤ 26) :
    0 < ((((List.range 26).map fun i => wordW stem a (letC f s i)).filter fun w : Str => !(w == ("ever" : Str))).take m.toNat).length := by
  rw [List.length_take]
  refine Nat.lt_min.mpr ⟨by omega, ?_⟩
  rw [List.length_pos_iff]
  intro z
  rw [List.filter_eq_nil_iff] at z
  have z0 := z (wordW stem a (letC f s 0)) (List.mem_map.mpr ⟨0, by simp, rfl⟩)
  have z1 := z (wordW stem a (letC f s 1)) (List.mem_map.mpr ⟨1, by simp, rfl⟩)
  have z0 : wordW stem a (letC f s 0) = "ever" := by simpa using z0
  have z1 : wordW stem a (letC f s 1) = "ever" := by simpa using z1
  have := letC_ne hs (by omega) (by omega) (wordW_inj (z0.trans z1.symm))
  omega
theorem cutD_take {xs : List D} {m : Int} (h : 0 ≤ m) : cutD xs none (some m) = xs.take m.toNat := by
  obtain ⟨k, rfl⟩ := Int.eq_ofNat_of_zero_le h
  unfold cutD
  rw [show (some (k : Int) : Option Int) = some ((k : Nat) : Int) from rfl, HT.sIx_nat, HT.sIx_none]
  simp
theorem rng26 : rngD 0 26 = (List.range 26).map fun i : Nat => D.int (0 + (i : Int)) := rfl
theorem deeds_w {r : Nat} {d : D} {m : Int} {P : R → List D → Prop} {E : Exn → List D → Prop} (hd : PenR (r + 20) d) (hm : 0 < m) (hm2 : m ≤ 26) (h : ∀ (ws : List Str) d', 0 < ws.length → ws.length ≤ m.toNat → PenR r d' → P (.tmp (.lst (ws.map .str))) [d', .int m]) : wpF d__law_deeds [⟨.bor, d⟩, ⟨.frz, .int m⟩] P E := by
  unfold d__law_deeds
  rw [wf_fn]
  unfold d__law_deeds_b
  walk_at "wp"
  refine draw_w hd (by omega) (by omega) fun v0 d1 v00 v01 hd1 => ?_
  walk_at "wp"
  refine ⟨by omega, ?_⟩
  have hr : (rngD 0 v0.toNat).length ≤ 7 := by simp [rngD]; omega
  generalize rngD 0 v0.toNat = turns at hr
  refine lc_inv (fun ds acc f => ∃ d2 cs, f = [some ⟨.bor, d2⟩, some ⟨.frz, .int m⟩, some ⟨.frz, .str abc⟩, none, none, none, none, none, none, none, none, none] ∧ acc = (cs.map sg).map D.str ∧ cs.length + ds.length ≤ 7 ∧ PenR (r + 5 + ds.length) d2) ?_ ?_ _ _ _ ⟨d1, [], rfl, rfl, by simpa using hr, hd1.mono (by omega)⟩
  · rintro dd ds acc f ⟨d2, cs, rfl, rfl, hl, hd2⟩
    walk_at "wp"
    refine pickS_w hd2 (by rw [abc_len]; omega) (by rw [abc_len]; omega) fun c d3 hd3 => ?_
    walk_at "wp"
    simp only [List.length_cons, List.length_map] at hl ⊢
    exact ⟨by omega, d3, cs ++ [c], rfl, by simp, by simp; omega, hd3⟩
  rintro acc f ⟨d2, cs, rfl, rfl, hl, hd2⟩
  simp only [List.length_nil, Nat.add_zero] at hl hd2
  walk_at "wp"
  rw [join_ok hl]
  have jl := join_len (cs := cs)
  generalize Txt.join "" (cs.map sg) = stem at jl
  walk_at "wp"
  refine ⟨by omega, ?_⟩
  refine draw_w hd2 (by omega) (by omega) fun a d3 a0 a1 hd3 => ?_
  walk_at "wp"
  refine draw_w hd3 (by omega) (by omega) fun f d4 f0 f1 hd4 => ?_
  walk_at "wp"
  refine pick_w (.inl rfl) hd4 (by simp) (by simp) fun n hn d5 hd5 => ?_
  obtain ⟨s, es, hs⟩ : ∃ s : Int, [D.int 1, .int 3, .int 5, .int 7, .int 9, .int 11][n] = .int s ∧ (s = 1 ∨ s = 3 ∨ s = 5 ∨ s = 7 ∨ s = 9 ∨ s = 11) := mem_of (p := fun x => ∃ s : Int, x = .int s ∧ (s = 1 ∨ s = 3 ∨ s = 5 ∨ s = 7 ∨ s = 9 ∨ s = 11)) (by simp) hn
  rw [es]
  walk_at "wp"
  rw [rng26]
  have sb : 0 ≤ s ∧ s ≤ 11 := by omega
  refine lc_mapA (fun i : Nat => D.int (0 + (i : Int))) (fun _ => true) (fun i => .str (sg (letC f s i))) (by simp [line_is]) ?_ ?_
  · intro i hi
    have hi : i < 26 := by simpa using hi
    walk_at "wp"
    rw [abc_l]
    have r1 := emod_r (x := f + s * (0 + (i : Int))) (k := 26) (by omega)
    rw [atI_nat (n := ((f + s * (0 + (i : Int))) % 26).toNat) (by omega) (by show _ < 26; omega)]
    walk_at "wp"
    refine ⟨cm (by omega) (by omega), by rw [abc_len]; omega, ?_⟩
    have : abcL[((f + s * (0 + (i : Int))) % 26).toNat]'(by show _ < 26; omega) = letC f s i := by
      unfold letC
      rw [List.getD_eq_getElem?_getD, List.getElem?_eq_getElem (by show _ < 26; rw [← Int.zero_add (i : Int)]; omega)]
      simp
    rw [this]
    rfl
  walk_at "wp"
  rw [List.filter_eq_self.mpr (by simp), ← Function.comp_def (f := D.str), ← List.map_map]
  refine lc_mapA (fun w : Str => D.str w) (fun _ => true) (fun w => .str (cutS stem none (some a) ++ w ++ cutS stem (some a) none)) (by simp [line_is]) ?_ ?_
  · intro w hw
    obtain ⟨i, hi, rfl⟩ := List.mem_map.mp hw
    have c1 := cut_len (z := stem) (lo := none) (hi := some a)
    have c2 := cut_len (z := stem) (lo := some a) (hi := none)
    walk_at "wp"
    rw [app_len, sg_len]
    exact ⟨by omega, by omega, by omega, by omega⟩
  walk_at "wp"
  rw [List.filter_eq_self.mpr (by simp), List.map_map]
  rw [show ((fun w => D.str (cutS stem none (some a) ++ w ++ cutS stem (some a) none)) ∘ fun i => sg (letC f s i)) = (D.str ∘ fun i => wordW stem a (letC f s i)) from rfl, ← List.map_map]
  refine lc_mapA (fun w : Str => D.str w) (fun w : Str => !(w == ("ever" : Str))) (fun w => .str w) (by simp [line_is]) ?_ ?_
  · intro w hw
    walk_at "wp"
    refine brP_of (fun _ => ?_) fun _ => ?_
    · walk_at "wp"
    · walk_at "wp"
  walk_at "wp"
  rw [cutD_take (by omega), ← List.map_take]
  exact h _ _ (deeds_ne hs hm hm2) (by rw [List.length_take]; omega) (hd5.mono (by omega))
end Pu
end

section
set_option Elab.async false
set_option linter.all false
set_option maxRecDepth 100000
set_option maxHeartbeats 4000000
set_option autoImplicit false
namespace Pu
open PySem L2 U Wk
local macro_rules | `(tactic| walk_at "wp") => `(tactic| simp only [↓wp_ret, ↓wp_bind, ↓wp_C, ↓wp_var, ↓wp_op2, ↓wp_bin, ↓wp_tOfE, ↓wp_and, ↓wp_or, ↓wp_not, ↓wp_eOfT, ↓wp_eIte, ↓wp_eNot, ↓wp_eAnd, ↓wp_eOr, ↓wp_eat, ↓wp_eFrz, ↓wp_args0, ↓wp_args, ↓wp_ds0, ↓wp_ds, ↓wp_tup, ↓wp_lst, ↓wp_opL, ↓wp_callB, ↓wp_callM, ↓wp_call, ↓wp_okM, ↓wp_isC, ↓wp_meth, ↓wp_prop, ↓wp_fldM, ↓wp_fld, ↓wp_makeM, ↓wp_make, ↓wp_own2M, ↓wp_own2, ↓wp_ownBM, ↓wp_ownB, ↓wp_asLen, ↓wp_lenOwn, ↓wp_callOM, ↓wp_callO, ↓wp_isi, ↓wp_getM, ↓wp_get, ↓wp_part0, ↓wp_part, ↓wp_slice, ↓wp_neg, ↓wp_pairs0, ↓wp_pairs, ↓wp_disp, ↓wp_dic0, ↓wp_join, ↓wp_rev, ↓wp_lstX, ↓wp_star, ↓wp_iLst, ↓wp_iTup, ↓wp_iSeq, ↓wp_iKey, ↓wp_iItm, ↓wp_iStr, ↓wp_iRng, ↓wp_lc, ↓wp_dc, ↓ws_next, ↓ws_break, ↓ws_cont, ↓ws_retn, ↓ws_retu, ↓ws_drop, ↓ws_set, ↓ws_if, ↓ws_seq, ↓ws_put, ↓ws_app, ↓ws_fldSet, ↓ws_asg, ↓ws_par2, ↓ws_for, ↓ws_forL, ↓seqP_nx, ↓seqP_rt, ↓seqP_bk, ↓seqP_ct, ↓seqP_ex, ↓loopP_nx, ↓loopP_ct, ↓loopP_bk, ↓loopP_rt, ↓loopP_ex, ↓for_nil, ↓for_cons, ↓ws_nox, ↓noxP_nx, ↓noxP_rt, ↓noxP_bk, ↓noxP_ct, ↓outF_ok, ↓outF_ex, ↓onS_some, ↓onS_none, ↓onS_ite, ↓onS_map, ↓all_nil, ↓all_cons, ↓slots_nil, ↓slots_cons, ↓wipe_nil, ↓wipe_cons, ↓rest_nil, ↓rest_cons, ↓g_nm, ↓g_tp, ↓g_0, ↓g_C, ↓st_tmp, ↓st_frz, ↓st_var, ↓chg_is, ↓brP_true, ↓brP_false, ↓brP_not, ↓dMul_ii, ↓dDiv_ii, ↓dMod_ii, ↓dPow_ii, ↓dEq_is, ↓dNe_is, ↓dAdd_ss, ↓dAdd_ll, ↓dLen_s, ↓putIn_s, ↓dIx_s, ↓cut_s, ↓app_l, onS_some, onS_none, onS_ite, onS_map, all_nil, all_cons, slots_nil, slots_cons, wipe_nil, wipe_cons, rest_nil, rest_cons, g_nm, g_tp, g_0, g_C, st_tmp, st_frz, st_var, chg_is, brP_true, brP_false, brP_not, dMul_ii, dDiv_ii, dMod_ii, dPow_ii, dEq_is, dNe_is, dAdd_ss, dAdd_ll, dLen_s, putIn_s, dIx_s, cut_s, app_l, varR_frz, varR_own, varR_bor, varR_ro, slD_some, soft_frz, soft_tmp, soft_var, get_frz, get_tmp, get_var, bool_frz, eatS_own, eatS_frz, eat_frz, eat_tmp, eat_var, slot_frz, slot_var, sv_frz, sv_ro, sv_own, sv_bor, sv_own1, sv_bor1, ns_lst, ns_tup, ns_dic, ns_obj, bset_0, bset_S, wb_bor, wb_val, wb_nil, ix_frz, ix_tmp, ix_var, ap_nil, ap_frz, ap_var, ag_mv, ag_mb, ag_bv, ag_bb, isOb_obj, fldD_obj, mkFin_ok, mkFinX_ok, int_frz, str_frz, kvs_dic, getR_some, getR_none, key_frz, kd_str, kd_int, lstOf_ok, tupOf_ok, lockS_own, lockS_frz, lockS_ro, lock_var, lock_frz, lock_tmp, seqOf_lst, seqOf_tup, slotFrz_is, sfz_none, sfz_frz, slotFree_is, sfr_none, sfr_frz, sfr_own, thS_ok, chS_own, chS_bor, isL_ok, end_nx, end_frz, end_tmp, end_var, end_ex, endS_own, endS_frz, dat_some, dat_none, nv_frz, nv_tmp, letS_is, rng_0, rng_1, bne_no, bne_so, CPow_is, dAdd_ii, dSub_ii, dCmp_ii, okE_ii, okN_ii, okE_ss, okN_ss, okE_bb, okN_bb, beqD_ii, beqD_ss, beqD_bb, okE_l0, okN_l0, beqD_l0, dIs_non, dInt_i, dLen_l, dLen_t, dLen_scr, dList_l, dList_t, dTuple_l, dStr_s, dListK_d, dMin2_ii, dSum_l, dDx_s, dIn_d, dIx_l, dIx_t, cut_l, cut_scr, line_is, putFd_0, putFd_1, putFd_2, isi_ob, isi_int, isi_tup, isi_lst, isi_str, ro_obj, ro_int, ro_tup, ro_lst, ro_str, keys_kvI, items_kvI, look_kvI, getR_kvI, kvI_len, put_kvI, one_kvI, emp_kvI, List.getElem?_cons_zero, List.getElem?_cons_succ, List.set_cons_zero, List.set_cons_succ, List.map_cons, List.map_nil, List.length_cons, List.length_nil, List.zip_cons_cons, List.zip_nil_left, List.zip_nil_right, List.all_cons, List.all_nil, List.take_succ_cons, List.take_zero, List.replicate_succ, List.replicate_zero, List.cons_append, List.nil_append, Option.getD_some, Option.isNone_none, Option.isNone_some, Bool.and_true, Bool.true_and, Bool.or_true, Bool.or_false, Bool.false_or, Nat.reduceBneDiff, Bool.true_or, Bool.not_true, Bool.not_false, Bool.and_false, Bool.false_and, true_and, and_true, if_true, ↓reduceIte, Nat.reduceLeDiff, Nat.reduceAdd, Nat.reduceSub, and_self, eq_self, decide_true, decide_false, Bool.false_eq_true, bne_self_eq_false, Nat.zero_le, Nat.reduceEqDiff, reduceCtorEq, Nat.reduceBEq, List.contains_cons, BEq.rfl, Int.reducePow, Int.reduceToNat, Int.reduceLT, Int.reduceLE, Nat.reducePow, Nat.reduceLT, Int.reduceSub, Int.reduceAdd, Int.reduceMul, Int.reduceNeg, Int.reduceDiv, Nat.reduceMul])
def clT (x : Tr) : Tr := (x.1, cl x.2.1, cl x.2.2)
theorem stores_w {xs : List Tr} {n : Nat} {k1 : Kd} {P : R → List D → Prop} {E : Exn → List D → Prop} (hk1 : k1 = .frz ∨ k1 = .ro) (hl : xs.length < 64) (hx : ∀ x ∈ xs, Bg BB n x.2.1 ∧ Bg BB n x.2.2) (hn : n < 64) (h : P (.tmp (shopD ((xs.map clT).map stD))) [.lst (xs.map trD)]) : wpF d__law_stores [⟨k1, .lst (xs.map trD)⟩] P E := by
  unfold d__law_stores
  rw [wf_fn]
  unfold d__law_stores_b
  rcases hk1 with rfl | rfl
  all_goals
    walk_at "wp"
    refine lc_mapA trD (fun _ => true) (fun x => stD (clT x)) (by simp [line_is]; omega) ?_ ?_
    · intro x hx2
      obtain ⟨ht, hg⟩ := hx x hx2
      have l1 := ht.len
      have l2 := hg.len
      unfold trD tripD
      walk_at "wp"
      refine bag_w (.inl rfl) ht.pos.1 (by omega) ?_
      walk_at "wp"
      refine bag_w (.inl rfl) hg.pos.1 (by omega) ?_
      walk_at "wp"
      refine store_w ?_
      walk_at "wp"
      exact rfl
    walk_at "wp"
    rw [List.filter_eq_self.mpr (by simp), show (fun x => stD (clT x)) = stD ∘ clT from rfl, ← List.map_map]
    refine shop_w ?_
    walk_at "wp"
    exact h
end Pu
end

section
set_option Elab.async false
set_option linter.all false
set_option maxRecDepth 100000
set_option maxHeartbeats 4000000
set_option autoImplicit false
namespace Pu
open PySem L2 U Wk
theorem at2_0 {a b : D} : L2.atI [a, b] 0 = some a := rfl
theorem at2_1 {a b : D} : L2.atI [a, b] 1 = some b := rfl
theorem beq_cl {t : SI} (h : Pos t) : beqD (.dic (kvI (cl t))) (.dic (kvI t)) = true := (beq_kvI (cl_nodup h.1) h.1).mpr fun w => h.lkO_cl
theorem beq_refl {t : SI} (h : (ksI t).Nodup) : beqD (.dic (kvI t)) (.dic (kvI t)) = true := (beq_kvI h h).mpr fun w => rfl
theorem cl_nil : cl [] = [] := by decide
theorem plain_any {t g : SI} : plainB t g = !((ksI t).any fun w => (lkO g w).isSome) := by
  unfold plainB
  induction ksI t with
  | nil => rfl
  | cons a r ih =>
    cases h : (lkO g a).isSome
    · simp only [List.filter_cons, h, List.any_cons, Bool.false_or] ; simpa using ih
    · simp [List.filter_cons, h]
theorem plain_cl {t g : SI} (ht : Pos t) (hg : Pos g) : plainB (cl t) (cl g) = plainB t g := by
  rw [plain_any, plain_any]
  congr 1
  rw [Bool.eq_iff_iff, List.any_eq_true, List.any_eq_true]
  have : ∀ w, w ∈ ksI (cl t) ↔ w ∈ ksI t := fun w => (ht.cl_perm.map _).mem_iff
  simp only [this, hg.lkO_cl]
theorem beq_add {t z : SI} {w : Str} (ht : Pos t) (hz : Pos z) (hw : lk z w ≠ 0) : beqD (.dic (kvI (cl t))) (.dic (kvI (cl (cl (addI (cl t) (cl z) 1))))) = false := by
  rw [Bool.eq_false_iff]
  intro h
  have hc := cl_nodup (ps := addI (cl t) (cl z) 1) addI_nodup
  have e := (beq_kvI (cl_nodup ht.1) (cl_nodup hc)).mp h w
  have nn : ∀ p ∈ addI (cl t) (cl z) 1, 0 ≤ p.2 := fun p hp => by
    have e1 := (lkO_mem (addI_nodup (ps := cl t) (qs := cl z) (c := 1))).mpr (show (p.1, p.2) ∈ _ from hp)
    have e2 : lk (addI (cl t) (cl z) 1) p.1 = p.2 := by unfold lk; rw [e1]; rfl
    rw [← e2, addI_lk]
    have h1 := (cl_pos ht.1).lk0 (w := p.1)
    have h2 := (cl_pos hz.1).lk0 (w := p.1)
    omega
  have e2 : lk (cl (cl (addI (cl t) (cl z) 1))) w = lk (cl t) w + lk z w := by
    rw [lk_cl hc (fun p hp => Int.le_of_lt ((cl_pos addI_nodup).2 p hp)), lk_cl addI_nodup nn, addI_lk, lk_cl hz.1 (fun p hp => Int.le_of_lt (hz.2 p hp))]
    omega
  have e3 : lk (cl t) w = lk (cl (cl (addI (cl t) (cl z) 1))) w := by unfold lk; rw [e]
  omega
theorem okE_kvI12 {ps qs : SI} : okE false 12 (.dic (kvI ps)) (.dic (kvI qs)) = true := okE_kvI 11
theorem beq_trip1 {b : Int} {t g : SI} (ht : (ksI t).Nodup) (hg : (ksI g).Nodup) : beqD (tripD b t g) (tripD b t g) = true := by
  rw [beq_trip, beq_refl ht, beq_refl hg]; simp
theorem beq_trip2 {b : Int} {t g t' g' : SI} : beqD (tripD b t g) (tripD (b + 1) t' g') = false := by
  rw [beq_trip]
  have : (b == b + 1) = false := by simp; omega
  rw [this]; rfl
theorem isOb_bag {t : SI} : isOb 0 (bagD t) ↔ True := ⟨fun _ => trivial, fun _ => rfl⟩
theorem isOb_store {b : Int} {t g : SI} : isOb 2 (storeD b t g) ↔ True := ⟨fun _ => trivial, fun _ => rfl⟩
theorem isOb_shop {xs : List D} : isOb 1 (shopD xs) ↔ True := ⟨fun _ => trivial, fun _ => rfl⟩
theorem ro_store {b : Int} {t g : SI} : rightOk [2] (storeD b t g) = true := rfl
theorem ro_shop {xs : List D} : rightOk [1] (shopD xs) = true := rfl
theorem fld_shop {xs : List D} : fldD 1 0 (shopD xs) = some (.tup xs) := rfl
def zz : SI := [("zz", 1)]
theorem zz_bg {n : Nat} : Bg BB (n + 1) zz := (bg_one (by omega) (by unfold BB; omega)).mono (Int.le_refl _) (by omega)
theorem zz_pos : Pos zz := (zz_bg (n := 0)).pos
theorem zz_lk : lk zz "zz" ≠ 0 := by decide
theorem zz_is : D.dic [((.inr "zz" : Key), D.int 1)] = .dic (kvI zz) := rfl
theorem zz_m : mergeD [] [((.inr "zz" : Key), D.int 1)] = kvI zz := rfl
local macro_rules | `(tactic| walk_at "wp") => `(tactic| simp only [↓wp_ret, ↓wp_bind, ↓wp_C, ↓wp_var, ↓wp_op2, ↓wp_bin, ↓wp_tOfE, ↓wp_and, ↓wp_or, ↓wp_not, ↓wp_eOfT, ↓wp_eIte, ↓wp_eNot, ↓wp_eAnd, ↓wp_eOr, ↓wp_eat, ↓wp_eFrz, ↓wp_args0, ↓wp_args, ↓wp_ds0, ↓wp_ds, ↓wp_tup, ↓wp_lst, ↓wp_opL, ↓wp_callB, ↓wp_callM, ↓wp_call, ↓wp_okM, ↓wp_isC, ↓wp_meth, ↓wp_prop, ↓wp_fldM, ↓wp_fld, ↓wp_makeM, ↓wp_make, ↓wp_own2M, ↓wp_own2, ↓wp_ownBM, ↓wp_ownB, ↓wp_asLen, ↓wp_lenOwn, ↓wp_callOM, ↓wp_callO, ↓wp_isi, ↓wp_getM, ↓wp_get, ↓wp_part0, ↓wp_part, ↓wp_slice, ↓wp_neg, ↓wp_pairs0, ↓wp_pairs, ↓wp_disp, ↓wp_dic0, ↓wp_join, ↓wp_rev, ↓wp_lstX, ↓wp_star, ↓wp_iLst, ↓wp_iTup, ↓wp_iSeq, ↓wp_iKey, ↓wp_iItm, ↓wp_iStr, ↓wp_iRng, ↓wp_lc, ↓wp_dc, ↓ws_next, ↓ws_break, ↓ws_cont, ↓ws_retn, ↓ws_retu, ↓ws_drop, ↓ws_set, ↓ws_if, ↓ws_seq, ↓ws_put, ↓ws_app, ↓ws_fldSet, ↓ws_asg, ↓ws_par2, ↓ws_for, ↓ws_forL, ↓seqP_nx, ↓seqP_rt, ↓seqP_bk, ↓seqP_ct, ↓seqP_ex, ↓loopP_nx, ↓loopP_ct, ↓loopP_bk, ↓loopP_rt, ↓loopP_ex, ↓for_nil, ↓for_cons, ↓ws_nox, ↓noxP_nx, ↓noxP_rt, ↓noxP_bk, ↓noxP_ct, ↓outF_ok, ↓outF_ex, ↓onS_some, ↓onS_none, ↓onS_ite, ↓onS_map, ↓all_nil, ↓all_cons, ↓slots_nil, ↓slots_cons, ↓wipe_nil, ↓wipe_cons, ↓rest_nil, ↓rest_cons, ↓g_nm, ↓g_tp, ↓g_0, ↓g_C, ↓st_tmp, ↓st_frz, ↓st_var, ↓chg_is, ↓brP_true, ↓brP_false, ↓brP_not, ↓dMul_ii, ↓dDiv_ii, ↓dMod_ii, ↓dPow_ii, ↓dEq_is, ↓dNe_is, ↓dAdd_ss, ↓dAdd_ll, ↓dLen_s, ↓putIn_s, ↓dIx_s, ↓cut_s, ↓app_l, onS_some, onS_none, onS_ite, onS_map, all_nil, all_cons, slots_nil, slots_cons, wipe_nil, wipe_cons, rest_nil, rest_cons, g_nm, g_tp, g_0, g_C, st_tmp, st_frz, st_var, chg_is, brP_true, brP_false, brP_not, dMul_ii, dDiv_ii, dMod_ii, dPow_ii, dEq_is, dNe_is, dAdd_ss, dAdd_ll, dLen_s, putIn_s, dIx_s, cut_s, app_l, varR_frz, varR_own, varR_bor, varR_ro, slD_some, soft_frz, soft_tmp, soft_var, get_frz, get_tmp, get_var, bool_frz, eatS_own, eatS_frz, eat_frz, eat_tmp, eat_var, slot_frz, slot_var, sv_frz, sv_ro, sv_own, sv_bor, sv_own1, sv_bor1, ns_lst, ns_tup, ns_dic, ns_obj, bset_0, bset_S, wb_bor, wb_val, wb_nil, ix_frz, ix_tmp, ix_var, ap_nil, ap_frz, ap_var, ag_mv, ag_mb, ag_bv, ag_bb, isOb_obj, fldD_obj, mkFin_ok, mkFinX_ok, int_frz, str_frz, kvs_dic, getR_some, getR_none, key_frz, kd_str, kd_int, lstOf_ok, tupOf_ok, lockS_own, lockS_frz, lockS_ro, lock_var, lock_frz, lock_tmp, seqOf_lst, seqOf_tup, slotFrz_is, sfz_none, sfz_frz, slotFree_is, sfr_none, sfr_frz, sfr_own, thS_ok, chS_own, chS_bor, isL_ok, end_nx, end_frz, end_tmp, end_var, end_ex, endS_own, endS_frz, dat_some, dat_none, nv_frz, nv_tmp, letS_is, rng_0, rng_1, bne_no, bne_so, CPow_is, dAdd_ii, dSub_ii, dCmp_ii, okE_ii, okN_ii, okE_ss, okN_ss, okE_bb, okN_bb, beqD_ii, beqD_ss, beqD_bb, okE_l0, okN_l0, beqD_l0, dIs_non, dInt_i, dLen_l, dLen_t, dLen_scr, dList_l, dList_t, dTuple_l, dStr_s, dListK_d, dMin2_ii, dSum_l, dDx_s, dIn_d, dIx_l, dIx_t, cut_l, cut_scr, line_is, putFd_0, putFd_1, putFd_2, isi_ob, isi_int, isi_tup, isi_lst, isi_str, ro_obj, ro_int, ro_tup, ro_lst, ro_str, keys_kvI, items_kvI, look_kvI, getR_kvI, kvI_len, put_kvI, emp_kvI, at2_0, at2_1, okN_kvI, okE_kvI12, zz_m, isOb_bag, isOb_store, isOb_shop, ro_store, ro_shop, fld_shop, List.getElem?_cons_zero, List.getElem?_cons_succ, List.set_cons_zero, List.set_cons_succ, List.map_cons, List.map_nil, List.length_cons, List.length_nil, List.zip_cons_cons, List.zip_nil_left, List.zip_nil_right, List.all_cons, List.all_nil, List.take_succ_cons, List.take_zero, List.replicate_succ, List.replicate_zero, List.cons_append, List.nil_append, Option.getD_some, Option.isNone_none, Option.isNone_some, Bool.and_true, Bool.true_and, Bool.or_true, Bool.or_false, Bool.false_or, Nat.reduceBneDiff, Bool.true_or, Bool.not_true, Bool.not_false, Bool.and_false, Bool.false_and, true_and, and_true, if_true, ↓reduceIte, Nat.reduceLeDiff, Nat.reduceAdd, Nat.reduceSub, and_self, eq_self, decide_true, decide_false, Bool.false_eq_true, bne_self_eq_false, Nat.zero_le, Nat.reduceEqDiff, reduceCtorEq, Nat.reduceBEq, List.contains_cons, BEq.rfl, Int.reducePow, Int.reduceToNat, Int.reduceLT, Int.reduceLE, Nat.reducePow, Nat.reduceLT, Int.reduceSub, Int.reduceAdd, Int.reduceMul, Int.reduceNeg, Int.reduceDiv, Nat.reduceMul])
set_option hygiene false
local macro_rules | `(tactic| walk_at "wpf") => `(tactic| simp only [↓wp_ret, ↓wp_bind, ↓wp_C, ↓wp_var, ↓wp_op2, ↓wp_bin, ↓wp_tOfE, ↓wp_and, ↓wp_or, ↓wp_not, ↓wp_eOfT, ↓wp_eIte, ↓wp_eNot, ↓wp_eAnd, ↓wp_eOr, ↓wp_eat, ↓wp_eFrz, ↓wp_args0, ↓wp_args, ↓wp_ds0, ↓wp_ds, ↓wp_tup, ↓wp_lst, ↓wp_opL, ↓wp_callB, ↓wp_callM, ↓wp_call, ↓wp_okM, ↓wp_isC, ↓wp_meth, ↓wp_prop, ↓wp_fldM, ↓wp_fld, ↓wp_makeM, ↓wp_make, ↓wp_own2M, ↓wp_own2, ↓wp_ownBM, ↓wp_ownB, ↓wp_asLen, ↓wp_lenOwn, ↓wp_callOM, ↓wp_callO, ↓wp_isi, ↓wp_getM, ↓wp_get, ↓wp_part0, ↓wp_part, ↓wp_slice, ↓wp_neg, ↓wp_pairs0, ↓wp_pairs, ↓wp_disp, ↓wp_dic0, ↓wp_join, ↓wp_rev, ↓wp_lstX, ↓wp_star, ↓wp_iLst, ↓wp_iTup, ↓wp_iSeq, ↓wp_iKey, ↓wp_iItm, ↓wp_iStr, ↓wp_iRng, ↓wp_lc, ↓wp_dc, ↓ws_next, ↓ws_break, ↓ws_cont, ↓ws_retn, ↓ws_retu, ↓ws_drop, ↓ws_set, ↓ws_if, ↓ws_seq, ↓ws_put, ↓ws_app, ↓ws_fldSet, ↓ws_asg, ↓ws_par2, ↓ws_for, ↓ws_forL, ↓seqP_nx, ↓seqP_rt, ↓seqP_bk, ↓seqP_ct, ↓seqP_ex, ↓loopP_nx, ↓loopP_ct, ↓loopP_bk, ↓loopP_rt, ↓loopP_ex, ↓for_nil, ↓for_cons, ↓ws_nox, ↓noxP_nx, ↓noxP_rt, ↓noxP_bk, ↓noxP_ct, ↓outF_ok, ↓outF_ex, ↓onS_some, ↓onS_none, ↓onS_ite, ↓onS_map, ↓all_nil, ↓all_cons, ↓slots_nil, ↓slots_cons, ↓wipe_nil, ↓wipe_cons, ↓rest_nil, ↓rest_cons, ↓g_nm, ↓g_tp, ↓g_0, ↓g_C, ↓st_tmp, ↓st_frz, ↓st_var, ↓chg_is, ↓brP_true, ↓brP_false, ↓brP_not, ↓dMul_ii, ↓dDiv_ii, ↓dMod_ii, ↓dPow_ii, ↓dEq_is, ↓dNe_is, ↓dAdd_ss, ↓dAdd_ll, ↓dLen_s, ↓putIn_s, ↓dIx_s, ↓cut_s, ↓app_l, onS_some, onS_none, onS_ite, onS_map, all_nil, all_cons, slots_nil, slots_cons, wipe_nil, wipe_cons, rest_nil, rest_cons, g_nm, g_tp, g_0, g_C, st_tmp, st_frz, st_var, chg_is, brP_true, brP_false, brP_not, dMul_ii, dDiv_ii, dMod_ii, dPow_ii, dEq_is, dNe_is, dAdd_ss, dAdd_ll, dLen_s, putIn_s, dIx_s, cut_s, app_l, varR_frz, varR_own, varR_bor, varR_ro, slD_some, soft_frz, soft_tmp, soft_var, get_frz, get_tmp, get_var, bool_frz, eatS_own, eatS_frz, eat_frz, eat_tmp, eat_var, slot_frz, slot_var, sv_frz, sv_ro, sv_own, sv_bor, sv_own1, sv_bor1, ns_lst, ns_tup, ns_dic, ns_obj, bset_0, bset_S, wb_bor, wb_val, wb_nil, ix_frz, ix_tmp, ix_var, ap_nil, ap_frz, ap_var, ag_mv, ag_mb, ag_bv, ag_bb, isOb_obj, fldD_obj, mkFin_ok, mkFinX_ok, int_frz, str_frz, kvs_dic, getR_some, getR_none, key_frz, kd_str, kd_int, lstOf_ok, tupOf_ok, lockS_own, lockS_frz, lockS_ro, lock_var, lock_frz, lock_tmp, seqOf_lst, seqOf_tup, slotFrz_is, sfz_none, sfz_frz, slotFree_is, sfr_none, sfr_frz, sfr_own, thS_ok, chS_own, chS_bor, isL_ok, end_nx, end_frz, end_tmp, end_var, end_ex, endS_own, endS_frz, dat_some, dat_none, nv_frz, nv_tmp, letS_is, rng_0, rng_1, bne_no, bne_so, CPow_is, dAdd_ii, dSub_ii, dCmp_ii, okE_ii, okN_ii, okE_ss, okN_ss, okE_bb, okN_bb, beqD_ii, beqD_ss, beqD_bb, okE_l0, okN_l0, beqD_l0, dIs_non, dInt_i, dLen_l, dLen_t, dLen_scr, dList_l, dList_t, dTuple_l, dStr_s, dListK_d, dMin2_ii, dSum_l, dDx_s, dIn_d, dIx_l, dIx_t, cut_l, cut_scr, line_is, putFd_0, putFd_1, putFd_2, isi_ob, isi_int, isi_tup, isi_lst, isi_str, ro_obj, ro_int, ro_tup, ro_lst, ro_str, keys_kvI, items_kvI, look_kvI, getR_kvI, kvI_len, put_kvI, emp_kvI, at2_0, at2_1, okN_kvI, okE_kvI12, zz_m, isOb_bag, isOb_store, isOb_shop, ro_store, ro_shop, fld_shop, hT, hG, dTp, dGp, dTq, Int.sub_zero, Int.add_zero, dot_nil, cl_nil, List.getElem?_cons_zero, List.getElem?_cons_succ, List.set_cons_zero, List.set_cons_succ, List.map_cons, List.map_nil, List.length_cons, List.length_nil, List.zip_cons_cons, List.zip_nil_left, List.zip_nil_right, List.all_cons, List.all_nil, List.take_succ_cons, List.take_zero, List.replicate_succ, List.replicate_zero, List.cons_append, List.nil_append, Option.getD_some, Option.isNone_none, Option.isNone_some, Bool.and_true, Bool.true_and, Bool.or_true, Bool.or_false, Bool.false_or, Nat.reduceBneDiff, Bool.true_or, Bool.not_true, Bool.not_false, Bool.and_false, Bool.false_and, true_and, and_true, if_true, ↓reduceIte, Nat.reduceLeDiff, Nat.reduceAdd, Nat.reduceSub, and_self, eq_self, decide_true, decide_false, Bool.false_eq_true, bne_self_eq_false, Nat.zero_le, Nat.reduceEqDiff, reduceCtorEq, Nat.reduceBEq, List.contains_cons, BEq.rfl, Int.reducePow, Int.reduceToNat, Int.reduceLT, Int.reduceLE, Nat.reducePow, Nat.reduceLT, Int.reduceSub, Int.reduceAdd, Int.reduceMul, Int.reduceNeg, Int.reduceDiv, Nat.reduceMul])
local macro_rules | `(tactic| walk_at "bags") => `(tactic| (
  refine bag_w (.inl rfl) ht.pos.1 (by omega) ?_
  walk_at "wp"
  refine bag_w (.inl rfl) hg.pos.1 (by omega) ?_
  walk_at "wp"
  refine store_w ?_
  walk_at "wp"))
local macro_rules | `(tactic| walk_at "tail") => `(tactic| (
  walk_at "wpf"
  refine plain_w (n := 0) (by have := ht.cl.len; omega) ?_
  walk_at "wpf"
  refine lc_map (fun d => (lkO g (wdD d)).isSome) id (by simp [line_is, ksI]; omega) ?_ ?_
  · intro d hd
    obtain ⟨w, hw, rfl⟩ := List.mem_map.mp hd
    walk_at "wp"
    refine ⟨by simp [wdD], ?_⟩
    refine brP_of (fun _ => ?_) fun _ => ?_
    · walk_at "wp"; exact rfl
    · walk_at "wp"
  walk_at "wpf"
  rw [plain_fin, plain_cl ht.pos hg.pos]
  walk_at "wpf"
  walk_at "bags"
  refine store_eq_w ?_
  rw [beq_trip1 (cl_nodup ht.pos.1) (cl_nodup hg.pos.1)]
  walk_at "wpf"
  walk_at "bags"
  refine store_eq_w ?_
  rw [beq_trip2]
  walk_at "wpf"
  refine bag_w (.inl rfl) ht.pos.1 (by omega) ?_
  walk_at "wpf"
  refine bag_w (ps := zz) (.inl rfl) zz_pos.1 (by decide) ?_
  walk_at "wpf"
  refine bag_add_w (n := 27) (ht.cl.mono (Int.le_refl _) (by omega)) zz_bg.cl (by omega) ?_
  walk_at "wpf"
  refine bag_w (.inl rfl) hg.pos.1 (by omega) ?_
  walk_at "wpf"
  refine store_w ?_
  walk_at "wpf"
  refine store_eq_w ?_
  rw [beq_trip, beq_add ht.pos zz_pos zz_lk]
  walk_at "wpf"
  refine bag_w (.inl rfl) ht.pos.1 (by omega) ?_
  walk_at "wpf"
  refine bag_w (.inl rfl) hg.pos.1 (by omega) ?_
  walk_at "wpf"
  refine bag_w (ps := zz) (.inl rfl) zz_pos.1 (by decide) ?_
  walk_at "wpf"
  refine bag_add_w (n := 27) (hg.cl.mono (Int.le_refl _) (by omega)) zz_bg.cl (by omega) ?_
  walk_at "wpf"
  refine store_w ?_
  walk_at "wpf"
  refine store_eq_w ?_
  rw [beq_trip, beq_add hg.pos zz_pos zz_lk]
  walk_at "wpf"
  refine store_eqi_w ?_
  walk_at "wpf"
  exact h _ hd2))
theorem isr_w {r : Nat} {d : D} {ws : List Str} {x : Tr} {k1 : Kd} {P : R → List D → Prop} {E : Exn → List D → Prop} (hk1 : k1 = .frz ∨ k1 = .ro) (hd : PenR (r + 250) d) (h0 : 0 < ws.length) (hl : ws.length ≤ 26) (hx : TrOk 26 x) (h : ∀ d', PenR r d' → P (.frz (.bl true)) [d', .lst (ws.map .str), stD (clT x), trD x]) : wpF d__law_is_store_right [⟨.bor, d⟩, ⟨k1, .lst (ws.map .str)⟩, ⟨.frz, stD (clT x)⟩, ⟨.frz, trD x⟩] P E := by
  obtain ⟨b, t, g⟩ := x
  have ht : Bg BB 26 t := hx.t.mono (by decide) (Nat.le_refl _)
  have hg : Bg BB 26 g := hx.g.mono (by decide) (Nat.le_refl _)
  have l1 := ht.len
  have l2 := hg.len
  have b0 := hx.b0
  have b1 := hx.b1
  simp only [stD, clT, trD, tripD, storeD, bagD] at h b0 b1 ⊢
  unfold d__law_is_store_right
  rw [wf_fn]
  unfold d__law_is_store_right_b
  rcases hk1 with rfl | rfl
  all_goals
    walk_at "wp"
    refine counts_w (by simp) (r := r + 8) (hd.mono (by omega)) hl fun ps d1 hps hd1 => ?_
    have hp : Bg BB 26 ps := hps.mono (by decide) hl
    walk_at "wp"
    refine step_w (by simp) hd1 h0 hl fun qs d2 hqs hd2 => ?_
    have hq : Bg BB 26 qs := hqs.mono (by decide) (by omega)
    have l3 := hp.len
    have l4 := hq.len
    have hT := beq_cl ht.pos
    have hG := beq_cl hg.pos
    have dTp := dot_cl ht.pos hp.pos
    have dGp := dot_cl hg.pos hp.pos
    have dTq := dot_cl ht.pos hq.pos
    walk_at "wpf"
    refine bag_w (.inr rfl) hp.pos.1 (by omega) ?_
    walk_at "wpf"
    refine call_w (b := b) (t := cl t) (g := cl g) (.inl rfl) (.inl rfl) ht.cl hg.cl hp.cl (by omega) ?_
    walk_at "wpf"
    refine lspare_w (b := b) (t := t) (g := g) (qs := []) (.inr rfl) (.inl rfl) ht hg hp Bg.nil ?_
    walk_at "wpf"
    refine bag_w (ps := []) (.inl rfl) (by simp [ksI]) (by simp) ?_
    walk_at "wpf"
    refine call_w (b := b) (t := cl t) (g := cl g) (ps := []) (.inl rfl) (.inl rfl) ht.cl hg.cl (Bg.nil (n := 1)) (by omega) ?_
    walk_at "wpf"
    refine lspare_w (b := b) (t := t) (g := g) (.inr rfl) (.inr rfl) ht hg hp hq ?_
    walk_at "wpf"
    refine bag_w (.inr rfl) hp.pos.1 (by omega) ?_
    walk_at "wpf"
    refine bag_w (.inr rfl) hq.pos.1 (by omega) ?_
    walk_at "wpf"
    refine lets_w (b := b) (t := cl t) (g := cl g) (.inl rfl) (.inl rfl) (.inl rfl) ht.cl hg.cl hp.cl hq.cl (by omega) ?_
    walk_at "wpf"
    refine brP_dec (fun c1 => ?_) fun c1 => ?_
    · walk_at "wpf"
      walk_at "bags"
      refine lets_w (t := cl t) (g := cl g) (.inl rfl) (.inl rfl) (.inl rfl) ht.cl hg.cl hp.cl hq.cl (by omega) ?_
      walk_at "wpf"
      refine brP_dec (fun c2 => ?_) fun c2 => absurd (by omega) c2
      walk_at "wpf"
      refine brP_dec (fun c3 => ?_) fun c3 => ?_
      · walk_at "wpf"
        walk_at "bags"
        refine lets_w (t := cl t) (g := cl g) (.inl rfl) (.inl rfl) (.inl rfl) ht.cl hg.cl hp.cl hq.cl (by omega) ?_
        walk_at "wpf"
        refine brP_dec (fun c4 => absurd c4 (by omega)) fun c4 => ?_
        walk_at "tail"
      · walk_at "tail"
    · walk_at "wpf"
      refine brP_dec (fun c3 => absurd c3 (by omega)) fun c3 => ?_
      walk_at "tail"
end Pu
end

section
set_option Elab.async false
set_option linter.all false
set_option maxRecDepth 100000
set_option maxHeartbeats 4000000
set_option autoImplicit false
namespace Pu
open PySem L2 U Wk
theorem atI_last {α : Type} {l : List α} (h : 0 < l.length) : L2.atI l (-1) = some (l[l.length - 1]'(by omega)) := by
  unfold L2.atI ixN
  rw [if_neg (by omega), if_pos (by omega)]
  have : ((-1 : Int) + (l.length : Int)).toNat = l.length - 1 := by omega
  simp [this]
def TB (x : Tr) : Prop := Bg BB 26 x.2.1 ∧ Bg BB 26 x.2.2
theorem TrOk.tb {n : Nat} {x : Tr} (h : TrOk n x) (hn : n ≤ 26) : TB x := ⟨h.t.mono (by decide) hn, h.g.mono (by decide) hn⟩
theorem beq_tr {x y : Tr} : beqD (trD x) (trD y) = (x.1 == y.1 && (beqD (.dic (kvI x.2.1)) (.dic (kvI y.2.1)) && beqD (.dic (kvI x.2.2)) (.dic (kvI y.2.2)))) := beq_trip
theorem beq_cl2 {t u : SI} (ht : Pos t) (hu : Pos u) : beqD (.dic (kvI (cl t))) (.dic (kvI (cl u))) = beqD (.dic (kvI t)) (.dic (kvI u)) := by
  rw [Bool.eq_iff_iff, beq_kvI (cl_nodup ht.1) (cl_nodup hu.1), beq_kvI ht.1 hu.1]
  simp only [ht.lkO_cl, hu.lkO_cl]
theorem beq_trcl {x y : Tr} (hx : TB x) (hy : TB y) : beqD (trD (clT x)) (trD (clT y)) = beqD (trD x) (trD y) := by
  rw [beq_tr, beq_tr]
  unfold clT
  simp only []
  rw [beq_cl2 hx.1.pos hy.1.pos, beq_cl2 hx.2.pos hy.2.pos]
theorem beqL_cl : ∀ {xs ys : List Tr}, (∀ x ∈ xs, TB x) → (∀ y ∈ ys, TB y) → beqL ((xs.map clT).map trD) ((ys.map clT).map trD) = beqL (xs.map trD) (ys.map trD)
  | [], [], _, _ => rfl
  | [], _ :: _, _, _ => by simp [beqL]
  | _ :: _, [], _, _ => by simp [beqL]
  | x :: xs, y :: ys, hx, hy => by
    simp only [List.map_cons, beqL]
    rw [beq_trcl (hx x (by simp)) (hy y (by simp)), beqL_cl (fun z hz => hx z (by simp [hz])) (fun z hz => hy z (by simp [hz]))]
theorem beqL_refl : ∀ {xs : List Tr}, (∀ x ∈ xs, TB x) → beqL (xs.map trD) (xs.map trD) = true
  | [], _ => by simp [beqL]
  | x :: xs, hx => by
    simp only [List.map_cons, beqL]
    have h := hx x (by simp)
    rw [beq_tr, beq_refl h.1.pos.1, beq_refl h.2.pos.1, beqL_refl fun z hz => hx z (by simp [hz])]
    simp
theorem beqL_ne {xs ys : List Tr} (h : xs.length ≠ ys.length) : beqL (xs.map trD) (ys.map trD) = false := beqL_len (by simpa using h)
theorem shop_plain_cl {xs : List Tr} : (xs.all fun x => plainB x.2.1 x.2.2) = ((xs.filter fun x => !plainB x.2.1 x.2.2).map stD).isEmpty := by
  rw [List.isEmpty_map, Bool.eq_iff_iff, List.isEmpty_iff, List.filter_eq_nil_iff, List.all_eq_true]
  simp
theorem cat_trD {xs ys : List Tr} : xs.map trD ++ ys.map trD = (xs ++ ys).map trD := by simp
theorem take_trD {xs : List Tr} {n : Nat} : (xs.map trD).take n = (xs.take n).map trD := by simp
theorem rngN {n : Nat} : rngD 0 n = (List.range n).map fun i : Nat => D.int (0 + (i : Int)) := rfl
theorem ns_shop {xs : List D} : (shopD xs).ns = true := rfl
local macro_rules | `(tactic| walk_at "wp") => `(tactic| simp only [↓wp_ret, ↓wp_bind, ↓wp_C, ↓wp_var, ↓wp_op2, ↓wp_bin, ↓wp_tOfE, ↓wp_and, ↓wp_or, ↓wp_not, ↓wp_eOfT, ↓wp_eIte, ↓wp_eNot, ↓wp_eAnd, ↓wp_eOr, ↓wp_eat, ↓wp_eFrz, ↓wp_args0, ↓wp_args, ↓wp_ds0, ↓wp_ds, ↓wp_tup, ↓wp_lst, ↓wp_opL, ↓wp_callB, ↓wp_callM, ↓wp_call, ↓wp_okM, ↓wp_isC, ↓wp_meth, ↓wp_prop, ↓wp_fldM, ↓wp_fld, ↓wp_makeM, ↓wp_make, ↓wp_own2M, ↓wp_own2, ↓wp_ownBM, ↓wp_ownB, ↓wp_asLen, ↓wp_lenOwn, ↓wp_callOM, ↓wp_callO, ↓wp_isi, ↓wp_getM, ↓wp_get, ↓wp_part0, ↓wp_part, ↓wp_slice, ↓wp_neg, ↓wp_pairs0, ↓wp_pairs, ↓wp_disp, ↓wp_dic0, ↓wp_join, ↓wp_rev, ↓wp_lstX, ↓wp_star, ↓wp_iLst, ↓wp_iTup, ↓wp_iSeq, ↓wp_iKey, ↓wp_iItm, ↓wp_iStr, ↓wp_iRng, ↓wp_lc, ↓wp_dc, ↓ws_next, ↓ws_break, ↓ws_cont, ↓ws_retn, ↓ws_retu, ↓ws_drop, ↓ws_set, ↓ws_if, ↓ws_seq, ↓ws_put, ↓ws_app, ↓ws_fldSet, ↓ws_asg, ↓ws_par2, ↓ws_for, ↓ws_forL, ↓seqP_nx, ↓seqP_rt, ↓seqP_bk, ↓seqP_ct, ↓seqP_ex, ↓loopP_nx, ↓loopP_ct, ↓loopP_bk, ↓loopP_rt, ↓loopP_ex, ↓for_nil, ↓for_cons, ↓ws_nox, ↓noxP_nx, ↓noxP_rt, ↓noxP_bk, ↓noxP_ct, ↓outF_ok, ↓outF_ex, ↓onS_some, ↓onS_none, ↓onS_ite, ↓onS_map, ↓all_nil, ↓all_cons, ↓slots_nil, ↓slots_cons, ↓wipe_nil, ↓wipe_cons, ↓rest_nil, ↓rest_cons, ↓g_nm, ↓g_tp, ↓g_0, ↓g_C, ↓st_tmp, ↓st_frz, ↓st_var, ↓chg_is, ↓brP_true, ↓brP_false, ↓brP_not, ↓dMul_ii, ↓dDiv_ii, ↓dMod_ii, ↓dPow_ii, ↓dEq_is, ↓dNe_is, ↓dAdd_ss, ↓dAdd_ll, ↓dLen_s, ↓putIn_s, ↓dIx_s, ↓cut_s, ↓app_l, onS_some, onS_none, onS_ite, onS_map, all_nil, all_cons, slots_nil, slots_cons, wipe_nil, wipe_cons, rest_nil, rest_cons, g_nm, g_tp, g_0, g_C, st_tmp, st_frz, st_var, chg_is, brP_true, brP_false, brP_not, dMul_ii, dDiv_ii, dMod_ii, dPow_ii, dEq_is, dNe_is, dAdd_ss, dAdd_ll, dLen_s, putIn_s, dIx_s, cut_s, app_l, varR_frz, varR_own, varR_bor, varR_ro, slD_some, soft_frz, soft_tmp, soft_var, get_frz, get_tmp, get_var, bool_frz, eatS_own, eatS_frz, eat_frz, eat_tmp, eat_var, slot_frz, slot_var, sv_frz, sv_ro, sv_own, sv_bor, sv_own1, sv_bor1, ns_lst, ns_tup, ns_dic, ns_obj, bset_0, bset_S, wb_bor, wb_val, wb_nil, ix_frz, ix_tmp, ix_var, ap_nil, ap_frz, ap_var, ag_mv, ag_mb, ag_bv, ag_bb, isOb_obj, fldD_obj, mkFin_ok, mkFinX_ok, int_frz, str_frz, kvs_dic, getR_some, getR_none, key_frz, kd_str, kd_int, lstOf_ok, tupOf_ok, lockS_own, lockS_frz, lockS_ro, lock_var, lock_frz, lock_tmp, seqOf_lst, seqOf_tup, slotFrz_is, sfz_none, sfz_frz, slotFree_is, sfr_none, sfr_frz, sfr_own, thS_ok, chS_own, chS_bor, isL_ok, end_nx, end_frz, end_tmp, end_var, end_ex, endS_own, endS_frz, dat_some, dat_none, nv_frz, nv_tmp, letS_is, rng_0, rng_1, bne_no, bne_so, CPow_is, dAdd_ii, dSub_ii, dCmp_ii, okE_ii, okN_ii, okE_ss, okN_ss, okE_bb, okN_bb, beqD_ii, beqD_ss, beqD_bb, okE_l0, okN_l0, beqD_l0, dIs_non, dInt_i, dLen_l, dLen_t, dLen_scr, dList_l, dList_t, dTuple_l, dStr_s, dListK_d, dMin2_ii, dSum_l, dDx_s, dIn_d, dIx_l, dIx_t, cut_l, cut_scr, line_is, putFd_0, putFd_1, putFd_2, isi_ob, isi_int, isi_tup, isi_lst, isi_str, ro_obj, ro_int, ro_tup, ro_lst, ro_str, ns_shop, keys_kvI, items_kvI, look_kvI, getR_kvI, kvI_len, put_kvI, one_kvI, emp_kvI, isOb_bag, isOb_store, isOb_shop, ro_store, ro_shop, fld_shop, List.length_map, List.getElem?_cons_zero, List.getElem?_cons_succ, List.set_cons_zero, List.set_cons_succ, List.map_cons, List.map_nil, List.length_cons, List.length_nil, List.zip_cons_cons, List.zip_nil_left, List.zip_nil_right, List.all_cons, List.all_nil, List.take_succ_cons, List.take_zero, List.replicate_succ, List.replicate_zero, List.cons_append, List.nil_append, Option.getD_some, Option.isNone_none, Option.isNone_some, Bool.and_true, Bool.true_and, Bool.or_true, Bool.or_false, Bool.false_or, Nat.reduceBneDiff, Bool.true_or, Bool.not_true, Bool.not_false, Bool.and_false, Bool.false_and, true_and, and_true, if_true, ↓reduceIte, Nat.reduceLeDiff, Nat.reduceAdd, Nat.reduceSub, and_self, eq_self, decide_true, decide_false, Bool.false_eq_true, bne_self_eq_false, Nat.zero_le, Nat.reduceEqDiff, reduceCtorEq, Nat.reduceBEq, List.contains_cons, BEq.rfl, Int.reducePow, Int.reduceToNat, Int.reduceLT, Int.reduceLE, Nat.reducePow, Nat.reduceLT, Int.reduceSub, Int.reduceAdd, Int.reduceMul, Int.reduceNeg, Int.reduceDiv, Nat.reduceMul])
theorem law_true (ns : List Int) (h : ns.length ≤ 63) : ∃ fins, d_law [⟨.frz, .scr ns⟩] = some (.ok (.frz (.bl true)), fins) := by
  suffices hw : wpF d_law [⟨.frz, .scr ns⟩] (fun r fins => r = .frz (.bl true)) (fun _ _ => False) by
    obtain ⟨out, fins, e, p⟩ := hw
    cases out with
    | ok r => exact ⟨fins, by rw [e, show r = _ from p]⟩
    | ex x => exact p.elim
  unfold d_law
  rw [wf_fn]
  unfold d_law_b
  walk_at "wp"
  refine pen_w fun d hd => ?_
  walk_at "wp"
  refine ⟨by omega, ?_⟩
  have hr : (rngD 0 (5 + if (ns.length : Int) < 6 then (ns.length : Int) else 6).toNat).length ≤ 11 := by simp [rngD]; omega
  generalize rngD 0 (5 + if (ns.length : Int) < 6 then (ns.length : Int) else 6).toNat = turns at hr
  refine ws_forJ (fun F ds f => ∃ d x2 x3 x4 x5 x6 x7 x8, f = [F[0]?.getD none, some ⟨.own, d⟩, x2, x3, x4, x5, x6, x7, x8] ∧ sfr (some x2) = true ∧ sfr (some x3) = true ∧ sfr (some x4) = true ∧ sfr (some x5) = true ∧ sfr (some x6) = true ∧ sfr (some x7) = true ∧ sfz (some x8) = true ∧ PenR (4000 * ds.length) d) ⟨d, none, none, none, none, none, none, none, rfl, rfl, rfl, rfl, rfl, rfl, rfl, rfl, hd.mono (by omega)⟩ ?_ ?_
  · rintro dd ds f ⟨d, x2, x3, x4, x5, x6, x7, x8, rfl, h2, h3, h4, h5, h6, h7, h8, hd⟩
    simp only [List.length_cons] at hd
    generalize hrr : 4000 * ds.length = r at *
    have hd : PenR (r + 3500) d := hd.mono (by omega)
    walk_at "wp"
    refine ⟨h2, ?_⟩
    refine draw_w hd (by omega) (by omega) fun m d1 m0 m1 hd1 => ?_
    walk_at "wp"
    refine deeds_w (r := r + 3400) (hd1.mono (by omega)) (by omega) (by omega) fun ws d2 w0 wl hd2 => ?_
    have hwl : ws.length ≤ 4 := by omega
    walk_at "wp"
    refine ⟨h3, ?_⟩
    refine draw_w hd2 (by omega) (by omega) fun pl d3 _ _ hd3 => ?_
    walk_at "wp"
    refine shopdraw_w (.inr rfl) (r := r + 1300) (hd3.mono (by omega)) (by omega) fun xs d4 hxl hxs hd4 => ?_
    walk_at "wp"
    refine ⟨h4, ?_⟩
    refine size_w (B := 10) (r := r + 1200) (hd4.mono (by omega)) (by simp) (by simp) (by simp) fun b d5 b0 b1 hd5 => ?_
    walk_at "wp"
    rw [atI_nat (i := 0) (n := 0) rfl (by simpa using w0), List.getElem_map]
    walk_at "wp"
    rw [atI_last (by simpa using w0), List.getElem_map]
    walk_at "wp"
    refine ⟨by omega, ?_⟩
    generalize ws[0] = wa
    generalize ws[ws.length - 1]'_ = wb
    have ey : D.tup [.int b, .dic (kvI [(wa, 2)]), .dic (kvI [(wb, 1)])] = trD (b, [(wa, 2)], [(wb, 1)]) := rfl
    rw [ey, show xs.map trD ++ [trD (b, [(wa, 2)], [(wb, 1)])] = (xs ++ [(b, [(wa, 2)], [(wb, 1)])]).map trD by simp]
    have hys : ∀ y ∈ xs ++ [((b, [(wa, 2)], [(wb, 1)]) : Tr)], TrOk 26 y := by
      intro y hy
      rcases List.mem_append.mp hy with hy | hy
      · have := hxs y hy
        exact ⟨this.b0, this.b1, this.t.mono (Int.le_refl _) (by omega), this.g.mono (Int.le_refl _) (by omega)⟩
      · simp at hy
        subst hy
        exact ⟨b0, by simp; omega, (bg_one (by omega) (by omega)).mono (Int.le_refl _) (by omega), (bg_one (by omega) (by omega)).mono (Int.le_refl _) (by omega)⟩
    have hyl : 0 < (xs ++ [((b, [(wa, 2)], [(wb, 1)]) : Tr)]).length ∧ (xs ++ [((b, [(wa, 2)], [(wb, 1)]) : Tr)]).length ≤ 4 := by simp; omega
    generalize xs ++ [((b, [(wa, 2)], [(wb, 1)]) : Tr)] = ys at *
    have tb : ∀ y ∈ ys, TB y := fun y hy => (hys y hy).tb (by omega)
    have tl : ∀ y ∈ ys, y.2.1.length < 64 ∧ (clT y).2.1.length < 64 := fun y hy => by
      have h1 := (tb y hy).1.len
      have h2 := (tb y hy).1.cl.len
      exact ⟨by omega, by unfold clT; simp only []; omega⟩
    refine stores_w (.inr rfl) (by omega) tb (by omega) ?_
    walk_at "wp"
    refine ⟨h5, h8, ?_⟩
    refine lc_mapA stD (fun x => !plainB x.2.1 x.2.2) stD (by simp [line_is]; omega) ?_ ?_
    · intro y hy
      obtain ⟨x, hx, rfl⟩ := List.mem_map.mp hy
      walk_at "wp"
      refine ⟨rfl, plain_w (n := 0) (tl x hx).2 ?_⟩
      walk_at "wp"
      refine brP_of (fun _ => ?_) fun _ => ?_
      · walk_at "wp"
      · walk_at "wp"
    walk_at "wp"
    refine ⟨h8, h6, ?_⟩
    refine shop_len_w (.inr rfl) ?_
    walk_at "wp"
    refine ⟨by omega, ?_⟩
    refine shop_plain_w (.inr rfl) (by simp; omega) (fun z hz => ?_) ?_
    · obtain ⟨y, hy, rfl⟩ := List.mem_map.mp hz
      exact (tl y hy).2
    walk_at "wp"
    rw [shop_plain_cl]
    walk_at "wp"
    refine ⟨by omega, ?_⟩
    rw [Int.toNat_natCast, rngN]
    refine ws_forJ (fun F ds f => ∃ rest d x7, ds = rest.map (fun i : Nat => D.int (0 + (i : Int))) ∧ f = ((F.set 1 (some ⟨.own, d⟩)).set 7 x7) ∧ sfr (some x7) = true ∧ (∀ i ∈ rest, i < ys.length) ∧ PenR (r + 250 * rest.length) d) ⟨List.range ys.length, d5, x7, rfl, rfl, h7, by simp, hd5.mono (by simp; omega)⟩ ?_ ?_
    · rintro d' ds' f ⟨rest, d6, x7, e2, rfl, h7, hi, hd6⟩
      cases rest with
      | nil => cases e2
      | cons i rest =>
        cases e2
        have hiy := hi i (by simp)
        walk_at "wp"
        refine ⟨h7, ?_⟩
        rw [atI_nat (n := i) (by omega) (by simpa using hiy)]
        walk_at "wp"
        rw [atI_nat (n := i) (by omega) (by simpa using hiy)]
        walk_at "wp"
        simp only [List.getElem_map]
        have hy := List.getElem_mem hiy
        refine isr_w (.inr rfl) (r := r + 250 * rest.length) (hd6.mono (by simp; omega)) w0 (by omega) (hys _ hy) fun d7 hd7 => ?_
        walk_at "wp"
        exact ⟨rest, d7, _, rfl, rfl, by rfl, fun j hj => hi j (by simp [hj]), hd7⟩
    rintro f ⟨rest, d6, x7, e2, rfl, h7, hi, hd6⟩
    have e2 : rest = [] := by simpa using e2.symm
    subst e2
    simp only [List.length_nil, Nat.mul_zero, Nat.add_zero] at hd6
    walk_at "wp"
    refine stores_w (.inr rfl) (by omega) tb (by omega) ?_
    walk_at "wp"
    have tbc : ∀ y ∈ ys.map clT, TB y := fun y hy => by
      obtain ⟨x, hx, rfl⟩ := List.mem_map.mp hy
      exact ⟨(tb x hx).1.cl, (tb x hx).2.cl⟩
    refine shop_eq_w (.inr rfl) (by simp; omega) (by simp; omega) ?_
    rw [beqL_refl tbc]
    walk_at "wp"
    rw [cutD_take (by omega), take_trD, cat_trD, show Int.toNat 1 = 1 from rfl]
    have l1 : (ys.take 1).length = 1 := by rw [List.length_take]; omega
    refine ⟨by simp; omega, ?_⟩
    have tb2 : ∀ y ∈ ys ++ ys.take 1, TB y := fun y hy => by
      rcases List.mem_append.mp hy with hy | hy
      · exact tb y hy
      · exact tb y (List.mem_of_mem_take hy)
    refine stores_w (.inl rfl) (by simp; omega) tb2 (by omega) ?_
    walk_at "wp"
    refine shop_eq_w (.inr rfl) (by simp; omega) (by simp; omega) ?_
    rw [beqL_ne (by simp only [List.length_map, List.length_append, l1]; omega)]
    walk_at "wp"
    refine shop_eqt_w (.inr rfl) ?_
    walk_at "wp"
    rw [← List.map_reverse]
    have tb3 : ∀ y ∈ ys.reverse, TB y := fun y hy => tb y (List.mem_reverse.mp hy)
    refine stores_w (.inl rfl) (by simp; omega) tb3 (by omega) ?_
    walk_at "wp"
    refine shop_eq_w (.inr rfl) (by simp; omega) (by simp; omega) ?_
    rw [beqL_cl tb tb3]
    walk_at "wp"
    rw [← List.map_reverse]
    refine ⟨okE_trl, ?_⟩
    rw [show beqD (.lst (ys.map trD)) (.lst (ys.reverse.map trD)) = beqL (ys.map trD) (ys.reverse.map trD) from rfl]
    walk_at "wp"
    exact ⟨d6, _, _, _, _, _, _, _, rfl, by rfl, by rfl, by rfl, by rfl, by rfl, h7, h8, hd6⟩
  rintro f ⟨d, x2, x3, x4, x5, x6, x7, x8, rfl, h2, h3, h4, h5, h6, h7, h8, hd⟩
  walk_at "wp"
  refine shop_w ?_
  walk_at "wp"
  refine shop_len_w (xs := []) (.inl rfl) ?_
  walk_at "wp"
  refine ⟨by decide, ?_⟩
  rw [show (((0 : Nat) : Int) == 0) = true from rfl]
  walk_at "wp"
  refine shop_w ?_
  walk_at "wp"
  refine shop_plain_w (xs := []) (.inl rfl) (by simp) (by simp) ?_
  walk_at "wp" 
end Pu
end

set_option Elab.async false
set_option linter.all false
set_option maxRecDepth 100000
set_option maxHeartbeats 0
namespace Fi
open PySem L2 U Wk Hd
theorem facts {P : Program} {w : World} {K : PySem.W.Frag} {h : Heap} {mg : Str → Option Value} {f : Addr} (X : K.In h) (G : h.Ns mainGlobals mg) (hfa : mg ("law" : Str) = some (.ref f)) (c : SaysU fus fns K) :
    ∃ fd : FuncData, (∀ (s : Shared) (v : Value), BindsTo s fd ⟨[v], []⟩ [("_law_script", v)]) ∧ ∀ base : Heap, K.In base → base.Ns mainGlobals mg → FnOk P w K mg base (CXw P) 7 f fd ["_law_script"] (spF (wd K) 1 d_law) := by
  let E := mkEnv X G c
  have hg : He.Fa.ok K (.glo "law") = true := c.fact 59 (f := .fa (.glo "law")) rfl
  have e := hfa.symm.trans (He.glo_ok X G hg)
  cases e
  have b := FunD.bindsA (ps := ["_law_script"]) E.F_law fun _ _ _ _ _ _ us hl => match us, hl with | [_], _ => rfl
  exact ⟨E.fd_law, fun s v => b s [v] rfl, fun base _ _ => fn_cxw (ok_law E)⟩
end Fi
open PySem PySem.W PySem.Calls PyProof.Rows
theorem PySem.Challenge.cw_unseenstores_k09_stores_holds : PySem.Challenge.rw_unseenstores_k09_stores.Holds := by
  w_on; o_law
  refine HandSHeadRun.head_any (r := OpenLaw.row PySem.Challenge.rw_unseenstores_k09_stores) (q := view (OpenLaw.row PySem.Challenge.rw_unseenstores_k09_stores).prog [45]) (H := Hd.hk) (ob := Hd.ob) (M := 12000) (loose := Hd.loose) (d := HandSHeadRun.topDef (OpenLaw.row PySem.Challenge.rw_unseenstores_k09_stores).prog 45) (kwd := []) Hd.ob_eq
    (by kernel_rfl) (fun s => by kernel_rfl) Hd.run (by kernel_rfl) (by kernel_rfl) (by kernel_rfl) (by rfl) (by first | assumption | decide +kernel) (by decide +kernel) ⟨rfl, rfl, rfl, rfl, rfl, by decide +kernel⟩ ?hw ?hc
  case hw => w_witness2
  case hc =>
    refine L2.walk_ofE (l := PySem.Challenge.rw_unseenstores_k09_stores) (n := 63) (k := 7) (x := "_law_script") (CX := U.CXw (PySem.Challenge.rw_unseenstores_k09_stores).prog) rfl (by decide) (by kernel_rfl) ⟨rfl, by decide, by decide⟩ ?F (fun _ _ _ _ z => U.cxw_no z)
    intro w mg fa h Y G hmg0
    obtain ⟨K, KX, c⟩ := Y
    have hmg : mg ("law" : PySem.Str) = some (.ref fa) := by
      have e : (HandSHeadRun.topDef (OpenLaw.row PySem.Challenge.rw_unseenstores_k09_stores).prog 45).name = ("law" : PySem.Str) := by kernel_rfl
      rw [← e]
      exact hmg0
    obtain ⟨fd, hb, hF⟩ := Fi.facts (P := (PySem.Challenge.rw_unseenstores_k09_stores).prog) (w := w) KX G hmg c
    refine ⟨K, fd, U.spF (Wk.wd K) 1 Wk.d_law, KX, hb, fun H a ns hl _ hS => ?_, hF⟩
    obtain ⟨fins, e⟩ := Pu.law_true ns hl
    exact U.sp_law (wd := Wk.wd K) hS e
