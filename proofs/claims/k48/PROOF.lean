import PyProof.Rows.All
import Wide.All
import OpenK.AllK
import Wide.FinOn
import HandS.ForMost
import HandS.Deep
import HandS.SortRule
import HandS.SortInts
import HandS.IsInst
import HandS.Zip
import HandS.TupAny
import HandS.Walk
import HandS.More
import HandS.TupSets
import HandS.Dict
import HandS.Conv
import PyProof.MaxThree
import HandS.Style
import PySem.Challenge.RW_clearonce_k48_whole_waits_of_endless_win
set_option Elab.async false
set_option linter.all false
set_option maxRecDepth 100000
set_option maxHeartbeats 4000000
/-! A layer of plain data over the hand layer: what a slot holds as a tree of data, no addresses in sight. -/
namespace DL
open PySem PySem.Spec PyProof.Rows L2

/-! ### data -/
inductive D where
  | non | bl (b : Bool) | int (i : Int) | str (x : Str)
  | tup (ds : List D) | lst (ds : List D)
  | obj (c : Str) (fs : List (Str × D))
  | scr (ns : List Int)
  | dK (kvs : List (Key × D)) | dT (kvs : List (List Key × D))
  /-- the address of a thing that another slot holds -/
  | adr (p : Addr)

section
variable (K : PySem.W.Frag) (mg : Str → Option Value)
mutual
/-- the value v stands for the data d, in the part F of the heap that never changes -/
def Rep (F : Hp) : D → V → Prop
  | .non, v => v = .non
  | .bl b, v => v = .bl b
  | .int i, v => v = .int i
  | .str x, v => v = .str x
  | .tup ds, v => ∃ a vs, v = .ref a ∧ vs.length ≤ sizeLine ∧ F a = some (.tup vs) ∧ Reps F ds vs
  | .lst ds, v => ∃ a vs, v = .ref a ∧ F a = some (.lst vs) ∧ Reps F ds vs
  | .obj c fs, v => ∃ a C dx vs, v = .ref a ∧ F a = some (.ins C dx vs) ∧ mg c = some (.ref C) ∧ RepF F fs vs
  | .scr ns, v => ∃ a, v = .ref a ∧ ns.length ≤ sizeLine ∧ SqL K F a (ns.map V.int)
  | .dK kvs, v => ∃ a vs, v = .ref a ∧ F a = some (.dK vs) ∧ RepK F kvs vs
  | .dT kvs, v => ∃ a vs, v = .ref a ∧ F a = some (.dT vs) ∧ RepT F kvs vs
  | .adr p, v => v = .ref p
def Reps (F : Hp) : List D → List V → Prop
  | [], vs => vs = []
  | d :: ds, vs => ∃ v r, vs = v :: r ∧ Rep F d v ∧ Reps F ds r
def RepF (F : Hp) : List (Str × D) → List (Str × V) → Prop
  | [], vs => vs = []
  | (x, d) :: fs, vs => ∃ v r, vs = (x, v) :: r ∧ Rep F d v ∧ RepF F fs r
def RepK (F : Hp) : List (Key × D) → List (Key × V) → Prop
  | [], vs => vs = []
  | (x, d) :: fs, vs => ∃ v r, vs = (x, v) :: r ∧ Rep F d v ∧ RepK F fs r
def RepT (F : Hp) : List (List Key × D) → List (List Key × V) → Prop
  | [], vs => vs = []
  | (x, d) :: fs, vs => ∃ v r, vs = (x, v) :: r ∧ Rep F d v ∧ RepT F fs r
end
end

theorem Same.seqT {K : PySem.W.Frag} {H H' : Hp} {a : Addr} {xs : List V} (e : Same H H') (h : SqT K H a xs) : SqT K H' a xs := by
  rcases h with (h | ⟨o, h⟩) | h
  · exact .inl (.inl (e _ _ h))
  · exact .inl (.inr ⟨o, e _ _ h⟩)
  · exact .inr h

section
variable {K : PySem.W.Frag} {mg : Str → Option Value} {F F' : Hp}
mutual
theorem Rep.mono (m : Same F F') : ∀ {d : D} {v : V}, Rep K mg F d v → Rep K mg F' d v
  | .non, _, h => h
  | .bl _, _, h => h
  | .int _, _, h => h
  | .str _, _, h => h
  | .tup ds, _, h => by
    simp only [Rep] at h ⊢
    obtain ⟨a, vs, e, z, q, r⟩ := h
    exact ⟨a, vs, e, z, m _ _ q, Reps.mono m r⟩
  | .lst ds, _, h => by
    simp only [Rep] at h ⊢
    obtain ⟨a, vs, e, q, r⟩ := h
    exact ⟨a, vs, e, m _ _ q, Reps.mono m r⟩
  | .obj c fs, _, h => by
    simp only [Rep] at h ⊢
    obtain ⟨a, C, dx, vs, e, q, g, r⟩ := h
    exact ⟨a, C, dx, vs, e, m _ _ q, g, RepF.mono m r⟩
  | .scr ns, _, h => by
    simp only [Rep] at h ⊢
    obtain ⟨a, e, z, q⟩ := h
    exact ⟨a, e, z, m.seq q⟩
  | .dK kvs, _, h => by
    simp only [Rep] at h ⊢
    obtain ⟨a, vs, e, q, r⟩ := h
    exact ⟨a, vs, e, m _ _ q, RepK.mono m r⟩
  | .dT kvs, _, h => by
    simp only [Rep] at h ⊢
    obtain ⟨a, vs, e, q, r⟩ := h
    exact ⟨a, vs, e, m _ _ q, RepT.mono m r⟩
  | .adr _, _, h => h
theorem Reps.mono (m : Same F F') : ∀ {ds : List D} {vs : List V}, Reps K mg F ds vs → Reps K mg F' ds vs
  | [], _, h => h
  | d :: ds, _, h => by
    simp only [Reps] at h ⊢
    obtain ⟨v, r, e, h1, h2⟩ := h
    exact ⟨v, r, e, Rep.mono m h1, Reps.mono m h2⟩
theorem RepF.mono (m : Same F F') : ∀ {fs : List (Str × D)} {vs : List (Str × V)}, RepF K mg F fs vs → RepF K mg F' fs vs
  | [], _, h => h
  | (x, d) :: fs, _, h => by
    simp only [RepF] at h ⊢
    obtain ⟨v, r, e, h1, h2⟩ := h
    exact ⟨v, r, e, Rep.mono m h1, RepF.mono m h2⟩
theorem RepK.mono (m : Same F F') : ∀ {fs : List (Key × D)} {vs : List (Key × V)}, RepK K mg F fs vs → RepK K mg F' fs vs
  | [], _, h => h
  | (x, d) :: fs, _, h => by
    simp only [RepK] at h ⊢
    obtain ⟨v, r, e, h1, h2⟩ := h
    exact ⟨v, r, e, Rep.mono m h1, RepK.mono m h2⟩
theorem RepT.mono (m : Same F F') : ∀ {fs : List (List Key × D)} {vs : List (List Key × V)}, RepT K mg F fs vs → RepT K mg F' fs vs
  | [], _, h => h
  | (x, d) :: fs, _, h => by
    simp only [RepT] at h ⊢
    obtain ⟨v, r, e, h1, h2⟩ := h
    exact ⟨v, r, e, Rep.mono m h1, RepT.mono m h2⟩
end

theorem Reps.length : ∀ {ds : List D} {vs : List V}, Reps K mg F ds vs → ds.length = vs.length
  | [], _, h => by simp only [Reps] at h; subst h; rfl
  | d :: ds, _, h => by
    simp only [Reps] at h
    obtain ⟨v, r, e, _, h2⟩ := h
    subst e
    simp [Reps.length h2]
theorem Reps.get : ∀ {ds : List D} {vs : List V} {i : Nat} {d : D}, Reps K mg F ds vs → ds[i]? = some d → ∃ v, vs[i]? = some v ∧ Rep K mg F d v
  | [], _, _, _, _, e => by simp at e
  | d :: ds, _, 0, _, h, e => by
    simp only [Reps] at h
    obtain ⟨v, r, e1, h1, _⟩ := h
    subst e1
    simp at e; subst e
    exact ⟨v, rfl, h1⟩
  | d :: ds, _, i + 1, _, h, e => by
    simp only [Reps] at h
    obtain ⟨v, r, e1, _, h2⟩ := h
    subst e1
    exact Reps.get (i := i) h2 (by simpa using e)
theorem Reps.getV : ∀ {ds : List D} {vs : List V} {i : Nat} {v : V}, Reps K mg F ds vs → vs[i]? = some v → ∃ d, ds[i]? = some d ∧ Rep K mg F d v
  | [], _, _, _, h, e => by simp only [Reps] at h; subst h; simp at e
  | d :: ds, _, 0, _, h, e => by
    simp only [Reps] at h
    obtain ⟨v, r, e1, h1, _⟩ := h
    subst e1
    simp at e; subst e
    exact ⟨d, rfl, h1⟩
  | d :: ds, _, i + 1, _, h, e => by
    simp only [Reps] at h
    obtain ⟨v, r, e1, _, h2⟩ := h
    subst e1
    exact Reps.getV (i := i) h2 (by simpa using e)
theorem Reps.append : ∀ {ds es : List D} {vs us : List V}, Reps K mg F ds vs → Reps K mg F es us → Reps K mg F (ds ++ es) (vs ++ us)
  | [], _, _, _, h, g => by simp only [Reps] at h; subst h; exact g
  | d :: ds, _, _, _, h, g => by
    simp only [Reps] at h
    obtain ⟨v, r, e1, h1, h2⟩ := h
    subst e1
    exact ⟨v, _, rfl, h1, Reps.append h2 g⟩
theorem Reps.one {d : D} {v : V} (h : Rep K mg F d v) : Reps K mg F [d] [v] := ⟨v, [], rfl, h, rfl⟩
theorem Reps.cons {d : D} {v : V} {ds : List D} {vs : List V} (h : Rep K mg F d v) (r : Reps K mg F ds vs) : Reps K mg F (d :: ds) (v :: vs) := ⟨v, vs, rfl, h, r⟩
theorem Reps.nil : Reps K mg F [] [] := rfl
theorem Reps.take : ∀ (n : Nat) {ds : List D} {vs : List V}, Reps K mg F ds vs → Reps K mg F (ds.take n) (vs.take n)
  | 0, _, _, _ => by simp [Reps]
  | n + 1, [], _, h => by simp only [Reps] at h; subst h; simp [Reps]
  | n + 1, d :: ds, _, h => by
    simp only [Reps] at h
    obtain ⟨v, r, e1, h1, h2⟩ := h
    subst e1
    exact ⟨v, _, rfl, h1, Reps.take n h2⟩
theorem Reps.drop : ∀ (n : Nat) {ds : List D} {vs : List V}, Reps K mg F ds vs → Reps K mg F (ds.drop n) (vs.drop n)
  | 0, _, _, h => h
  | n + 1, [], _, h => by simp only [Reps] at h; subst h; simp [Reps]
  | n + 1, d :: ds, _, h => by
    simp only [Reps] at h
    obtain ⟨v, r, e1, h1, h2⟩ := h
    subst e1
    exact Reps.drop n h2
theorem Reps.set : ∀ (i : Nat) {ds : List D} {vs : List V} {d : D} {v : V}, Reps K mg F ds vs → Rep K mg F d v → Reps K mg F (ds.set i d) (vs.set i v)
  | _, [], _, _, _, h, _ => by simp only [Reps] at h; subst h; simp [Reps]
  | 0, d :: ds, _, _, _, h, g => by
    simp only [Reps] at h
    obtain ⟨v, r, e1, h1, h2⟩ := h
    subst e1
    exact ⟨_, _, rfl, g, h2⟩
  | i + 1, d :: ds, _, _, _, h, g => by
    simp only [Reps] at h
    obtain ⟨v, r, e1, h1, h2⟩ := h
    subst e1
    exact ⟨_, _, rfl, h1, Reps.set i h2 g⟩
theorem Reps.eraseIdx : ∀ (i : Nat) {ds : List D} {vs : List V}, Reps K mg F ds vs → Reps K mg F (ds.eraseIdx i) (vs.eraseIdx i)
  | _, [], _, h => by simp only [Reps] at h; subst h; simp [Reps]
  | 0, d :: ds, _, h => by
    simp only [Reps] at h
    obtain ⟨v, r, e1, h1, h2⟩ := h
    subst e1
    exact h2
  | i + 1, d :: ds, _, h => by
    simp only [Reps] at h
    obtain ⟨v, r, e1, h1, h2⟩ := h
    subst e1
    exact ⟨_, _, rfl, h1, Reps.eraseIdx i h2⟩
theorem Reps.dropLast {ds : List D} {vs : List V} (h : Reps K mg F ds vs) : Reps K mg F ds.dropLast vs.dropLast := by
  rw [List.dropLast_eq_take, List.dropLast_eq_take, h.length]
  exact h.take _
theorem Reps.reverse : ∀ {ds : List D} {vs : List V}, Reps K mg F ds vs → Reps K mg F ds.reverse vs.reverse
  | [], _, h => by simp only [Reps] at h; subst h; simp [Reps]
  | d :: ds, _, h => by
    simp only [Reps] at h
    obtain ⟨v, r, e1, h1, h2⟩ := h
    subst e1
    rw [List.reverse_cons, List.reverse_cons]
    exact (Reps.reverse h2).append (.one h1)
theorem Reps.rep {ds : List D} {vs : List V} (h : Reps K mg F ds vs) : ∀ k : Nat, Reps K mg F (List.replicate k ds).flatten (List.replicate k vs).flatten
  | 0 => rfl
  | k + 1 => by
    rw [List.replicate_succ, List.replicate_succ, List.flatten_cons, List.flatten_cons]
    exact h.append (Reps.rep h k)
theorem Reps.ints : ∀ {ns : List Int} {vs : List V}, Reps K mg F (ns.map D.int) vs → vs = ns.map V.int
  | [], _, h => by simpa only [List.map_nil, Reps] using h
  | n :: ns, _, h => by
    simp only [List.map_cons, Reps, Rep] at h
    obtain ⟨v, r, e1, h1, h2⟩ := h
    subst e1 h1
    rw [Reps.ints h2]
    rfl
theorem Reps.of_ints : ∀ {ns : List Int}, Reps K mg F (ns.map D.int) (ns.map V.int)
  | [] => rfl
  | n :: ns => ⟨_, _, rfl, rfl, Reps.of_ints⟩
theorem RepF.lookup : ∀ {fs : List (Str × D)} {vs : List (Str × V)} {x : Str} {d : D}, RepF K mg F fs vs → fs.lookup x = some d → ∃ v, vs.lookup x = some v ∧ Rep K mg F d v
  | [], _, _, _, _, e => by simp at e
  | (y, d) :: fs, _, x, _, h, e => by
    simp only [RepF] at h
    obtain ⟨v, r, e1, h1, h2⟩ := h
    subst e1
    rw [List.lookup_cons] at e ⊢
    split at e
    · cases e; exact ⟨v, rfl, h1⟩
    · exact RepF.lookup h2 e
theorem RepF.lookup_none : ∀ {fs : List (Str × D)} {vs : List (Str × V)} {x : Str}, RepF K mg F fs vs → fs.lookup x = none → vs.lookup x = none
  | [], _, _, h, _ => by simp only [RepF] at h; subst h; rfl
  | (y, d) :: fs, _, x, h, e => by
    simp only [RepF] at h
    obtain ⟨v, r, e1, h1, h2⟩ := h
    subst e1
    rw [List.lookup_cons] at e ⊢
    split at e
    · cases e
    · exact RepF.lookup_none h2 e
theorem RepF.length : ∀ {fs : List (Str × D)} {vs : List (Str × V)}, RepF K mg F fs vs → fs.length = vs.length
  | [], _, h => by simp only [RepF] at h; subst h; rfl
  | (x, d) :: ds, _, h => by
    simp only [RepF] at h
    obtain ⟨v, r, e, _, h2⟩ := h
    subst e
    simp [RepF.length h2]
theorem RepK.lookup : ∀ {fs : List (Key × D)} {vs : List (Key × V)} {x : Key} {d : D}, RepK K mg F fs vs → fs.lookup x = some d → ∃ v, vs.lookup x = some v ∧ Rep K mg F d v
  | [], _, _, _, _, e => by simp at e
  | (y, d) :: fs, _, x, _, h, e => by
    simp only [RepK] at h
    obtain ⟨v, r, e1, h1, h2⟩ := h
    subst e1
    rw [List.lookup_cons] at e ⊢
    split at e
    · cases e; exact ⟨v, rfl, h1⟩
    · exact RepK.lookup h2 e
theorem RepK.lookup_none : ∀ {fs : List (Key × D)} {vs : List (Key × V)} {x : Key}, RepK K mg F fs vs → fs.lookup x = none → vs.lookup x = none
  | [], _, _, h, _ => by simp only [RepK] at h; subst h; rfl
  | (y, d) :: fs, _, x, h, e => by
    simp only [RepK] at h
    obtain ⟨v, r, e1, h1, h2⟩ := h
    subst e1
    rw [List.lookup_cons] at e ⊢
    split at e
    · cases e
    · exact RepK.lookup_none h2 e
theorem RepK.length : ∀ {fs : List (Key × D)} {vs : List (Key × V)}, RepK K mg F fs vs → fs.length = vs.length
  | [], _, h => by simp only [RepK] at h; subst h; rfl
  | (x, d) :: ds, _, h => by
    simp only [RepK] at h
    obtain ⟨v, r, e, _, h2⟩ := h
    subst e
    simp [RepK.length h2]
theorem RepT.lookup : ∀ {fs : List (List Key × D)} {vs : List (List Key × V)} {x : List Key} {d : D}, RepT K mg F fs vs → fs.lookup x = some d → ∃ v, vs.lookup x = some v ∧ Rep K mg F d v
  | [], _, _, _, _, e => by simp at e
  | (y, d) :: fs, _, x, _, h, e => by
    simp only [RepT] at h
    obtain ⟨v, r, e1, h1, h2⟩ := h
    subst e1
    rw [List.lookup_cons] at e ⊢
    split at e
    · cases e; exact ⟨v, rfl, h1⟩
    · exact RepT.lookup h2 e
theorem RepT.lookup_none : ∀ {fs : List (List Key × D)} {vs : List (List Key × V)} {x : List Key}, RepT K mg F fs vs → fs.lookup x = none → vs.lookup x = none
  | [], _, _, h, _ => by simp only [RepT] at h; subst h; rfl
  | (y, d) :: fs, _, x, h, e => by
    simp only [RepT] at h
    obtain ⟨v, r, e1, h1, h2⟩ := h
    subst e1
    rw [List.lookup_cons] at e ⊢
    split at e
    · cases e
    · exact RepT.lookup_none h2 e
theorem RepT.length : ∀ {fs : List (List Key × D)} {vs : List (List Key × V)}, RepT K mg F fs vs → fs.length = vs.length
  | [], _, h => by simp only [RepT] at h; subst h; rfl
  | (x, d) :: ds, _, h => by
    simp only [RepT] at h
    obtain ⟨v, r, e, _, h2⟩ := h
    subst e
    simp [RepT.length h2]
end

/-- o.f = d, in the order of the first stores -/
def putD (f : Str) (d : D) : List (Str × D) → List (Str × D)
  | [] => [(f, d)]
  | (x, e) :: r => if x = f then (x, d) :: r else (x, e) :: putD f d r
theorem RepF.put {K : PySem.W.Frag} {mg : Str → Option Value} {F : Hp} {f : Str} {d : D} {v : V} (g : Rep K mg F d v) :
    ∀ {fs : List (Str × D)} {vs : List (Str × V)}, RepF K mg F fs vs → RepF K mg F (putD f d fs) (putF f v vs)
  | [], _, h => by
    simp only [RepF] at h; subst h
    exact ⟨v, [], rfl, g, rfl⟩
  | (x, e) :: fs, _, h => by
    simp only [RepF] at h
    obtain ⟨w, r, e1, h1, h2⟩ := h
    subst e1
    unfold putD putF
    by_cases hx : x = f
    · rw [if_pos hx, if_pos hx]
      exact ⟨v, r, rfl, g, h2⟩
    · rw [if_neg hx, if_neg hx]
      exact ⟨w, _, rfl, h1, RepF.put g h2⟩

/-! ### slots and states -/
inductive Sl where
  /-- nothing is known -/
  | no
  /-- data that never changes -/
  | val (d : D)
  /-- a list that this slot alone holds -/
  | own (ds : List D)
  /-- an instance that this slot alone holds -/
  | oob (c : Str) (fs : List (Str × D))
  /-- a dict that this slot alone holds -/
  | odK (kvs : List (Key × D)) | odT (kvs : List (List Key × D))
  /-- a list that this slot alone holds, at a known address -/
  | ownA (a : Addr) (ds : List D)
def Sl.isOwn : Sl → Bool
  | .own _ => true
  | .oob _ _ => true
  | .odK _ => true
  | .odT _ => true
  | .ownA _ _ => true
  | _ => false
abbrev En := List Sl

section
variable (K : PySem.W.Frag) (mg : Str → Option Value)
def OwR (F H : Hp) : Sl → Addr → Prop
  | .own ds, p => F p = none ∧ ∃ vs, H p = some (.lst vs) ∧ Reps K mg F ds vs
  | .oob c fs, p => F p = none ∧ ∃ C dx vs, H p = some (.ins C dx vs) ∧ mg c = some (.ref C) ∧ RepF K mg F fs vs
  | .odK kvs, p => F p = none ∧ ∃ vs, H p = some (.dK vs) ∧ RepK K mg F kvs vs
  | .odT kvs, p => F p = none ∧ ∃ vs, H p = some (.dT vs) ∧ RepT K mg F kvs vs
  | .ownA a ds, p => F p = none ∧ p = a ∧ ∃ vs, H p = some (.lst vs) ∧ Reps K mg F ds vs
  | _, _ => False
def SlR (F H : Hp) : Sl → Option V → Prop
  | .no, _ => True
  | .val d, ov => ∃ v, ov = some v ∧ Rep K mg F d v
  | s, ov => ∃ p, ov = some (.ref p) ∧ OwR K mg F H s p
end
/-- slot i holds the address p alone -/
def OwA (ρ : En) (σ : L2.St) (i : Nat) (p : Addr) : Prop := (∃ s, ρ[i]? = some s ∧ s.isOwn = true) ∧ σ[i]? = some (some (.ref p))
def Ow (ρ : En) (σ : L2.St) (p : Addr) : Prop := ∃ i, OwA ρ σ i p
/-- the lists and tuples of the heap are no longer than the line -/
def Siz (H : Hp) : Prop := ∀ p vs, H p = some (.lst vs) → vs.length ≤ sizeLine
section
variable (K : PySem.W.Frag) (mg : Str → Option Value)
structure SR (F : Hp) (ρ : En) (σ : L2.St) (H : Hp) : Prop where
  same : Same F H
  siz : Siz H
  len : ρ.length = σ.length
  sl : ∀ (i : Nat) (s : Sl), ρ[i]? = some s → ∃ ov, σ[i]? = some ov ∧ SlR K mg F H s ov
  sep : ∀ (i j : Nat) (p : Addr), OwA ρ σ i p → OwA ρ σ j p → i = j
end
/-- how a step moves -/
structure Stp (F : Hp) (ρ : En) (σ : L2.St) (H : Hp) (F' : Hp) (ρ' : En) (σ' : L2.St) (H' : Hp) : Prop where
  sF : Same F F'
  fr : ∀ q o, H q = some o → ¬ Ow ρ σ q → H' q = some o
  un : ∀ q o, H q = some o → F q = none → ¬ Ow ρ σ q → F' q = none
  ow : ∀ q, Ow ρ' σ' q → Ow ρ σ q ∨ H q = none
theorem Stp.refl {F : Hp} {ρ : En} {σ : L2.St} {H : Hp} : Stp F ρ σ H F ρ σ H := ⟨Same.refl _, fun _ _ h _ => h, fun _ _ _ h _ => h, fun _ h => .inl h⟩
theorem Stp.trans {F : Hp} {ρ : En} {σ : L2.St} {H : Hp} {F1 : Hp} {ρ1 : En} {σ1 : L2.St} {H1 : Hp} {F2 : Hp} {ρ2 : En} {σ2 : L2.St} {H2 : Hp}
    (a : Stp F ρ σ H F1 ρ1 σ1 H1) (b : Stp F1 ρ1 σ1 H1 F2 ρ2 σ2 H2) : Stp F ρ σ H F2 ρ2 σ2 H2 := by
  have nw : ∀ q o, H q = some o → ¬ Ow ρ σ q → ¬ Ow ρ1 σ1 q := fun q o h n m => by
    rcases a.ow q m with z | z
    · exact n z
    · rw [h] at z; cases z
  refine ⟨a.sF.trans b.sF, fun q o h n => b.fr q o (a.fr q o h n) (nw q o h n), fun q o h f n => b.un q o (a.fr q o h n) (a.un q o h f n) (nw q o h n), fun q h => ?_⟩
  rcases b.ow q h with z | z
  · exact a.ow q z
  · by_cases n : Ow ρ σ q
    · exact .inl n
    · refine .inr ?_
      cases e : H q with
      | none => rfl
      | some o => rw [a.fr q o e n] at z; cases z

section
variable {K : PySem.W.Frag} {mg : Str → Option Value} {F F' H H' : Hp} {ρ ρ' : En} {σ σ' : L2.St} {i : Nat} {p : Addr}
theorem SR.val (R : SR K mg F ρ σ H) {d : D} (h : ρ[i]? = some (.val d)) : ∃ v, σ[i]? = some (some v) ∧ Rep K mg F d v := by
  obtain ⟨ov, e, v, rfl, r⟩ := R.sl i _ h
  exact ⟨v, e, r⟩
theorem SR.own (R : SR K mg F ρ σ H) {ds : List D} (h : ρ[i]? = some (.own ds)) : ∃ p vs, σ[i]? = some (some (.ref p)) ∧ F p = none ∧ H p = some (.lst vs) ∧ Reps K mg F ds vs ∧ OwA ρ σ i p := by
  obtain ⟨ov, e, p, rfl, f, vs, g, r⟩ := R.sl i _ h
  exact ⟨p, vs, e, f, g, r, ⟨_, h, rfl⟩, e⟩
theorem SR.oob (R : SR K mg F ρ σ H) {c : Str} {fs : List (Str × D)} (h : ρ[i]? = some (.oob c fs)) : ∃ p C dx vs, σ[i]? = some (some (.ref p)) ∧ F p = none ∧ H p = some (.ins C dx vs) ∧ mg c = some (.ref C) ∧ RepF K mg F fs vs ∧ OwA ρ σ i p := by
  obtain ⟨ov, e, p, rfl, f, C, dx, vs, g, m, r⟩ := R.sl i _ h
  exact ⟨p, C, dx, vs, e, f, g, m, r, ⟨_, h, rfl⟩, e⟩
theorem OwR.fN {s : Sl} (h : OwR K mg F H s p) : F p = none := by
  cases s <;> first | exact h.1 | exact h.elim
theorem OwR.hS {s : Sl} (h : OwR K mg F H s p) : ∃ o, H p = some o := by
  cases s with
  | own ds => obtain ⟨_, vs, e, _⟩ := h; exact ⟨_, e⟩
  | oob c fs => obtain ⟨_, C, dx, vs, e, _⟩ := h; exact ⟨_, e⟩
  | odK kvs => obtain ⟨_, vs, e, _⟩ := h; exact ⟨_, e⟩
  | odT kvs => obtain ⟨_, vs, e, _⟩ := h; exact ⟨_, e⟩
  | ownA a ds => obtain ⟨_, _, vs, e, _⟩ := h; exact ⟨_, e⟩
  | no => exact h.elim
  | val d => exact h.elim
theorem OwR.isOwn {s : Sl} (h : OwR K mg F H s p) : s.isOwn = true := by
  cases s <;> first | rfl | exact h.elim
theorem SlR.ow {s : Sl} {ov : Option V} (h : SlR K mg F H s ov) (o : s.isOwn = true) : ∃ p, ov = some (.ref p) ∧ OwR K mg F H s p := by
  cases s with
  | own ds => exact h
  | oob c fs => exact h
  | odK kvs => exact h
  | odT kvs => exact h
  | ownA a ds => exact h
  | no => cases o
  | val d => cases o
theorem SlR.of_ow {s : Sl} (h : OwR K mg F H s p) : SlR K mg F H s (some (.ref p)) := by
  cases s with
  | own ds => exact ⟨p, rfl, h⟩
  | oob c fs => exact ⟨p, rfl, h⟩
  | odK kvs => exact ⟨p, rfl, h⟩
  | odT kvs => exact ⟨p, rfl, h⟩
  | ownA a ds => exact ⟨p, rfl, h⟩
  | no => exact h.elim
  | val d => exact h.elim
theorem OwR.mono {s : Sl} (h : OwR K mg F H s p) (m : Same F F') (f : F' p = none) (e : H' p = H p) : OwR K mg F' H' s p := by
  cases s with
  | own ds => obtain ⟨_, vs, g, r⟩ := h; exact ⟨f, vs, e.trans g, r.mono m⟩
  | oob c fs => obtain ⟨_, C, dx, vs, g, c, r⟩ := h; exact ⟨f, C, dx, vs, e.trans g, c, r.mono m⟩
  | odK kvs => obtain ⟨_, vs, g, r⟩ := h; exact ⟨f, vs, e.trans g, r.mono m⟩
  | odT kvs => obtain ⟨_, vs, g, r⟩ := h; exact ⟨f, vs, e.trans g, r.mono m⟩
  | ownA a ds => obtain ⟨_, k, vs, g, r⟩ := h; exact ⟨f, k, vs, e.trans g, r.mono m⟩
  | no => exact h.elim
  | val d => exact h.elim
theorem SR.ow (R : SR K mg F ρ σ H) (h : OwA ρ σ i p) : ∃ s, ρ[i]? = some s ∧ OwR K mg F H s p := by
  obtain ⟨⟨s, e, o⟩, e2⟩ := h
  obtain ⟨ov, e3, r⟩ := R.sl i s e
  obtain ⟨q, e4, r2⟩ := r.ow o
  rw [e2, e4] at e3
  cases e3
  exact ⟨s, e, r2⟩
theorem SR.owF (R : SR K mg F ρ σ H) (h : Ow ρ σ p) : F p = none := by
  obtain ⟨i, h⟩ := h
  obtain ⟨s, _, r⟩ := R.ow h
  exact r.fN
theorem SR.owH (R : SR K mg F ρ σ H) (h : Ow ρ σ p) : ∃ o, H p = some o := by
  obtain ⟨i, h⟩ := h
  obtain ⟨s, _, r⟩ := R.ow h
  exact r.hS
theorem SR.nw (R : SR K mg F ρ σ H) (h : H p = none) : ¬ Ow ρ σ p := fun w => by
  obtain ⟨o, e⟩ := R.owH w
  rw [h] at e; cases e

/-- the heap and its fixed part grow, the owned things stand -/
theorem SR.grow (R : SR K mg F ρ σ H) (m : Same F F') (m2 : Same F' H') (z : Siz H') (hk : ∀ q, Ow ρ σ q → F' q = none ∧ H' q = H q) : SR K mg F' ρ σ H' := by
  refine ⟨m2, z, R.len, fun i s e => ?_, R.sep⟩
  obtain ⟨ov, e2, r⟩ := R.sl i s e
  refine ⟨ov, e2, ?_⟩
  by_cases o : s.isOwn = true
  · obtain ⟨p, e4, r2⟩ := r.ow o
    subst e4
    obtain ⟨k1, k2⟩ := hk p ⟨i, ⟨s, e, o⟩, e2⟩
    exact SlR.of_ow (r2.mono m k1 k2)
  · cases s with
    | no => trivial
    | val d => obtain ⟨v, q, r⟩ := r; exact ⟨v, q, r.mono m⟩
    | own ds => exact absurd rfl o
    | oob c fs => exact absurd rfl o
    | odK kvs => exact absurd rfl o
    | odT kvs => exact absurd rfl o
    | ownA a ds => exact absurd rfl o
end
end DL
namespace DL
open PySem PySem.Spec PyProof.Rows L2
section
variable {K : PySem.W.Frag} {mg : Str → Option Value} {F F' H H' : Hp} {ρ ρ' : En} {σ σ' : L2.St} {i : Nat} {p : Addr}

/-! ### moves of the state -/
def SzO : HO → Prop
  | .lst xs => xs.length ≤ sizeLine
  | _ => True
theorem Siz.upd (z : Siz H) {o : HO} (h : SzO o) : Siz (upd H p o) := fun q vs e => by
  by_cases hq : q = p
  · subst hq
    rw [upd_same] at e
    cases e
    exact h
  · rw [upd_ne hq] at e
    exact z q vs e
theorem same_new {o : HO} (h : H p = none) : Same H (upd H p o) := fun b x e => by
  rw [upd_ne (ne_of_none e h)]
  exact e
theorem same_both {o : HO} (m : Same F H) : Same (upd F p o) (upd H p o) := fun b x e => by
  by_cases hb : b = p
  · subst hb; rw [upd_same] at e ⊢; exact e
  · rw [upd_ne hb] at e ⊢; exact m b x e
/-- a new thing that never changes -/
theorem SR.alloc (R : SR K mg F ρ σ H) {o : HO} (h : H p = none) (z : SzO o) : SR K mg (upd F p o) ρ σ (upd H p o) ∧ Stp F ρ σ H (upd F p o) ρ σ (upd H p o) := by
  have f : F p = none := R.same.free h
  have nw := R.nw h
  refine ⟨R.grow (same_new f) (same_both R.same) (R.siz.upd z) fun q w => ?_, ⟨same_new f, fun q u e _ => ?_, fun q u e g _ => ?_, fun q w => .inl w⟩⟩
  · have hq : q ≠ p := fun e => nw (e ▸ w)
    rw [upd_ne hq, upd_ne hq]
    exact ⟨R.owF w, rfl⟩
  · rw [upd_ne (ne_of_none e h)]; exact e
  · rw [upd_ne (ne_of_none e h)]; exact g
/-- a new thing that may change -/
theorem SR.fresh (R : SR K mg F ρ σ H) {o : HO} (h : H p = none) (z : SzO o) : SR K mg F ρ σ (upd H p o) ∧ Stp F ρ σ H F ρ σ (upd H p o) := by
  have nw := R.nw h
  refine ⟨R.grow (Same.refl _) (R.same.trans (same_new h)) (R.siz.upd z) fun q w => ?_, ⟨Same.refl _, fun q u e _ => ?_, fun q u e g _ => g, fun q w => .inl w⟩⟩
  · have hq : q ≠ p := fun e => nw (e ▸ w)
    rw [upd_ne hq]
    exact ⟨R.owF w, rfl⟩
  · rw [upd_ne (ne_of_none e h)]; exact e
/-- a thing that nobody holds is fixed -/
theorem SR.fix (R : SR K mg F ρ σ H) {o : HO} (h : H p = some o) (f : F p = none) (n : ¬ Ow ρ σ p) : SR K mg (upd F p o) ρ σ H := by
  refine R.grow (same_new f) (fun b x e => ?_) R.siz fun q w => ?_
  · by_cases hb : b = p
    · subst hb; rw [upd_same] at e; cases e; exact h
    · rw [upd_ne hb] at e; exact R.same b x e
  · have hq : q ≠ p := fun e => n (e ▸ w)
    rw [upd_ne hq]
    exact ⟨R.owF w, rfl⟩
theorem Stp.fix {F0 : Hp} {ρ0 : En} {σ0 : L2.St} {H0 : Hp} (S : Stp F0 ρ0 σ0 H0 F ρ σ H) {o : HO} (f : F p = none) (n : Ow ρ0 σ0 p ∨ H0 p = none) : Stp F0 ρ0 σ0 H0 (upd F p o) ρ σ H := by
  refine ⟨S.sF.trans (same_new f), S.fr, fun q u e g w => ?_, S.ow⟩
  have hq : q ≠ p := fun z => by
    subst z
    rcases n with n | n
    · exact w n
    · rw [e] at n; cases n
  rw [upd_ne hq]
  exact S.un q u e g w

/-! ### slots set -/
theorem OwA.set_ne {j : Nat} {s : Sl} {ov : Option V} (h : OwA (ρ.set i s) (σ.set i ov) j p) (n : i ≠ j) : OwA ρ σ j p := by
  obtain ⟨⟨u, e, o⟩, e2⟩ := h
  rw [List.getElem?_set_ne n] at e e2
  exact ⟨⟨u, e, o⟩, e2⟩
theorem OwA.set_ne' {j : Nat} {s : Sl} (h : OwA (ρ.set i s) σ j p) (n : i ≠ j) : OwA ρ σ j p := by
  obtain ⟨⟨u, e, o⟩, e2⟩ := h
  rw [List.getElem?_set_ne n] at e
  exact ⟨⟨u, e, o⟩, e2⟩
theorem OwA.own_at {s : Sl} {ov : Option V} (h : OwA (ρ.set i s) (σ.set i ov) i p) : s.isOwn = true ∧ ov = some (.ref p) := by
  obtain ⟨⟨u, e, o⟩, e2⟩ := h
  rw [List.getElem?_set] at e e2
  simp only [if_true] at e e2
  split at e
  · cases e
    split at e2
    · cases e2; exact ⟨o, rfl⟩
    · cases e2
  · cases e
theorem OwA.own_at' {s : Sl} (h : OwA (ρ.set i s) σ i p) : s.isOwn = true ∧ σ[i]? = some (some (.ref p)) := by
  obtain ⟨⟨u, e, o⟩, e2⟩ := h
  rw [List.getElem?_set] at e
  simp only [if_true] at e
  split at e
  · cases e; exact ⟨o, e2⟩
  · cases e
theorem Ow.set {s : Sl} {ov : Option V} (h : Ow (ρ.set i s) (σ.set i ov) p) : Ow ρ σ p ∨ (s.isOwn = true ∧ ov = some (.ref p)) := by
  obtain ⟨j, h⟩ := h
  by_cases n : i = j
  · subst n; exact .inr h.own_at
  · exact .inl ⟨j, h.set_ne n⟩
theorem Ow.set' {s : Sl} (h : Ow (ρ.set i s) σ p) : Ow ρ σ p ∨ (s.isOwn = true ∧ σ[i]? = some (some (.ref p))) := by
  obtain ⟨j, h⟩ := h
  by_cases n : i = j
  · subst n; exact .inr h.own_at'
  · exact .inl ⟨j, h.set_ne' n⟩
/-- slot i takes a value -/
theorem SR.put (R : SR K mg F ρ σ H) {s : Sl} {v : V} (h : SlR K mg F H s (some v)) (n : ∀ p, s.isOwn = true → v = .ref p → ¬ Ow ρ σ p) : SR K mg F (ρ.set i s) (σ.set i (some v)) H := by
  refine ⟨R.same, R.siz, by rw [List.length_set, List.length_set]; exact R.len, fun j u e => ?_, fun j k p a b => ?_⟩
  · rw [List.getElem?_set] at e ⊢
    by_cases hj : i = j
    · subst hj
      simp only [if_true] at e ⊢
      split at e
      · rename_i lt
        cases e
        rw [if_pos (by rw [← R.len]; exact lt)]
        exact ⟨_, rfl, h⟩
      · cases e
    · rw [if_neg hj] at e ⊢
      exact R.sl j u e
  · by_cases hj : i = j
    · by_cases hk : i = k
      · rw [← hj, ← hk]
      · subst hj
        obtain ⟨o, e⟩ := a.own_at
        exact absurd ⟨k, b.set_ne hk⟩ (n p o (Option.some.inj e))
    · by_cases hk : i = k
      · subst hk
        obtain ⟨o, e⟩ := b.own_at
        exact absurd ⟨j, a.set_ne hj⟩ (n p o (Option.some.inj e))
      · exact R.sep j k p (a.set_ne hj) (b.set_ne hk)
/-- slot i is known less, or as data that never changes -/
theorem SR.know (R : SR K mg F ρ σ H) {s : Sl} (o : s.isOwn = false) (h : ∀ ov, σ[i]? = some ov → SlR K mg F H s ov) : SR K mg F (ρ.set i s) σ H := by
  have na : ∀ p, ¬ OwA (ρ.set i s) σ i p := fun p a => by rw [a.own_at'.1] at o; cases o
  refine ⟨R.same, R.siz, by rw [List.length_set]; exact R.len, fun j u e => ?_, fun j k p a b => ?_⟩
  · rw [List.getElem?_set] at e
    by_cases hj : i = j
    · subst hj
      simp only [if_true] at e
      split at e
      · rename_i lt
        cases e
        have lt' : i < σ.length := by rw [← R.len]; exact lt
        exact ⟨σ[i], List.getElem?_eq_getElem lt', h _ (List.getElem?_eq_getElem lt')⟩
      · cases e
    · rw [if_neg hj] at e
      exact R.sl j u e
  · by_cases hj : i = j
    · subst hj; exact absurd a (na p)
    · by_cases hk : i = k
      · subst hk; exact absurd b (na p)
      · exact R.sep j k p (a.set_ne' hj) (b.set_ne' hk)
theorem Ow.know {s : Sl} (o : s.isOwn = false) (h : Ow (ρ.set i s) σ p) : Ow ρ σ p := by
  rcases h.set' with h | ⟨h, _⟩
  · exact h
  · rw [h] at o; cases o
theorem not_ow_at (R : SR K mg F ρ σ H) {s : Sl} (o : s.isOwn = false) (h : OwA ρ σ i p) : ¬ Ow (ρ.set i s) σ p := fun ⟨j, w⟩ => by
  by_cases n : i = j
  · subst n; rw [w.own_at'.1] at o; cases o
  · exact n (R.sep i j p h (w.set_ne' n))
theorem Stp.know {F0 : Hp} {ρ0 : En} {σ0 : L2.St} {H0 : Hp} (S : Stp F0 ρ0 σ0 H0 F ρ σ H) {s : Sl} (o : s.isOwn = false) : Stp F0 ρ0 σ0 H0 F (ρ.set i s) σ H :=
  ⟨S.sF, S.fr, S.un, fun q w => S.ow q (w.know o)⟩

/-! ### what an owned thing is as data -/
def frz : Sl → Option D
  | .val d => some d
  | .own ds => some (.lst ds)
  | .odK kvs => some (.dK kvs)
  | .odT kvs => some (.dT kvs)
  | .oob c fs => some (.obj c fs)
  | .no => none
  | .ownA _ ds => some (.lst ds)
theorem OwR.fixed {s : Sl} {d : D} (h : OwR K mg F H s p) (e : frz s = some d) : ∃ o, H p = some o ∧ (∀ vs, o = .lst vs → True) ∧ Rep K mg (L2.upd F p o) d (.ref p) := by
  have m : ∀ o, Same F (L2.upd F p o) := fun o => same_new h.fN
  cases s with
  | no => exact h.elim
  | val d => exact h.elim
  | ownA a ds =>
    cases e
    obtain ⟨_, _, vs, g, r⟩ := h
    refine ⟨_, g, fun _ _ => trivial, ?_⟩
    simp only [Rep]
    exact ⟨p, vs, rfl, upd_same, r.mono (m _)⟩
  | own ds =>
    cases e
    obtain ⟨_, vs, g, r⟩ := h
    refine ⟨_, g, fun _ _ => trivial, ?_⟩
    simp only [Rep]
    exact ⟨p, vs, rfl, upd_same, r.mono (m _)⟩
  | odK ds =>
    cases e
    obtain ⟨_, vs, g, r⟩ := h
    refine ⟨_, g, fun _ _ => trivial, ?_⟩
    simp only [Rep]
    exact ⟨p, vs, rfl, upd_same, r.mono (m _)⟩
  | odT ds =>
    cases e
    obtain ⟨_, vs, g, r⟩ := h
    refine ⟨_, g, fun _ _ => trivial, ?_⟩
    simp only [Rep]
    exact ⟨p, vs, rfl, upd_same, r.mono (m _)⟩
  | oob c fs =>
    cases e
    obtain ⟨_, C, dx, vs, g, c, r⟩ := h
    refine ⟨_, g, fun _ _ => trivial, ?_⟩
    simp only [Rep]
    exact ⟨p, C, dx, vs, rfl, upd_same, c, r.mono (m _)⟩
end

/-! ### readings over data -/
section
variable (K : PySem.W.Frag) (mg : Str → Option Value)
/-- the value of an expression: data that never changes, or a thing that nobody else holds, new since the start -/
def WV (F : Hp) (ρ : En) (σ : L2.St) (H : Hp) (ρ0 : En) (σ0 : L2.St) (H0 : Hp) (s : Sl) (v : V) : Prop :=
  match s with
  | .no => False
  | .val d => Rep K mg F d v
  | s => ∃ p, v = .ref p ∧ OwR K mg F H s p ∧ ¬ Ow ρ σ p ∧ (Ow ρ0 σ0 p ∨ H0 p = none)
abbrev FE := En → Option (Sl × En)
abbrev FD := En → Option (D × En)
abbrev FT := En → Option (Bool × En)
abbrev FAr := En → Option (List D × En)
def EvW (t : TE) (f : FE) : Prop := ∀ F ρ σ H, SR K mg F ρ σ H → ∀ s ρ', f ρ = some (s, ρ') → ∀ Q : VK,
  (∀ v F' H', SR K mg F' ρ' σ H' → Stp F ρ σ H F' ρ' σ H' → WV K mg F' ρ' σ H' ρ σ H s v → Q v H') → t σ H Q
def EvD (t : TE) (f : FD) : Prop := ∀ F ρ σ H, SR K mg F ρ σ H → ∀ d ρ', f ρ = some (d, ρ') → ∀ Q : VK,
  (∀ v F' H', SR K mg F' ρ' σ H' → Stp F ρ σ H F' ρ' σ H' → Rep K mg F' d v → Q v H') → t σ H Q
def EvT (t : TT) (f : FT) : Prop := ∀ F ρ σ H, SR K mg F ρ σ H → ∀ b ρ', f ρ = some (b, ρ') → ∀ Q : Bool → Hp → Prop,
  (∀ F' H', SR K mg F' ρ' σ H' → Stp F ρ σ H F' ρ' σ H' → Q b H') → t σ H Q
def EvA (t : TA) (f : FAr) : Prop := ∀ F ρ σ H, SR K mg F ρ σ H → ∀ ds ρ', f ρ = some (ds, ρ') → ∀ Q : List V → Hp → Prop,
  (∀ vs F' H', SR K mg F' ρ' σ H' → Stp F ρ σ H F' ρ' σ H' → Reps K mg F' ds vs → Q vs H') → t σ H Q
end
def vl (f : FE) : FD := fun ρ => (f ρ).bind fun p => (frz p.1).map fun d => (d, p.2)

section
variable {K : PySem.W.Frag} {mg : Str → Option Value}
theorem WV.val {F : Hp} {ρ : En} {σ : L2.St} {H : Hp} {ρ0 : En} {σ0 : L2.St} {H0 : Hp} {d : D} {v : V} (h : Rep K mg F d v) : WV K mg F ρ σ H ρ0 σ0 H0 (.val d) v := h
theorem WV.own {F : Hp} {ρ : En} {σ : L2.St} {H : Hp} {ρ0 : En} {σ0 : L2.St} {H0 : Hp} {s : Sl} {v : V} (h : WV K mg F ρ σ H ρ0 σ0 H0 s v) (o : s.isOwn = true) : ∃ p, v = .ref p ∧ OwR K mg F H s p ∧ ¬ Ow ρ σ p ∧ (Ow ρ0 σ0 p ∨ H0 p = none) := by
  cases s <;> first | exact h | cases o
theorem WV.of_own {F : Hp} {ρ : En} {σ : L2.St} {H : Hp} {ρ0 : En} {σ0 : L2.St} {H0 : Hp} {s : Sl} {p : Addr} (h : OwR K mg F H s p) (n : ¬ Ow ρ σ p) (w : Ow ρ0 σ0 p ∨ H0 p = none) : WV K mg F ρ σ H ρ0 σ0 H0 s (.ref p) := by
  cases s with
  | no => exact h.elim
  | val d => exact h.elim
  | own ds => exact ⟨p, rfl, h, n, w⟩
  | oob c fs => exact ⟨p, rfl, h, n, w⟩
  | odK ds => exact ⟨p, rfl, h, n, w⟩
  | odT ds => exact ⟨p, rfl, h, n, w⟩
  | ownA a ds => exact ⟨p, rfl, h, n, w⟩
/-- the start moves back -/
theorem WV.back {F : Hp} {ρ : En} {σ : L2.St} {H : Hp} {F1 : Hp} {ρ1 : En} {σ1 : L2.St} {H1 : Hp} {F0 : Hp} {ρ0 : En} {σ0 : L2.St} {H0 : Hp} {s : Sl} {v : V} (S : Stp F0 ρ0 σ0 H0 F1 ρ1 σ1 H1) (h : WV K mg F ρ σ H ρ1 σ1 H1 s v) : WV K mg F ρ σ H ρ0 σ0 H0 s v := by
  by_cases o : s.isOwn = true
  · obtain ⟨p, rfl, g, n, w⟩ := h.own o
    refine .of_own g n ?_
    rcases w with w | w
    · exact S.ow p w
    · by_cases n : Ow ρ0 σ0 p
      · exact .inl n
      · refine .inr ?_
        cases e : H0 p with
        | none => rfl
        | some u => rw [S.fr p u e n] at w; cases w
  · cases s <;> first | exact h | exact absurd rfl o
/-- what is fixed of a value -/
theorem WV.fixed {F : Hp} {ρ : En} {σ : L2.St} {H : Hp} {F0 : Hp} {ρ0 : En} {σ0 : L2.St} {H0 : Hp} {s : Sl} {v : V} {d : D} (R : SR K mg F ρ σ H) (S : Stp F0 ρ0 σ0 H0 F ρ σ H) (h : WV K mg F ρ σ H ρ0 σ0 H0 s v) (e : frz s = some d) :
    ∃ F', SR K mg F' ρ σ H ∧ Stp F0 ρ0 σ0 H0 F' ρ σ H ∧ Rep K mg F' d v := by
  by_cases o : s.isOwn = true
  · obtain ⟨p, rfl, g, n, w⟩ := h.own o
    obtain ⟨ob, eo, _, r⟩ := g.fixed e
    exact ⟨_, R.fix eo g.fN n, S.fix g.fN w, r⟩
  · cases s with
    | val d => cases e; exact ⟨F, R, S, h⟩
    | no => cases e
    | own ds => exact absurd rfl o
    | oob c fs => exact absurd rfl o
    | odK ds => exact absurd rfl o
    | odT ds => exact absurd rfl o
    | ownA a ds => exact absurd rfl o
theorem EvW.frz {t : TE} {f : FE} (h : EvW K mg t f) : EvD K mg t (vl f) := fun F ρ σ H R d ρ' e Q q => by
  unfold vl at e
  cases e1 : f ρ with
  | none => rw [e1] at e; cases e
  | some p =>
    obtain ⟨s, ρ1⟩ := p
    rw [e1] at e
    cases e2 : DL.frz s with
    | none => simp only [Option.bind_some, e2, Option.map_none] at e; cases e
    | some d1 =>
      simp only [Option.bind_some, e2, Option.map_some, Option.some.injEq, Prod.mk.injEq] at e
      obtain ⟨rfl, rfl⟩ := e
      refine h F ρ σ H R s ρ1 e1 Q fun v F' H' R' S' w => ?_
      obtain ⟨F2, R2, S2, r⟩ := w.fixed R' S' e2
      exact q v F2 H' R2 S2 r
end
end DL
namespace DL
open PySem PySem.Spec PyProof.Rows L2
noncomputable section
/-! ### combinators -/
def fC (d : D) : FE := fun ρ => some (.val d, ρ)
def fName (i : Nat) : FE := fun ρ => match ρ[i]? with
  | some (.val d) => some (.val d, ρ)
  | some s => (frz s).map fun d => (.val d, ρ.set i (.val d))
  | none => none
def fMove (i : Nat) : FE := fun ρ => match ρ[i]? with
  | some (.val d) => some (.val d, ρ)
  | some s => if s.isOwn = true then some (s, ρ.set i .no) else none
  | none => none
def fOp2 (g : D → D → Option Sl) (fa fb : FE) : FE := fun ρ => (vl fa ρ).bind fun p => (vl fb p.2).bind fun q => (g p.1 q.1).map fun s => (s, q.2)
def fOp1 (g : D → Option Sl) (fa : FE) : FE := fun ρ => (vl fa ρ).bind fun p => (g p.1).map fun s => (s, p.2)
def known : Sl → Bool
  | .no => false
  | _ => true
def knownAt (ρ : En) (i : Nat) : Bool := match ρ[i]? with
  | some s => known s
  | none => false
/-- an operation upon what slot i holds and a value -/
def fOpN (g : Sl → D → Option D) (i : Nat) (fb : FE) : FE := fun ρ => if knownAt ρ i = true then (vl fb ρ).bind fun q => (q.2[i]?).bind fun s => (g s q.1).map fun d => (.val d, q.2) else none

section
variable {K : PySem.W.Frag} {mg : Str → Option Value}
theorem ev_c {d : D} {v : V} (h : ∀ F, Rep K mg F d v) : EvW K mg (tC v) (fC d) := fun F ρ σ H R s ρ' e Q q => by
  cases e
  exact q v F H R .refl (h F)
theorem SR.fixAt {F : Hp} {ρ : En} {σ : L2.St} {H : Hp} {i : Nat} {s : Sl} {d : D} (R : SR K mg F ρ σ H) (e : ρ[i]? = some s) (o : s.isOwn = true) (f : frz s = some d) :
    ∃ v F', σ[i]? = some (some v) ∧ SR K mg F' (ρ.set i (.val d)) σ H ∧ Stp F ρ σ H F' (ρ.set i (.val d)) σ H ∧ Rep K mg F' d v := by
  obtain ⟨ov, e2, r⟩ := R.sl i s e
  obtain ⟨p, rfl, g⟩ := r.ow o
  obtain ⟨ob, eo, _, r⟩ := g.fixed f
  have a : OwA ρ σ i p := ⟨⟨s, e, o⟩, e2⟩
  have n := not_ow_at (s := .no) R rfl a
  have R1 : SR K mg F (ρ.set i .no) σ H := R.know rfl fun _ _ => trivial
  have R2 := R1.fix eo g.fN n
  have R3 : SR K mg (upd F p ob) ((ρ.set i .no).set i (.val d)) σ H := R2.know rfl fun ov' e' => by
    rw [e2] at e'
    cases e'
    exact ⟨_, rfl, r⟩
  rw [List.set_set] at R3
  exact ⟨_, _, e2, R3, (Stp.refl.fix g.fN (.inl ⟨i, a⟩)).know rfl, r⟩
theorem ev_name (i : Nat) : EvW K mg (tVar i) (fName i) := fun F ρ σ H R s ρ' e Q q => by
  unfold fName at e
  cases e1 : ρ[i]? with
  | none => rw [e1] at e; cases e
  | some u =>
    rw [e1] at e
    by_cases o : u.isOwn = true
    · have e' : ((frz u).map fun d => (Sl.val d, ρ.set i (.val d))) = some (s, ρ') := by
        cases u <;> first | exact e | cases o
      cases f : frz u with
      | none => rw [f] at e'; cases e'
      | some d =>
        rw [f] at e'
        cases e'
        obtain ⟨v, F', ev, R', S', r⟩ := R.fixAt e1 o f
        exact ⟨v, ev, q v F' H R' S' r⟩
    · cases u with
      | val d =>
        cases e
        obtain ⟨v, ev, r⟩ := R.val e1
        exact ⟨v, ev, q v F H R .refl r⟩
      | no => cases e
      | own ds => exact absurd rfl o
      | oob c fs => exact absurd rfl o
      | odK ds => exact absurd rfl o
      | odT ds => exact absurd rfl o
      | ownA a ds => exact absurd rfl o
theorem ev_move (i : Nat) : EvW K mg (tVar i) (fMove i) := fun F ρ σ H R s ρ' e Q q => by
  unfold fMove at e
  cases e1 : ρ[i]? with
  | none => rw [e1] at e; cases e
  | some u =>
    rw [e1] at e
    by_cases o : u.isOwn = true
    · have e' : (if u.isOwn = true then some (u, ρ.set i .no) else none) = some (s, ρ') := by
        cases u <;> first | exact e | cases o
      rw [if_pos o] at e'
      cases e'
      obtain ⟨ov, e2, r⟩ := R.sl i _ e1
      obtain ⟨p, rfl, g⟩ := r.ow o
      have a : OwA ρ σ i p := ⟨⟨_, e1, o⟩, e2⟩
      exact ⟨_, e2, q _ F H (R.know rfl fun _ _ => trivial) (Stp.refl.know rfl) (.of_own g (not_ow_at R rfl a) (.inl ⟨i, a⟩))⟩
    · cases u with
      | val d =>
        cases e
        obtain ⟨v, ev, r⟩ := R.val e1
        exact ⟨v, ev, q v F H R .refl r⟩
      | no => cases e
      | own ds => exact absurd rfl o
      | oob c fs => exact absurd rfl o
      | odK ds => exact absurd rfl o
      | odT ds => exact absurd rfl o
      | ownA a ds => exact absurd rfl o

/-- what an operation of two values does -/
def R2W (K : PySem.W.Frag) (mg : Str → Option Value) (r : R2) (g : D → D → Option Sl) : Prop := ∀ F ρ σ H, SR K mg F ρ σ H → ∀ x y vx vy, Rep K mg F x vx → Rep K mg F y vy → ∀ s, g x y = some s → ∀ Q : VK,
  (∀ v F' H', SR K mg F' ρ σ H' → Stp F ρ σ H F' ρ σ H' → WV K mg F' ρ σ H' ρ σ H s v → Q v H') → r vx vy H Q
def R1W (K : PySem.W.Frag) (mg : Str → Option Value) (r : V → Hp → VK → Prop) (g : D → Option Sl) : Prop := ∀ F ρ σ H, SR K mg F ρ σ H → ∀ x vx, Rep K mg F x vx → ∀ s, g x = some s → ∀ Q : VK,
  (∀ v F' H', SR K mg F' ρ σ H' → Stp F ρ σ H F' ρ σ H' → WV K mg F' ρ σ H' ρ σ H s v → Q v H') → r vx H Q
theorem bind2 {α β γ : Type} {o : Option α} {f : α → Option β} {b : β} (h : o.bind f = some b) : ∃ a, o = some a ∧ f a = some b := by
  cases o with
  | none => cases h
  | some a => exact ⟨a, rfl, h⟩
theorem map2 {α β : Type} {o : Option α} {f : α → β} {b : β} (h : o.map f = some b) : ∃ a, o = some a ∧ f a = b := by
  cases o with
  | none => cases h
  | some a => cases h; exact ⟨a, rfl, rfl⟩
theorem ev_op2 {r : R2} {g : D → D → Option Sl} {ta tb : TE} {fa fb : FE} (hr : R2W K mg r g) (ha : EvW K mg ta fa) (hb : EvW K mg tb fb) : EvW K mg (tOp r ta tb) (fOp2 g fa fb) := fun F ρ σ H R s ρ' e Q q => by
  obtain ⟨⟨x, ρ1⟩, e1, e⟩ := bind2 (γ := Unit) e
  obtain ⟨⟨y, ρ2⟩, e2, e⟩ := bind2 (γ := Unit) e
  obtain ⟨s', e3, e⟩ := map2 e
  cases e
  refine ha.frz F ρ σ H R x ρ1 e1 _ fun vx F1 H1 R1 S1 rx => ?_
  refine hb.frz F1 ρ1 σ H1 R1 y ρ2 e2 _ fun vy F2 H2 R2 S2 ry => ?_
  exact hr F2 ρ2 σ H2 R2 x y vx vy (rx.mono S2.sF) ry s e3 Q fun v F3 H3 R3 S3 w => q v F3 H3 R3 ((S1.trans S2).trans S3) (w.back (S1.trans S2))
theorem ev_op1 {r : V → Hp → VK → Prop} {g : D → Option Sl} {ta : TE} {fa : FE} (hr : R1W K mg r g) (ha : EvW K mg ta fa) : EvW K mg (tUn r ta) (fOp1 g fa) := fun F ρ σ H R s ρ' e Q q => by
  obtain ⟨⟨x, ρ1⟩, e1, e⟩ := bind2 (γ := Unit) e
  obtain ⟨s', e3, e⟩ := map2 e
  cases e
  refine ha.frz F ρ σ H R x ρ1 e1 _ fun vx F1 H1 R1 S1 rx => ?_
  exact hr F1 ρ1 σ H1 R1 x vx rx s e3 Q fun v F3 H3 R3 S3 w => q v F3 H3 R3 (S1.trans S3) (w.back S1)
/-- an operation that reads a held thing -/
def RNW (K : PySem.W.Frag) (mg : Str → Option Value) (r : R2) (g : Sl → D → Option D) : Prop := ∀ F ρ σ H, SR K mg F ρ σ H → ∀ s y vx vy, SlR K mg F H s (some vx) → Rep K mg F y vy → ∀ d, g s y = some d → ∀ Q : VK,
  (∀ v, Rep K mg F d v → Q v H) → r vx vy H Q
theorem known_at {F : Hp} {ρ : En} {σ : L2.St} {H : Hp} {i : Nat} (R : SR K mg F ρ σ H) (h : knownAt ρ i = true) : ∃ v, σ[i]? = some (some v) := by
  unfold knownAt at h
  cases e : ρ[i]? with
  | none => rw [e] at h; cases h
  | some s =>
    rw [e] at h
    obtain ⟨ov, e2, r⟩ := R.sl i s e
    cases s with
    | no => cases h
    | val d => obtain ⟨v, rfl, _⟩ := r; exact ⟨v, e2⟩
    | own ds => obtain ⟨p, rfl, _⟩ := r; exact ⟨_, e2⟩
    | oob c fs => obtain ⟨p, rfl, _⟩ := r; exact ⟨_, e2⟩
    | odK ds => obtain ⟨p, rfl, _⟩ := r; exact ⟨_, e2⟩
    | odT ds => obtain ⟨p, rfl, _⟩ := r; exact ⟨_, e2⟩
    | ownA a ds => obtain ⟨p, rfl, _⟩ := r; exact ⟨_, e2⟩
theorem SR.at (R : SR K mg F ρ σ H) {i : Nat} {s : Sl} {ov : Option V} (e : ρ[i]? = some s) (e2 : σ[i]? = some ov) : SlR K mg F H s ov := by
  obtain ⟨ov', e3, r⟩ := R.sl i s e
  rw [e2] at e3
  cases e3
  exact r
theorem ev_opN {r : R2} {g : Sl → D → Option D} {tb : TE} {fb : FE} (i : Nat) (hr : RNW K mg r g) (hb : EvW K mg tb fb) : EvW K mg (tOp r (tVar i) tb) (fOpN g i fb) := fun F ρ σ H R s ρ' e Q q => by
  unfold fOpN at e
  split at e
  case isFalse => cases e
  case isTrue hk =>
    obtain ⟨v, ev⟩ := known_at R hk
    obtain ⟨⟨y, ρ1⟩, e1, e⟩ := bind2 (γ := Unit) e
    obtain ⟨u, e2, e⟩ := bind2 (γ := Unit) e
    obtain ⟨d, e3, e⟩ := map2 e
    cases e
    refine ⟨v, ev, ?_⟩
    refine hb.frz F ρ σ H R y ρ1 e1 _ fun vy F1 H1 R1 S1 ry => ?_
    exact hr F1 ρ1 σ H1 R1 u y v vy (R1.at e2 ev) ry d e3 Q fun v' rv => q v' F1 H1 R1 S1 rv
end

/-! ### operators -/
def i2 (g : Int → Int → Option D) : D → D → Option Sl
  | .int i, .int j => (g i j).map Sl.val
  | _, _ => none
def scalar : D → Bool
  | .non | .bl _ | .int _ | .str _ => true
  | _ => false
def toV : D → V
  | .non => .non | .bl b => .bl b | .int i => .int i | .str x => .str x
  | _ => .non
theorem rep_scalar {K : PySem.W.Frag} {mg : Str → Option Value} {F : Hp} : ∀ {d : D}, scalar d = true → Rep K mg F d (toV d)
  | .non, _ => rfl
  | .bl _, _ => rfl
  | .int _, _ => rfl
  | .str _, _ => rfl
section
variable {K : PySem.W.Frag} {mg : Str → Option Value}
theorem w_i {C : Int → Int → Prop} {f : Int → Int → V} {g : Int → Int → Option D} (h : ∀ i j d, g i j = some d → C i j ∧ scalar d = true ∧ f i j = toV d) : R2W K mg (rI C f) (i2 g) := fun F ρ σ H R x y vx vy rx ry s e Q q => by
  cases x <;> try (cases e)
  cases y <;> try (cases e)
  rename_i i j
  obtain ⟨d, e1, rfl⟩ := map2 e
  obtain ⟨h1, h2, h3⟩ := h i j d e1
  cases rx; cases ry
  refine ⟨i, j, rfl, rfl, h1, ?_⟩
  rw [h3]
  exact q _ F H R .refl (rep_scalar h2)
theorem w_i0 {f : Int → Int → V} {g : Int → Int → D} (h : ∀ i j, scalar (g i j) = true ∧ f i j = toV (g i j)) : R2W K mg (rI0 f) (i2 fun i j => some (g i j)) := fun F ρ σ H R x y vx vy rx ry s e Q q => by
  cases x <;> try (cases e)
  cases y <;> try (cases e)
  rename_i i j
  obtain ⟨h2, h3⟩ := h i j
  cases rx; cases ry
  refine ⟨i, j, rfl, rfl, ?_⟩
  rw [h3]
  exact q _ F H R .refl (rep_scalar h2)
/-! conditions, hidden from evaluation -/
def hid (b : Bool) : Bool := Classical.choose (⟨b, rfl⟩ : ∃ c, c = b)
theorem hid_eq (b : Bool) : hid b = b := Classical.choose_spec (⟨b, rfl⟩ : ∃ c, c = b)
def may (p : Prop) [Decidable p] : Bool := hid (decide p)
theorem may_ok {p : Prop} [Decidable p] (h : may p = true) : p := of_decide_eq_true ((hid_eq _).symm.trans h)
theorem may_of {p : Prop} [Decidable p] (h : p) : may p = true := (hid_eq _).trans (decide_eq_true h)
def fit62 (j : Int) : Bool := may (-(2 ^ 62) ≤ j ∧ j < 2 ^ 62)
theorem fit62_ok {j : Int} (h : fit62 j = true) : -(2 ^ 62) ≤ j ∧ j < 2 ^ 62 := may_ok h
theorem fit62_small {j : Int} (h : -1000000 ≤ j ∧ j ≤ 1000000) : fit62 j = true := may_of (by omega)
def fit63 (j : Int) : Bool := may (-(2 ^ 63) ≤ j ∧ j < 2 ^ 63)
theorem fit63_ok {j : Int} (h : fit63 j = true) : -(2 ^ 63) ≤ j ∧ j < 2 ^ 63 := may_ok h
theorem fit63_small {j : Int} (h : -1000000 ≤ j ∧ j ≤ 1000000) : fit63 j = true := may_of (by omega)
def fit64 (j : Int) : Bool := may (-(2 ^ 64) < j ∧ j < 2 ^ 64)
theorem fit64_ok {j : Int} (h : fit64 j = true) : -(2 ^ 64) < j ∧ j < 2 ^ 64 := may_ok h
theorem fit64_small {j : Int} (h : -(2 ^ 64) < j ∧ j < 2 ^ 64) : fit64 j = true := may_of h
def fit30 (j : Int) : Bool := may (-1073741824 < j ∧ j < 1073741824)
theorem fit30_ok {j : Int} (h : fit30 j = true) : -1073741824 < j ∧ j < 1073741824 := may_ok h
theorem fit30_small {j : Int} (h : -1073741824 < j ∧ j < 1073741824) : fit30 j = true := may_of h
def fitP (j : Int) : Bool := may (0 ≤ j ∧ j ≤ 1000000)
theorem fitP_ok {j : Int} (h : fitP j = true) : 0 ≤ j ∧ j ≤ 1000000 := may_ok h
theorem fitP_small {j : Int} (h : 0 ≤ j ∧ j ≤ 1000000) : fitP j = true := may_of h
/-- short enough for a list -/
def fitL (n : Nat) : Bool := may (n ≤ sizeLine)
theorem fitL_ok {n : Nat} (h : fitL n = true) : n ≤ sizeLine := may_ok h
theorem fitL_small {n : Nat} (h : n ≤ 1000000) : fitL n = true := may_of (Nat.le_trans h (by rw [sizeLine_eq]; decide))
def gAdd : D → D → Option Sl := i2 fun i j => some (.int (i + j))
def gSub : D → D → Option Sl := i2 fun i j => some (.int (i - j))
def gMul : D → D → Option Sl := i2 fun i j => if fit64 i = true ∨ fit64 j = true then some (.int (i * j)) else none
def gMod : D → D → Option Sl := i2 fun i j => if j ≠ 0 then some (.int (i.fmod j)) else none
def gDiv : D → D → Option Sl := i2 fun i j => if j ≠ 0 ∧ fit30 j = true then some (.int (i.fdiv j)) else none
def gPow : D → D → Option Sl := i2 fun i j => if fitP j = true ∧ fit64 i = true then some (.int (i ^ j.toNat)) else none
def gShl : D → D → Option Sl := i2 fun i j => if fitP j = true ∧ fit64 i = true then some (.int (i * 2 ^ j.toNat)) else none
def gShr : D → D → Option Sl := i2 fun i j => if 0 ≤ j then some (.int (i / 2 ^ j.toNat)) else none
def gAnd : D → D → Option Sl := i2 fun i j => some (.int (Builtin.bitAnd i j))
def gLt : D → D → Option Sl := i2 fun i j => some (.bl (decide (i < j)))
def gLe : D → D → Option Sl := i2 fun i j => some (.bl (decide (i ≤ j)))
def gGt : D → D → Option Sl := i2 fun i j => some (.bl (decide (j < i)))
def gGe : D → D → Option Sl := i2 fun i j => some (.bl (decide (j ≤ i)))
theorem w_add : R2W K mg (rI0 fun i j => .int (i + j)) gAdd := w_i0 fun _ _ => ⟨rfl, rfl⟩
theorem w_sub : R2W K mg (rI0 fun i j => .int (i - j)) gSub := w_i0 fun _ _ => ⟨rfl, rfl⟩
theorem w_and : R2W K mg (rI0 fun i j => .int (Builtin.bitAnd i j)) gAnd := w_i0 fun _ _ => ⟨rfl, rfl⟩
theorem w_lt : R2W K mg (rI0 fun i j => .bl (decide (i < j))) gLt := w_i0 fun _ _ => ⟨rfl, rfl⟩
theorem w_le : R2W K mg (rI0 fun i j => .bl (decide (i ≤ j))) gLe := w_i0 fun _ _ => ⟨rfl, rfl⟩
theorem w_gt : R2W K mg (rI0 fun i j => .bl (decide (j < i))) gGt := w_i0 fun _ _ => ⟨rfl, rfl⟩
theorem w_ge : R2W K mg (rI0 fun i j => .bl (decide (j ≤ i))) gGe := w_i0 fun _ _ => ⟨rfl, rfl⟩
theorem w_mul : R2W K mg (rI CMul fun i j => .int (i * j)) gMul := w_i fun i j d e => by
  split at e
  · rename_i h; cases e; exact ⟨h.imp fit64_ok fit64_ok, rfl, rfl⟩
  · cases e
theorem w_mod : R2W K mg (rI (fun _ j => j ≠ 0) fun i j => .int (i.fmod j)) gMod := w_i fun i j d e => by
  split at e
  · rename_i h; cases e; exact ⟨h, rfl, rfl⟩
  · cases e
theorem w_div : R2W K mg (rI CDivN fun i j => .int (i.fdiv j)) gDiv := w_i fun i j d e => by
  split at e
  · rename_i h; cases e; exact ⟨⟨h.1, by have := fit30_ok h.2; omega⟩, rfl, rfl⟩
  · cases e
theorem w_pow : R2W K mg (rI CPow fun i j => .int (i ^ j.toNat)) gPow := w_i fun i j d e => by
  split at e
  · rename_i h; cases e; exact ⟨⟨(fitP_ok h.1).1, (fitP_ok h.1).2, by have := fit64_ok h.2; omega⟩, rfl, rfl⟩
  · cases e
theorem w_shl : R2W K mg (rI CPow fun i j => .int (i * 2 ^ j.toNat)) gShl := w_i fun i j d e => by
  split at e
  · rename_i h; cases e; exact ⟨⟨(fitP_ok h.1).1, (fitP_ok h.1).2, by have := fit64_ok h.2; omega⟩, rfl, rfl⟩
  · cases e
theorem w_shr : R2W K mg (rI (fun _ j => 0 ≤ j) fun i j => .int (i / 2 ^ j.toNat)) gShr := w_i fun i j d e => by
  split at e
  · rename_i h; cases e; exact ⟨h, rfl, rfl⟩
  · cases e
def gNeg : D → Option Sl
  | .int i => some (.val (.int (-i)))
  | _ => none
theorem w_neg : R1W K mg (rU fun i => .int (-i)) gNeg := fun F ρ σ H R x vx rx s e Q q => by
  cases x <;> try (cases e)
  cases rx
  exact ⟨_, rfl, q _ F H R .refl rfl⟩

/-! new things -/
theorem wv_new {F : Hp} {ρ : En} {σ : L2.St} {H : Hp} {ds : List D} {vs : List V} {Q : VK} (R : SR K mg F ρ σ H) (r : Reps K mg F ds vs) (z : vs.length ≤ sizeLine)
    (q : ∀ v F' H', SR K mg F' ρ σ H' → Stp F ρ σ H F' ρ σ H' → WV K mg F' ρ σ H' ρ σ H (.own ds) v → Q v H') (p : Addr) (hp : H p = none) : Q (.ref p) (upd H p (.lst vs)) := by
  obtain ⟨R', S'⟩ := R.fresh (o := .lst vs) hp z
  exact q _ F _ R' S' (.of_own (s := .own ds) ⟨R.same.free hp, vs, upd_same, r⟩ (R.nw hp) (.inr hp))
theorem wv_tup {F : Hp} {ρ : En} {σ : L2.St} {H : Hp} {ds : List D} {vs : List V} {Q : VK} (R : SR K mg F ρ σ H) (r : Reps K mg F ds vs) (z : vs.length ≤ sizeLine)
    (q : ∀ v F' H', SR K mg F' ρ σ H' → Stp F ρ σ H F' ρ σ H' → WV K mg F' ρ σ H' ρ σ H (.val (.tup ds)) v → Q v H') (p : Addr) (hp : H p = none) : Q (.ref p) (upd H p (.tup vs)) := by
  obtain ⟨R', S'⟩ := R.alloc (o := .tup vs) hp trivial
  refine q _ _ _ R' S' ?_
  show Rep K mg _ (.tup ds) _
  simp only [Rep]
  exact ⟨p, vs, rfl, z, upd_same, r.mono S'.sF⟩
/-- + of lists, of tuples, of ints -/
def rAdds (K : PySem.W.Frag) : R2 := fun x y H Q => (rI0 fun i j => .int (i + j)) x y H Q ∨ rCat x y H Q ∨ (∃ a b xs ys, x = .ref a ∧ y = .ref b ∧ SqT K H a xs ∧ SqT K H b ys ∧ xs = [] ∧ False) ∨ rCatT K x y H Q
theorem OpR.or {X : Cx} {f : Value → Value → Sem Value} {r r' : R2} (h : OpR X f r) (h' : OpR X f r') : OpR X f (fun x y H Q => r x y H Q ∨ r' x y H Q) := fun pins s σ H x y v u Q I rx ry q => by
  rcases q with q | q
  · exact h pins s σ H x y v u Q I rx ry q
  · exact h' pins s σ H x y v u Q I rx ry q
def gCat : D → D → Option Sl
  | .lst xs, .lst ys => if fitL (xs.length + ys.length) = true then some (.own (xs ++ ys)) else none
  | _, _ => none
theorem w_cat : R2W K mg rCat gCat := fun F ρ σ H R x y vx vy rx ry s e Q q => by
  cases x <;> try (cases e)
  cases y <;> try (cases e)
  rename_i xs ys
  simp only [gCat] at e
  split at e
  · rename_i hz
    replace hz := fitL_ok hz
    cases e
    simp only [Rep] at rx ry
    obtain ⟨a, vs, rfl, ha, rvs⟩ := rx
    obtain ⟨b, us, rfl, hb, rus⟩ := ry
    rw [rvs.length, rus.length] at hz
    exact ⟨a, b, vs, us, rfl, rfl, R.same _ _ ha, R.same _ _ hb, hz, wv_new R (rvs.append rus) (by rw [List.length_append]; exact hz) q⟩
  · cases e
def gCatT : D → D → Option Sl
  | .tup xs, .tup ys => if fitL (xs.length + ys.length) = true then some (.val (.tup (xs ++ ys))) else none
  | _, _ => none
def gRep : D → D → Option Sl
  | .lst xs, .int k => if fit63 k = true ∧ fitL (xs.length * k.toNat) = true then some (.own (List.replicate k.toNat xs).flatten) else none
  | _, _ => none
end
end
end DL
namespace DL
open PySem PySem.Spec PyProof.Rows L2
noncomputable section
section
variable {K : PySem.W.Frag} {mg : Str → Option Value}
theorem R2W.or {r r' : R2} {g g' : D → D → Option Sl} (h : R2W K mg r g) (h' : R2W K mg r' g') : R2W K mg (fun x y H Q => r x y H Q ∨ r' x y H Q) (fun x y => (g x y).or (g' x y)) := fun F ρ σ H R x y vx vy rx ry s e Q q => by
  dsimp only at e
  cases e1 : g x y with
  | some s' =>
    rw [e1] at e
    cases e
    exact .inl (h F ρ σ H R x y vx vy rx ry _ e1 Q q)
  | none =>
    rw [e1] at e
    exact .inr (h' F ρ σ H R x y vx vy rx ry _ e Q q)
theorem w_catT : R2W K mg (rCatA K) gCatT := fun F ρ σ H R x y vx vy rx ry s e Q q => by
  cases x <;> try (cases e)
  cases y <;> try (cases e)
  rename_i xs ys
  simp only [gCatT] at e
  split at e
  · rename_i hz
    cases e
    simp only [Rep] at rx ry
    obtain ⟨a, vs, rfl, zx, ha, rvs⟩ := rx
    obtain ⟨b, us, rfl, zy, hb, rus⟩ := ry
    replace hz := fitL_ok hz
    rw [rvs.length, rus.length] at hz
    refine ⟨a, b, vs, us, rfl, rfl, SqT.of (R.same _ _ ha), SqT.of (R.same _ _ hb), hz, fun z => ?_, fun _ z => ?_, fun _ z => ?_⟩
    · subst z
      have e0 : xs = [] := List.eq_nil_of_length_eq_zero rvs.length
      subst e0
      rw [List.nil_append] at q
      refine q _ F H R .refl ?_
      show Rep K mg F (.tup ys) (.ref b)
      simp only [Rep]
      exact ⟨b, us, rfl, zy, hb, rus⟩
    · subst z
      have e0 : ys = [] := List.eq_nil_of_length_eq_zero rus.length
      subst e0
      rw [List.append_nil] at q
      refine q _ F H R .refl ?_
      show Rep K mg F (.tup xs) (.ref a)
      simp only [Rep]
      exact ⟨a, vs, rfl, zx, ha, rvs⟩
    · exact wv_tup R (rvs.append rus) (by rw [List.length_append]; exact hz) q
  · cases e
theorem w_rep : R2W K mg rRep gRep := fun F ρ σ H R x y vx vy rx ry s e Q q => by
  cases x <;> try (cases e)
  cases y <;> try (cases e)
  rename_i xs k
  simp only [gRep] at e
  split at e
  · rename_i hz
    cases e
    simp only [Rep] at rx ry
    obtain ⟨a, vs, rfl, ha, rvs⟩ := rx
    subst ry
    obtain ⟨h12, hz⟩ := hz
    obtain ⟨h1, h2⟩ := fit63_ok h12
    replace hz := fitL_ok hz
    rw [rvs.length] at hz
    refine ⟨a, k, vs, rfl, rfl, R.same _ _ ha, h1, h2, hz, wv_new R (rvs.rep _) ?_ q⟩
    rw [List.length_flatten, List.map_replicate, List.sum_replicate_nat, Nat.mul_comm]
    exact hz
  · cases e
/-- + : ints, lists, tuples -/
def gPlus : D → D → Option Sl := fun x y => (gAdd x y).or ((gCat x y).or (gCatT x y))
def rPlus (K : PySem.W.Frag) : R2 := fun x y H Q => (rI0 fun i j => .int (i + j)) x y H Q ∨ (rCat x y H Q ∨ rCatA K x y H Q)
theorem w_plus : R2W K mg (rPlus K) gPlus := w_add.or (w_cat.or w_catT)
theorem op_plus {X : Cx} : OpR X (binaryOp .Add) (rPlus X.K) := op_add.or (op_cat.or op_catA)
/-- * : ints, a list times an int -/
def gTimes : D → D → Option Sl := fun x y => (gMul x y).or (gRep x y)
def rTimes : R2 := fun x y H Q => (rI CMul fun i j => .int (i * j)) x y H Q ∨ rRep x y H Q
theorem w_times : R2W K mg rTimes gTimes := w_mul.or w_rep
theorem op_times {X : Cx} : OpR X (binaryOp .Mult) rTimes := op_mul.or op_rep

/-! ### == -/
mutual
def okP : D → Bool
  | .non | .bl _ | .int _ | .str _ | .scr _ => true
  | .tup ds => okPs ds
  | .lst ds => okPs ds
  | _ => false
def okPs : List D → Bool
  | [] => true
  | d :: ds => okP d && okPs ds
end
mutual
def toP : D → PyData
  | .non => .none
  | .bl b => .bool b
  | .int i => .int i
  | .str x => .str x
  | .tup ds => .tuple (toPs ds)
  | .lst ds => .list (toPs ds)
  | .scr ns => .list (ns.map .int)
  | _ => .none
def toPs : List D → List PyData
  | [] => []
  | d :: ds => toP d :: toPs ds
end
theorem dpAll_ints {H : Hp} : ∀ {ns : List Int}, DpAll K H (ns.map V.int) (ns.map PyData.int)
  | [] => .nil
  | n :: ns => .cons (.int n) dpAll_ints
mutual
theorem Rep.dp {F : Hp} : ∀ {d : D} {v : V}, okP d = true → Rep K mg F d v → Dp K F v (toP d)
  | .non, _, _, h => by simp only [Rep] at h; subst h; exact .non
  | .bl b, _, _, h => by simp only [Rep] at h; subst h; exact .bl b
  | .int i, _, _, h => by simp only [Rep] at h; subst h; exact .int i
  | .str x, _, _, h => by simp only [Rep] at h; subst h; exact .str x
  | .scr ns, _, _, h => by
    simp only [Rep] at h
    obtain ⟨a, rfl, _, q⟩ := h
    exact .lst q dpAll_ints
  | .tup ds, _, o, h => by
    simp only [Rep] at h
    simp only [okP] at o
    obtain ⟨a, vs, rfl, _, q, r⟩ := h
    exact .tup (SqT.of q) (Reps.dp o r)
  | .lst ds, _, o, h => by
    simp only [Rep] at h
    simp only [okP] at o
    obtain ⟨a, vs, rfl, q, r⟩ := h
    exact .lst (.inl (.inl q)) (Reps.dp o r)
  | .obj _ _, _, o, _ => by simp only [okP] at o; cases o
  | .dK _, _, o, _ => by simp only [okP] at o; cases o
  | .dT _, _, o, _ => by simp only [okP] at o; cases o
  | .adr _, _, o, _ => by simp only [okP] at o; cases o
theorem Reps.dp {F : Hp} : ∀ {ds : List D} {vs : List V}, okPs ds = true → Reps K mg F ds vs → DpAll K F vs (toPs ds)
  | [], _, _, h => by simp only [Reps] at h; subst h; exact .nil
  | d :: ds, _, o, h => by
    simp only [Reps] at h
    simp only [okPs, Bool.and_eq_true] at o
    obtain ⟨v, r, rfl, h1, h2⟩ := h
    exact .cons (Rep.dp o.1 h1) (Reps.dp o.2 h2)
end
/-- data that == is asked of -/
def okE (d : D) : Bool := okP d && SeqAt.shaped (toP d)
def eqD (x y : D) : Bool := PyData.eqv (toP x) (toP y)
def gEq (x y : D) : Option Sl := if okE x = true ∧ okE y = true then some (.val (.bl (eqD x y))) else none
def gNe (x y : D) : Option Sl := if okE x = true ∧ okE y = true then some (.val (.bl (!eqD x y))) else none
theorem okE_dp {F : Hp} {d : D} {v : V} (o : okE d = true) (h : Rep K mg F d v) : Dp K F v (toP d) ∧ SeqAt.shaped (toP d) = true := by
  unfold okE at o
  rw [Bool.and_eq_true] at o
  exact ⟨Rep.dp o.1 h, o.2⟩
theorem w_eq : R2W K mg (rEqD K) gEq := fun F ρ σ H R x y vx vy rx ry s e Q q => by
  unfold gEq at e
  split at e
  · rename_i h
    cases e
    obtain ⟨d1, s1⟩ := okE_dp h.1 (rx.mono R.same)
    obtain ⟨d2, s2⟩ := okE_dp h.2 (ry.mono R.same)
    exact ⟨_, _, d1, d2, s1, s2, q _ F H R .refl rfl⟩
  · cases e
theorem w_ne : R2W K mg (rNeD K) gNe := fun F ρ σ H R x y vx vy rx ry s e Q q => by
  unfold gNe at e
  split at e
  · rename_i h
    cases e
    obtain ⟨d1, s1⟩ := okE_dp h.1 (rx.mono R.same)
    obtain ⟨d2, s2⟩ := okE_dp h.2 (ry.mono R.same)
    exact ⟨_, _, d1, d2, s1, s2, q _ F H R .refl rfl⟩
  · cases e
/-- x is None -/
def isNon : D → Bool
  | .non => true
  | _ => false
theorem isNon_iff {F : Hp} {d : D} {v : V} (h : Rep K mg F d v) : decide (v = V.non) = isNon d := by
  cases d with
  | non => simp only [Rep] at h; subst h; rfl
  | bl b => simp only [Rep] at h; subst h; exact decide_eq_false (fun z => nomatch z)
  | int b => simp only [Rep] at h; subst h; exact decide_eq_false (fun z => nomatch z)
  | str b => simp only [Rep] at h; subst h; exact decide_eq_false (fun z => nomatch z)
  | tup ds => simp only [Rep] at h; obtain ⟨a, vs, rfl, _⟩ := h; exact decide_eq_false (fun z => nomatch z)
  | lst ds => simp only [Rep] at h; obtain ⟨a, vs, rfl, _⟩ := h; exact decide_eq_false (fun z => nomatch z)
  | obj c fs => simp only [Rep] at h; obtain ⟨a, C, dx, vs, rfl, _⟩ := h; exact decide_eq_false (fun z => nomatch z)
  | scr ns => simp only [Rep] at h; obtain ⟨a, rfl, _⟩ := h; exact decide_eq_false (fun z => nomatch z)
  | dK ds => simp only [Rep] at h; obtain ⟨a, vs, rfl, _⟩ := h; exact decide_eq_false (fun z => nomatch z)
  | dT ds => simp only [Rep] at h; obtain ⟨a, vs, rfl, _⟩ := h; exact decide_eq_false (fun z => nomatch z)
  | adr a => simp only [Rep] at h; subst h; exact decide_eq_false (fun z => nomatch z)
def gIs (x y : D) : Option Sl := if isNon y = true then some (.val (.bl (isNon x))) else none
def gIsNot (x y : D) : Option Sl := if isNon y = true then some (.val (.bl (!isNon x))) else none
theorem isNon_eq {d : D} (h : isNon d = true) : d = .non := by
  cases d <;> first | rfl | cases h
theorem w_is : R2W K mg (fun x y H Q => y = .non ∧ Q (.bl (decide (x = .non))) H) gIs := fun F ρ σ H R x y vx vy rx ry s e Q q => by
  unfold gIs at e
  split at e
  · rename_i h
    cases e
    have e2 := isNon_eq h
    subst e2
    simp only [Rep] at ry
    refine ⟨ry, ?_⟩
    rw [isNon_iff rx]
    exact q _ F H R .refl rfl
  · cases e
theorem w_isnot : R2W K mg (fun x y H Q => y = .non ∧ Q (.bl (!decide (x = .non))) H) gIsNot := fun F ρ σ H R x y vx vy rx ry s e Q q => by
  unfold gIsNot at e
  split at e
  · rename_i h
    cases e
    have e2 := isNon_eq h
    subst e2
    simp only [Rep] at ry
    refine ⟨ry, ?_⟩
    rw [isNon_iff rx]
    exact q _ F H R .refl rfl
  · cases e
/-- x in a list -/
def inD (x : D) (ds : List D) : Bool := ds.any fun z => eqD z x
theorem toPs_any {p : PyData → Bool} : ∀ {ds : List D}, (toPs ds).any p = ds.any fun z => p (toP z)
  | [] => rfl
  | d :: ds => by
    simp only [toPs, List.any_cons]
    rw [toPs_any]
def gIn (x y : D) : Option Sl := match y with
  | .lst ds => if okE x = true ∧ okE (.lst ds) = true then some (.val (.bl (inD x ds))) else none
  | _ => none
def gNotIn (x y : D) : Option Sl := match y with
  | .lst ds => if okE x = true ∧ okE (.lst ds) = true then some (.val (.bl (!inD x ds))) else none
  | _ => none
theorem w_in : R2W K mg (rInD K) gIn := fun F ρ σ H R x y vx vy rx ry s e Q q => by
  cases y <;> try (cases e)
  rename_i ds
  simp only [gIn] at e
  split at e
  · rename_i h
    cases e
    obtain ⟨d1, s1⟩ := okE_dp h.1 (rx.mono R.same)
    obtain ⟨d2, s2⟩ := okE_dp h.2 (ry.mono R.same)
    refine ⟨_, toPs ds, d1, by simpa only [toP] using d2, s1, by simpa only [toP] using s2, ?_⟩
    rw [toPs_any]
    exact q _ F H R .refl rfl
  · cases e
theorem w_notin : R2W K mg (rNotInD K) gNotIn := fun F ρ σ H R x y vx vy rx ry s e Q q => by
  cases y <;> try (cases e)
  rename_i ds
  simp only [gNotIn] at e
  split at e
  · rename_i h
    cases e
    obtain ⟨d1, s1⟩ := okE_dp h.1 (rx.mono R.same)
    obtain ⟨d2, s2⟩ := okE_dp h.2 (ry.mono R.same)
    refine ⟨_, toPs ds, d1, by simpa only [toP] using d2, s1, by simpa only [toP] using s2, ?_⟩
    rw [toPs_any]
    exact q _ F H R .refl rfl
  · cases e
/-- x in what slot i holds, x reckoned first -/
def fInN (neg : Bool) (fa : FE) (i : Nat) : FE := fun ρ => (vl fa ρ).bind fun p => match p.2[i]? with
  | some (.own ds) => if okE p.1 = true ∧ okE (.lst ds) = true then some (.val (.bl (if neg then !inD p.1 ds else inD p.1 ds)), p.2) else none
  | some (.val (.lst ds)) => if okE p.1 = true ∧ okE (.lst ds) = true then some (.val (.bl (if neg then !inD p.1 ds else inD p.1 ds)), p.2) else none
  | _ => none

/-! ### subscripts -/
def seqOf : Sl → Option (List D)
  | .own ds => some ds
  | .val (.lst ds) => some ds
  | .val (.tup ds) => some ds
  | .val (.scr ns) => some (ns.map D.int)
  | _ => none
def gIx (s : Sl) (k : D) : Option D := match k with
  | .int i => (seqOf s).bind fun ds => atI ds i
  | _ => none
def gIxD (x k : D) : Option Sl := (gIx (.val x) k).map Sl.val
theorem ixN_eq {α β : Type} {xs : List α} {ys : List β} (h : xs.length = ys.length) (i : Int) : ixN xs.length i = ixN ys.length i := by rw [h]
theorem Reps.atI {F : Hp} {ds : List D} {vs : List V} {i : Int} {d : D} (r : Reps K mg F ds vs) (h : atI ds i = some d) : ∃ v, L2.atI vs i = some v ∧ Rep K mg F d v := by
  unfold L2.atI at h ⊢
  rw [← r.length]
  obtain ⟨j, e1, e2⟩ := bind2 (γ := Unit) h
  obtain ⟨v, e3, rv⟩ := r.get e2
  exact ⟨v, by rw [e1]; exact e3, rv⟩
theorem n_ix : RNW K mg (rIx K) gIx := fun F ρ σ H R s y vx vy rs ry d e Q q => by
  cases y <;> try (cases e)
  rename_i i
  simp only [Rep] at ry
  subst ry
  obtain ⟨ds, e1, e2⟩ := bind2 (γ := Unit) e
  cases s with
  | no => cases e1
  | oob c fs => cases e1
  | odK k => cases e1
  | odT k => cases e1
  | ownA a k => cases e1
  | own es =>
    cases e1
    obtain ⟨p, e3, _, vs, g, r⟩ := rs
    cases e3
    obtain ⟨v, e4, rv⟩ := r.atI e2
    exact .inl ⟨p, vs, i, v, rfl, rfl, .inl (.inl g), e4, q v rv⟩
  | val x =>
    obtain ⟨w, e3, r⟩ := rs
    cases e3
    cases x <;> try (cases e1)
    · simp only [Rep] at r
      obtain ⟨a, vs, rfl, _, g, r⟩ := r
      obtain ⟨v, e4, rv⟩ := r.atI e2
      exact .inr (.inl ⟨a, vs, i, v, rfl, rfl, SqT.of (R.same _ _ g), e4, q v rv⟩)
    · simp only [Rep] at r
      obtain ⟨a, vs, rfl, g, r⟩ := r
      obtain ⟨v, e4, rv⟩ := r.atI e2
      exact .inl ⟨a, vs, i, v, rfl, rfl, .inl (.inl (R.same _ _ g)), e4, q v rv⟩
    · simp only [Rep] at r
      obtain ⟨a, rfl, _, g⟩ := r
      obtain ⟨v, e4, rv⟩ := (Reps.of_ints (K := K) (mg := mg) (F := F)).atI e2
      exact .inl ⟨a, _, i, v, rfl, rfl, R.same.seq g, e4, q v rv⟩
theorem w_of_n {r : R2} {g : Sl → D → Option D} (h : RNW K mg r g) : R2W K mg r (fun x y => (g (.val x) y).map Sl.val) := fun F ρ σ H R x y vx vy rx ry s e Q q => by
  obtain ⟨d, e1, rfl⟩ := map2 e
  exact h F ρ σ H R (.val x) y vx vy ⟨vx, rfl, rx⟩ ry d e1 Q fun v rv => q v F H R .refl rv
theorem w_ix : R2W K mg (rIx K) gIxD := w_of_n n_ix

/-! ### slices -/
def EvO (K : PySem.W.Frag) (mg : Str → Option Value) (t : TO) (f : En → Option (Option Int × En)) : Prop := ∀ F ρ σ H, SR K mg F ρ σ H → ∀ o ρ', f ρ = some (o, ρ') → ∀ Q : Option Int → Hp → Prop,
  (∀ F' H', SR K mg F' ρ' σ H' → Stp F ρ σ H F' ρ' σ H' → Q o H') → t σ H Q
def fNoPart : En → Option (Option Int × En) := fun ρ => some (none, ρ)
def fPart (f : FE) : En → Option (Option Int × En) := fun ρ => (vl f ρ).bind fun p => match p.1 with
  | .int i => some (some i, p.2)
  | _ => none
theorem ev_noPart : EvO K mg tNoPart fNoPart := fun F ρ σ H R o ρ' e Q q => by
  cases e
  exact q F H R .refl
theorem ev_part {t : TE} {f : FE} (h : EvW K mg t f) : EvO K mg (tPart t) (fPart f) := fun F ρ σ H R o ρ' e Q q => by
  obtain ⟨⟨x, ρ1⟩, e1, e⟩ := bind2 (γ := Unit) e
  cases x <;> try (cases e)
  rename_i i
  exact h.frz F ρ σ H R _ ρ1 e1 _ fun v F1 H1 R1 S1 r => ⟨i, r, q F1 H1 R1 S1⟩
def cutL {α : Type} (xs : List α) (lo hi : Option Int) : List α := (xs.drop (HT.sIx xs.length 0 lo)).take (HT.sIx xs.length xs.length hi - HT.sIx xs.length 0 lo)
theorem Reps.cut {F : Hp} {ds : List D} {vs : List V} (r : Reps K mg F ds vs) (lo hi : Option Int) : Reps K mg F (cutL ds lo hi) (cutV vs lo hi) := by
  unfold cutL cutV
  rw [r.length]
  exact (r.drop _).take _
def rSl (K : PySem.W.Frag) : V → Option Int → Option Int → Hp → VK → Prop := fun x lo hi H Q => rSlL K x lo hi H Q ∨ rSlA K x lo hi H Q
theorem sl_seq {X : Cx} : L2.SlR X (rSl X.K) := sl_list.or sl_tupA
def gSl (x : D) (lo hi : Option Int) : Option Sl := match x with
  | .lst ds => some (.own (cutL ds lo hi))
  | .scr ns => some (.own (cutL (ns.map D.int) lo hi))
  | .tup ds => some (.val (.tup (cutL ds lo hi)))
  | _ => none
def fSl (fe : FE) (fl fh : En → Option (Option Int × En)) : FE := fun ρ => (vl fe ρ).bind fun p => (fl p.2).bind fun l => (fh l.2).bind fun u => (gSl p.1 l.1 u.1).map fun s => (s, u.2)
theorem ev_sl {te : TE} {tl th : TO} {fe : FE} {fl fh : En → Option (Option Int × En)} (he : EvW K mg te fe) (hl : EvO K mg tl fl) (hh : EvO K mg th fh) : EvW K mg (tSl (rSl K) te tl th) (fSl fe fl fh) := fun F ρ σ H R s ρ' e Q q => by
  obtain ⟨⟨x, ρ1⟩, e1, e⟩ := bind2 (γ := Unit) e
  obtain ⟨⟨l, ρ2⟩, e2, e⟩ := bind2 (γ := Unit) e
  obtain ⟨⟨u, ρ3⟩, e3, e⟩ := bind2 (γ := Unit) e
  obtain ⟨s', e4, e⟩ := map2 e
  cases e
  refine he.frz F ρ σ H R x ρ1 e1 _ fun vx F1 H1 R1 S1 rx => ?_
  refine hl F1 ρ1 σ H1 R1 l ρ2 e2 _ fun F2 H2 R2 S2 => ?_
  refine hh F2 ρ2 σ H2 R2 u ρ3 e3 _ fun F3 H3 R3 S3 => ?_
  have rx3 := rx.mono (S2.trans S3).sF
  have S := (S1.trans S2).trans S3
  cases x <;> try (cases e4)
  · simp only [Rep] at rx3
    obtain ⟨a, vs, rfl, hz, g, r⟩ := rx3
    have ha := R3.same _ _ g
    refine .inr ⟨a, vs, rfl, SqT.of ha, fun hw => ?_, fun hw p hp => ?_⟩
    · refine q (.ref a) F3 H3 R3 S ?_
      rename_i ds _ _ _
      have hc : cutL ds l u = ds := by
        unfold cutL
        rw [r.length, hw.1, hw.2, List.drop_zero, Nat.sub_zero, ← r.length, List.take_length]
      show Rep K mg F3 (.tup (cutL ds l u)) _
      rw [hc]
      simp only [Rep]
      exact ⟨a, vs, rfl, hz, g, r⟩
    · exact wv_tup R3 (r.cut l u) (Nat.le_trans (cutV_length vs l u) hz) (fun v F4 H4 R4 S4 w => q v F4 H4 R4 (S.trans S4) w) p hp
  · simp only [Rep] at rx3
    obtain ⟨a, vs, rfl, g, r⟩ := rx3
    have ha := R3.same _ _ g
    refine .inl ⟨a, vs, rfl, .inl (.inl ha), fun p hp => ?_⟩
    exact wv_new R3 (r.cut l u) (Nat.le_trans (cutV_length vs l u) (R3.siz a vs ha)) (fun v F4 H4 R4 S4 w => q v F4 H4 R4 (S.trans S4) (w.back S)) p hp
  · rename_i ns
    simp only [Rep] at rx3
    obtain ⟨a, rfl, hz, g⟩ := rx3
    refine .inl ⟨a, _, rfl, R3.same.seq g, fun p hp => ?_⟩
    refine wv_new R3 ((Reps.of_ints (K := K) (mg := mg)).cut l u) ?_ (fun v F4 H4 R4 S4 w => q v F4 H4 R4 (S.trans S4) (w.back S)) p hp
    exact Nat.le_trans (cutV_length _ l u) (by rw [List.length_map]; exact hz)
end
end
end DL
namespace DL
open PySem PySem.Spec PyProof.Rows L2
noncomputable section
/-! ### values in a row -/
def fANil : FAr := fun ρ => some ([], ρ)
def fACons (f : FE) (r : FAr) : FAr := fun ρ => (vl f ρ).bind fun p => (r p.2).map fun q => (p.1 :: q.1, q.2)
def fLst (f : FAr) : FE := fun ρ => (f ρ).bind fun p => if p.1.length ≤ 1000 then some (.own p.1, p.2) else none
def fTup (f : FAr) : FE := fun ρ => (f ρ).bind fun p => if p.1.length ≤ 1000 then some (.val (.tup p.1), p.2) else none
theorem k1000 {n : Nat} (h : n ≤ 1000) : n ≤ sizeLine := Nat.le_trans h (by rw [sizeLine_eq]; decide)
section
variable {K : PySem.W.Frag} {mg : Str → Option Value}
theorem ev_anil : EvA K mg tNil fANil := fun F ρ σ H R ds ρ' e Q q => by
  cases e
  exact q [] F H R .refl .nil
theorem ev_acons {te : TE} {t : TA} {f : FE} {r : FAr} (h : EvW K mg te f) (hr : EvA K mg t r) : EvA K mg (tCons te t) (fACons f r) := fun F ρ σ H R ds ρ' e Q q => by
  obtain ⟨⟨x, ρ1⟩, e1, e⟩ := bind2 (γ := Unit) e
  obtain ⟨⟨xs, ρ2⟩, e2, e⟩ := map2 e
  cases e
  refine h.frz F ρ σ H R x ρ1 e1 _ fun vx F1 H1 R1 S1 rx => ?_
  exact hr F1 ρ1 σ H1 R1 xs _ e2 _ fun vs F2 H2 R2 S2 rs => q _ F2 H2 R2 (S1.trans S2) (.cons (rx.mono S2.sF) rs)
theorem ev_lst {t : TA} {f : FAr} (h : EvA K mg t f) : EvW K mg (tLst t) (fLst f) := fun F ρ σ H R s ρ' e Q q => by
  obtain ⟨⟨ds, ρ1⟩, e1, e⟩ := bind2 (γ := Unit) e
  dsimp only at e
  split at e
  · rename_i hz
    cases e
    refine h F ρ σ H R ds ρ' e1 _ fun vs F1 H1 R1 S1 rs => ?_
    rw [rs.length] at hz
    exact ⟨k1000 hz, wv_new R1 rs (k1000 hz) fun v F2 H2 R2 S2 w => q v F2 H2 R2 (S1.trans S2) (w.back S1)⟩
  · cases e
theorem ev_tup {t : TA} {f : FAr} (h : EvA K mg t f) : EvW K mg (tTup t) (fTup f) := fun F ρ σ H R s ρ' e Q q => by
  obtain ⟨⟨ds, ρ1⟩, e1, e⟩ := bind2 (γ := Unit) e
  dsimp only at e
  split at e
  · rename_i hz
    cases e
    refine h F ρ σ H R ds ρ' e1 _ fun vs F1 H1 R1 S1 rs => ?_
    rw [rs.length] at hz
    exact ⟨k1000 hz, wv_tup R1 rs (k1000 hz) fun v F2 H2 R2 S2 w => q v F2 H2 R2 (S1.trans S2) (w.back S1)⟩
  · cases e

/-! ### tests -/
def fB (f : FE) : FT := fun ρ => (vl f ρ).bind fun p => match p.1 with
  | .bl b => some (b, p.2)
  | _ => none
theorem ev_b {t : TE} {f : FE} (h : EvW K mg t f) : EvT K mg (tB t) (fB f) := fun F ρ σ H R b ρ' e Q q => by
  obtain ⟨⟨x, ρ1⟩, e1, e⟩ := bind2 (γ := Unit) e
  cases x <;> try (cases e)
  exact h.frz F ρ σ H R _ _ e1 _ fun v F1 H1 R1 S1 r => ⟨_, r, q F1 H1 R1 S1⟩
def fAndT (f g : FT) : FT := fun ρ => (f ρ).bind fun p => if p.1 = true then g p.2 else some (false, p.2)
def fOrT (f g : FT) : FT := fun ρ => (f ρ).bind fun p => if p.1 = true then some (true, p.2) else g p.2
def fNotT (f : FT) : FT := fun ρ => (f ρ).map fun p => (!p.1, p.2)
theorem ev_andT {t u : TT} {f g : FT} (h : EvT K mg t f) (h2 : EvT K mg u g) : EvT K mg (tAnd t u) (fAndT f g) := fun F ρ σ H R b ρ' e Q q => by
  obtain ⟨⟨c, ρ1⟩, e1, e⟩ := bind2 (γ := Unit) e
  refine h F ρ σ H R c ρ1 e1 _ fun F1 H1 R1 S1 => ?_
  cases c with
  | true => exact h2 F1 ρ1 σ H1 R1 b ρ' e Q fun F2 H2 R2 S2 => q F2 H2 R2 (S1.trans S2)
  | false =>
    cases e
    exact q F1 H1 R1 S1
theorem ev_orT {t u : TT} {f g : FT} (h : EvT K mg t f) (h2 : EvT K mg u g) : EvT K mg (tOr t u) (fOrT f g) := fun F ρ σ H R b ρ' e Q q => by
  obtain ⟨⟨c, ρ1⟩, e1, e⟩ := bind2 (γ := Unit) e
  refine h F ρ σ H R c ρ1 e1 _ fun F1 H1 R1 S1 => ?_
  cases c with
  | false => exact h2 F1 ρ1 σ H1 R1 b ρ' e Q fun F2 H2 R2 S2 => q F2 H2 R2 (S1.trans S2)
  | true =>
    cases e
    exact q F1 H1 R1 S1
theorem ev_notT {t : TT} {f : FT} (h : EvT K mg t f) : EvT K mg (tNot t) (fNotT f) := fun F ρ σ H R b ρ' e Q q => by
  obtain ⟨⟨c, ρ1⟩, e1, e⟩ := map2 e
  cases e
  exact h F ρ σ H R c _ e1 _ fun F1 H1 R1 S1 => q F1 H1 R1 S1
/-- a and b, a or b as values -/
def fAndV (f g : FE) : FE := fun ρ => (vl f ρ).bind fun p => match p.1 with
  | .bl b => if b = true then g p.2 else some (.val (.bl false), p.2)
  | _ => none
def fOrV (f g : FE) : FE := fun ρ => (vl f ρ).bind fun p => match p.1 with
  | .bl b => if b = true then some (.val (.bl true), p.2) else g p.2
  | _ => none
def fNotV (f : FE) : FE := fun ρ => (vl f ρ).bind fun p => match p.1 with
  | .bl b => some (.val (.bl (!b)), p.2)
  | _ => none
def fIfE (c : FT) (f g : FE) : FE := fun ρ => (c ρ).bind fun p => if p.1 = true then f p.2 else g p.2
theorem ev_andV {t u : TE} {f g : FE} (h : EvW K mg t f) (h2 : EvW K mg u g) : EvW K mg (tAndV t u) (fAndV f g) := fun F ρ σ H R b ρ' e Q q => by
  obtain ⟨⟨c, ρ1⟩, e1, e⟩ := bind2 (γ := Unit) e
  cases c <;> try (cases e)
  rename_i c
  refine h.frz F ρ σ H R _ ρ1 e1 _ fun v F1 H1 R1 S1 r => ⟨c, r, ?_⟩
  cases c with
  | true => exact h2 F1 ρ1 σ H1 R1 b ρ' e Q fun v F2 H2 R2 S2 w => q v F2 H2 R2 (S1.trans S2) (w.back S1)
  | false =>
    cases e
    exact q _ F1 H1 R1 S1 rfl
theorem ev_orV {t u : TE} {f g : FE} (h : EvW K mg t f) (h2 : EvW K mg u g) : EvW K mg (tOrV t u) (fOrV f g) := fun F ρ σ H R b ρ' e Q q => by
  obtain ⟨⟨c, ρ1⟩, e1, e⟩ := bind2 (γ := Unit) e
  cases c <;> try (cases e)
  rename_i c
  refine h.frz F ρ σ H R _ ρ1 e1 _ fun v F1 H1 R1 S1 r => ⟨c, r, ?_⟩
  cases c with
  | false => exact h2 F1 ρ1 σ H1 R1 b ρ' e Q fun v F2 H2 R2 S2 w => q v F2 H2 R2 (S1.trans S2) (w.back S1)
  | true =>
    cases e
    exact q _ F1 H1 R1 S1 rfl
theorem ev_notV {t : TE} {f : FE} (h : EvW K mg t f) : EvW K mg (tNotV t) (fNotV f) := fun F ρ σ H R b ρ' e Q q => by
  obtain ⟨⟨c, ρ1⟩, e1, e⟩ := bind2 (γ := Unit) e
  cases c <;> try (cases e)
  exact h.frz F ρ σ H R _ _ e1 _ fun v F1 H1 R1 S1 r => ⟨_, r, q _ F1 H1 R1 S1 rfl⟩
theorem ev_ifE {c : TT} {t u : TE} {fc : FT} {f g : FE} (hc : EvT K mg c fc) (h : EvW K mg t f) (h2 : EvW K mg u g) : EvW K mg (tIf c t u) (fIfE fc f g) := fun F ρ σ H R b ρ' e Q q => by
  obtain ⟨⟨c, ρ1⟩, e1, e⟩ := bind2 (γ := Unit) e
  refine hc F ρ σ H R c ρ1 e1 _ fun F1 H1 R1 S1 => ?_
  cases c with
  | true => exact h F1 ρ1 σ H1 R1 b ρ' e Q fun v F2 H2 R2 S2 w => q v F2 H2 R2 (S1.trans S2) (w.back S1)
  | false => exact h2 F1 ρ1 σ H1 R1 b ρ' e Q fun v F2 H2 R2 S2 w => q v F2 H2 R2 (S1.trans S2) (w.back S1)
/-- truth of a value -/
def gTru : Sl → Option Bool
  | .val .non => some false
  | .val (.bl b) => some b
  | .val (.int i) => some (i != 0)
  | .val (.tup ds) => some (!ds.isEmpty)
  | .val (.lst ds) => some (!ds.isEmpty)
  | .own ds => some (!ds.isEmpty)
  | _ => none
theorem Reps.isEmpty {F : Hp} {ds : List D} {vs : List V} (r : Reps K mg F ds vs) : ds.isEmpty = vs.isEmpty := by
  have := r.length
  cases ds <;> cases vs <;> first | rfl | cases this
theorem tru_at {F ρ σ H} (R : SR K mg F ρ σ H) {s : Sl} {v : V} {b : Bool} (h : SlR K mg F H s (some v)) (e : gTru s = some b) : TruV K v H b := by
  cases s with
  | no => cases e
  | oob c fs => cases e
  | odK k => cases e
  | odT k => cases e
  | ownA a k => cases e
  | own ds =>
    cases e
    obtain ⟨p, e3, _, vs, g, r⟩ := h
    cases e3
    exact .inl ⟨vs, .inl (.inl g), by rw [r.isEmpty]⟩
  | val x =>
    obtain ⟨w, e3, r⟩ := h
    cases e3
    cases x <;> try (cases e)
    · simp only [Rep] at r; subst r; rfl
    · simp only [Rep] at r; subst r; rfl
    · simp only [Rep] at r; subst r; rfl
    · simp only [Rep] at r
      obtain ⟨a, vs, rfl, _, g, r⟩ := r
      exact .inr (.inl ⟨vs, SqT.of (R.same _ _ g), by rw [r.isEmpty]⟩)
    · simp only [Rep] at r
      obtain ⟨a, vs, rfl, g, r⟩ := r
      exact .inl ⟨vs, .inl (.inl (R.same _ _ g)), by rw [r.isEmpty]⟩
def fTru (f : FE) : FT := fun ρ => (vl f ρ).bind fun p => (gTru (.val p.1)).map fun b => (b, p.2)
def fTruN (i : Nat) : FT := fun ρ => (ρ[i]?).bind fun s => (gTru s).map fun b => (b, ρ)
def tTru (K : PySem.W.Frag) (t : TE) : TT := fun σ H Q => t σ H fun x H' => ∃ k, TruV K x H' k ∧ Q k H'
theorem ev_tru {t : TE} {f : FE} (h : EvW K mg t f) : EvT K mg (tTru K t) (fTru f) := fun F ρ σ H R b ρ' e Q q => by
  obtain ⟨⟨x, ρ1⟩, e1, e⟩ := bind2 (γ := Unit) e
  obtain ⟨b', e2, e⟩ := map2 e
  cases e
  exact h.frz F ρ σ H R _ _ e1 _ fun v F1 H1 R1 S1 r => ⟨b, tru_at (s := .val x) R1 ⟨v, rfl, r⟩ e2, q F1 H1 R1 S1⟩
theorem ev_truN (i : Nat) : EvT K mg (tTru K (tVar i)) (fTruN i) := fun F ρ σ H R b ρ' e Q q => by
  obtain ⟨s, e1, e⟩ := bind2 (γ := Unit) e
  obtain ⟨b', e2, e⟩ := map2 e
  cases e
  have hk : knownAt ρ i = true := by
    unfold knownAt
    rw [e1]
    cases s <;> first | rfl | cases e2
  obtain ⟨v, ev⟩ := known_at R hk
  exact ⟨v, ev, b, tru_at R (R.at e1 ev) e2, q F H R .refl⟩

/-! ### arguments: a slot's own thing, or a value -/
def ArV (K : PySem.W.Frag) (mg : Str → Option Value) (F : Hp) (σ : L2.St) : List (Option Nat) → List D → List V → Prop
  | [], ds, vs => ds = [] ∧ vs = []
  | some i :: ks, ds, vs => ∃ v r, vs = v :: r ∧ σ[i]? = some (some v) ∧ ArV K mg F σ ks ds r
  | none :: ks, ds, vs => ∃ d r v w, ds = d :: r ∧ vs = v :: w ∧ Rep K mg F d v ∧ ArV K mg F σ ks r w
def EvB (K : PySem.W.Frag) (mg : Str → Option Value) (t : TA) (ks : List (Option Nat)) (f : FAr) : Prop := ∀ F ρ σ H, SR K mg F ρ σ H → ∀ ds ρ', f ρ = some (ds, ρ') → ∀ Q : List V → Hp → Prop,
  (∀ vs F' H', SR K mg F' ρ' σ H' → Stp F ρ σ H F' ρ' σ H' → ArV K mg F' σ ks ds vs → Q vs H') → t σ H Q
def fBSlot (i : Nat) (r : FAr) : FAr := fun ρ => if knownAt ρ i = true then r ρ else none
theorem ev_bnil : EvB K mg tNil [] fANil := fun F ρ σ H R ds ρ' e Q q => by
  cases e
  exact q [] F H R .refl ⟨rfl, rfl⟩
theorem ev_bslot (i : Nat) {t : TA} {ks : List (Option Nat)} {r : FAr} (hr : EvB K mg t ks r) : EvB K mg (tCons (tVar i) t) (some i :: ks) (fBSlot i r) := fun F ρ σ H R ds ρ' e Q q => by
  unfold fBSlot at e
  split at e
  · rename_i hk
    obtain ⟨v, ev⟩ := known_at R hk
    exact ⟨v, ev, hr F ρ σ H R ds ρ' e _ fun vs F1 H1 R1 S1 a => q _ F1 H1 R1 S1 ⟨v, vs, rfl, ev, a⟩⟩
  · cases e
theorem ArV.mono {F F' : Hp} {σ : L2.St} (m : Same F F') : ∀ {ks : List (Option Nat)} {ds : List D} {vs : List V}, ArV K mg F σ ks ds vs → ArV K mg F' σ ks ds vs
  | [], _, _, h => h
  | some i :: ks, _, _, h => by
    obtain ⟨v, r, e, e2, h⟩ := h
    exact ⟨v, r, e, e2, h.mono m⟩
  | none :: ks, _, _, h => by
    obtain ⟨d, r, v, w, e, e2, g, h⟩ := h
    exact ⟨d, r, v, w, e, e2, g.mono m, h.mono m⟩
theorem ev_bval {te : TE} {t : TA} {f : FE} {ks : List (Option Nat)} {r : FAr} (h : EvW K mg te f) (hr : EvB K mg t ks r) : EvB K mg (tCons te t) (none :: ks) (fACons f r) := fun F ρ σ H R ds ρ' e Q q => by
  obtain ⟨⟨x, ρ1⟩, e1, e⟩ := bind2 (γ := Unit) e
  obtain ⟨⟨xs, ρ2⟩, e2, e⟩ := map2 e
  cases e
  refine h.frz F ρ σ H R x ρ1 e1 _ fun vx F1 H1 R1 S1 rx => ?_
  exact hr F1 ρ1 σ H1 R1 xs _ e2 _ fun vs F2 H2 R2 S2 rs => q _ F2 H2 R2 (S1.trans S2) ⟨x, xs, vx, vs, rfl, rfl, rx.mono S2.sF, rs⟩
/-- what stands behind the arguments -/
def res : List (Option Nat) → List D → En → Option (List Sl)
  | [], _, _ => some []
  | some i :: ks, ds, ρ => (ρ[i]?).bind fun s => (res ks ds ρ).map fun r => s :: r
  | none :: ks, d :: ds, ρ => (res ks ds ρ).map fun r => .val d :: r
  | none :: _, [], _ => none
def SlRs (K : PySem.W.Frag) (mg : Str → Option Value) (F H : Hp) (ss : List Sl) (vs : List V) : Prop := ss.length = vs.length ∧ ∀ (i : Nat) (s : Sl), ss[i]? = some s → ∃ v, vs[i]? = some v ∧ DL.SlR K mg F H s (some v)
theorem SlRs.nil {F H : Hp} : SlRs K mg F H [] [] := ⟨rfl, fun i s e => by simp at e⟩
theorem SlRs.cons {F H : Hp} {s : Sl} {v : V} {ss : List Sl} {vs : List V} (h : DL.SlR K mg F H s (some v)) (r : SlRs K mg F H ss vs) : SlRs K mg F H (s :: ss) (v :: vs) :=
  ⟨by simp [r.1], fun i u e => by
    cases i with
    | zero => simp at e; subst e; exact ⟨v, rfl, h⟩
    | succ i => exact r.2 i u (by simpa using e)⟩
theorem res_ok {F ρ σ H} (R : SR K mg F ρ σ H) : ∀ {ks : List (Option Nat)} {ds : List D} {vs : List V} {ss : List Sl}, ArV K mg F σ ks ds vs → res ks ds ρ = some ss → SlRs K mg F H ss vs
  | [], _, _, _, h, e => by
    obtain ⟨rfl, rfl⟩ := h
    cases e
    exact .nil
  | some i :: ks, _, _, _, h, e => by
    obtain ⟨v, r, rfl, e2, h⟩ := h
    simp only [res] at e
    obtain ⟨s, e3, e⟩ := bind2 (γ := Unit) e
    obtain ⟨q, e4, rfl⟩ := map2 e
    exact .cons (R.at e3 e2) (res_ok R h e4)
  | none :: ks, _, _, _, h, e => by
    obtain ⟨d, r, v, w, rfl, rfl, g, h⟩ := h
    simp only [res] at e
    obtain ⟨q, e4, rfl⟩ := map2 e
    exact .cons ⟨v, rfl, g⟩ (res_ok R h e4)
/-- what a built-in function does -/
def RcW (K : PySem.W.Frag) (mg : Str → Option Value) (r : List V → Hp → VK → Prop) (g : List Sl → Option Sl) : Prop := ∀ F ρ σ H, SR K mg F ρ σ H → ∀ ss vs, SlRs K mg F H ss vs → ∀ s, g ss = some s → ∀ Q : VK,
  (∀ v F' H', SR K mg F' ρ σ H' → Stp F ρ σ H F' ρ σ H' → WV K mg F' ρ σ H' ρ σ H s v → Q v H') → r vs H Q
def fCall (g : List Sl → Option Sl) (ks : List (Option Nat)) (fa : FAr) : FE := fun ρ => (fa ρ).bind fun p => (res ks p.1 p.2).bind fun ss => (g ss).map fun s => (s, p.2)
theorem ev_call {r : List V → Hp → VK → Prop} {g : List Sl → Option Sl} {ks : List (Option Nat)} {t : TA} {fa : FAr} (hr : RcW K mg r g) (ha : EvB K mg t ks fa) : EvW K mg (tCB r t) (fCall g ks fa) := fun F ρ σ H R s ρ' e Q q => by
  obtain ⟨⟨ds, ρ1⟩, e1, e⟩ := bind2 (γ := Unit) e
  obtain ⟨ss, e2, e⟩ := bind2 (γ := Unit) e
  obtain ⟨s', e3, e⟩ := map2 e
  cases e
  refine ha F ρ σ H R ds _ e1 _ fun vs F1 H1 R1 S1 a => ?_
  exact hr F1 _ σ H1 R1 ss vs (res_ok R1 a e2) s e3 Q fun v F2 H2 R2 S2 w => q v F2 H2 R2 (S1.trans S2) (w.back S1)
theorem RcW.or {r r' : List V → Hp → VK → Prop} {g g' : List Sl → Option Sl} (h : RcW K mg r g) (h' : RcW K mg r' g') : RcW K mg (fun xs H Q => r xs H Q ∨ r' xs H Q) (fun ss => (g ss).or (g' ss)) := fun F ρ σ H R ss vs rs s e Q q => by
  dsimp only at e
  cases e1 : g ss with
  | some s' =>
    rw [e1] at e
    cases e
    exact .inl (h F ρ σ H R ss vs rs _ e1 Q q)
  | none =>
    rw [e1] at e
    exact .inr (h' F ρ σ H R ss vs rs _ e Q q)
/-! an in-test upon a slot -/
theorem ev_inN {neg : Bool} {ta : TE} {fa : FE} (i : Nat) (ha : EvW K mg ta fa) : EvW K mg (tOp (if neg then rNotInD K else rInD K) ta (tVar i)) (fInN neg fa i) := fun F ρ σ H R s ρ' e Q q => by
  obtain ⟨⟨x, ρ1⟩, e1, e⟩ := bind2 (γ := Unit) e
  dsimp only at e
  refine ha.frz F ρ σ H R x ρ1 e1 _ fun vx F1 H1 R1 S1 rx => ?_
  have fin : ∀ (ds : List D) (v : V), σ[i]? = some (some v) → Dp K H1 v (.list (toPs ds)) → (if okE x = true ∧ okE (.lst ds) = true then some (Sl.val (.bl (if neg then !inD x ds else inD x ds)), ρ1) else none) = some (s, ρ') → tVar i σ H1 (fun y H2 => (if neg then rNotInD K else rInD K) vx y H2 Q) := fun ds v ev dv e => by
    split at e
    · rename_i h
      cases e
      obtain ⟨d1, s1⟩ := okE_dp h.1 (rx.mono R1.same)
      have s2 : SeqAt.shaped (.list (toPs ds)) = true := by
        have := h.2
        unfold okE at this
        rw [Bool.and_eq_true] at this
        simpa only [toP] using this.2
      refine ⟨v, ev, ?_⟩
      cases neg with
      | true =>
        refine ⟨_, toPs ds, d1, dv, s1, s2, ?_⟩
        rw [toPs_any]
        exact q _ F1 H1 R1 S1 rfl
      | false =>
        refine ⟨_, toPs ds, d1, dv, s1, s2, ?_⟩
        rw [toPs_any]
        exact q _ F1 H1 R1 S1 rfl
    · cases e
  have okl : ∀ ds : List D, (if okE x = true ∧ okE (.lst ds) = true then some (Sl.val (.bl (if neg then !inD x ds else inD x ds)), ρ1) else none) = some (s, ρ') → okPs ds = true := fun ds e => by
    split at e
    · rename_i h
      have := h.2
      unfold okE at this
      rw [Bool.and_eq_true] at this
      simpa only [okP] using this.1
    · cases e
  split at e
  · rename_i ds e2
    obtain ⟨p, vs, ev, f, g, r, _⟩ := R1.own e2
    refine fin ds _ ev ?_ e
    exact .lst (.inl (.inl g)) (Reps.dp (okl ds e) (r.mono R1.same))
  · rename_i ds e2
    obtain ⟨v, ev, r⟩ := R1.val e2
    refine fin ds _ ev ?_ e
    simp only [Rep] at r
    obtain ⟨a, vs, rfl, g, r⟩ := r
    exact .lst (.inl (.inl (R1.same _ _ g))) (Reps.dp (okl ds e) (r.mono R1.same))
  · cases e
end
end
end DL
namespace DL
open PySem PySem.Spec PyProof.Rows L2
noncomputable section
/-! ### built-in functions over data -/
def gLen : List Sl → Option Sl
  | [s] => (seqOf s).map fun ds => .val (.int ds.length)
  | _ => none
def intsOf : List D → Option (List Int)
  | [] => some []
  | .int i :: ds => (intsOf ds).map fun r => i :: r
  | _ :: _ => none
def pairsOf : List D → Option (List (Int × Int))
  | [] => some []
  | .tup [.int i, .int j] :: ds => (pairsOf ds).map fun r => (i, j) :: r
  | _ :: _ => none
/-- a list's items -/
def lstOf : Sl → Option (List D)
  | .own ds => some ds
  | .val (.lst ds) => some ds
  | .val (.scr ns) => some (ns.map D.int)
  | _ => none
def gSum : List Sl → Option Sl
  | [s] => ((lstOf s).bind intsOf).map fun ns => .val (.int ns.sum)
  | _ => none
def gMax1 : List Sl → Option Sl
  | [s] => ((lstOf s).bind intsOf).bind fun ns => ns.max?.map fun m => .val (.int m)
  | _ => none
def gMin1 : List Sl → Option Sl
  | [s] => ((lstOf s).bind intsOf).bind fun ns => ns.min?.map fun m => .val (.int m)
  | _ => none
def gMax2 : List Sl → Option Sl
  | [.val (.int i), .val (.int j)] => some (.val (.int (if j > i then j else i)))
  | _ => none
def gMin2 : List Sl → Option Sl
  | [.val (.int i), .val (.int j)] => some (.val (.int (if j < i then j else i)))
  | _ => none
def gMax : List Sl → Option Sl := fun ss => (gMax1 ss).or (gMax2 ss)
def gMin : List Sl → Option Sl := fun ss => (gMin1 ss).or (gMin2 ss)
def gAbs : List Sl → Option Sl
  | [.val (.int i)] => some (.val (.int (if i < 0 then -i else i)))
  | _ => none
def gInt : List Sl → Option Sl
  | [.val (.int i)] => some (.val (.int i))
  | [.val (.bl k)] => some (.val (.int (if k then 1 else 0)))
  | _ => none
def gList : List Sl → Option Sl
  | [s] => (seqOf s).map fun ds => .own ds
  | _ => none
def gTuple : List Sl → Option Sl
  | [s] => (seqOf s).map fun ds => .val (.tup ds)
  | _ => none
def sortI (ns : List Int) : List Int := ns.mergeSort
def lexLe (x y : Int × Int) : Bool := decide (x.1 < y.1 ∨ (x.1 = y.1 ∧ x.2 ≤ y.2))
def sortP (ps : List (Int × Int)) : List (Int × Int) := ps.mergeSort lexLe
def pairD (p : Int × Int) : D := .tup [.int p.1, .int p.2]
def gSortI : List Sl → Option Sl
  | [s] => ((lstOf s).bind intsOf).map fun ns => .own ((sortI ns).map D.int)
  | _ => none
def gSortP : List Sl → Option Sl
  | [s] => ((lstOf s).bind pairsOf).map fun ps => .own ((sortP ps).map pairD)
  | _ => none
def gSorted : List Sl → Option Sl := fun ss => (gSortI ss).or (gSortP ss)
theorem intsOf_eq : ∀ {ds : List D} {ns : List Int}, intsOf ds = some ns → ds = ns.map D.int
  | [], _, e => by cases e; rfl
  | d :: ds, ns, e => by
    cases d <;> try (cases e)
    obtain ⟨r, e1, rfl⟩ := map2 e
    rw [intsOf_eq e1]
    rfl
theorem intsOf_map : ∀ ns : List Int, intsOf (ns.map D.int) = some ns
  | [] => rfl
  | n :: ns => by
    show (intsOf (ns.map D.int)).map _ = _
    rw [intsOf_map ns]
    rfl
theorem pairsOf_eq : ∀ {ds : List D} {ps : List (Int × Int)}, pairsOf ds = some ps → ds = ps.map pairD
  | [], _, e => by cases e; rfl
  | d :: ds, ps, e => by
    unfold pairsOf at e
    split at e
    · rename_i h
      cases h
    · rename_i i j ds' h
      injection h with h1 h2
      subst h1 h2
      obtain ⟨r, e1, rfl⟩ := map2 e
      rw [pairsOf_eq e1]
      rfl
    · cases e
theorem pairsOf_map : ∀ ps : List (Int × Int), pairsOf (ps.map pairD) = some ps
  | [] => rfl
  | p :: ps => by
    show (pairsOf (ps.map pairD)).map _ = _
    rw [pairsOf_map ps]
    rfl
theorem sortI_perm (ns : List Int) : (sortI ns).Perm ns := List.mergeSort_perm _ _
theorem sortI_le (ns : List Int) : (sortI ns).Pairwise (· ≤ ·) := by
  have h := List.pairwise_mergeSort (le := fun a b : Int => decide (a ≤ b)) (fun a b c h1 h2 => decide_eq_true (Int.le_trans (of_decide_eq_true h1) (of_decide_eq_true h2)))
    (fun a b => by rw [Bool.or_eq_true, decide_eq_true_eq, decide_eq_true_eq]; omega) ns
  exact h.imp fun h => of_decide_eq_true h
theorem sortI_of {ns ms : List Int} (p : ms.Perm ns) (h : ms.Pairwise (· ≤ ·)) : ms = sortI ns :=
  List.Perm.eq_of_pairwise (le := (· ≤ ·)) (fun a b _ _ h1 h2 => Int.le_antisymm h1 h2) h (sortI_le ns) (p.trans (sortI_perm ns).symm)
theorem lexLe_iff {x y : Int × Int} : lexLe x y = true ↔ x.1 < y.1 ∨ (x.1 = y.1 ∧ x.2 ≤ y.2) := decide_eq_true_iff
theorem sortP_perm (ps : List (Int × Int)) : (sortP ps).Perm ps := List.mergeSort_perm _ _
theorem sortP_le (ps : List (Int × Int)) : (sortP ps).Pairwise fun x y => lexLe x y = true :=
  List.pairwise_mergeSort (le := lexLe) (fun a b c h1 h2 => by rw [lexLe_iff] at h1 h2 ⊢; omega) (fun a b => by rw [Bool.or_eq_true, lexLe_iff, lexLe_iff]; omega) ps
theorem sortP_of {ps qs : List (Int × Int)} (p : qs.Perm ps) (h : qs.Pairwise fun x y => lexLe x y = true) : qs = sortP ps :=
  List.Perm.eq_of_pairwise (le := fun x y => lexLe x y = true) (fun a b _ _ h1 h2 => by
    rw [lexLe_iff] at h1 h2
    exact Prod.ext (by omega) (by omega)) h (sortP_le ps) (p.trans (sortP_perm ps).symm)

section
variable {K : PySem.W.Frag} {mg : Str → Option Value}
theorem SlRs.one {F H : Hp} {s : Sl} {vs : List V} (h : SlRs K mg F H [s] vs) : ∃ v, vs = [v] ∧ DL.SlR K mg F H s (some v) := by
  obtain ⟨hl, h⟩ := h
  obtain ⟨v, e, r⟩ := h 0 s rfl
  cases vs with
  | nil => simp at e
  | cons w ws =>
    cases ws with
    | nil => simp at e; subst e; exact ⟨w, rfl, r⟩
    | cons _ _ => simp at hl
theorem SlRs.two {F H : Hp} {s t : Sl} {vs : List V} (h : SlRs K mg F H [s, t] vs) : ∃ v w, vs = [v, w] ∧ DL.SlR K mg F H s (some v) ∧ DL.SlR K mg F H t (some w) := by
  obtain ⟨hl, h⟩ := h
  obtain ⟨v, e, r⟩ := h 0 s rfl
  obtain ⟨w, e2, r2⟩ := h 1 t rfl
  cases vs with
  | nil => simp at e
  | cons a ws =>
    cases ws with
    | nil => simp at hl
    | cons b ws =>
      cases ws with
      | nil => simp at e e2; subst e e2; exact ⟨_, _, rfl, r, r2⟩
      | cons _ _ => simp at hl
/-- a sequence as it lies in the heap -/
theorem seq_at {F ρ σ H} (R : SR K mg F ρ σ H) {s : Sl} {v : V} {ds : List D} (h : DL.SlR K mg F H s (some v)) (e : seqOf s = some ds) :
    ∃ a vs, v = .ref a ∧ (SqL K H a vs ∨ SqT K H a vs) ∧ Reps K mg F ds vs ∧ vs.length ≤ sizeLine := by
  cases s with
  | no => cases e
  | oob c fs => cases e
  | odK k => cases e
  | odT k => cases e
  | ownA a k => cases e
  | own es =>
    cases e
    obtain ⟨p, e3, _, vs, g, r⟩ := h
    cases e3
    exact ⟨p, vs, rfl, .inl (.inl (.inl g)), r, R.siz _ _ g⟩
  | val x =>
    obtain ⟨w, e3, r⟩ := h
    cases e3
    cases x <;> try (cases e)
    · simp only [Rep] at r
      obtain ⟨a, vs, rfl, z, g, r⟩ := r
      exact ⟨a, vs, rfl, .inr (SqT.of (R.same _ _ g)), r, z⟩
    · simp only [Rep] at r
      obtain ⟨a, vs, rfl, g, r⟩ := r
      exact ⟨a, vs, rfl, .inl (.inl (.inl (R.same _ _ g))), r, R.siz _ _ (R.same _ _ g)⟩
    · simp only [Rep] at r
      obtain ⟨a, rfl, z, g⟩ := r
      exact ⟨a, _, rfl, .inl (R.same.seq g), Reps.of_ints, by rw [List.length_map]; exact z⟩
theorem lst_at {F ρ σ H} (R : SR K mg F ρ σ H) {s : Sl} {v : V} {ds : List D} (h : DL.SlR K mg F H s (some v)) (e : lstOf s = some ds) : ∃ a vs, v = .ref a ∧ SqL K H a vs ∧ Reps K mg F ds vs ∧ vs.length ≤ sizeLine := by
  cases s with
  | no => cases e
  | oob c fs => cases e
  | odK k => cases e
  | odT k => cases e
  | ownA a k => cases e
  | own es =>
    cases e
    obtain ⟨p, e3, _, vs, g, r⟩ := h
    cases e3
    exact ⟨p, vs, rfl, .inl (.inl g), r, R.siz _ _ g⟩
  | val x =>
    obtain ⟨w, e3, r⟩ := h
    cases e3
    cases x <;> try (cases e)
    · simp only [Rep] at r
      obtain ⟨a, vs, rfl, g, r⟩ := r
      exact ⟨a, vs, rfl, .inl (.inl (R.same _ _ g)), r, R.siz _ _ (R.same _ _ g)⟩
    · simp only [Rep] at r
      obtain ⟨a, rfl, z, g⟩ := r
      exact ⟨a, _, rfl, R.same.seq g, Reps.of_ints, by rw [List.length_map]; exact z⟩
theorem ints_at {F ρ σ H} (R : SR K mg F ρ σ H) {s : Sl} {v : V} {ns : List Int} (h : DL.SlR K mg F H s (some v)) (e : (lstOf s).bind intsOf = some ns) : ∃ a, v = .ref a ∧ SqL K H a (ns.map V.int) := by
  obtain ⟨ds, e1, e2⟩ := bind2 (γ := Unit) e
  obtain ⟨a, vs, rfl, g, r, _⟩ := lst_at R h e1
  have e3 := intsOf_eq e2
  subst e3
  rw [Reps.ints r] at g
  exact ⟨a, rfl, g⟩
theorem c_len : RcW K mg (fun xs H Q => ∃ p ys, xs = [.ref p] ∧ (SqL K H p ys ∨ SqT K H p ys) ∧ Q (.int ys.length) H) gLen := fun F ρ σ H R ss vs rs s e Q q => by
  match ss, e with
  | [u], e =>
    obtain ⟨ds, e1, rfl⟩ := map2 e
    obtain ⟨v, rfl, r⟩ := rs.one
    obtain ⟨a, us, rfl, g, r, _⟩ := seq_at R r e1
    refine ⟨a, us, rfl, g, ?_⟩
    rw [← r.length]
    exact q _ F H R .refl rfl
theorem c_sum : RcW K mg (rSum K) gSum := fun F ρ σ H R ss vs rs s e Q q => by
  match ss, e with
  | [u], e =>
    obtain ⟨ns, e1, rfl⟩ := map2 e
    obtain ⟨v, rfl, r⟩ := rs.one
    obtain ⟨a, rfl, g⟩ := ints_at R r e1
    exact ⟨a, ns, rfl, g, q _ F H R .refl rfl⟩
theorem c_max1 : RcW K mg (rMax K) gMax1 := fun F ρ σ H R ss vs rs s e Q q => by
  match ss, e with
  | [u], e =>
    obtain ⟨ns, e1, e⟩ := bind2 (γ := Unit) e
    obtain ⟨m, e2, rfl⟩ := map2 e
    obtain ⟨v, rfl, r⟩ := rs.one
    obtain ⟨a, rfl, g⟩ := ints_at R r e1
    rw [List.max?_eq_some_iff] at e2
    refine ⟨a, ns, rfl, g, List.length_pos_of_mem e2.1, fun m' h1 h2 => ?_⟩
    have em : m' = m := Int.le_antisymm (e2.2 m' h1) (h2 m e2.1)
    subst em
    exact q _ F H R .refl rfl
theorem c_min1 : RcW K mg (rMin K) gMin1 := fun F ρ σ H R ss vs rs s e Q q => by
  match ss, e with
  | [u], e =>
    obtain ⟨ns, e1, e⟩ := bind2 (γ := Unit) e
    obtain ⟨m, e2, rfl⟩ := map2 e
    obtain ⟨v, rfl, r⟩ := rs.one
    obtain ⟨a, rfl, g⟩ := ints_at R r e1
    rw [List.min?_eq_some_iff] at e2
    refine ⟨a, ns, rfl, g, List.length_pos_of_mem e2.1, fun m' h1 h2 => ?_⟩
    have em : m' = m := Int.le_antisymm (h2 m e2.1) (e2.2 m' h1)
    subst em
    exact q _ F H R .refl rfl
theorem val_int {F H : Hp} {i : Int} {v : V} (h : DL.SlR K mg F H (.val (.int i)) (some v)) : v = .int i := by
  obtain ⟨w, e, r⟩ := h
  cases e
  exact r
theorem c_max2 : RcW K mg (fun xs H Q => ∃ i j, xs = [.int i, .int j] ∧ Q (.int (if j > i then j else i)) H) gMax2 := fun F ρ σ H R ss vs rs s e Q q => by
  match ss, e with
  | [.val (.int i), .val (.int j)], e =>
    cases e
    obtain ⟨v, w, rfl, r1, r2⟩ := rs.two
    rw [val_int r1, val_int r2]
    exact ⟨i, j, rfl, q _ F H R .refl rfl⟩
theorem c_min2 : RcW K mg (fun xs H Q => ∃ i j, xs = [.int i, .int j] ∧ Q (.int (if j < i then j else i)) H) gMin2 := fun F ρ σ H R ss vs rs s e Q q => by
  match ss, e with
  | [.val (.int i), .val (.int j)], e =>
    cases e
    obtain ⟨v, w, rfl, r1, r2⟩ := rs.two
    rw [val_int r1, val_int r2]
    exact ⟨i, j, rfl, q _ F H R .refl rfl⟩
theorem c_abs : RcW K mg (fun xs H Q => ∃ i, xs = [.int i] ∧ Q (.int (if i < 0 then -i else i)) H) gAbs := fun F ρ σ H R ss vs rs s e Q q => by
  match ss, e with
  | [.val (.int i)], e =>
    cases e
    obtain ⟨v, rfl, r1⟩ := rs.one
    rw [val_int r1]
    exact ⟨i, rfl, q _ F H R .refl rfl⟩
theorem c_int : RcW K mg (fun xs H Q => (∃ i, xs = [.int i] ∧ Q (.int i) H) ∨ ∃ k, xs = [.bl k] ∧ Q (.int (if k then 1 else 0)) H) gInt := fun F ρ σ H R ss vs rs s e Q q => by
  match ss, e with
  | [.val (.int i)], e =>
    cases e
    obtain ⟨v, rfl, r1⟩ := rs.one
    rw [val_int r1]
    exact .inl ⟨i, rfl, q _ F H R .refl rfl⟩
  | [.val (.bl i)], e =>
    cases e
    obtain ⟨v, rfl, w, e2, r1⟩ := rs.one
    cases e2
    exact .inr ⟨i, by rw [show v = .bl i from r1], q _ F H R .refl rfl⟩
theorem c_list : RcW K mg (fun xs H Q => ∃ p ys, xs = [.ref p] ∧ (SqL K H p ys ∨ SqT K H p ys) ∧ ∀ l, H l = none → Q (.ref l) (upd H l (.lst ys))) gList := fun F ρ σ H R ss vs rs s e Q q => by
  match ss, e with
  | [u], e =>
    obtain ⟨ds, e1, rfl⟩ := map2 e
    obtain ⟨v, rfl, r⟩ := rs.one
    obtain ⟨a, us, rfl, g, r, z⟩ := seq_at R r e1
    exact ⟨a, us, rfl, g, wv_new R r z q⟩
theorem c_tuple : RcW K mg (fun xs H Q => ∃ p ys, xs = [.ref p] ∧ ((SqL K H p ys ∧ ∀ l, H l = none → Q (.ref l) (upd H l (.tup ys))) ∨ (SqT K H p ys ∧ Q (.ref p) H))) gTuple := fun F ρ σ H R ss vs rs s e Q q => by
  match ss, e with
  | [u], e =>
    obtain ⟨ds, e1, rfl⟩ := map2 e
    obtain ⟨v, rfl, r⟩ := rs.one
    by_cases ht : ∃ es, u = .val (.tup es)
    · obtain ⟨es, rfl⟩ := ht
      cases e1
      obtain ⟨w, e3, r⟩ := r
      cases e3
      have r' := r
      simp only [Rep] at r'
      obtain ⟨a, us, rfl, z, g, _⟩ := r'
      exact ⟨a, us, rfl, .inr ⟨SqT.of (R.same _ _ g), q _ F H R .refl r⟩⟩
    · have e2 : lstOf u = some ds := by
        cases u <;> try (cases e1)
        · rename_i x
          cases x <;> try (cases e1)
          · exact absurd ⟨_, rfl⟩ ht
          · rfl
          · rfl
        · rfl
      obtain ⟨a, us, rfl, g, r, z⟩ := lst_at R r e2
      exact ⟨a, us, rfl, .inl ⟨g, wv_tup R r z q⟩⟩
theorem c_sortI : RcW K mg (rSortedI K) gSortI := fun F ρ σ H R ss vs rs s e Q q => by
  match ss, e with
  | [u], e =>
    obtain ⟨ns, e1, rfl⟩ := map2 e
    obtain ⟨v, rfl, r⟩ := rs.one
    obtain ⟨ds, e2, e3⟩ := bind2 (γ := Unit) e1
    obtain ⟨a, us, rfl, g, r, z⟩ := lst_at R r e2
    have e4 := intsOf_eq e3
    subst e4
    rw [Reps.ints r] at g z
    refine ⟨a, ns, rfl, g, fun ns' p pm pw hp => ?_⟩
    rw [sortI_of pm pw]
    refine wv_new R Reps.of_ints ?_ q p hp
    rw [List.length_map, (sortI_perm ns).length_eq]
    rw [List.length_map] at z
    exact z
/-- the pair that a value stands for -/
theorem pair_at {F : Hp} {p : Int × Int} {v : V} (h : Rep K mg F (pairD p) v) : ∃ t, v = .ref t ∧ F t = some (.tup [.int p.1, .int p.2]) := by
  simp only [pairD, Rep, Reps] at h
  obtain ⟨a, vs, rfl, _, g, v1, r1, rfl, rfl, v2, r2, rfl, rfl, rfl⟩ := h
  exact ⟨a, rfl, g⟩
theorem pairs_at {F : Hp} : ∀ {ps : List (Int × Int)} {vs : List V}, Reps K mg F (ps.map pairD) vs → ∀ x ∈ vs, ∃ t p, x = .ref t ∧ p ∈ ps ∧ F t = some (.tup [.int p.1, .int p.2])
  | [], _, h, x, hx => by
    simp only [List.map_nil, Reps] at h
    subst h
    cases hx
  | p :: ps, _, h, x, hx => by
    simp only [List.map_cons, Reps] at h
    obtain ⟨v, r, rfl, h1, h2⟩ := h
    rcases List.mem_cons.mp hx with e | hx
    · subst e
      obtain ⟨t, rfl, g⟩ := pair_at h1
      exact ⟨t, p, rfl, List.mem_cons_self, g⟩
    · obtain ⟨t, q, e, m, g⟩ := pairs_at h2 x hx
      exact ⟨t, q, e, List.mem_cons_of_mem _ m, g⟩
/-- the two ints of the pair at v -/
def keyAt (F : Hp) : V → Int × Int
  | .ref t => match F t with
    | some (.tup [.int i, .int j]) => (i, j)
    | _ => (0, 0)
  | _ => (0, 0)
theorem keyAt_of {F : Hp} {t : Addr} {p : Int × Int} (g : F t = some (.tup [.int p.1, .int p.2])) : keyAt F (.ref t) = p := by
  unfold keyAt
  simp only [g]
theorem keys_at {F : Hp} : ∀ {ps : List (Int × Int)} {vs : List V}, Reps K mg F (ps.map pairD) vs → vs.map (keyAt F) = ps
  | [], _, h => by
    simp only [List.map_nil, Reps] at h
    subst h
    rfl
  | p :: ps, _, h => by
    simp only [List.map_cons, Reps] at h
    obtain ⟨v, r, rfl, h1, h2⟩ := h
    obtain ⟨t, rfl, g⟩ := pair_at h1
    rw [List.map_cons, keyAt_of g, keys_at h2]
theorem reps_keys {F : Hp} : ∀ {vs : List V}, (∀ x ∈ vs, Rep K mg F (pairD (keyAt F x)) x) → Reps K mg F ((vs.map (keyAt F)).map pairD) vs
  | [], _ => rfl
  | v :: vs, h => ⟨v, vs, rfl, h v List.mem_cons_self, reps_keys fun x hx => h x (List.mem_cons_of_mem _ hx)⟩
theorem c_sortP : RcW K mg (rSortedPO K) gSortP := fun F ρ σ H R ss vs rs s e Q q => by
  match ss, e with
  | [u], e =>
    obtain ⟨ps, e1, rfl⟩ := map2 e
    obtain ⟨v, rfl, r⟩ := rs.one
    obtain ⟨ds, e2, e3⟩ := bind2 (γ := Unit) e1
    obtain ⟨a, us, rfl, g, r, z⟩ := lst_at R r e2
    have e4 := pairsOf_eq e3
    subst e4
    have hk := keys_at r
    refine ⟨a, us, keyAt F, rfl, g, fun x hx => ?_, fun ys p hs hb hp => ?_⟩
    · obtain ⟨t, p, rfl, _, gt⟩ := pairs_at r x hx
      rw [keyAt_of gt]
      exact ⟨t, rfl, R.same _ _ gt⟩
    · have hperm : ys.Perm us := hb.perm
      have e5 : ys.map (keyAt F) = sortP ps := by
        refine sortP_of ((hperm.map _).trans (by rw [hk])) ?_
        rw [List.pairwise_map]
        refine hs.imp fun {x y} h => ?_
        have := SrtO.lexB_no.mp h
        rw [lexLe_iff]
        omega
      have rr : Reps K mg F ((sortP ps).map pairD) ys := by
        rw [← e5]
        refine reps_keys fun x hx => ?_
        have hx' := hperm.mem_iff.mp hx
        obtain ⟨i, hi, ei⟩ := List.getElem_of_mem hx'
        have e6 : us[i]? = some x := by rw [List.getElem?_eq_getElem hi, ei]
        obtain ⟨d, e7, rd⟩ := r.getV e6
        rw [List.getElem?_map] at e7
        obtain ⟨p, e8, rfl⟩ := map2 e7
        obtain ⟨t, rfl, gt⟩ := pair_at rd
        rw [keyAt_of gt]
        exact rd
      refine wv_new R rr ?_ q p hp
      rw [hperm.length_eq]
      exact z
theorem c_sorted : RcW K mg (fun xs H Q => rSortedI K xs H Q ∨ rSortedPO K xs H Q) gSorted := c_sortI.or c_sortP
theorem c_max : RcW K mg (fun xs H Q => rMax K xs H Q ∨ ∃ i j, xs = [.int i, .int j] ∧ Q (.int (if j > i then j else i)) H) gMax := c_max1.or c_max2
theorem c_min : RcW K mg (fun xs H Q => rMin K xs H Q ∨ ∃ i j, xs = [.int i, .int j] ∧ Q (.int (if j < i then j else i)) H) gMin := c_min1.or c_min2
end
end
end DL
namespace DL
open PySem PySem.Spec PyProof.Rows L2
noncomputable section
/-! ### statements -/
inductive Ou where
  | nx (ρ : En) | rt (s : Sl) (ρ : En) | bk (ρ : En) | ct (ρ : En)
abbrev FS := En → Option Ou
/-- the slots in M hold what they held -/
def Kp (M : List Nat) (σ σ' : L2.St) : Prop := ∀ i ∈ M, σ'[i]? = σ[i]?
theorem Kp.refl {M : List Nat} {σ : L2.St} : Kp M σ σ := fun _ _ => rfl
theorem Kp.trans {M : List Nat} {σ σ1 σ2 : L2.St} (a : Kp M σ σ1) (b : Kp M σ1 σ2) : Kp M σ σ2 := fun i h => (b i h).trans (a i h)
theorem Kp.set {M : List Nat} {σ : L2.St} {i : Nat} {ov : Option V} (h : i ∉ M) : Kp M σ (σ.set i ov) := fun j hj => by
  have n : i ≠ j := fun e => h (e ▸ hj)
  rw [List.getElem?_set_ne n]
section
variable (K : PySem.W.Frag) (mg : Str → Option Value)
/-- what is wanted of an outcome -/
def Gd (M : List Nat) (F : Hp) (ρ : En) (σ : L2.St) (H : Hp) (Dn : Ends) : Ou → Prop
  | .nx ρ' => ∀ F' σ' H', SR K mg F' ρ' σ' H' → Stp F ρ σ H F' ρ' σ' H' → Kp M σ σ' → Dn.nx σ' H'
  | .bk ρ' => ∀ F' σ' H', SR K mg F' ρ' σ' H' → Stp F ρ σ H F' ρ' σ' H' → Kp M σ σ' → Dn.bk σ' H'
  | .ct ρ' => ∀ F' σ' H', SR K mg F' ρ' σ' H' → Stp F ρ σ H F' ρ' σ' H' → Kp M σ σ' → Dn.ct σ' H'
  | .rt s ρ' => ∀ v F' σ' H', SR K mg F' ρ' σ' H' → Stp F ρ σ H F' ρ' σ' H' → Kp M σ σ' → WV K mg F' ρ' σ' H' ρ σ H s v → Dn.rt v H'
def EvS (M : List Nat) (t : TS) (f : FS) : Prop := ∀ F ρ σ H, SR K mg F ρ σ H → ∀ o, f ρ = some o → ∀ Dn : Ends, Gd K mg M F ρ σ H Dn o → t Dn σ H
end
/-- the state moves on: what is wanted from here -/
theorem Gd.move {K : PySem.W.Frag} {mg : Str → Option Value} {M : List Nat} {F F1 : Hp} {ρ ρ1 : En} {σ σ1 : L2.St} {H H1 : Hp} {Dn : Ends} {o : Ou} (S : Stp F ρ σ H F1 ρ1 σ1 H1) (k : Kp M σ σ1) (g : Gd K mg M F ρ σ H Dn o) : Gd K mg M F1 ρ1 σ1 H1 Dn o := by
  cases o with
  | nx ρ' => exact fun F' σ' H' R' S' k' => g F' σ' H' R' (S.trans S') (k.trans k')
  | bk ρ' => exact fun F' σ' H' R' S' k' => g F' σ' H' R' (S.trans S') (k.trans k')
  | ct ρ' => exact fun F' σ' H' R' S' k' => g F' σ' H' R' (S.trans S') (k.trans k')
  | rt s ρ' => exact fun v F' σ' H' R' S' k' w => g v F' σ' H' R' (S.trans S') (k.trans k') (w.back S)
def sNop : FS := fun ρ => some (.nx ρ)
def sBrk : FS := fun ρ => some (.bk ρ)
def sCont : FS := fun ρ => some (.ct ρ)
def sSeq (f g : FS) : FS := fun ρ => match f ρ with
  | some (.nx ρ') => g ρ'
  | o => o
def sIf (c : FT) (f g : FS) : FS := fun ρ => (c ρ).bind fun p => if p.1 = true then f p.2 else g p.2
def sRet (f : FE) : FS := fun ρ => (f ρ).map fun p => .rt p.1 p.2
def sRetN : FS := fun ρ => some (.rt (.val .non) ρ)
def sDrop (f : FE) : FS := fun ρ => (f ρ).map fun p => .nx p.2
def sNever : FS := fun _ => none
/-- name = value -/
def sSet (i : Nat) (f : FE) : FS := fun ρ => (f ρ).map fun p => .nx (p.2.set i p.1)
/-- slots that are not asked again -/
def fgt : List Nat → En → En
  | [], ρ => ρ
  | i :: is, ρ => fgt is (ρ.set i .no)
def sFgt (is : List Nat) : FS := fun ρ => some (.nx (fgt is ρ))
section
variable {K : PySem.W.Frag} {mg : Str → Option Value} {M : List Nat}
theorem es_nop : EvS K mg M tNext sNop := fun F ρ σ H R o e Dn g => by
  cases e
  exact g F σ H R .refl .refl
theorem es_brk : EvS K mg M tBreak sBrk := fun F ρ σ H R o e Dn g => by
  cases e
  exact g F σ H R .refl .refl
theorem es_cont : EvS K mg M tCont sCont := fun F ρ σ H R o e Dn g => by
  cases e
  exact g F σ H R .refl .refl
theorem es_never : EvS K mg M tNever sNever := fun F ρ σ H R o e Dn g => nomatch e
theorem es_seq {t u : TS} {f g : FS} (h : EvS K mg M t f) (h2 : EvS K mg M u g) : EvS K mg M (tSeq t u) (sSeq f g) := fun F ρ σ H R o e Dn gd => by
  unfold sSeq at e
  cases e1 : f ρ with
  | none => rw [e1] at e; cases e
  | some o1 =>
    rw [e1] at e
    refine h F ρ σ H R o1 e1 _ ?_
    cases o1 with
    | nx ρ1 => exact fun F1 σ1 H1 R1 S1 k1 => h2 F1 ρ1 σ1 H1 R1 o e Dn (gd.move S1 k1)
    | rt s ρ1 => cases e; exact gd
    | bk ρ1 => cases e; exact gd
    | ct ρ1 => cases e; exact gd
theorem es_if {c : TT} {t u : TS} {fc : FT} {f g : FS} (hc : EvT K mg c fc) (h : EvS K mg M t f) (h2 : EvS K mg M u g) : EvS K mg M (tIfS c t u) (sIf fc f g) := fun F ρ σ H R o e Dn gd => by
  obtain ⟨⟨b, ρ1⟩, e1, e⟩ := bind2 (γ := Unit) e
  refine hc F ρ σ H R b ρ1 e1 _ fun F1 H1 R1 S1 => ?_
  cases b with
  | true => exact h F1 ρ1 σ H1 R1 o e Dn (gd.move S1 .refl)
  | false => exact h2 F1 ρ1 σ H1 R1 o e Dn (gd.move S1 .refl)
theorem es_ret {t : TE} {f : FE} (h : EvW K mg t f) : EvS K mg M (tRet t) (sRet f) := fun F ρ σ H R o e Dn gd => by
  obtain ⟨⟨s, ρ1⟩, e1, rfl⟩ := map2 e
  exact h F ρ σ H R s ρ1 e1 _ fun v F1 H1 R1 S1 w => gd v F1 σ H1 R1 S1 .refl w
theorem es_retN : EvS K mg M tRetN sRetN := fun F ρ σ H R o e Dn gd => by
  cases e
  exact gd .non F σ H R .refl .refl rfl
theorem es_drop {t : TE} {f : FE} (h : EvW K mg t f) : EvS K mg M (tDrop t) (sDrop f) := fun F ρ σ H R o e Dn gd => by
  obtain ⟨⟨s, ρ1⟩, e1, rfl⟩ := map2 e
  exact h F ρ σ H R s ρ1 e1 _ fun v F1 H1 R1 S1 w => gd F1 σ H1 R1 S1 .refl
theorem WV.sl {F : Hp} {ρ : En} {σ : L2.St} {H : Hp} {ρ0 : En} {σ0 : L2.St} {H0 : Hp} {s : Sl} {v : V} (h : WV K mg F ρ σ H ρ0 σ0 H0 s v) : DL.SlR K mg F H s (some v) := by
  by_cases o : s.isOwn = true
  · obtain ⟨p, rfl, g, n, w⟩ := h.own o
    exact DL.SlR.of_ow g
  · cases s with
    | val d => exact ⟨v, rfl, h⟩
    | no => trivial
    | own ds => exact absurd rfl o
    | oob c fs => exact absurd rfl o
    | odK ds => exact absurd rfl o
    | odT ds => exact absurd rfl o
    | ownA a ds => exact absurd rfl o
theorem Stp.put {F0 : Hp} {ρ0 : En} {σ0 : L2.St} {H0 : Hp} {F ρ σ H} (S : Stp F0 ρ0 σ0 H0 F ρ σ H) {i : Nat} {s : Sl} {v : V} (n : ∀ p, s.isOwn = true → v = .ref p → Ow ρ0 σ0 p ∨ H0 p = none) : Stp F0 ρ0 σ0 H0 F (ρ.set i s) (σ.set i (some v)) H :=
  ⟨S.sF, S.fr, S.un, fun q w => by
    rcases w.set with w | ⟨o, e⟩
    · exact S.ow q w
    · exact n q o (Option.some.inj e)⟩
theorem SR.store {F0 : Hp} {ρ0 : En} {σ0 : L2.St} {H0 : Hp} {F ρ σ H} (R : SR K mg F ρ σ H) (S : Stp F0 ρ0 σ0 H0 F ρ σ H) {s : Sl} {v : V} (w : WV K mg F ρ σ H ρ0 σ0 H0 s v) (i : Nat) : SR K mg F (ρ.set i s) (σ.set i (some v)) H ∧ Stp F0 ρ0 σ0 H0 F (ρ.set i s) (σ.set i (some v)) H := by
  have own : ∀ p, s.isOwn = true → v = .ref p → ¬ Ow ρ σ p ∧ (Ow ρ0 σ0 p ∨ H0 p = none) := fun p o e => by
    obtain ⟨q, e2, _, n, z⟩ := w.own o
    rw [e] at e2
    cases e2
    exact ⟨n, z⟩
  exact ⟨R.put w.sl fun p o e => (own p o e).1, S.put fun p o e => (own p o e).2⟩
theorem es_set {t : TE} {f : FE} {i : Nat} (hi : i ∉ M) (h : EvW K mg t f) : EvS K mg M (tAsg t (gName i)) (sSet i f) := fun F ρ σ H R o e Dn gd => by
  obtain ⟨⟨s, ρ1⟩, e1, rfl⟩ := map2 e
  refine h F ρ σ H R s ρ1 e1 _ fun v F1 H1 R1 S1 w => ?_
  obtain ⟨R2, S2⟩ := R1.store S1 w i
  exact gd F1 _ H1 R2 S2 (Kp.set hi)
theorem SR.fgt {F σ H} : ∀ (is : List Nat) {ρ : En}, SR K mg F ρ σ H → SR K mg F (DL.fgt is ρ) σ H
  | [], _, R => R
  | i :: is, _, R => SR.fgt is (R.know (s := .no) rfl fun _ _ => trivial)
theorem Stp.fgt {F0 : Hp} {ρ0 : En} {σ0 : L2.St} {H0 : Hp} {F σ H} : ∀ (is : List Nat) {ρ : En}, Stp F0 ρ0 σ0 H0 F ρ σ H → Stp F0 ρ0 σ0 H0 F (DL.fgt is ρ) σ H
  | [], _, S => S
  | i :: is, _, S => Stp.fgt is (S.know (s := .no) rfl)
/-- forgetting, behind any statement -/
def sThenFgt (f : FS) (is : List Nat) : FS := fun ρ => match f ρ with
  | some (.nx ρ') => some (.nx (fgt is ρ'))
  | some (.ct ρ') => some (.ct (fgt is ρ'))
  | o => o
theorem es_thenFgt {t : TS} {f : FS} (is : List Nat) (h : EvS K mg M t f) : EvS K mg M t (sThenFgt f is) := fun F ρ σ H R o e Dn gd => by
  unfold sThenFgt at e
  cases e1 : f ρ with
  | none => rw [e1] at e; cases e
  | some o1 =>
    rw [e1] at e
    refine h F ρ σ H R o1 e1 _ ?_
    cases o1 with
    | nx ρ1 => cases e; exact fun F1 σ1 H1 R1 S1 k1 => gd F1 σ1 H1 (R1.fgt is) (S1.fgt is) k1
    | rt s ρ1 => cases e; exact gd
    | bk ρ1 => cases e; exact gd
    | ct ρ1 => cases e; exact fun F1 σ1 H1 R1 S1 k1 => gd F1 σ1 H1 (R1.fgt is) (S1.fgt is) k1
/-- forgetting ahead of a statement -/
def sFgtThen (is : List Nat) (f : FS) : FS := fun ρ => f (fgt is ρ)
theorem es_fgtThen {t : TS} {f : FS} (is : List Nat) (h : EvS K mg M t f) : EvS K mg M t (sFgtThen is f) := fun F ρ σ H R o e Dn gd =>
  h F (fgt is ρ) σ H (R.fgt is) o e Dn (gd.move (Stp.refl.fgt is) .refl)

/-! ### the own list of slot i: changed in place -/
theorem SR.write {F ρ σ H} (R : SR K mg F ρ σ H) {i : Nat} {s s' : Sl} {p : Addr} {o : HO} (e : ρ[i]? = some s) (os : s.isOwn = true) (e2 : σ[i]? = some (some (.ref p))) (g : OwR K mg F (upd H p o) s' p) (z : SzO o) :
    SR K mg F (ρ.set i s') σ (upd H p o) ∧ Stp F ρ σ H F (ρ.set i s') σ (upd H p o) := by
  have a : OwA ρ σ i p := ⟨⟨s, e, os⟩, e2⟩
  have f : F p = none := g.fN
  have ow : ∀ j q, OwA (ρ.set i s') σ j q → OwA ρ σ j q := fun j q w => by
    by_cases n : i = j
    · subst n
      have := w.own_at'.2
      rw [e2] at this
      cases this
      exact a
    · exact w.set_ne' n
  refine ⟨⟨fun b x eb => ?_, R.siz.upd z, by rw [List.length_set]; exact R.len, fun j u eu => ?_, fun j k q w1 w2 => R.sep j k q (ow j q w1) (ow k q w2)⟩, ⟨Same.refl _, fun q u eu n => ?_, fun q u eu fq n => fq, fun q ⟨j, w⟩ => .inl ⟨j, ow j q w⟩⟩⟩
  · have hb : b ≠ p := fun z => by rw [z, f] at eb; cases eb
    rw [upd_ne hb]
    exact R.same b x eb
  · rw [List.getElem?_set] at eu
    by_cases hj : i = j
    · subst hj
      simp only [if_true] at eu
      split at eu
      · cases eu
        exact ⟨_, e2, DL.SlR.of_ow g⟩
      · cases eu
    · rw [if_neg hj] at eu
      obtain ⟨ov, e3, r⟩ := R.sl j u eu
      refine ⟨ov, e3, ?_⟩
      by_cases ou : u.isOwn = true
      · obtain ⟨q, e4, r2⟩ := r.ow ou
        subst e4
        have hq : q ≠ p := fun z => by
          subst z
          exact hj (R.sep i j q a ⟨⟨u, eu, ou⟩, e3⟩)
        exact DL.SlR.of_ow (r2.mono (Same.refl _) r2.fN (upd_ne hq))
      · cases u with
        | no => trivial
        | val d => exact r
        | own ds => exact absurd rfl ou
        | oob c fs => exact absurd rfl ou
        | odK ds => exact absurd rfl ou
        | odT ds => exact absurd rfl ou
        | ownA a ds => exact absurd rfl ou
  · have hq : q ≠ p := fun z => by
      subst z
      exact n ⟨i, a⟩
    rw [upd_ne hq]
    exact eu
/-- a method of what slot i holds, with values: what it gives, what the slot then holds -/
def MtW (K : PySem.W.Frag) (mg : Str → Option Value) (T : String) (r : V → List V → Hp → VK → Prop) (g : Sl → List D → Option (D × Sl)) : Prop := ∀ F ρ σ H, SR K mg F ρ σ H → ∀ i s v ds vs, ρ[i]? = some s → σ[i]? = some (some v) → Reps K mg F ds vs → ∀ d s', g s ds = some (d, s') → ∀ Q : VK,
  (∀ w F' H', SR K mg F' (ρ.set i s') σ H' → Stp F ρ σ H F' (ρ.set i s') σ H' → Rep K mg F' d w → Q w H') → r v vs H Q
def fMt (g : Sl → List D → Option (D × Sl)) (i : Nat) (fa : FAr) : FE := fun ρ => if knownAt ρ i = true then (fa ρ).bind fun p => (p.2[i]?).bind fun s => (g s p.1).map fun q => (.val q.1, p.2.set i q.2) else none
/-- that the slot holds a list -/
def isLst : Sl → Bool
  | .own _ => true
  | .val (.lst _) => true
  | _ => false
theorem isLst_ty {F ρ σ H} (R : SR K mg F ρ σ H) {s : Sl} {v : V} (h : DL.SlR K mg F H s (some v)) (e : isLst s = true) : tyV K "list" v H := by
  obtain ⟨ds, e2⟩ : ∃ ds, lstOf s = some ds := by
    cases s <;> try (cases e)
    · rename_i x
      cases x <;> try (cases e)
      exact ⟨_, rfl⟩
    · exact ⟨_, rfl⟩
  obtain ⟨a, vs, rfl, g, _⟩ := lst_at R h e2
  exact .inl ⟨rfl, vs, g⟩
/-- .. its type is asked ahead of the arguments -/
def lstAt (ρ : En) (i : Nat) : Bool := match ρ[i]? with
  | some s => isLst s
  | none => false
def fMtL (g : Sl → List D → Option (D × Sl)) (i : Nat) (fa : FAr) : FE := fun ρ => if lstAt ρ i = true then fMt g i fa ρ else none
theorem ev_mtL {r : V → List V → Hp → VK → Prop} {g : Sl → List D → Option (D × Sl)} {t : TA} {fa : FAr} (i : Nat) (hr : MtW K mg "list" r g) (ha : EvA K mg t fa) : EvW K mg (tBM K "list" r (tVar i) t) (fMtL g i fa) := fun F ρ σ H R s ρ' e Q q => by
  unfold fMtL at e
  split at e
  case isFalse => cases e
  case isTrue hl =>
    unfold fMt at e
    split at e
    case isFalse => cases e
    case isTrue hk =>
      obtain ⟨v, ev⟩ := known_at R hk
      obtain ⟨⟨ds, ρ1⟩, e1, e⟩ := bind2 (γ := Unit) e
      obtain ⟨u, e2, e⟩ := bind2 (γ := Unit) e
      obtain ⟨⟨d, s'⟩, e3, e⟩ := map2 e
      cases e
      refine ⟨v, ev, ?_, ha F ρ σ H R ds ρ1 e1 _ fun vs F1 H1 R1 S1 rs => ?_⟩
      · unfold lstAt at hl
        cases e0 : ρ[i]? with
        | none => rw [e0] at hl; cases hl
        | some s0 =>
          rw [e0] at hl
          exact isLst_ty R (R.at e0 ev) hl
      · exact hr F1 ρ1 σ H1 R1 i u v ds vs e2 ev rs d s' e3 Q fun w F2 H2 R2 S2 rw' => q w F2 H2 R2 (S1.trans S2) rw'
def gAppend : Sl → List D → Option (D × Sl)
  | .own ds, [d] => if fitL (ds.length + 1) = true then some (.non, .own (ds ++ [d])) else none
  | _, _ => none
def gPopAt : Sl → List D → Option (D × Sl)
  | .own ds, [.int i] => if fit63 i = true then (ixN ds.length i).bind fun k => (ds[k]?).map fun d => (d, .own (ds.eraseIdx k)) else none
  | _, _ => none
theorem reps_one {F : Hp} {d : D} {vs : List V} (h : Reps K mg F [d] vs) : ∃ v, vs = [v] ∧ Rep K mg F d v := by
  obtain ⟨v, r, rfl, h1, h2⟩ := h
  simp only [Reps] at h2
  subst h2
  exact ⟨v, rfl, h1⟩
theorem m_append : MtW K mg "list" rAppend gAppend := fun F ρ σ H R i s v ds vs e e2 rs d s' eg Q q => by
  match s, ds, eg with
  | .own xs, [x], eg =>
    simp only [gAppend] at eg
    split at eg
    · rename_i hz
      replace hz := fitL_ok hz
      cases eg
      obtain ⟨p, us, e3, f, g, r, a⟩ := R.own e
      rw [e2] at e3
      cases e3
      obtain ⟨w, rfl, rw'⟩ := reps_one rs
      rw [r.length] at hz
      refine ⟨p, us, w, rfl, rfl, g, hz, ?_⟩
      obtain ⟨R', S'⟩ := R.write (s' := .own (xs ++ [x])) (o := .lst (us ++ [w])) e rfl e2 ⟨f, _, upd_same, r.append (.one rw')⟩ (by show (us ++ [w]).length ≤ sizeLine; rw [List.length_append, List.length_singleton]; exact hz)
      exact q .non F _ R' S' rfl
    · cases eg
theorem m_popAt : MtW K mg "list" rPopAt gPopAt := fun F ρ σ H R i s v ds vs e e2 rs d s' eg Q q => by
  match s, ds, eg with
  | .own xs, [.int j], eg =>
    simp only [gPopAt] at eg
    split at eg
    · rename_i hj
      replace hj := fit63_ok hj
      obtain ⟨k, ek, eg⟩ := bind2 (γ := Unit) eg
      obtain ⟨y, ey, eg⟩ := map2 eg
      cases eg
      obtain ⟨p, us, e3, f, g, r, a⟩ := R.own e
      rw [e2] at e3
      cases e3
      obtain ⟨w, rfl, rw'⟩ := reps_one rs
      simp only [Rep] at rw'
      subst rw'
      obtain ⟨u, eu, ru⟩ := r.get ey
      have hl := r.length
      rw [hl] at ek
      refine ⟨p, us, j, k, u, rfl, rfl, g, hj.1, hj.2, (ixN_seq ek).1, eu, ?_⟩
      have hz := R.siz _ _ g
      obtain ⟨R', S'⟩ := R.write (s' := .own (xs.eraseIdx k)) (o := .lst (us.eraseIdx k)) e rfl e2 ⟨f, _, upd_same, r.eraseIdx k⟩ (Nat.le_trans (len_erase us k) hz)
      exact q u F _ R' S' ru
    · cases eg
/-- x[e] = value -/
def sPutIx (i : Nat) (fi fv : FE) : FS := fun ρ => (vl fv ρ).bind fun p => if knownAt p.2 i = true then (vl fi p.2).bind fun q => match q.2[i]?, q.1 with
  | some (.own ds), .int k => (ixN ds.length k).map fun j => .nx (q.2.set i (.own (ds.set j p.1)))
  | _, _ => none
  else none
theorem es_putIx {ti tv : TE} {fi fv : FE} (i : Nat) (hi : EvW K mg ti fi) (hv : EvW K mg tv fv) : EvS K mg M (tAsg tv (L2.gSub (tVar i) ti rSetL)) (sPutIx i fi fv) := fun F ρ σ H R o e Dn gd => by
  obtain ⟨⟨x, ρ1⟩, e1, e⟩ := bind2 (γ := Unit) e
  dsimp only at e
  split at e
  case isFalse => cases e
  case isTrue hk =>
    obtain ⟨⟨y, ρ2⟩, e2, e⟩ := bind2 (γ := Unit) e
    dsimp only at e
    split at e
    · rename_i ds k e3
      obtain ⟨j, ej, rfl⟩ := map2 e
      refine hv.frz F ρ σ H R x ρ1 e1 _ fun vx F1 H1 R1 S1 rx => ?_
      obtain ⟨v, ev⟩ := known_at R1 hk
      refine ⟨v, ev, hi.frz F1 ρ1 σ H1 R1 _ ρ2 e2 _ fun vy F2 H2 R2 S2 ry => ?_⟩
      simp only [Rep] at ry
      subst ry
      obtain ⟨p, us, e4, f, g, r, a⟩ := R2.own e3
      rw [ev] at e4
      cases e4
      rw [r.length] at ej
      refine ⟨p, us, k, j, rfl, rfl, g, ej, ?_⟩
      obtain ⟨R', S'⟩ := R2.write (s' := .own (ds.set j x)) (o := .lst (us.set j vx)) e3 rfl ev ⟨f, _, upd_same, r.set j (rx.mono S2.sF)⟩ (by show (us.set j vx).length ≤ sizeLine; rw [List.length_set]; exact R2.siz _ _ g)
      exact gd F2 σ _ R' ((S1.trans S2).trans S') .refl
    · cases e
end
end
end DL
namespace DL
open PySem PySem.Spec PyProof.Rows L2
noncomputable section
/-! ### targets -/
abbrev FG := D → En → Option En
section
variable (K : PySem.W.Frag) (mg : Str → Option Value)
/-- a target that sets the slots ts -/
def EvG (ts : List Nat) (g : TG) (fg : FG) : Prop := ∀ F ρ σ H, SR K mg F ρ σ H → ∀ d v, Rep K mg F d v → ∀ ρ', fg d ρ = some ρ' → ∀ Q : L2.St → Hp → Prop,
  (∀ σ', SR K mg F ρ' σ' H → Stp F ρ σ H F ρ' σ' H → σ'.length = σ.length → (∀ j, j ∉ ts → σ'[j]? = σ[j]?) → Q σ' H) → g v σ H Q
def EvGs (ts : List Nat) (g : TGs) (fg : List D → En → Option En) : Prop := ∀ F ρ σ H, SR K mg F ρ σ H → ∀ ds vs, Reps K mg F ds vs → ∀ ρ', fg ds ρ = some ρ' → ∀ Q : L2.St → Hp → Prop,
  (∀ σ', SR K mg F ρ' σ' H → Stp F ρ σ H F ρ' σ' H → σ'.length = σ.length → (∀ j, j ∉ ts → σ'[j]? = σ[j]?) → Q σ' H) → g vs σ H Q
end
def tgName (i : Nat) : FG := fun d ρ => some (ρ.set i (.val d))
def tgNil : List D → En → Option En := fun ds ρ => if ds.isEmpty = true then some ρ else none
def tgCons (f : FG) (g : List D → En → Option En) : List D → En → Option En := fun ds ρ => match ds with
  | d :: r => (f d ρ).bind fun ρ1 => g r ρ1
  | [] => none
def tgTup (n : Nat) (g : List D → En → Option En) : FG := fun d ρ => match d with
  | .tup ds => if ds.length = n then g ds ρ else none
  | _ => none
section
variable {K : PySem.W.Frag} {mg : Str → Option Value} {M : List Nat}
theorem eg_name (i : Nat) : EvG K mg [i] (gName i) (tgName i) := fun F ρ σ H R d v r ρ' e Q q => by
  cases e
  refine q _ (R.put (s := .val d) ⟨v, rfl, r⟩ fun p o => nomatch o) (Stp.refl.put fun p o => nomatch o) (List.length_set ..) fun j hj => ?_
  have n : i ≠ j := fun z => hj (by simp [z])
  rw [List.getElem?_set_ne n]
theorem egs_nil : EvGs K mg [] gNil tgNil := fun F ρ σ H R ds vs r ρ' e Q q => by
  unfold tgNil at e
  split at e
  · rename_i h
    cases e
    have h' : ds = [] := List.isEmpty_iff.mp h
    subst h'
    simp only [Reps] at r
    exact ⟨r, q σ R .refl rfl fun _ _ => rfl⟩
  · cases e
theorem egs_cons {ts us : List Nat} {g : TG} {gs : TGs} {f : FG} {fs : List D → En → Option En} (h : EvG K mg ts g f) (h2 : EvGs K mg us gs fs) : EvGs K mg (ts ++ us) (gCons g gs) (tgCons f fs) := fun F ρ σ H R ds vs r ρ' e Q q => by
  cases ds with
  | nil => cases e
  | cons d ds =>
    simp only [Reps] at r
    obtain ⟨v, w, rfl, r1, r2⟩ := r
    obtain ⟨ρ1, e1, e⟩ := bind2 (γ := Unit) e
    refine ⟨v, w, rfl, h F ρ σ H R d v r1 ρ1 e1 _ fun σ1 R1 S1 l1 k1 => ?_⟩
    refine h2 F ρ1 σ1 H R1 ds w r2 ρ' e Q fun σ2 R2 S2 l2 k2 => q σ2 R2 (S1.trans S2) (l2.trans l1) fun j hj => ?_
    rw [List.mem_append, not_or] at hj
    exact (k2 j hj.2).trans (k1 j hj.1)
theorem eg_tup {ts : List Nat} {gs : TGs} {fs : List D → En → Option En} {n : Nat} (h : EvGs K mg ts gs fs) : EvG K mg ts (gTup K n gs) (tgTup n fs) := fun F ρ σ H R d v r ρ' e Q q => by
  cases d <;> try (cases e)
  rename_i ds
  simp only [tgTup] at e
  split at e
  · rename_i hl
    simp only [Rep] at r
    obtain ⟨a, vs, rfl, _, g, r⟩ := r
    exact ⟨a, vs, rfl, SqT.of (R.same _ _ g), by rw [← r.length]; exact hl, h F ρ σ H R ds vs r ρ' e Q q⟩
  · cases e
theorem kp_of {σ σ' : L2.St} {ts : List Nat} (h : ∀ j, j ∉ ts → σ'[j]? = σ[j]?) (d : ∀ i ∈ M, i ∉ ts) : Kp M σ σ' := fun i hi => h i (d i hi)
/-- (a, b) = value -/
def sAsgG (fg : FG) (f : FE) : FS := fun ρ => (vl f ρ).bind fun p => (fg p.1 p.2).map fun ρ' => .nx ρ'
theorem es_asgG {t : TE} {f : FE} {ts : List Nat} {g : TG} {fg : FG} (d : ∀ i ∈ M, i ∉ ts) (h : EvW K mg t f) (hg : EvG K mg ts g fg) : EvS K mg M (tAsg t g) (sAsgG fg f) := fun F ρ σ H R o e Dn gd => by
  obtain ⟨⟨x, ρ1⟩, e1, e⟩ := bind2 (γ := Unit) e
  obtain ⟨ρ2, e2, rfl⟩ := map2 e
  refine h.frz F ρ σ H R x ρ1 e1 _ fun v F1 H1 R1 S1 r => ?_
  exact hg F1 ρ1 σ H1 R1 x v r ρ2 e2 _ fun σ' R2 S2 _ k => gd F1 σ' H1 R2 (S1.trans S2) (kp_of k d)

/-! ### what is walked -/
/-- J gives the items ds, each as data over F0 -/
structure SrcOk (K : PySem.W.Frag) (mg : Str → Option Value) (F0 : Hp) (J : It) (ds : List D) : Prop where
  w : ∃ G Y, Walk J ds.length G Y ∧ (∀ F ρ σ H, SR K mg F ρ σ H → Same F0 F → G H) ∧
    ∀ (i : Nat) F ρ σ H x H', SR K mg F ρ σ H → Same F0 F → i < ds.length → Y i H x H' → ∃ F' d, SR K mg F' ρ σ H' ∧ Stp F ρ σ H F' ρ σ H' ∧ ds[i]? = some d ∧ Rep K mg F' d x
  z : ds.length ≤ sizeLine
abbrev FSr := En → Option (List D × En)
def EvI (K : PySem.W.Frag) (mg : Str → Option Value) (wi : TI) (src : FSr) : Prop := ∀ F ρ σ H, SR K mg F ρ σ H → ∀ ds ρ', src ρ = some (ds, ρ') → ∀ R : It → Hp → Prop,
  (∀ J F' H', SR K mg F' ρ' σ H' → Stp F ρ σ H F' ρ' σ H' → SrcOk K mg F' J ds → R J H') → wi σ H R
/-- a list's, a tuple's items -/
def rLst (f : FE) : FSr := fun ρ => (vl f ρ).bind fun p => (lstOf (.val p.1)).map fun ds => (ds, p.2)
def rTup (f : FE) : FSr := fun ρ => (vl f ρ).bind fun p => match p.1 with
  | .tup ds => some (ds, p.2)
  | _ => none
theorem src_list {F : Hp} {a : Addr} {ds : List D} {vs : List V} (hr : Reps K mg F ds vs) (hs : ∀ F' ρ σ H, SR K mg F' ρ σ H → Same F F' → SqL K H a vs) (z : vs.length ≤ sizeLine) : SrcOk K mg F (Itl K a) ds := by
  refine ⟨⟨_, _, by rw [hr.length]; exact walk_list (xs := vs), hs, fun i F' ρ σ H x H' R m hi y => ?_⟩, by rw [hr.length]; exact z⟩
  obtain ⟨rfl, y⟩ := y
  obtain ⟨d, e, rd⟩ := hr.getV y
  exact ⟨F', d, R, .refl, e, rd.mono m⟩
theorem ei_list {t : TE} {f : FE} (h : EvW K mg t f) : EvI K mg (iList K t) (rLst f) := fun F ρ σ H R ds ρ' e Rq q => by
  obtain ⟨⟨x, ρ1⟩, e1, e⟩ := bind2 (γ := Unit) e
  obtain ⟨ds', e2, e⟩ := map2 e
  cases e
  refine h.frz F ρ σ H R x _ e1 _ fun v F1 H1 R1 S1 r => ?_
  cases x <;> try (cases e2)
  · simp only [Rep] at r
    obtain ⟨a, vs, rfl, g, r⟩ := r
    exact ⟨a, rfl, ⟨vs, SqL.of (R1.same _ _ g)⟩, q _ F1 H1 R1 S1 (src_list r (fun F' ρ σ H R' m => SqL.of (R'.same _ _ (m _ _ g))) (R1.siz _ _ (R1.same _ _ g)))⟩
  · simp only [Rep] at r
    obtain ⟨a, rfl, z, g⟩ := r
    exact ⟨a, rfl, ⟨_, R1.same.seq g⟩, q _ F1 H1 R1 S1 (src_list Reps.of_ints (fun F' ρ σ H R' m => R'.same.seq (m.seq g)) (by rw [List.length_map]; exact z))⟩
theorem ei_tup {t : TE} {f : FE} (h : EvW K mg t f) : EvI K mg (iTup K t) (rTup f) := fun F ρ σ H R ds ρ' e Rq q => by
  obtain ⟨⟨x, ρ1⟩, e1, e⟩ := bind2 (γ := Unit) e
  cases x <;> try (cases e)
  refine h.frz F ρ σ H R _ _ e1 _ fun v F1 H1 R1 S1 r => ?_
  simp only [Rep] at r
  obtain ⟨a, vs, rfl, z, g, r⟩ := r
  refine ⟨a, rfl, ⟨vs, SqT.of (R1.same _ _ g)⟩, q _ F1 H1 R1 S1 ⟨⟨_, _, by rw [r.length]; exact walk_tup (xs := vs), fun F' ρ σ H R' m => SqT.of (R'.same _ _ (m _ _ g)), fun i F' ρ σ H x H' R' m hi y => ?_⟩, by rw [r.length]; exact z⟩⟩
  obtain ⟨rfl, y⟩ := y
  obtain ⟨d, e, rd⟩ := r.getV y
  exact ⟨F', d, R', .refl, e, rd.mono m⟩
def upto (lo hi : Int) : List D := (List.range (hi - lo).toNat).map fun (i : Nat) => D.int (lo + (i : Int))
def rRng (f : FAr) : FSr := fun ρ => (f ρ).bind fun p => match p.1 with
  | [.int j] => if fit62 j = true ∧ fitL j.toNat = true then some (upto 0 j, p.2) else none
  | _ => none
def rRng2 (f : FAr) : FSr := fun ρ => (f ρ).bind fun p => match p.1 with
  | [.int i, .int j] => if (fit62 i = true ∧ fit62 j = true) ∧ fitL (j - i).toNat = true then some (upto i j, p.2) else none
  | _ => none
theorem src_range {F : Hp} {lo hi : Int} (z : (hi - lo).toNat ≤ sizeLine) : SrcOk K mg F (Itr lo (hi - lo).toNat) (upto lo hi) := by
  have hl : (upto lo hi).length = (hi - lo).toNat := by unfold upto; rw [List.length_map, List.length_range]
  refine ⟨⟨_, _, by rw [hl]; exact walk_range, fun _ _ _ _ _ _ => trivial, fun i F' ρ σ H x H' R m hi' y => ?_⟩, by rw [hl]; exact z⟩
  obtain ⟨rfl, rfl⟩ := y
  refine ⟨F', .int (lo + i), R, .refl, ?_, rfl⟩
  unfold upto
  rw [List.getElem?_map, List.getElem?_range (by omega)]
  rfl
theorem ei_range1 {t : TA} {f : FAr} (h : EvA K mg t f) : EvI K mg (iRng1 t) (rRng f) := fun F ρ σ H R ds ρ' e Rq q => by
  obtain ⟨⟨xs, ρ1⟩, e1, e⟩ := bind2 (γ := Unit) e
  dsimp only at e
  split at e
  · rename_i _ j
    split at e
    · rename_i hj
      cases e
      refine h F ρ σ H R _ _ e1 _ fun vs F1 H1 R1 S1 rs => ?_
      obtain ⟨w, rfl, rw'⟩ := reps_one rs
      simp only [Rep] at rw'
      subst rw'
      refine ⟨j, rfl, (fit62_ok hj.1).1, (fit62_ok hj.1).2, ?_⟩
      have := src_range (K := K) (mg := mg) (F := F1) (lo := 0) (hi := j) (by rw [Int.sub_zero]; exact fitL_ok hj.2)
      rw [Int.sub_zero] at this
      exact q _ F1 H1 R1 S1 this
    · cases e
  · cases e
theorem ei_range2 {t : TA} {f : FAr} (h : EvA K mg t f) : EvI K mg (iRng2 t) (rRng2 f) := fun F ρ σ H R ds ρ' e Rq q => by
  obtain ⟨⟨xs, ρ1⟩, e1, e⟩ := bind2 (γ := Unit) e
  dsimp only at e
  split at e
  · rename_i _ i j
    split at e
    · rename_i hj
      cases e
      refine h F ρ σ H R _ _ e1 _ fun vs F1 H1 R1 S1 rs => ?_
      simp only [Reps, Rep] at rs
      obtain ⟨v, r, rfl, rfl, w, r2, rfl, rfl, rfl⟩ := rs
      exact ⟨i, j, rfl, ⟨(fit62_ok hj.1.1).1, (fit62_ok hj.1.1).2, (fit62_ok hj.1.2).1, (fit62_ok hj.1.2).2⟩, q _ F1 H1 R1 S1 (src_range (fitL_ok hj.2))⟩
    · cases e
  · cases e
/-- enumerate, zip: each pair is a new tuple -/
def numb : Nat → List D → List D
  | _, [] => []
  | n, d :: ds => .tup [.int n, d] :: numb (n + 1) ds
theorem numb_get : ∀ {ds : List D} {n i : Nat}, (numb n ds)[i]? = (ds[i]?).map fun d => D.tup [.int ((n + i : Nat) : Int), d]
  | [], n, i => by simp [numb]
  | d :: ds, n, 0 => rfl
  | d :: ds, n, i + 1 => by
    show (numb (n + 1) ds)[i]? = _
    rw [numb_get]
    simp only [List.getElem?_cons_succ]
    rw [show n + 1 + i = n + (i + 1) by omega]
theorem numb_length : ∀ {ds : List D} {n : Nat}, (numb n ds).length = ds.length
  | [], _ => rfl
  | d :: ds, n => by show (numb (n + 1) ds).length + 1 = _; rw [numb_length]; rfl
def zips : List D → List D → List D
  | d :: ds, e :: es => .tup [d, e] :: zips ds es
  | _, _ => []
theorem zips_get : ∀ {ds es : List D} {i : Nat} {d e : D}, ds[i]? = some d → es[i]? = some e → (zips ds es)[i]? = some (.tup [d, e])
  | [], _, _, _, _, h, _ => by simp at h
  | _ :: _, [], _, _, _, _, h => by simp at h
  | a :: ds, b :: es, 0, d, e, h, g => by
    simp at h g
    subst h g
    rfl
  | a :: ds, b :: es, i + 1, d, e, h, g => zips_get (ds := ds) (es := es) (by simpa using h) (by simpa using g)
theorem zips_length : ∀ {ds es : List D}, (zips ds es).length = min ds.length es.length
  | [], _ => by simp [zips]
  | _ :: _, [] => by simp [zips]
  | a :: ds, b :: es => by simp [zips, zips_length]
/-- a new pair -/
theorem new_pair {F ρ σ H} (R : SR K mg F ρ σ H) {T : Addr} {x y : V} {d e : D} (hT : H T = none) (rx : Rep K mg F d x) (ry : Rep K mg F e y) :
    SR K mg (upd F T (.tup [x, y])) ρ σ (upd H T (.tup [x, y])) ∧ Stp F ρ σ H (upd F T (.tup [x, y])) ρ σ (upd H T (.tup [x, y])) ∧ Rep K mg (upd F T (.tup [x, y])) (.tup [d, e]) (.ref T) := by
  obtain ⟨R', S'⟩ := R.alloc (o := .tup [x, y]) hT trivial
  refine ⟨R', S', ?_⟩
  simp only [Rep]
  exact ⟨T, [x, y], rfl, k1000 (by show 2 ≤ 1000; decide), upd_same, .cons (rx.mono S'.sF) (.one (ry.mono S'.sF))⟩
def rEnum (ks : List (Option Nat)) (f : FAr) : FSr := fun ρ => (f ρ).bind fun p => (res ks p.1 p.2).bind fun ss => match ss with
  | [.val d] => (lstOf (.val d)).map fun ds => (numb 0 ds, p.2)
  | _ => none
def rZip (ks : List (Option Nat)) (f : FAr) : FSr := fun ρ => (f ρ).bind fun p => (res ks p.1 p.2).bind fun ss => match ss with
  | [.val d, .val e] => (lstOf (.val d)).bind fun ds => (lstOf (.val e)).map fun es => (zips ds es, p.2)
  | _ => none
/-- a list that is data lies in the fixed part -/
theorem lst_fix {F ρ σ H} (R : SR K mg F ρ σ H) {d : D} {v : V} {ds : List D} (h : DL.SlR K mg F H (.val d) (some v)) (e : lstOf (.val d) = some ds) :
    ∃ a vs, v = .ref a ∧ Reps K mg F ds vs ∧ vs.length ≤ sizeLine ∧ ∀ F' ρ' σ' H', SR K mg F' ρ' σ' H' → Same F F' → SqL K H' a vs := by
  obtain ⟨w, e3, r⟩ := h
  cases e3
  cases d <;> try (cases e)
  · simp only [Rep] at r
    obtain ⟨a, vs, rfl, g, r⟩ := r
    exact ⟨a, vs, rfl, r, R.siz _ _ (R.same _ _ g), fun F' _ _ _ R' m => SqL.of (R'.same _ _ (m _ _ g))⟩
  · simp only [Rep] at r
    obtain ⟨a, rfl, z, g⟩ := r
    exact ⟨a, _, rfl, Reps.of_ints, by rw [List.length_map]; exact z, fun F' _ _ _ R' m => R'.same.seq (m.seq g)⟩
theorem ei_enum {t : TA} {ks : List (Option Nat)} {f : FAr} (h : EvB K mg t ks f) : EvI K mg (iEnum K t) (rEnum ks f) := fun F ρ σ H R ds ρ' e Rq q => by
  obtain ⟨⟨xs, ρ1⟩, e1, e⟩ := bind2 (γ := Unit) e
  obtain ⟨ss, e2, e⟩ := bind2 (γ := Unit) e
  dsimp only at e
  split at e
  · rename_i d
    obtain ⟨es, e3, e⟩ := map2 e
    cases e
    refine h F ρ σ H R _ _ e1 _ fun vs F1 H1 R1 S1 a => ?_
    obtain ⟨v, rfl, r⟩ := (res_ok R1 a e2).one
    obtain ⟨b, us, rfl, r, z, hs⟩ := lst_fix R1 r e3
    refine ⟨b, us, rfl, hs F1 _ _ H1 R1 (Same.refl _), q _ F1 H1 R1 S1 ⟨⟨_, _, by rw [numb_length, r.length]; exact walk_enum (xs := us), hs, fun i F' ρ σ H x H' R' m hi y => ?_⟩, by rw [numb_length, r.length]; exact z⟩⟩
    obtain ⟨T, x1, y1, rfl, hT, rfl, f1, f2⟩ := y
    cases f1
    obtain ⟨d1, e4, r4⟩ := r.getV f2
    obtain ⟨R2, S2, r2⟩ := new_pair R' hT (d := .int (i : Nat)) (e := d1) rfl (r4.mono m)
    refine ⟨_, _, R2, S2, ?_, r2⟩
    rw [numb_get, e4]
    simp
  · cases e
theorem ei_zip {t : TA} {ks : List (Option Nat)} {f : FAr} (h : EvB K mg t ks f) : EvI K mg (iZip K t) (rZip ks f) := fun F ρ σ H R ds ρ' e Rq q => by
  obtain ⟨⟨xs, ρ1⟩, e1, e⟩ := bind2 (γ := Unit) e
  obtain ⟨ss, e2, e⟩ := bind2 (γ := Unit) e
  dsimp only at e
  split at e
  · rename_i d d'
    obtain ⟨ds1, e3, e⟩ := bind2 (γ := Unit) e
    obtain ⟨ds2, e4, e⟩ := map2 e
    cases e
    refine h F ρ σ H R _ _ e1 _ fun vs F1 H1 R1 S1 a => ?_
    obtain ⟨v, w, rfl, r, r'⟩ := (res_ok R1 a e2).two
    obtain ⟨b, us, rfl, r, z, hs⟩ := lst_fix R1 r e3
    obtain ⟨b', us', rfl, r', z', hs'⟩ := lst_fix R1 r' e4
    refine ⟨b, b', us, us', rfl, hs F1 _ _ H1 R1 (Same.refl _), hs' F1 _ _ H1 R1 (Same.refl _), q _ F1 H1 R1 S1 ⟨⟨_, _, walk_zip (by rw [zips_length, r.length, r'.length]), fun F' ρ σ H R' m => ⟨hs F' ρ σ H R' m, hs' F' ρ σ H R' m⟩, fun i F' ρ σ H x H' R' m hi y => ?_⟩, by rw [zips_length, r.length]; omega⟩⟩
    obtain ⟨T, x1, y1, rfl, hT, rfl, f1, f2⟩ := y
    obtain ⟨d1, e5, r5⟩ := r.getV f1
    obtain ⟨d2, e6, r6⟩ := r'.getV f2
    obtain ⟨R2, S2, r2⟩ := new_pair R' hT (r5.mono m) (r6.mono m)
    exact ⟨_, _, R2, S2, zips_get e5 e6, r2⟩
  · cases e

/-! ### for -/
def forD (fg : FG) (fb : FS) : List D → En → Option Ou
  | [], ρ => some (.nx ρ)
  | d :: ds, ρ => (fg d ρ).bind fun ρ1 => (fb ρ1).bind fun o => match o with
    | .nx ρ2 => forD fg fb ds ρ2
    | .ct ρ2 => forD fg fb ds ρ2
    | .bk ρ2 => some (.nx ρ2)
    | .rt s ρ2 => some (.rt s ρ2)
def sFor (src : FSr) (fg : FG) (fb : FS) : FS := fun ρ => (src ρ).bind fun p => forD fg fb p.1 p.2
theorem es_for {wi : TI} {src : FSr} {ts : List Nat} {g : TG} {fg : FG} {tb : TS} {fb : FS} (d : ∀ i ∈ M, i ∉ ts) (hi : EvI K mg wi src) (hg : EvG K mg ts g fg) (hb : EvS K mg M tb fb) : EvS K mg M (tFor wi g tb) (sFor src fg fb) := fun F ρ σ H R o e Dn gd => by
  obtain ⟨⟨ds, ρ1⟩, e1, e⟩ := bind2 (γ := Unit) e
  refine hi F ρ σ H R ds ρ1 e1 _ fun J F1 H1 R1 S1 ok => ?_
  obtain ⟨⟨G, Y, w, hG, hY⟩, _⟩ := ok
  refine for_it w (fun i σ' H' => ∃ F' ρ' o', SR K mg F' ρ' σ' H' ∧ Same F1 F' ∧ forD fg fb (ds.drop i) ρ' = some o' ∧ Gd K mg M F' ρ' σ' H' Dn o') ⟨F1, ρ1, o, R1, Same.refl _, e, gd.move S1 .refl⟩ (fun i σ' H' _ ⟨F', ρ', o', R', m, _⟩ => hG F' ρ' σ' H' R' m) ?_ ?_
  · rintro i x σ' H' H2 hlt ⟨F', ρ', o', R', m, e', gd'⟩ y
    obtain ⟨F2, d1, R2, S2, ed, rd⟩ := hY i F' ρ' σ' H' x H2 R' m hlt y
    have edr : ds.drop i = d1 :: ds.drop (i + 1) := by
      rw [List.drop_eq_getElem_cons hlt]
      rw [List.getElem?_eq_getElem hlt] at ed
      rw [Option.some.inj ed]
    rw [edr] at e'
    simp only [forD] at e'
    obtain ⟨ρ2, e2, e'⟩ := bind2 (γ := Unit) e'
    obtain ⟨o2, e3, e'⟩ := bind2 (γ := Unit) e'
    refine hg F2 ρ' σ' H2 R2 d1 x rd ρ2 e2 _ fun σ3 R3 S3 _ k3 => ?_
    have gd3 := (gd'.move S2 .refl).move S3 (kp_of k3 d)
    refine hb F2 ρ2 σ3 H2 R3 o2 e3 _ ?_
    have m2 : Same F1 F2 := m.trans S2.sF
    cases o2 with
    | nx ρ4 => exact fun F4 σ4 H4 R4 S4 k4 => ⟨F4, ρ4, o', R4, m2.trans S4.sF, e', gd3.move S4 k4⟩
    | ct ρ4 => exact fun F4 σ4 H4 R4 S4 k4 => ⟨F4, ρ4, o', R4, m2.trans S4.sF, e', gd3.move S4 k4⟩
    | bk ρ4 =>
      cases e'
      exact gd3
    | rt s ρ4 =>
      cases e'
      exact gd3
  · rintro σ' H' ⟨F', ρ', o', R', m, e', gd'⟩
    rw [List.drop_length] at e'
    cases e'
    exact gd' F' σ' H' R' .refl .refl

/-! ### while -/
def whileD (c : FT) (fb : FS) : Nat → En → Option Ou
  | 0, _ => none
  | n + 1, ρ => (c ρ).bind fun p => if p.1 = true then (fb p.2).bind fun o => match o with
      | .nx ρ2 => whileD c fb n ρ2
      | .ct ρ2 => whileD c fb n ρ2
      | .bk ρ2 => some (.nx ρ2)
      | .rt s ρ2 => some (.rt s ρ2)
    else some (.nx p.2)
def sWhile (n : Nat) (c : FT) (fb : FS) : FS := whileD c fb n
theorem es_while {n : Nat} {c : TT} {fc : FT} {tb : TS} {fb : FS} (hc : EvT K mg c fc) (hb : EvS K mg M tb fb) : EvS K mg M (tWhile c tb) (sWhile n fc fb) := fun F ρ σ H R o e Dn gd => by
  refine ⟨fun m σ' H' => ∃ F' ρ' o', SR K mg F' ρ' σ' H' ∧ whileD fc fb m ρ' = some o' ∧ Gd K mg M F' ρ' σ' H' Dn o', ⟨n, F, ρ, o, R, e, gd⟩, ?_⟩
  rintro m σ' H' ⟨F', ρ', o', R', e', gd'⟩
  cases m with
  | zero => cases e'
  | succ m =>
    simp only [whileD] at e'
    obtain ⟨⟨b, ρ1⟩, e1, e'⟩ := bind2 (γ := Unit) e'
    refine hc F' ρ' σ' H' R' b ρ1 e1 _ fun F1 H1 R1 S1 => ?_
    have gd1 := gd'.move S1 .refl
    cases b with
    | false =>
      cases e'
      rw [if_neg Bool.false_ne_true]
      exact gd1 F1 σ' H1 R1 .refl .refl
    | true =>
      rw [if_pos rfl]
      simp only [if_true] at e'
      obtain ⟨o2, e3, e'⟩ := bind2 (γ := Unit) e'
      refine ⟨fun σ2 H2 => ∃ F2 ρ2 o2, SR K mg F2 ρ2 σ2 H2 ∧ whileD fc fb m ρ2 = some o2 ∧ Gd K mg M F2 ρ2 σ2 H2 Dn o2, fun σ2 H2 w => ⟨m, Nat.lt_succ_self m, w⟩, hb F1 ρ1 σ' H1 R1 o2 e3 _ ?_⟩
      cases o2 with
      | nx ρ4 => exact fun F4 σ4 H4 R4 S4 k4 => ⟨F4, ρ4, o', R4, e', gd1.move S4 k4⟩
      | ct ρ4 => exact fun F4 σ4 H4 R4 S4 k4 => ⟨F4, ρ4, o', R4, e', gd1.move S4 k4⟩
      | bk ρ4 =>
        cases e'
        exact gd1
      | rt s ρ4 =>
        cases e'
        exact gd1
end
end
end DL
namespace DL
open PySem PySem.Spec PyProof.Rows L2
noncomputable section
/-! ### comprehensions -/
/-- the block's own slots, unknown -/
def hide : List Nat → En → En
  | [], ρ => ρ
  | v :: vs, ρ => (hide vs ρ).set v .no
/-- .. as they were ahead, as far as they were data -/
def back1 : Option Sl → Sl
  | some (.val d) => .val d
  | _ => .no
def backS (ρ0 : En) : List Nat → En → En
  | [], ρ => ρ
  | v :: vs, ρ => (backS ρ0 vs ρ).set v (back1 ρ0[v]?)
/-- the items that are made -/
def lcD (fg : FG) (ft : FT) (fe : FE) (vs : List Nat) : List D → En → Option (List D × En)
  | [], ρ => some ([], ρ)
  | d :: ds, ρ => (fg d ρ).bind fun ρ1 => (ft ρ1).bind fun p => if p.1 = true then (vl fe p.2).bind fun q => (lcD fg ft fe vs ds (hide vs q.2)).map fun r => (q.1 :: r.1, r.2) else lcD fg ft fe vs ds (hide vs p.2)
def fYes : FT := fun ρ => some (true, ρ)
def fLc (src : FSr) (fg : FG) (ft : FT) (fe : FE) (vs : List Nat) : FE := fun ρ => (src ρ).bind fun p => (lcD fg ft fe vs p.1 (hide vs p.2)).map fun q => (.own q.1, backS p.2 vs q.2)
section
variable {K : PySem.W.Frag} {mg : Str → Option Value}
theorem ev_yes : EvT K mg tYes fYes := fun F ρ σ H R b ρ' e Q q => by
  cases e
  exact q F H R .refl
theorem SR.hide {F σ H} : ∀ (vs : List Nat) {ρ : En}, SR K mg F ρ σ H → SR K mg F (DL.hide vs ρ) (wipe σ vs) H
  | [], _, R => R
  | v :: vs, ρ, R => by
    have R1 := SR.hide vs R
    have R2 : SR K mg F ((DL.hide vs ρ).set v .no) (wipe σ vs) H := R1.know rfl fun _ _ => trivial
    -- the slot itself may go
    refine ⟨R2.same, R2.siz, by show ((DL.hide vs ρ).set v .no).length = ((wipe σ vs).set v none).length; rw [List.length_set, List.length_set]; exact R1.len, fun i s e => ?_, fun i j p a b => ?_⟩
    · have e : ((DL.hide vs ρ).set v .no)[i]? = some s := e
      show ∃ ov, ((wipe σ vs).set v none)[i]? = some ov ∧ _
      rw [List.getElem?_set] at e ⊢
      by_cases hv : v = i
      · subst hv
        simp only [if_true] at e ⊢
        split at e
        · rename_i lt
          cases e
          rw [if_pos (by rw [← R1.len]; exact lt)]
          exact ⟨_, rfl, trivial⟩
        · cases e
      · rw [if_neg hv] at e ⊢
        exact R1.sl i s e
    · have a : OwA ((DL.hide vs ρ).set v .no) ((wipe σ vs).set v none) i p := a
      have b : OwA ((DL.hide vs ρ).set v .no) ((wipe σ vs).set v none) j p := b
      by_cases hi : v = i
      · subst hi
        have := a.own_at.1
        cases this
      · by_cases hj : v = j
        · subst hj
          have := b.own_at.1
          cases this
        · exact R1.sep i j p (a.set_ne hi) (b.set_ne hj)
theorem Ow.hide {σ : L2.St} {p : Addr} : ∀ {vs : List Nat} {ρ : En}, Ow (DL.hide vs ρ) (wipe σ vs) p → Ow ρ σ p
  | [], _, h => h
  | v :: vs, ρ, h => by
    have h : Ow ((DL.hide vs ρ).set v .no) ((wipe σ vs).set v none) p := h
    rcases h.set with h | ⟨o, _⟩
    · exact Ow.hide h
    · cases o
theorem hide_length : ∀ (vs : List Nat) (ρ : En), (DL.hide vs ρ).length = ρ.length
  | [], _ => rfl
  | v :: vs, ρ => by show ((DL.hide vs ρ).set v .no).length = _; rw [List.length_set, hide_length vs ρ]
theorem backS_length (ρ0 : En) : ∀ (vs : List Nat) (ρ : En), (backS ρ0 vs ρ).length = ρ.length
  | [], _ => rfl
  | v :: vs, ρ => by show ((backS ρ0 vs ρ).set v _).length = _; rw [List.length_set, backS_length ρ0 vs ρ]
theorem backS_get (ρ0 : En) : ∀ (vs : List Nat) (ρ : En) (i : Nat) (s : Sl), (backS ρ0 vs ρ)[i]? = some s → (i ∈ vs ∧ s = back1 ρ0[i]?) ∨ (i ∉ vs ∧ ρ[i]? = some s)
  | [], ρ, i, s, h => .inr ⟨by simp, h⟩
  | v :: vs, ρ, i, s, h => by
    have h : ((backS ρ0 vs ρ).set v (back1 ρ0[v]?))[i]? = some s := h
    rw [List.getElem?_set] at h
    by_cases hv : v = i
    · subst hv
      simp only [if_true] at h
      split at h
      · cases h
        exact .inl ⟨by simp, rfl⟩
      · cases h
    · rw [if_neg hv] at h
      rcases backS_get ρ0 vs ρ i s h with ⟨a, b⟩ | ⟨a, b⟩
      · exact .inl ⟨by simp [a], b⟩
      · exact .inr ⟨fun z => (List.mem_cons.mp z).elim (fun z => hv z.symm) a, b⟩
theorem back1_own {o : Option Sl} : (back1 o).isOwn = false := by
  unfold back1
  split <;> rfl
/-- behind the block -/
theorem SR.back {F0 F : Hp} {ρ0 ρ : En} {σ : L2.St} {H0 H : Hp} {vs : List Nat} (R0 : SR K mg F0 ρ0 σ H0) (m : Same F0 F) (R : SR K mg F ρ (wipe σ vs) H) : SR K mg F (backS ρ0 vs ρ) σ H := by
  have len : (backS ρ0 vs ρ).length = σ.length := by rw [backS_length, R.len, wipe_length]
  have oa : ∀ i p, OwA (backS ρ0 vs ρ) σ i p → OwA ρ (wipe σ vs) i p := fun i p ⟨⟨s, e, o⟩, e2⟩ => by
    rcases backS_get ρ0 vs ρ i s e with ⟨_, z⟩ | ⟨hi, z⟩
    · rw [z, back1_own] at o
      cases o
    · exact ⟨⟨s, z, o⟩, by rw [wipe_out hi]; exact e2⟩
  refine ⟨R.same, R.siz, len, fun i s e => ?_, fun i j p a b => R.sep i j p (oa i p a) (oa j p b)⟩
  rcases backS_get ρ0 vs ρ i s e with ⟨_, z⟩ | ⟨hi, z⟩
  · subst z
    cases e0 : ρ0[i]? with
    | none =>
      have lt : i < σ.length := by
        rw [← len]
        exact (List.getElem?_eq_some_iff.mp e).1
      exact ⟨_, List.getElem?_eq_getElem lt, trivial⟩
    | some u =>
      obtain ⟨ov, e2, r⟩ := R0.sl i u e0
      refine ⟨ov, e2, ?_⟩
      cases u with
      | val d =>
        obtain ⟨v, ev, r⟩ := r
        exact ⟨v, ev, r.mono m⟩
      | no => trivial
      | own ds => trivial
      | oob c fs => trivial
      | odK ds => trivial
      | odT ds => trivial
      | ownA a ds => trivial
  · obtain ⟨ov, e2, r⟩ := R.sl i s z
    rw [wipe_out hi] at e2
    exact ⟨ov, e2, r⟩
theorem Ow.back {ρ0 ρ : En} {σ : L2.St} {vs : List Nat} {p : Addr} (h : Ow (backS ρ0 vs ρ) σ p) : Ow ρ (wipe σ vs) p := by
  obtain ⟨i, ⟨s, e, o⟩, e2⟩ := h
  rcases backS_get ρ0 vs ρ i s e with ⟨_, z⟩ | ⟨hi, z⟩
  · rw [z, back1_own] at o
    cases o
  · exact ⟨i, ⟨s, z, o⟩, by rw [wipe_out hi]; exact e2⟩
theorem wipe_get {σ : L2.St} {i : Nat} : ∀ {vs : List Nat}, i ∈ vs → (wipe σ vs)[i]? = if i < σ.length then some none else none
  | [], h => by cases h
  | v :: vs, h => by
    show ((wipe σ vs).set v none)[i]? = _
    rw [List.getElem?_set]
    by_cases hv : v = i
    · subst hv
      simp only [if_true, wipe_length]
    · rw [if_neg hv]
      rcases List.mem_cons.mp h with e | h
      · exact absurd e.symm hv
      · exact wipe_get h
theorem wipe_eq {σ σ' : L2.St} {vs : List Nat} (l : σ'.length = σ.length) (k : ∀ j, j ∉ vs → σ'[j]? = σ[j]?) : wipe σ' vs = wipe σ vs := by
  apply List.ext_getElem?
  intro i
  by_cases hi : i ∈ vs
  · rw [wipe_get hi, wipe_get hi, l]
  · rw [wipe_out hi, wipe_out hi, k i hi]
theorem wipe_wipe {σ : L2.St} {vs : List Nat} : wipe (wipe σ vs) vs = wipe σ vs := wipe_eq (wipe_length σ vs) fun _ hj => wipe_out hj
theorem Stp.hide {F0 : Hp} {ρ0 : En} {σ0 : L2.St} {H0 : Hp} {F : Hp} {ρ : En} {σ : L2.St} {H : Hp} {vs : List Nat} (S : Stp F0 ρ0 σ0 H0 F ρ σ H) : Stp F0 ρ0 σ0 H0 F (DL.hide vs ρ) (wipe σ vs) H :=
  ⟨S.sF, S.fr, S.un, fun q w => S.ow q w.hide⟩
/-- the lengths of what is made -/
theorem lcD_len {fg : FG} {ft : FT} {fe : FE} {vs : List Nat} : ∀ {ds : List D} {ρ : En} {ys : List D} {ρ' : En}, lcD fg ft fe vs ds ρ = some (ys, ρ') → ys.length ≤ ds.length
  | [], ρ, ys, ρ', e => by cases e; exact Nat.le_refl _
  | d :: ds, ρ, ys, ρ', e => by
    simp only [lcD] at e
    obtain ⟨ρ1, e1, e⟩ := bind2 (γ := Unit) e
    obtain ⟨⟨b, ρ2⟩, e2, e⟩ := bind2 (γ := Unit) e
    dsimp only at e
    split at e
    · obtain ⟨⟨y, ρ3⟩, e3, e⟩ := bind2 (γ := Unit) e
      obtain ⟨⟨r, ρ4⟩, e4, e⟩ := map2 e
      cases e
      have := lcD_len e4
      simp only [List.length_cons]
      omega
    · have := lcD_len e
      simp only [List.length_cons]
      omega
theorem ev_lc {wi : TI} {src : FSr} {ts vs : List Nat} {g : TG} {fg : FG} {tt : TT} {ft : FT} {te : TE} {fe : FE} (hts : ∀ i ∈ ts, i ∈ vs) (hi : EvI K mg wi src) (hg : EvG K mg ts g fg) (ht : EvT K mg tt ft) (he : EvW K mg te fe) :
    EvW K mg (tLc wi g tt te vs) (fLc src fg ft fe vs) := fun F ρ σ H R s ρ' e Q q => by
  obtain ⟨⟨ds, ρ1⟩, e1, e⟩ := bind2 (γ := Unit) e
  obtain ⟨⟨ys, ρe⟩, e2, e⟩ := map2 e
  cases e
  refine hi F ρ σ H R ds ρ1 e1 _ fun J F1 H1 R1 S1 ok => ?_
  obtain ⟨⟨G, Y, w, hG, hY⟩, hz⟩ := ok
  intro N hN
  have hF1 : F1 N = none := R1.same.free hN
  obtain ⟨R1', S1'⟩ := R1.fresh (o := .lst []) hN (Nat.zero_le _)
  have nowN : ¬ Ow ρ1 σ N := R1.nw hN
  refine lc_it w (fun i H' => ∃ F' ρ' acc vacc rest, SR K mg F' ρ' (wipe σ vs) H' ∧ Stp F1 ρ1 σ H1 F' ρ' (wipe σ vs) H' ∧ F' N = none ∧ ¬ Ow ρ' (wipe σ vs) N ∧ H' N = some (.lst vacc) ∧ Reps K mg F' acc vacc ∧ vacc.length ≤ i ∧
      lcD fg ft fe vs (ds.drop i) ρ' = some (rest, ρe) ∧ acc ++ rest = ys) ?_ (fun i H' _ ⟨F', ρ', acc, vacc, rest, R', S', _⟩ => hG F' ρ' _ H' R' S'.sF) ?_ ?_
  · exact ⟨F1, hide vs ρ1, [], [], ys, R1'.hide vs, S1'.hide, hF1, fun w => nowN w.hide, upd_same, .nil, Nat.zero_le _, e2, rfl⟩
  · rintro i x H' H2 hlt ⟨F', ρ', acc, vacc, rest, R', S', fN, nN, hN', rs, hl, e', ea⟩ y
    obtain ⟨F2, d1, R2, S2, ed, rd⟩ := hY i F' ρ' _ H' x H2 R' S'.sF hlt y
    have edr : ds.drop i = d1 :: ds.drop (i + 1) := by
      rw [List.drop_eq_getElem_cons hlt]
      rw [List.getElem?_eq_getElem hlt] at ed
      rw [Option.some.inj ed]
    rw [edr] at e'
    simp only [lcD] at e'
    obtain ⟨ρ2, e3, e'⟩ := bind2 (γ := Unit) e'
    obtain ⟨⟨b, ρ3⟩, e4, e'⟩ := bind2 (γ := Unit) e'
    refine hg F2 ρ' (wipe σ vs) H2 R2 d1 x rd ρ2 e3 _ fun σ3 R3 S3 l3 k3 => ?_
    have ew : wipe σ3 vs = wipe σ vs := by
      rw [wipe_eq (σ := wipe σ vs) l3 fun j hj => k3 j fun z => hj (hts j z), wipe_wipe]
    refine ⟨ew, ?_⟩
    refine ht F2 ρ2 σ3 H2 R3 b ρ3 e4 _ fun F4 H4 R4 S4 => ?_
    have S' := (S'.trans S2).trans (S3.trans S4)
    have T : Stp F' ρ' (wipe σ vs) H' F4 ρ3 σ3 H4 := S2.trans (S3.trans S4)
    have f4 : F4 N = none := T.un N _ hN' fN nN
    have h4 : H4 N = some (.lst vacc) := T.fr N _ hN' nN
    have n4 : ¬ Ow ρ3 σ3 N := fun z => by
      rcases T.ow N z with z | z
      · exact nN z
      · rw [hN'] at z; cases z
    cases b with
    | false =>
      rw [if_neg Bool.false_ne_true]
      simp only [Bool.false_eq_true, if_false] at e'
      have R5 := R4.hide vs
      have S5 := S'.hide (vs := vs)
      rw [ew] at R5 S5
      refine ⟨F4, _, acc, vacc, rest, R5, S5, f4, fun z => n4 ?_, h4, rs.mono T.sF, by omega, e', ea⟩
      rw [← ew] at z
      exact z.hide
    | true =>
      rw [if_pos rfl]
      simp only [if_true] at e'
      obtain ⟨⟨y1, ρ5⟩, e5, e'⟩ := bind2 (γ := Unit) e'
      obtain ⟨⟨rest', ρ6⟩, e6, e'⟩ := map2 e'
      cases e'
      refine he.frz F4 ρ3 σ3 H4 R4 y1 ρ5 e5 _ fun vy F5 H5 R5 S5 ry => ?_
      have f5 : F5 N = none := S5.un N _ h4 f4 n4
      have h5 : H5 N = some (.lst vacc) := S5.fr N _ h4 n4
      have n5 : ¬ Ow ρ5 σ3 N := fun z => by
        rcases S5.ow N z with z | z
        · exact n4 z
        · rw [h4] at z; cases z
      have rs5 := (rs.mono T.sF).mono S5.sF
      have lt' : vacc.length < sizeLine := by omega
      refine ⟨vacc, h5, lt', ?_⟩
      -- the new list takes the item
      have hr : Reps K mg F5 (acc ++ [y1]) (vacc ++ [vy]) := rs5.append (.one ry)
      have R6 : SR K mg F5 ρ5 σ3 (upd H5 N (.lst (vacc ++ [vy]))) := by
        refine R5.grow (Same.refl _) (fun b o eb => ?_) (R5.siz.upd (by show (vacc ++ [vy]).length ≤ sizeLine; rw [List.length_append, List.length_singleton]; exact lt')) fun q wq => ?_
        · have hb : b ≠ N := fun z => by rw [z, f5] at eb; cases eb
          rw [upd_ne hb]
          exact R5.same b o eb
        · have hq : q ≠ N := fun z => n5 (z ▸ wq)
          rw [upd_ne hq]
          exact ⟨R5.owF wq, rfl⟩
      have S6 : Stp F1 ρ1 σ H1 F5 ρ5 σ3 (upd H5 N (.lst (vacc ++ [vy]))) := by
        have Z := S'.trans S5
        refine ⟨Z.sF, fun q o eq nq => ?_, Z.un, Z.ow⟩
        have hq : q ≠ N := fun z => by rw [z, hN] at eq; cases eq
        rw [upd_ne hq]
        exact Z.fr q o eq nq
      have R7 := R6.hide vs
      have S7 := S6.hide (vs := vs)
      rw [ew] at R7 S7
      refine ⟨F5, _, acc ++ [y1], vacc ++ [vy], rest', R7, S7, f5, fun z => n5 ?_, upd_same, hr, by rw [List.length_append, List.length_singleton]; omega, e6, by rw [List.append_assoc]; exact ea⟩
      rw [← ew] at z
      exact z.hide
  · rintro H' ⟨F', ρ', acc, vacc, rest, R', S', fN, nN, hN', rs, hl, e', ea⟩
    rw [List.drop_length] at e'
    cases e'
    rw [List.append_nil] at ea
    subst ea
    refine q (.ref N) F' H' (R1.back S'.sF R') (S1.trans ⟨S'.sF, S'.fr, S'.un, fun p z => ?_⟩) (.of_own (s := .own acc) ⟨fN, vacc, hN', rs⟩ (fun z => nN z.back) ?_)
    · exact S'.ow p z.back
    · by_cases z : Ow ρ σ N
      · exact .inl z
      · refine .inr ?_
        cases eh : H N with
        | none => rfl
        | some o =>
          have := S1.fr N o eh z
          rw [hN] at this
          cases this
end
end
end DL
namespace DL
open PySem PySem.Spec PyProof.Rows L2
noncomputable section
/-! ### defs -/
abbrev Den := List Sl → Option (Sl × List Sl)
/-- the owned among the first slots stay owned -/
def still : List Sl → En → Bool
  | [], _ => true
  | s :: ss, r :: ρ => (!s.isOwn || r.isOwn) && still ss ρ
  | _ :: _, [] => false
/-- what the owned among the first slots hold at the end -/
def fin : List Sl → En → List Sl
  | [], _ => []
  | s :: ss, r :: ρ => (if s.isOwn = true then r else .no) :: fin ss ρ
  | _ :: _, [] => []
/-- each owned slot is among M -/
def keptBy (M : List Nat) : Nat → List Sl → Bool
  | _, [] => true
  | n, s :: ss => (!s.isOwn || M.contains n) && keptBy M (n + 1) ss
def denOf (n : Nat) (M : List Nat) (f : FS) : Den := fun ss => if keptBy M 0 ss = true then (f (ss ++ List.replicate (n - ss.length) .no)).bind fun o => match o with
  | .rt s ρ' => if still ss ρ' = true then some (s, fin ss ρ') else none
  | .nx ρ' => if still ss ρ' = true then some (.val .non, fin ss ρ') else none
  | _ => none
  else none
section
variable (K : PySem.W.Frag) (mg : Str → Option Value)
/-- the promise of a def: from arguments that stand for ss it gives what den tells -/
def spD (m : Nat) (den : Den) : Sp := fun vs H Q _ => ∃ F ss s ss', ss.length = m ∧ SR K mg F ss (vs.map some) H ∧ (∀ s ∈ ss, known s = true) ∧ den ss = some (s, ss') ∧
  ∀ v F' H', SR K mg F' ss' (vs.map some) H' → Stp F ss (vs.map some) H F' ss' (vs.map some) H' → (∀ (i : Nat) u, ss[i]? = some u → u.isOwn = true → ∃ u', ss'[i]? = some u' ∧ u'.isOwn = true) →
    WV K mg F' ss' (vs.map some) H' ss (vs.map some) H s v → Q v H'
end
/-- a def of the text with its promise -/
structure GFn (P : Program) (w : World) (K : PySem.W.Frag) (mg : Str → Option Value) (base : Heap) (x : Str) (m k : Nat) (den : Den) : Prop where
  to : ∃ f fd ps, mg x = some (.ref f) ∧ PySem.W.keepIn K (.ref f) = true ∧ Binds K fd ps [] ∧ FnOk P w K mg base CX0 k f fd ps (spD K mg m den)
section
variable {K : PySem.W.Frag} {mg : Str → Option Value}
theorem still_get : ∀ {ss : List Sl} {ρ : En} {i : Nat} {s : Sl}, still ss ρ = true → ss[i]? = some s → s.isOwn = true → ∃ r, ρ[i]? = some r ∧ r.isOwn = true
  | [], _, _, _, _, e, _ => by simp at e
  | s :: ss, [], _, _, h, _, _ => by cases h
  | s :: ss, r :: ρ, 0, _, h, e, o => by
    simp at e
    subst e
    simp only [still, Bool.and_eq_true, Bool.or_eq_true, Bool.not_eq_true', o] at h
    rcases h.1 with z | z
    · cases z
    · exact ⟨r, rfl, z⟩
  | s :: ss, r :: ρ, i + 1, _, h, e, o => by
    simp only [still, Bool.and_eq_true] at h
    exact still_get (i := i) h.2 (by simpa using e) o
theorem fin_get : ∀ {ss : List Sl} {ρ : En} {i : Nat} {u : Sl}, still ss ρ = true → (fin ss ρ)[i]? = some u → ∃ s, ss[i]? = some s ∧ ((s.isOwn = true ∧ ρ[i]? = some u) ∨ (s.isOwn = false ∧ u = .no))
  | [], _, _, _, _, e => by simp [fin] at e
  | s :: ss, [], _, _, h, _ => by cases h
  | s :: ss, r :: ρ, 0, _, h, e => by
    simp only [fin, List.getElem?_cons_zero, Option.some.injEq] at e
    subst e
    refine ⟨s, rfl, ?_⟩
    by_cases o : s.isOwn = true
    · rw [if_pos o]; exact .inl ⟨o, rfl⟩
    · rw [if_neg o]; exact .inr ⟨by simpa using o, rfl⟩
  | s :: ss, r :: ρ, i + 1, _, h, e => by
    simp only [still, Bool.and_eq_true] at h
    simp only [fin, List.getElem?_cons_succ] at e
    exact fin_get (i := i) h.2 e
theorem fin_own : ∀ {ss : List Sl} {ρ : En} {i : Nat} {s : Sl}, still ss ρ = true → ss[i]? = some s → s.isOwn = true → ∃ u, (fin ss ρ)[i]? = some u ∧ u.isOwn = true
  | [], _, _, _, _, e, _ => by simp at e
  | s :: ss, [], _, _, h, _, _ => by cases h
  | s :: ss, r :: ρ, 0, _, h, e, o => by
    simp at e
    subst e
    simp only [still, Bool.and_eq_true, Bool.or_eq_true, Bool.not_eq_true', o] at h
    rcases h.1 with z | z
    · cases z
    · exact ⟨_, rfl, by rw [if_pos o]; exact z⟩
  | s :: ss, r :: ρ, i + 1, _, h, e, o => by
    simp only [still, Bool.and_eq_true] at h
    simp only [fin, List.getElem?_cons_succ]
    exact fin_own (i := i) h.2 (by simpa using e) o
theorem fin_len : ∀ {ss : List Sl} {ρ : En}, still ss ρ = true → (fin ss ρ).length = ss.length
  | [], _, _ => rfl
  | s :: ss, [], h => by cases h
  | s :: ss, r :: ρ, h => by
    simp only [still, Bool.and_eq_true] at h
    simp only [fin, List.length_cons, fin_len h.2]
theorem keptBy_get {M : List Nat} : ∀ {ss : List Sl} {n i : Nat} {s : Sl}, keptBy M n ss = true → ss[i]? = some s → s.isOwn = true → n + i ∈ M
  | [], _, _, _, _, e, _ => by simp at e
  | s :: ss, n, 0, _, h, e, o => by
    simp at e
    subst e
    simp only [keptBy, Bool.and_eq_true, Bool.or_eq_true, Bool.not_eq_true', o] at h
    rcases h.1 with z | z
    · cases z
    · simpa using z
  | s :: ss, n, i + 1, _, h, e, o => by
    simp only [keptBy, Bool.and_eq_true] at h
    have := keptBy_get (i := i) h.2 (by simpa using e) o
    rw [show n + (i + 1) = n + 1 + i by omega]
    exact this
theorem start_get {N : List Str} {vs : List V} {i : Nat} (h : i < vs.length) : (start N vs)[i]? = some (vs[i]?) := by
  unfold L2.start
  rw [List.getElem?_append_left (by simpa using h), List.getElem?_map, List.getElem?_eq_getElem h]
  rfl
/-- the slots at a def's entry -/
theorem SR.start {F H : Hp} {ss : List Sl} {vs : List V} {N : List Str} {n : Nat} (hn : n = N.length) (hl : ss.length = vs.length) (hle : vs.length ≤ N.length) (R : SR K mg F ss (vs.map some) H) :
    SR K mg F (ss ++ List.replicate (n - ss.length) .no) (L2.start N vs) H := by
  have cut : ∀ (i : Nat) (s : Sl), (ss ++ List.replicate (n - ss.length) Sl.no)[i]? = some s → (ss[i]? = some s ∧ i < vs.length) ∨ (s = .no ∧ vs.length ≤ i ∧ i < N.length) := fun i s e => by
    by_cases hi : i < ss.length
    · rw [List.getElem?_append_left hi] at e
      exact .inl ⟨e, by omega⟩
    · rw [List.getElem?_append_right (by omega), List.getElem?_replicate] at e
      split at e
      · cases e
        exact .inr ⟨rfl, by omega, by omega⟩
      · cases e
  have oa : ∀ i p, OwA (ss ++ List.replicate (n - ss.length) Sl.no) (L2.start N vs) i p → OwA ss (vs.map some) i p := fun i p ⟨⟨s, e, o⟩, e2⟩ => by
    rcases cut i s e with ⟨h1, h2⟩ | ⟨rfl, _⟩
    · refine ⟨⟨s, h1, o⟩, ?_⟩
      rw [start_get h2] at e2
      rw [List.getElem?_map, Option.some.inj e2]
      rfl
    · cases o
  refine ⟨R.same, R.siz, ?_, fun i s e => ?_, fun i j p a b => R.sep i j p (oa i p a) (oa j p b)⟩
  · unfold L2.start
    rw [List.length_append, List.length_replicate, List.length_append, List.length_map, List.length_replicate]
    omega
  · rcases cut i s e with ⟨h1, h2⟩ | ⟨rfl, h2, h3⟩
    · obtain ⟨ov, e2, r⟩ := R.sl i s h1
      refine ⟨ov, ?_, r⟩
      rw [start_get h2, ← e2, List.getElem?_map, List.getElem?_eq_getElem h2]
      rfl
    · refine ⟨none, ?_, trivial⟩
      unfold L2.start
      rw [List.getElem?_append_right (by rw [List.length_map]; exact h2), List.length_map, List.getElem?_replicate, if_pos (by omega)]
theorem Ow.start {ss : List Sl} {vs : List V} {N : List Str} {n : Nat} {p : Addr} (hl : ss.length = vs.length) (h : Ow (ss ++ List.replicate (n - ss.length) Sl.no) (L2.start N vs) p) : Ow ss (vs.map some) p := by
  obtain ⟨i, ⟨s, e, o⟩, e2⟩ := h
  by_cases hi : i < ss.length
  · rw [List.getElem?_append_left hi] at e
    rw [start_get (by omega)] at e2
    exact ⟨i, ⟨s, e, o⟩, by rw [List.getElem?_map, Option.some.inj e2]; rfl⟩
  · rw [List.getElem?_append_right (by omega), List.getElem?_replicate] at e
    split at e
    · cases e
      cases o
    · cases e
theorem Ow.start' {ss : List Sl} {vs : List V} {N : List Str} {n : Nat} {p : Addr} (hl : ss.length = vs.length) (h : Ow ss (vs.map some) p) : Ow (ss ++ List.replicate (n - ss.length) Sl.no) (L2.start N vs) p := by
  obtain ⟨i, ⟨s, e, o⟩, e2⟩ := h
  have hi : i < ss.length := (List.getElem?_eq_some_iff.mp e).1
  refine ⟨i, ⟨s, by rw [List.getElem?_append_left hi]; exact e, o⟩, ?_⟩
  rw [start_get (by omega)]
  rw [List.getElem?_map] at e2
  obtain ⟨v, e3, e4⟩ := map2 e2
  rw [e3]
  exact congrArg some e4
/-- a def's end -/
theorem den_end {F H : Hp} {ss : List Sl} {vs : List V} {N : List Str} {n : Nat} {M : List Nat} {F' : Hp} {ρ' : En} {σ' : L2.St} {H' : Hp} {s : Sl} {v : V} (hl : ss.length = vs.length) (hle : vs.length ≤ N.length) (hn : n = N.length)
    (R : SR K mg F ss (vs.map some) H) (hM : keptBy M 0 ss = true) (hs : still ss ρ' = true)
    (R' : SR K mg F' ρ' σ' H') (S' : Stp F (ss ++ List.replicate (n - ss.length) .no) (L2.start N vs) H F' ρ' σ' H') (k : Kp M (L2.start N vs) σ')
    (w : WV K mg F' ρ' σ' H' (ss ++ List.replicate (n - ss.length) .no) (L2.start N vs) H s v) :
    SR K mg F' (fin ss ρ') (vs.map some) H' ∧ Stp F ss (vs.map some) H F' (fin ss ρ') (vs.map some) H' ∧ WV K mg F' (fin ss ρ') (vs.map some) H' ss (vs.map some) H s v := by
  have same : ∀ (i : Nat) (u : Sl), ss[i]? = some u → u.isOwn = true → σ'[i]? = (vs.map some)[i]? := fun i u e o => by
    have hi : i < ss.length := (List.getElem?_eq_some_iff.mp e).1
    have := k i (by simpa using keptBy_get hM e o)
    rw [this, start_get (by omega), List.getElem?_map, List.getElem?_eq_getElem (by omega)]
    rfl
  have oa : ∀ i p, OwA (fin ss ρ') (vs.map some) i p → OwA ρ' σ' i p ∧ OwA ss (vs.map some) i p := fun i p ⟨⟨u, e, o⟩, e2⟩ => by
    obtain ⟨u0, e0, h⟩ := fin_get hs e
    rcases h with ⟨o0, e1⟩ | ⟨_, rfl⟩
    · exact ⟨⟨⟨u, e1, o⟩, by rw [same i u0 e0 o0]; exact e2⟩, ⟨u0, e0, o0⟩, e2⟩
    · cases o
  -- the owned parameters are owned at the end
  have ob : ∀ i p, OwA ss (vs.map some) i p → OwA ρ' σ' i p := fun i p ⟨⟨u, e, o⟩, e2⟩ => by
    obtain ⟨r, e1, o1⟩ := still_get hs e o
    exact ⟨⟨r, e1, o1⟩, by rw [same i u e o]; exact e2⟩
  refine ⟨⟨R'.same, R'.siz, by rw [fin_len hs, List.length_map]; exact hl, fun i u e => ?_, fun i j p a b => R'.sep i j p (oa i p a).1 (oa j p b).1⟩, ⟨S'.sF, fun q o e n => S'.fr q o e fun z => n (z.start hl), fun q o e f n => S'.un q o e f fun z => n (z.start hl), fun q ⟨i, a⟩ => .inl ⟨i, (oa i q a).2⟩⟩, ?_⟩
  · obtain ⟨u0, e0, h⟩ := fin_get hs e
    rcases h with ⟨o0, e1⟩ | ⟨_, rfl⟩
    · obtain ⟨ov, e2, r⟩ := R'.sl i u e1
      rw [same i u0 e0 o0] at e2
      exact ⟨ov, e2, r⟩
    · have hi : i < vs.length := by rw [← hl]; exact (List.getElem?_eq_some_iff.mp e0).1
      exact ⟨some vs[i], by rw [List.getElem?_map, List.getElem?_eq_getElem hi]; rfl, trivial⟩
  · by_cases o : s.isOwn = true
    · obtain ⟨p, rfl, g, np, z⟩ := w.own o
      refine .of_own g (fun ⟨i, a⟩ => np ⟨i, (oa i p a).1⟩) ?_
      rcases z with z | z
      · obtain ⟨i, a⟩ := z.start hl
        exact absurd ⟨i, ob i p a⟩ np
      · exact .inr z
    · cases s with
      | val d => exact w
      | no => exact w
      | own ds => exact absurd rfl o
      | oob c fs => exact absurd rfl o
      | odK ds => exact absurd rfl o
      | odT ds => exact absurd rfl o
      | ownA a ds => exact absurd rfl o
end

/-! ### the context -/
structure XI (P : Program) (w : World) (K : PySem.W.Frag) (mg : Str → Option Value) (base : Heap) (k : Nat) (X : Cx) : Prop where
  pp : X.prog = P
  ww : X.w = w
  kk : X.K = K
  mm : X.mg = mg
  bb : X.base = base
  cc : X.calm = true
  rr : Room k X.A
  ee : X.xe = fun _ _ => False
section
variable {P : Program} {w : World} {K : PySem.W.Frag} {mg : Str → Option Value} {base : Heap} {k : Nat}
theorem XI.of {N : List Str} {qual : Str} {scope : Scope} {f : Addr} {cd : Value} {A : Around} {outer : List Env} {s : Shared} {H : Hp} {E : XK} (r : Room k (A.deeper (envOfC qual scope s.heap.objs.size f cd))) :
    XI P w K mg base k (cxOf CX0 P w K mg base N qual scope f cd A outer s H E).nox := ⟨rfl, rfl, rfl, rfl, rfl, rfl, r, rfl⟩
theorem XI.blk {X : Cx} (x : XI P w K mg base k X) (s : Shared) (H : Hp) (scope : Scope) (ce : Env) (fp : List Addr) : XI P w K mg base k (X.blk s H scope ce fp) := ⟨x.pp, x.ww, x.kk, x.mm, x.bb, x.cc, x.rr, rfl⟩
theorem XI.pass {X : Cx} (x : XI P w K mg base k X) : PassesOwn (model X.prog X.w) X.A X.env X.xe := by
  rw [x.ee]
  exact PassesOwn.never
/-- THE RULE for a def -/
theorem def_ok {x qual : Str} {st : Stmt} {f : Addr} {fd : FuncData} {N ps : List Str} {n : Nat} {M : List Nat} {fs : FS} (F : Fun K x qual st f fd) (S : FnScope N ps (defScope st)) (hn : n = N.length)
    (body : ∀ (cdv : Value) (A : Around) (outer : List Env) (s : Shared) (H : Hp) (E : XK), Room k (A.deeper (envOfC qual (defScope st) s.heap.objs.size f cdv)) →
      ∃ t, PSs (cxOf CX0 P w K mg base N qual (defScope st) f cdv A outer s H E).nox (defBody st) t ∧ EvS K mg M t fs) : FnOk P w K mg base CX0 (k + 1) f fd ps (spD K mg ps.length (denOf n M fs)) := by
  have hpl : ps.length ≤ N.length := by have := congrArg List.length S.pre; rw [List.length_take] at this; omega
  refine F.ok S (fun vs H Q E h => ?_) (fun cdv A outer s H vs Q E hr h => ?_)
  · obtain ⟨F, ss, s, ss', hl, R, _⟩ := h
    have := R.len
    rw [List.length_map] at this
    omega
  · obtain ⟨t, ht, hev⟩ := body cdv A outer s H E hr
    refine ⟨t, ht, ?_⟩
    obtain ⟨F, ss, s, ss', hl, R, _, hd, q⟩ := h
    have hlv : ss.length = vs.length := by have := R.len; rw [List.length_map] at this; exact this
    unfold denOf at hd
    split at hd
    case isFalse => cases hd
    case isTrue hM =>
      obtain ⟨o, eo, hd⟩ := bind2 (γ := Unit) hd
      refine hev F _ _ H (R.start (N := N) hn hlv (by omega)) o eo _ ?_
      have own : ∀ {ρ' : En}, still ss ρ' = true → ∀ (i : Nat) u, ss[i]? = some u → u.isOwn = true → ∃ u', (fin ss ρ')[i]? = some u' ∧ u'.isOwn = true := fun hs i u e o => fin_own hs e o
      cases o with
      | bk ρ' => cases hd
      | ct ρ' => cases hd
      | rt u ρ' =>
        dsimp only at hd
        split at hd
        · rename_i hs
          cases hd
          intro v F' σ' H' R' S' k' w'
          obtain ⟨a, b, c⟩ := den_end hlv (by omega) hn R hM hs R' S' k' w'
          exact q v F' H' a b (own hs) c
        · cases hd
      | nx ρ' =>
        dsimp only at hd
        split at hd
        · rename_i hs
          cases hd
          intro F' σ' H' R' S' k'
          obtain ⟨a, b, c⟩ := den_end (s := .val .non) (v := .non) hlv (by omega) hn R hM hs R' S' k' rfl
          exact q .non F' H' a b (own hs) c
        · cases hd
theorem GFn.mk' {x qual : Str} {st : Stmt} {f : Addr} {fd : FuncData} {N ps : List Str} {n : Nat} {M : List Nat} {fs : FS} (F : Fun K x qual st f fd) (hm : mg x = some (.ref f)) (b : Binds K fd ps []) (S : FnScope N ps (defScope st)) (hn : n = N.length) {m : Nat} (hps : m = ps.length)
    (body : ∀ (cdv : Value) (A : Around) (outer : List Env) (s : Shared) (H : Hp) (E : XK), Room k (A.deeper (envOfC qual (defScope st) s.heap.objs.size f cdv)) →
      ∃ t, PSs (cxOf CX0 P w K mg base N qual (defScope st) f cdv A outer s H E).nox (defBody st) t ∧ EvS K mg M t fs) : GFn P w K mg base x m (k + 1) (denOf n M fs) :=
  ⟨f, fd, ps, hm, F.kp, b, by rw [hps]; exact def_ok F S hn body⟩
/-- a def is known by another reckoning of it -/
theorem GFn.imp {x : Str} {m : Nat} {den den' : Den} (G : GFn P w K mg base x m k den) (h : ∀ ss r, ss.length = m → den' ss = some r → den ss = some r) : GFn P w K mg base x m k den' := by
  obtain ⟨f, fd, ps, h1, h2, h3, h4⟩ := G.to
  exact ⟨f, fd, ps, h1, h2, h3, h4.imp fun vs H Q E ⟨F, ss, s, ss', hl, R, kn, hd, q⟩ => ⟨F, ss, s, ss', hl, R, kn, h ss _ hl hd, q⟩⟩
theorem GFn.mono {x : Str} {m j : Nat} {den : Den} (G : GFn P w K mg base x m j den) (h : j ≤ k) : GFn P w K mg base x m k den := by
  obtain ⟨f, fd, ps, h1, h2, h3, h4⟩ := G.to
  exact ⟨f, fd, ps, h1, h2, h3, h4.mono h⟩
end

/-! ### calls -/
/-- the owned arguments' slots take what the def has left in them -/
def give : List (Option Nat) → List Sl → List Sl → En → En
  | some i :: ks, s :: ss, u :: us, ρ => give ks ss us (if s.isOwn = true then ρ.set i u else ρ)
  | none :: ks, _ :: ss, _ :: us, ρ => give ks ss us ρ
  | _, _, _, ρ => ρ
def fUse (den : Den) (ks : List (Option Nat)) (fa : FAr) : FE := fun ρ => (fa ρ).bind fun p => (res ks p.1 p.2).bind fun ss => if (ss.all known) = true then (den ss).map fun q => (q.1, give ks ss q.2 p.2) else none
section
variable {K : PySem.W.Frag} {mg : Str → Option Value}
theorem give_get : ∀ {ks : List (Option Nat)} {ss us : List Sl} {ρ : En} {j : Nat} {v : Sl}, ss.length = us.length → (give ks ss us ρ)[j]? = some v →
    (∃ (k : Nat) (s : Sl), ks[k]? = some (some j) ∧ ss[k]? = some s ∧ s.isOwn = true ∧ us[k]? = some v) ∨ (ρ[j]? = some v ∧ ∀ (k : Nat) (s : Sl), ks[k]? = some (some j) → ss[k]? = some s → s.isOwn = false)
  | [], ss, us, ρ, j, v, _, h => .inr ⟨by unfold give at h; exact h, fun k s e => by simp at e⟩
  | some i :: ks, [], us, ρ, j, v, _, h => .inr ⟨by unfold give at h; exact h, fun k s _ e => by simp at e⟩
  | none :: ks, [], us, ρ, j, v, _, h => .inr ⟨by unfold give at h; exact h, fun k s _ e => by simp at e⟩
  | some i :: ks, s :: ss, [], ρ, j, v, l, h => by simp at l
  | none :: ks, s :: ss, [], ρ, j, v, l, h => by simp at l
  | none :: ks, s :: ss, u :: us, ρ, j, v, l, h => by
    rcases give_get (ks := ks) (by simpa using l) (show (give ks ss us ρ)[j]? = some v from h) with ⟨k, t, a, b, c, d⟩ | ⟨a, b⟩
    · exact .inl ⟨k + 1, t, by simpa using a, by simpa using b, c, by simpa using d⟩
    · refine .inr ⟨a, fun k t e1 e2 => ?_⟩
      cases k with
      | zero => simp at e1
      | succ k => exact b k t (by simpa using e1) (by simpa using e2)
  | some i :: ks, s :: ss, u :: us, ρ, j, v, l, h => by
    have h : (give ks ss us (if s.isOwn = true then ρ.set i u else ρ))[j]? = some v := h
    rcases give_get (ks := ks) (by simpa using l) h with ⟨k, t, a, b, c, d⟩ | ⟨a, b⟩
    · exact .inl ⟨k + 1, t, by simpa using a, by simpa using b, c, by simpa using d⟩
    · by_cases o : s.isOwn = true
      · rw [if_pos o, List.getElem?_set] at a
        by_cases hij : i = j
        · subst hij
          simp only [if_true] at a
          split at a
          · cases a
            exact .inl ⟨0, s, rfl, rfl, o, rfl⟩
          · cases a
        · rw [if_neg hij] at a
          refine .inr ⟨a, fun k t e1 e2 => ?_⟩
          cases k with
          | zero =>
            simp at e1
            exact absurd e1 hij
          | succ k => exact b k t (by simpa using e1) (by simpa using e2)
      · rw [if_neg o] at a
        refine .inr ⟨a, fun k t e1 e2 => ?_⟩
        cases k with
        | zero =>
          simp at e2
          subst e2
          simpa using o
        | succ k => exact b k t (by simpa using e1) (by simpa using e2)
theorem give_length : ∀ {ks : List (Option Nat)} {ss us : List Sl} {ρ : En}, (give ks ss us ρ).length = ρ.length
  | [], _, _, _ => by unfold give; rfl
  | some i :: ks, [], _, _ => by unfold give; rfl
  | none :: ks, [], _, _ => by unfold give; rfl
  | some i :: ks, _ :: _, [], _ => by unfold give; rfl
  | none :: ks, _ :: _, [], _ => by unfold give; rfl
  | none :: ks, s :: ss, u :: us, ρ => by
    show (give ks ss us ρ).length = _
    exact give_length
  | some i :: ks, s :: ss, u :: us, ρ => by
    show (give ks ss us (if s.isOwn = true then ρ.set i u else ρ)).length = _
    rw [give_length]
    split
    · rw [List.length_set]
    · rfl
/-- where an argument comes from -/
theorem arg_get {F : Hp} {σ : L2.St} : ∀ {ks : List (Option Nat)} {ds : List D} {vs : List V} {ss : List Sl} {ρ : En} {k : Nat} {s : Sl}, ArV K mg F σ ks ds vs → res ks ds ρ = some ss → ss[k]? = some s →
    (∃ i v, ks[k]? = some (some i) ∧ ρ[i]? = some s ∧ vs[k]? = some v ∧ σ[i]? = some (some v)) ∨ (∃ d, s = .val d)
  | [], _, _, _, _, _, _, h, e, g => by
    simp only [res] at e
    cases e
    simp at g
  | some i :: ks, _, _, _, ρ, k, s, h, e, g => by
    obtain ⟨v, r, rfl, e2, h⟩ := h
    simp only [res] at e
    obtain ⟨u, e3, e⟩ := bind2 (γ := Unit) e
    obtain ⟨q, e4, rfl⟩ := map2 e
    cases k with
    | zero =>
      simp at g
      subst g
      exact .inl ⟨i, v, rfl, e3, rfl, e2⟩
    | succ k =>
      rcases arg_get (k := k) h e4 (by simpa using g) with ⟨i', v', a, b, c, d⟩ | z
      · exact .inl ⟨i', v', by simpa using a, b, by simpa using c, d⟩
      · exact .inr z
  | none :: ks, _, _, _, ρ, k, s, h, e, g => by
    obtain ⟨d, r, v, w, rfl, rfl, _, h⟩ := h
    simp only [res] at e
    obtain ⟨q, e4, rfl⟩ := map2 e
    cases k with
    | zero =>
      simp at g
      exact .inr ⟨d, g.symm⟩
    | succ k =>
      rcases arg_get (k := k) h e4 (by simpa using g) with ⟨i', v', a, b, c, d⟩ | z
      · exact .inl ⟨i', v', by simpa using a, b, by simpa using c, d⟩
      · exact .inr z
/-- no slot twice -/
def once : List (Option Nat) → Bool
  | [] => true
  | some i :: ks => !ks.contains (some i) && once ks
  | none :: ks => once ks
theorem once_ix : ∀ {ks : List (Option Nat)} {a b i : Nat}, once ks = true → ks[a]? = some (some i) → ks[b]? = some (some i) → a = b
  | [], a, b, i, _, h, _ => by simp at h
  | none :: ks, a, b, i, o, h, g => by
    cases a with
    | zero => simp at h
    | succ a =>
      cases b with
      | zero => simp at g
      | succ b => exact congrArg (· + 1) (once_ix (ks := ks) o (by simpa using h) (by simpa using g))
  | some j :: ks, a, b, i, o, h, g => by
    simp only [once, Bool.and_eq_true, Bool.not_eq_true'] at o
    have no : ∀ c : Nat, ks[c]? = some (some j) → False := fun c hc => by
      have := List.mem_of_getElem? hc
      rw [List.contains_eq_mem, decide_eq_false_iff_not] at o
      exact o.1 this
    cases a with
    | zero =>
      simp at h
      cases b with
      | zero => rfl
      | succ b =>
        subst h
        exact (no b (by simpa using g)).elim
    | succ a =>
      cases b with
      | zero =>
        simp at g
        subst g
        exact (no a (by simpa using h)).elim
      | succ b => exact congrArg (· + 1) (once_ix (ks := ks) o.2 (by simpa using h) (by simpa using g))
theorem SR.args {F ρ σ H} (R : SR K mg F ρ σ H) {ks : List (Option Nat)} {ds : List D} {vs : List V} {ss : List Sl} (a : ArV K mg F σ ks ds vs) (e : res ks ds ρ = some ss) (o : once ks = true) :
    SR K mg F ss (vs.map some) H ∧ (∀ k p, OwA ss (vs.map some) k p → ∃ i, ks[k]? = some (some i) ∧ OwA ρ σ i p) := by
  have rs := res_ok R a e
  have oa : ∀ k p, OwA ss (vs.map some) k p → ∃ i, ks[k]? = some (some i) ∧ OwA ρ σ i p := fun k p ⟨⟨s, e1, o1⟩, e2⟩ => by
    rcases arg_get a e e1 with ⟨i, v, h1, h2, h3, h4⟩ | ⟨d, rfl⟩
    · refine ⟨i, h1, ⟨s, h2, o1⟩, ?_⟩
      rw [List.getElem?_map, h3] at e2
      rw [h4]
      exact e2
    · cases o1
  refine ⟨⟨R.same, R.siz, by rw [List.length_map]; exact rs.1, fun k s e1 => ?_, fun j k p h1 h2 => ?_⟩, oa⟩
  · obtain ⟨v, e2, r⟩ := rs.2 k s e1
    exact ⟨some v, by rw [List.getElem?_map, e2]; rfl, r⟩
  · obtain ⟨i1, a1, b1⟩ := oa j p h1
    obtain ⟨i2, a2, b2⟩ := oa k p h2
    have := R.sep i1 i2 p b1 b2
    subst this
    exact once_ix o a1 a2
theorem use_end {F1 ρ1 σ H1} (R1 : SR K mg F1 ρ1 σ H1) {ks : List (Option Nat)} {ds : List D} {vs : List V} {ss ss' : List Sl} (a : ArV K mg F1 σ ks ds vs) (e : res ks ds ρ1 = some ss) (o : once ks = true)
    {v : V} {s : Sl} {F' H' : Hp} (R' : SR K mg F' ss' (vs.map some) H') (S' : Stp F1 ss (vs.map some) H1 F' ss' (vs.map some) H') (own : ∀ (i : Nat) u, ss[i]? = some u → u.isOwn = true → ∃ u', ss'[i]? = some u' ∧ u'.isOwn = true)
    (w : WV K mg F' ss' (vs.map some) H' ss (vs.map some) H1 s v) : SR K mg F' (give ks ss ss' ρ1) σ H' ∧ Stp F1 ρ1 σ H1 F' (give ks ss ss' ρ1) σ H' ∧ WV K mg F' (give ks ss ss' ρ1) σ H' ρ1 σ H1 s v := by
  obtain ⟨Ra, oa⟩ := R1.args a e o
  have hl : ss.length = ss'.length := by
    have h1 := Ra.len
    have h2 := R'.len
    omega
  -- an owned slot behind the call
  have ob : ∀ j p, OwA (give ks ss ss' ρ1) σ j p → OwA ρ1 σ j p := fun j p ⟨⟨u, e1, o1⟩, e2⟩ => by
    rcases give_get hl e1 with ⟨k, t, h1, h2, h3, h4⟩ | ⟨h1, _⟩
    · rcases arg_get a e h2 with ⟨i, v', g1, g2, g3, g4⟩ | ⟨d, rfl⟩
      · rw [h1] at g1
        cases g1
        exact ⟨⟨t, g2, h3⟩, e2⟩
      · cases h3
    · exact ⟨⟨u, h1, o1⟩, e2⟩
  have nos : ∀ q, ¬ Ow ρ1 σ q → ¬ Ow ss (vs.map some) q := fun q n ⟨k, z⟩ => by
    obtain ⟨i, _, z⟩ := oa k q z
    exact n ⟨i, z⟩
  have R2 : SR K mg F' (give ks ss ss' ρ1) σ H' := by
    refine ⟨R'.same, R'.siz, by rw [give_length]; exact R1.len, fun j u e1 => ?_, fun i j p h1 h2 => R1.sep i j p (ob i p h1) (ob j p h2)⟩
    rcases give_get hl e1 with ⟨k, t, h1, h2, h3, h4⟩ | ⟨h1, h2⟩
    · rcases arg_get a e h2 with ⟨i, v', g1, g2, g3, g4⟩ | ⟨d, rfl⟩
      · rw [h1] at g1
        cases g1
        refine ⟨_, g4, ?_⟩
        have e3 : (vs.map some)[k]? = some (some v') := by rw [List.getElem?_map, g3]; rfl
        exact R'.at h4 e3
      · cases h3
    · obtain ⟨ov, e2, r⟩ := R1.sl j u h1
      refine ⟨ov, e2, ?_⟩
      by_cases ou : u.isOwn = true
      · obtain ⟨p, e4, r2⟩ := r.ow ou
        subst e4
        have aj : OwA ρ1 σ j p := ⟨⟨u, h1, ou⟩, e2⟩
        have np : ¬ Ow ss (vs.map some) p := fun ⟨k, z⟩ => by
          obtain ⟨i, g1, g2⟩ := oa k p z
          have := R1.sep i j p g2 aj
          subst this
          obtain ⟨⟨t, t1, t2⟩, _⟩ := z
          rw [h2 k t g1 t1] at t2
          cases t2
        obtain ⟨ob, eo⟩ := r2.hS
        exact DL.SlR.of_ow (r2.mono S'.sF (S'.un p ob eo r2.fN np) (by rw [S'.fr p ob eo np, eo]))
      · cases u with
        | no => trivial
        | val d => obtain ⟨w, q, r⟩ := r; exact ⟨w, q, r.mono S'.sF⟩
        | own ds => exact absurd rfl ou
        | oob c fs => exact absurd rfl ou
        | odK ds => exact absurd rfl ou
        | odT ds => exact absurd rfl ou
        | ownA a ds => exact absurd rfl ou
  refine ⟨R2, ⟨S'.sF, fun q u e1 n => S'.fr q u e1 (nos q n), fun q u e1 f n => S'.un q u e1 f (nos q n), fun q ⟨j, z⟩ => .inl ⟨j, ob j q z⟩⟩, ?_⟩
  by_cases os : s.isOwn = true
  · obtain ⟨p, rfl, g, np, z⟩ := w.own os
    have hp : H1 p = none := by
      rcases z with ⟨i, ⟨u, e1, o1⟩, e2⟩ | z
      · obtain ⟨u', e3, o3⟩ := own i u e1 o1
        exact absurd ⟨i, ⟨u', e3, o3⟩, e2⟩ np
      · exact z
    refine .of_own g (fun ⟨j, z⟩ => R1.nw hp ⟨j, ob j p z⟩) (.inr hp)
  · cases s with
    | val d => exact w
    | no => exact w
    | own ds => exact absurd rfl os
    | oob c fs => exact absurd rfl os
    | odK ds => exact absurd rfl os
    | odT ds => exact absurd rfl os
    | ownA a ds => exact absurd rfl os
theorem res_len {σ : L2.St} {F : Hp} : ∀ {ks : List (Option Nat)} {ds : List D} {vs : List V} {ss : List Sl} {ρ : En}, res ks ds ρ = some ss → ss.length = ks.length
  | [], _, _, _, _, e => by simp only [res] at e; cases e; rfl
  | some i :: ks, _, _, _, ρ, e => by
    simp only [res] at e
    obtain ⟨u, e3, e⟩ := bind2 (γ := Unit) e
    obtain ⟨q, e4, rfl⟩ := map2 e
    simp only [List.length_cons, res_len (σ := σ) (F := F) (vs := []) e4]
  | none :: ks, [], _, _, ρ, e => by simp only [res] at e; cases e
  | none :: ks, d :: ds, _, _, ρ, e => by
    simp only [res] at e
    obtain ⟨q, e4, rfl⟩ := map2 e
    simp only [List.length_cons, res_len (σ := σ) (F := F) (vs := []) e4]
theorem ev_use {m : Nat} {den : Den} {ks : List (Option Nat)} {t : TA} {fa : FAr} (o : once ks = true) (hm : ks.length = m) (ha : EvB K mg t ks fa) : EvW K mg (tCall (spD K mg m den) [] E0 t) (fUse den ks fa) := fun F ρ σ H R s ρ' e Q q => by
  obtain ⟨⟨ds, ρ1⟩, e1, e⟩ := bind2 (γ := Unit) e
  obtain ⟨ss, e2, e⟩ := bind2 (γ := Unit) e
  dsimp only at e
  split at e
  case isFalse => cases e
  case isTrue hk =>
    obtain ⟨⟨u, ss'⟩, e3, e⟩ := map2 e
    cases e
    refine ha F ρ σ H R ds ρ1 e1 _ fun vs F1 H1 R1 S1 a => ?_
    have Ra := (R1.args a e2 o).1
    rw [List.append_nil]
    refine ⟨F1, ss, u, ss', by rw [res_len (σ := σ) (F := F1) (vs := vs) e2]; exact hm, Ra, fun u hu => List.all_eq_true.mp hk u hu, e3, fun v F' H' R' S' own w => ?_⟩
    obtain ⟨R2, S2, w2⟩ := use_end R1 a e2 o R' S' own w
    exact q v F' H' R2 (S1.trans S2) (w2.back S1)
end
end
end DL
namespace DL
open PySem PySem.Spec PyProof.Rows L2
noncomputable section
/-! ### methods, new instances, fields -/
def isObj (c m : Str) : D → Bool
  | .obj c' fs => decide (c' = c) && (fs.lookup m).isNone
  | _ => false
def fMeth (c m : Str) (den : Den) (ks : List (Option Nat)) (fe : FE) (fa : FAr) : FE := fun ρ => (vl fe ρ).bind fun p => if isObj c m p.1 = true then (fa p.2).bind fun q => (res (none :: ks) (p.1 :: q.1) q.2).bind fun ss =>
  if (ss.all known) = true then (den ss).map fun r => (r.1, give (none :: ks) ss r.2 q.2) else none else none
def fMake (c : Str) (den : Den) (ks : List (Option Nat)) (fa : FAr) : FE := fun ρ => (fa ρ).bind fun p => (res ks p.1 p.2).bind fun ss => if (ss.all known) = true then (den (.oob c [] :: ss)).bind fun q => match q with
  | (.val .non, .oob c' fs :: us) => some (.val (.obj c' fs), give ks ss us p.2)
  | _ => none else none
def fFld (c f : Str) (fe : FE) : FE := fun ρ => (vl fe ρ).bind fun p => match p.1 with
  | .obj c' fs => if c' = c then (fs.lookup f).map fun d => (.val d, p.2) else none
  | _ => none
def objOf : Sl → Option (Str × List (Str × D))
  | .val (.obj c fs) => some (c, fs)
  | .oob c fs => some (c, fs)
  | _ => none
def fFldN (c f : Str) (i : Nat) : FE := fun ρ => (ρ[i]?).bind fun s => (objOf s).bind fun p => if p.1 = c then (p.2.lookup f).map fun d => (.val d, ρ) else none
def sPutF (c f : Str) (i : Nat) (fv : FE) : FS := fun ρ => (vl fv ρ).bind fun p => match p.2[i]? with
  | some (.oob c' fs) => if c' = c ∧ fs.length < 1000 then some (.nx (p.2.set i (.oob c' (putD f p.1 fs)))) else none
  | _ => none
section
variable {K : PySem.W.Frag} {mg : Str → Option Value} {M : List Nat}
theorem ev_meth {c mt : Str} {C : Addr} {m : Nat} {den : Den} {ks : List (Option Nat)} {te : TE} {t : TA} {fe : FE} {fa : FAr} (hC : mg c = some (.ref C)) (o : once ks = true) (hm : ks.length + 1 = m) (he : EvW K mg te fe) (ha : EvB K mg t ks fa) :
    EvW K mg (tMeth C mt (spD K mg m den) [] E0 te t) (fMeth c mt den ks fe fa) := fun F ρ σ H R s ρ' e Q q => by
  obtain ⟨⟨x, ρ1⟩, e1, e⟩ := bind2 (γ := Unit) e
  dsimp only at e
  split at e
  case isFalse => cases e
  case isTrue hx =>
    obtain ⟨⟨ds, ρ2⟩, e2, e⟩ := bind2 (γ := Unit) e
    obtain ⟨ss, e3, e⟩ := bind2 (γ := Unit) e
    dsimp only at e
    split at e
    case isFalse => cases e
    case isTrue hk =>
      obtain ⟨⟨u, ss'⟩, e4, e⟩ := map2 e
      cases e
      refine he.frz F ρ σ H R x ρ1 e1 _ fun vx F1 H1 R1 S1 rx => ?_
      obtain ⟨c', fs, rfl, hc, hn⟩ : ∃ c' fs, x = .obj c' fs ∧ c' = c ∧ fs.lookup mt = none := by
        cases x <;> try (cases hx)
        simp only [isObj, Bool.and_eq_true, decide_eq_true_eq] at hx
        exact ⟨_, _, rfl, hx.1, by simpa using hx.2⟩
      have rx' := rx
      simp only [Rep] at rx'
      obtain ⟨a, C', dx, vs', rfl, g, gc, rf⟩ := rx'
      rw [hc, hC] at gc
      cases gc
      refine ⟨a, dx, vs', rfl, R1.same _ _ g, rf.lookup_none hn, ?_⟩
      refine ha F1 ρ1 σ H1 R1 ds ρ2 e2 _ fun vs F2 H2 R2 S2 ar => ?_
      have ar' : ArV K mg F2 σ (none :: ks) (.obj c' fs :: ds) (V.ref a :: vs) := ⟨_, _, _, _, rfl, rfl, rx.mono S2.sF, ar⟩
      have o' : once (none :: ks) = true := o
      have Ra := (R2.args ar' e3 o').1
      rw [List.append_nil]
      refine ⟨F2, ss, u, ss', by rw [res_len (σ := σ) (F := F2) (vs := V.ref a :: vs) e3]; exact hm, Ra, fun u hu => List.all_eq_true.mp hk u hu, e4, fun v F' H' R' S' own w => ?_⟩
      obtain ⟨R3, S3, w3⟩ := use_end R2 ar' e3 o' R' S' own w
      exact q v F' H' R3 ((S1.trans S2).trans S3) (w3.back (S1.trans S2))
theorem give_app : ∀ {ks : List (Option Nat)} {ss us : List Sl} {ρ τ : En}, (∀ i, some i ∈ ks → i < ρ.length) → give ks ss us (ρ ++ τ) = give ks ss us ρ ++ τ
  | [], _, _, _, _, _ => by unfold give; rfl
  | some i :: ks, [], _, _, _, _ => by unfold give; rfl
  | none :: ks, [], _, _, _, _ => by unfold give; rfl
  | some i :: ks, _ :: _, [], _, _, _ => by unfold give; rfl
  | none :: ks, _ :: _, [], _, _, _ => by unfold give; rfl
  | none :: ks, s :: ss, u :: us, ρ, τ, h => by
    show give ks ss us (ρ ++ τ) = give ks ss us ρ ++ τ
    exact give_app fun i hi => h i (List.mem_cons_of_mem _ hi)
  | some i :: ks, s :: ss, u :: us, ρ, τ, h => by
    show give ks ss us (if s.isOwn = true then (ρ ++ τ).set i u else ρ ++ τ) = give ks ss us (if s.isOwn = true then ρ.set i u else ρ) ++ τ
    by_cases o : s.isOwn = true
    · rw [if_pos o, if_pos o, List.set_append_left _ _ (h i List.mem_cons_self)]
      exact give_app fun j hj => by rw [List.length_set]; exact h j (List.mem_cons_of_mem _ hj)
    · rw [if_neg o, if_neg o]
      exact give_app fun j hj => h j (List.mem_cons_of_mem _ hj)
theorem arv_lt {F : Hp} {σ : L2.St} : ∀ {ks : List (Option Nat)} {ds : List D} {vs : List V} {i : Nat}, ArV K mg F σ ks ds vs → some i ∈ ks → i < σ.length
  | [], _, _, _, _, h => by cases h
  | some j :: ks, _, _, i, a, h => by
    obtain ⟨v, r, rfl, e2, a⟩ := a
    rcases List.mem_cons.mp h with e | h
    · cases e
      exact (List.getElem?_eq_some_iff.mp e2).1
    · exact arv_lt a h
  | none :: ks, _, _, i, a, h => by
    obtain ⟨d, r, v, w, rfl, rfl, _, a⟩ := a
    rcases List.mem_cons.mp h with e | h
    · cases e
    · exact arv_lt a h
theorem ArV.push {F : Hp} {σ τ : L2.St} : ∀ {ks : List (Option Nat)} {ds : List D} {vs : List V}, ArV K mg F σ ks ds vs → ArV K mg F (σ ++ τ) ks ds vs
  | [], _, _, h => h
  | some i :: ks, _, _, h => by
    obtain ⟨v, r, e, e2, h⟩ := h
    refine ⟨v, r, e, ?_, h.push⟩
    rw [List.getElem?_append_left (List.getElem?_eq_some_iff.mp e2).1]
    exact e2
  | none :: ks, _, _, h => by
    obtain ⟨d, r, v, w, e, e2, g, h⟩ := h
    exact ⟨d, r, v, w, e, e2, g, h.push⟩
theorem res_push : ∀ {ks : List (Option Nat)} {ds : List D} {ρ τ : En} {ss : List Sl}, res ks ds ρ = some ss → res ks ds (ρ ++ τ) = some ss
  | [], _, _, _, _, e => by simp only [res] at e ⊢; exact e
  | some i :: ks, _, ρ, τ, _, e => by
    simp only [res] at e ⊢
    obtain ⟨u, e3, e⟩ := bind2 (γ := Unit) e
    obtain ⟨q, e4, rfl⟩ := map2 e
    rw [List.getElem?_append_left (List.getElem?_eq_some_iff.mp e3).1, e3, Option.bind_some, res_push e4, Option.map_some]
  | none :: ks, [], _, _, _, e => by simp only [res] at e; cases e
  | none :: ks, d :: ds, ρ, τ, _, e => by
    simp only [res] at e ⊢
    obtain ⟨q, e4, rfl⟩ := map2 e
    rw [res_push e4, Option.map_some]
theorem OwA.push {ρ : En} {σ : L2.St} {s : Sl} {ov : Option V} {i : Nat} {p : Addr} (l : ρ.length = σ.length) (h : OwA (ρ ++ [s]) (σ ++ [ov]) i p) : OwA ρ σ i p ∨ (i = ρ.length ∧ s.isOwn = true ∧ ov = some (.ref p)) := by
  obtain ⟨⟨u, e, o⟩, e2⟩ := h
  by_cases hi : i < ρ.length
  · rw [List.getElem?_append_left hi] at e
    rw [List.getElem?_append_left (by omega)] at e2
    exact .inl ⟨⟨u, e, o⟩, e2⟩
  · have hi' : i = ρ.length := by
      have := (List.getElem?_eq_some_iff.mp e).1
      rw [List.length_append, List.length_singleton] at this
      omega
    subst hi'
    rw [List.getElem?_append_right (Nat.le_refl _), Nat.sub_self] at e
    rw [l, List.getElem?_append_right (Nat.le_refl _), Nat.sub_self] at e2
    simp only [List.getElem?_cons_zero, Option.some.injEq] at e e2
    subst e
    exact .inr ⟨rfl, o, e2⟩
theorem OwA.unpush {ρ : En} {σ : L2.St} {s : Sl} {ov : Option V} {i : Nat} {p : Addr} (l : ρ.length = σ.length) (h : OwA ρ σ i p) : OwA (ρ ++ [s]) (σ ++ [ov]) i p := by
  obtain ⟨⟨u, e, o⟩, e2⟩ := h
  have hi := (List.getElem?_eq_some_iff.mp e).1
  exact ⟨⟨u, by rw [List.getElem?_append_left hi]; exact e, o⟩, by rw [List.getElem?_append_left (by omega)]; exact e2⟩
/-- one slot more -/
theorem SR.push {F ρ σ H} (R : SR K mg F ρ σ H) {s : Sl} {p : Addr} (g : OwR K mg F H s p) (n : ¬ Ow ρ σ p) : SR K mg F (ρ ++ [s]) (σ ++ [some (.ref p)]) H := by
  refine ⟨R.same, R.siz, by rw [List.length_append, List.length_append, R.len]; rfl, fun i u e => ?_, fun i j q a b => ?_⟩
  · by_cases hi : i < ρ.length
    · rw [List.getElem?_append_left hi] at e
      obtain ⟨ov, e2, r⟩ := R.sl i u e
      exact ⟨ov, by rw [List.getElem?_append_left (by rw [← R.len]; exact hi)]; exact e2, r⟩
    · have hi' : i = ρ.length := by
        have := (List.getElem?_eq_some_iff.mp e).1
        rw [List.length_append, List.length_singleton] at this
        omega
      subst hi'
      rw [List.getElem?_append_right (Nat.le_refl _), Nat.sub_self] at e
      simp only [List.getElem?_cons_zero, Option.some.injEq] at e
      subst e
      refine ⟨some (.ref p), ?_, DL.SlR.of_ow g⟩
      rw [R.len, List.getElem?_append_right (Nat.le_refl _), Nat.sub_self]
      rfl
  · rcases a.push R.len with a | ⟨a, _, ea⟩
    · rcases b.push R.len with b | ⟨b, _, eb⟩
      · exact R.sep i j q a b
      · cases eb
        exact absurd ⟨i, a⟩ n
    · rcases b.push R.len with b | ⟨b, _, eb⟩
      · cases ea
        exact absurd ⟨j, b⟩ n
      · rw [a, b]
theorem SR.pop {F ρ σ H} {s : Sl} {ov : Option V} (R : SR K mg F (ρ ++ [s]) (σ ++ [ov]) H) : SR K mg F ρ σ H := by
  have l : ρ.length = σ.length := by
    have := R.len
    rw [List.length_append, List.length_append] at this
    simp at this
    exact this
  refine ⟨R.same, R.siz, l, fun i u e => ?_, fun i j p a b => R.sep i j p (a.unpush l) (b.unpush l)⟩
  have hi := (List.getElem?_eq_some_iff.mp e).1
  obtain ⟨ov', e2, r⟩ := R.sl i u (by rw [List.getElem?_append_left hi]; exact e)
  rw [List.getElem?_append_left (by omega)] at e2
  exact ⟨ov', e2, r⟩
theorem ev_make {c : Str} {C : Addr} {m : Nat} {den : Den} {ks : List (Option Nat)} {t : TA} {fa : FAr} (hC : mg c = some (.ref C)) (o : once ks = true) (hm : ks.length + 1 = m) (ha : EvB K mg t ks fa) :
    EvW K mg (tMake C (spD K mg m den) [] E0 t) (fMake c den ks fa) := fun F ρ σ H R s ρ' e Q q => by
  obtain ⟨⟨ds, ρ1⟩, e1, e⟩ := bind2 (γ := Unit) e
  obtain ⟨ss, e2, e⟩ := bind2 (γ := Unit) e
  dsimp only at e
  split at e
  case isFalse => cases e
  case isTrue hk =>
    obtain ⟨⟨u, us⟩, e3, e⟩ := bind2 (γ := Unit) e
    split at e
    case h_2 => cases e
    case h_1 u us' c' fs us heq =>
      cases heq
      cases e
      refine ha F ρ σ H R ds ρ1 e1 _ fun vs F1 H1 R1 S1 ar => ?_
      intro x dx hx hdx hne
      obtain ⟨Ra, Sa⟩ := R1.fresh (o := .own x) hdx trivial
      have hx' : (upd H1 dx (.own x)) x = none := by rw [upd_ne (Ne.symm hne)]; exact hx
      obtain ⟨Rb, Sb⟩ := Ra.fresh (o := .ins C dx []) hx' trivial
      have nx : ¬ Ow ρ1 σ x := Ra.nw hx'
      have fx : F1 x = none := R1.same.free hx
      have Rc := Rb.push (s := .oob c []) (p := x) ⟨fx, C, dx, [], upd_same, hC, rfl⟩ nx
      have ar' : ArV K mg F1 (σ ++ [some (.ref x)]) (some ρ1.length :: ks) ds (V.ref x :: vs) := ⟨.ref x, vs, rfl, by rw [R1.len, List.getElem?_append_right (Nat.le_refl _), Nat.sub_self]; rfl, ar.push⟩
      have e2' : res (some ρ1.length :: ks) ds (ρ1 ++ [.oob c []]) = some (.oob c [] :: ss) := by
        simp only [res]
        rw [List.getElem?_append_right (Nat.le_refl _), Nat.sub_self, List.getElem?_cons_zero, Option.bind_some, res_push e2, Option.map_some]
      have nin : some ρ1.length ∉ ks := fun z => by
        have := arv_lt ar z
        rw [R1.len] at this
        exact Nat.lt_irrefl _ this
      have o' : once (some ρ1.length :: ks) = true := by
        simp only [once, Bool.and_eq_true, Bool.not_eq_true', o, and_true]
        rw [List.contains_eq_mem]
        exact decide_eq_false nin
      have Rd := (Rc.args ar' e2' o').1
      rw [List.append_nil]
      refine ⟨F1, .oob c [] :: ss, _, _, by rw [List.length_cons, res_len (σ := σ) (F := F1) (vs := vs) e2]; exact hm, Rd, fun u hu => ?_, e3, fun v F' H' R' S' own w => ?_⟩
      · rcases List.mem_cons.mp hu with e | hu
        · subst e; rfl
        · exact List.all_eq_true.mp hk u hu
      · obtain ⟨R3, S3, w3⟩ := use_end Rc ar' e2' o' R' S' own w
        refine ⟨w3, ?_⟩
        have eg : give (some ρ1.length :: ks) (.oob c [] :: ss) (.oob c' fs :: us) (ρ1 ++ [.oob c []]) = give ks ss us ρ1 ++ [.oob c' fs] := by
          show give ks ss us ((ρ1 ++ [Sl.oob c []]).set ρ1.length (.oob c' fs)) = _
          rw [List.set_append_right _ _ (Nat.le_refl _), Nat.sub_self, List.set_cons_zero]
          exact give_app fun i hi => by rw [R1.len]; exact arv_lt ar hi
        rw [eg] at R3 S3
        have l3 : (give ks ss us ρ1).length = σ.length := by rw [give_length]; exact R1.len
        have g3 : OwR K mg F' H' (.oob c' fs) x := by
          have := R3.at (i := ρ1.length) (s := .oob c' fs) (ov := some (.ref x)) (by rw [← give_length (ks := ks) (ss := ss) (us := us) (ρ := ρ1), List.getElem?_append_right (Nat.le_refl _), Nat.sub_self]; rfl) (by rw [R1.len, List.getElem?_append_right (Nat.le_refl _), Nat.sub_self]; rfl)
          obtain ⟨p, ep, g⟩ := this
          cases ep
          exact g
        have n3 : ¬ Ow (give ks ss us ρ1) σ x := fun ⟨j, z⟩ => by
          have h1 := z.unpush (s := .oob c' fs) (ov := some (.ref x)) l3
          have h2 : OwA (give ks ss us ρ1 ++ [.oob c' fs]) (σ ++ [some (.ref x)]) (give ks ss us ρ1).length x := ⟨⟨_, by rw [List.getElem?_append_right (Nat.le_refl _), Nat.sub_self]; rfl, rfl⟩, by rw [l3, List.getElem?_append_right (Nat.le_refl _), Nat.sub_self]; rfl⟩
          have h3 := R3.sep _ _ _ h1 h2
          have h4 := (List.getElem?_eq_some_iff.mp z.1.choose_spec.1).1
          omega
        obtain ⟨ob, eo, _, rr⟩ := g3.fixed (d := .obj c' fs) rfl
        have R4 := R3.pop.fix eo g3.fN n3
        have np : ∀ q, ¬ Ow ρ1 σ q → q ≠ x → ¬ Ow (ρ1 ++ [Sl.oob c []]) (σ ++ [some (V.ref x)]) q := fun q n hq ⟨j, z⟩ => by
          rcases z.push R1.len with z | ⟨_, _, z⟩
          · exact n ⟨j, z⟩
          · cases z
            exact hq rfl
        have S4 : Stp F1 ρ1 σ H1 F' (give ks ss us ρ1) σ H' := by
          refine ⟨S3.sF, fun q u eq n => ?_, fun q u eq f n => ?_, fun q ⟨j, z⟩ => ?_⟩
          · have hq : q ≠ x := fun z => by rw [z, hx] at eq; cases eq
            have hq2 : q ≠ dx := fun z => by rw [z, hdx] at eq; cases eq
            exact S3.fr q u (by rw [upd_ne hq, upd_ne hq2]; exact eq) (np q n hq)
          · have hq : q ≠ x := fun z => by rw [z, hx] at eq; cases eq
            have hq2 : q ≠ dx := fun z => by rw [z, hdx] at eq; cases eq
            exact S3.un q u (by rw [upd_ne hq, upd_ne hq2]; exact eq) f (np q n hq)
          · have hq : q ≠ x := fun e => n3 ⟨j, e ▸ z⟩
            rcases S3.ow q ⟨j, z.unpush l3⟩ with ⟨i, y⟩ | y
            · rcases y.push R1.len with y | ⟨_, _, y⟩
              · exact .inl ⟨i, y⟩
              · cases y
                exact absurd rfl hq
            · refine .inr ?_
              rw [upd_ne hq] at y
              by_cases hq2 : q = dx
              · rw [hq2]; exact hdx
              · rw [upd_ne hq2] at y; exact y
        exact q (.ref x) _ H' R4 (S1.trans (S4.fix g3.fN (.inr hx))) rr
theorem ev_fld {c f : Str} {C : Addr} {te : TE} {fe : FE} (hC : mg c = some (.ref C)) (cl : Cls K C) (na : NoAttr K C f) (he : EvW K mg te fe) : EvW K mg (tFld K te f) (fFld c f fe) := fun F ρ σ H R s ρ' e Q q => by
  obtain ⟨⟨x, ρ1⟩, e1, e⟩ := bind2 (γ := Unit) e
  cases x <;> try (cases e)
  rename_i c' fs
  dsimp only at e
  split at e
  · rename_i hc
    obtain ⟨d, e2, e⟩ := map2 e
    cases e
    refine he.frz F ρ σ H R _ _ e1 _ fun vx F1 H1 R1 S1 rx => ?_
    simp only [Rep] at rx
    obtain ⟨a, C', dx, vs, rfl, g, gc, rf⟩ := rx
    rw [hc, hC] at gc
    cases gc
    obtain ⟨v, ev, rv⟩ := rf.lookup e2
    exact ⟨a, C, dx, vs, v, rfl, R1.same _ _ g, cl, na, ev, q v F1 H1 R1 S1 rv⟩
  · cases e
theorem ev_fldN {c f : Str} {C : Addr} (i : Nat) (hC : mg c = some (.ref C)) (cl : Cls K C) (na : NoAttr K C f) : EvW K mg (tFld K (tVar i) f) (fFldN c f i) := fun F ρ σ H R s ρ' e Q q => by
  obtain ⟨u, e1, e⟩ := bind2 (γ := Unit) e
  obtain ⟨⟨c', fs⟩, e2, e⟩ := bind2 (γ := Unit) e
  dsimp only at e
  split at e
  · rename_i hc
    obtain ⟨d, e3, e⟩ := map2 e
    cases e
    cases u <;> try (cases e2)
    · rename_i x
      cases x <;> try (cases e2)
      obtain ⟨v, ev, r⟩ := R.val e1
      simp only [Rep] at r
      obtain ⟨a, C', dx, vs, rfl, g, gc, rf⟩ := r
      rw [hc, hC] at gc
      cases gc
      obtain ⟨w, ew, rw'⟩ := rf.lookup e3
      exact ⟨_, ev, a, C, dx, vs, w, rfl, R.same _ _ g, cl, na, ew, q w F H R .refl rw'⟩
    · obtain ⟨p, C', dx, vs, ev, f', g, gc, rf, _⟩ := R.oob e1
      rw [hc, hC] at gc
      cases gc
      obtain ⟨w, ew, rw'⟩ := rf.lookup e3
      exact ⟨_, ev, p, C, dx, vs, w, rfl, g, cl, na, ew, q w F H R .refl rw'⟩
  · cases e
theorem es_putF {c f : Str} {C : Addr} {tv : TE} {fv : FE} (i : Nat) (hC : mg c = some (.ref C)) (cl : Cls K C) (na : NoAttr K C f) (hv : EvW K mg tv fv) : EvS K mg M (sFld K (tVar i) tv f) (sPutF c f i fv) := fun F ρ σ H R o e Dn gd => by
  obtain ⟨⟨x, ρ1⟩, e1, e⟩ := bind2 (γ := Unit) e
  dsimp only at e
  split at e
  · rename_i c' fs e2
    split at e
    · rename_i hc
      obtain ⟨hc, hz⟩ := hc
      cases e
      refine hv.frz F ρ σ H R x ρ1 e1 _ fun vx F1 H1 R1 S1 rx => ?_
      obtain ⟨p, C', dx, vs, ev, f', g, gc, rf, a⟩ := R1.oob e2
      have gc' := gc
      rw [hc, hC] at gc
      cases gc
      refine ⟨_, ev, p, C, dx, vs, rfl, g, cl, na, by rw [← rf.length]; exact hz, ?_⟩
      obtain ⟨R', S'⟩ := R1.write (s' := .oob c' (putD f x fs)) (o := .ins C dx (putF f vx vs)) e2 rfl ev ⟨f', C, dx, _, upd_same, gc', rf.put rx⟩ trivial
      exact gd F1 σ _ R' (S1.trans S') .refl
    · cases e
  · cases e

/-! ### x += e -/
def sAug (g : Int → Int → Int) (i : Nat) (fe : FE) : FS := fun ρ => match ρ[i]? with
  | some (.val (.int x)) => (vl fe ρ).bind fun p => match p.1 with
    | .int y => some (.nx (p.2.set i (.val (.int (g x y)))))
    | _ => none
  | _ => none
theorem es_aug {g : Int → Int → Int} {te : TE} {fe : FE} {i : Nat} (hi : i ∉ M) (he : EvW K mg te fe) : EvS K mg M (tAug i te (ipI g)) (sAug g i fe) := fun F ρ σ H R o e Dn gd => by
  unfold sAug at e
  split at e
  · rename_i x e0
    obtain ⟨⟨y, ρ1⟩, e1, e⟩ := bind2 (γ := Unit) e
    cases y <;> try (cases e)
    rename_i y
    obtain ⟨v, ev, r⟩ := R.val e0
    simp only [Rep] at r
    subst r
    refine ⟨_, ev, he.frz F ρ σ H R _ ρ1 e1 _ fun vy F1 H1 R1 S1 ry => ?_⟩
    simp only [Rep] at ry
    subst ry
    refine ⟨x, y, rfl, rfl, gd F1 _ H1 (R1.put (s := .val (.int (g x y))) ⟨_, rfl, rfl⟩ fun p o => nomatch o) (S1.put fun p o => nomatch o) (Kp.set hi)⟩
  · cases e
def rGetL (K : PySem.W.Frag) : V → V → Hp → VK → Prop := fun x y H Q => ∃ p xs i v, x = .ref p ∧ y = .int i ∧ 0 ≤ i ∧ SqL K H p xs ∧ atI xs i = some v ∧ Q v H
theorem get_list {X : Cx} : PGet X (rGetL X.K) := by
  intro pins s σ H o i ov iv Q I ro ri h
  obtain ⟨p, xs, k, z, rfl, rfl, h0, hq, he, q⟩ := h
  cases ro
  obtain ⟨t, rfl⟩ := ri
  obtain ⟨its, r, pl, hz⟩ := I.list hq
  obtain ⟨j, h1, h2, h3, h4, h5⟩ := atI_get he
  obtain ⟨w, ew, rw'⟩ := r.get h2
  have hl := r.length
  have hn := line63
  have hj : k.toNat = j := by
    rw [seqIndex_of h0 h5] at h1
    exact Option.some.inj h1
  exact wpAny_getItem_list pl.isList h0 (by omega) (by rw [hj]; simpa using ew) ⟨z, H, I, rw', q⟩
def sAugIx (g : Int → Int → Int) (i : Nat) (fi fe : FE) : FS := fun ρ => if knownAt ρ i = true then (vl fi ρ).bind fun p => match p.1, p.2[i]? with
  | .int k, some (.own ds) => if 0 ≤ k then match atI ds k with
    | some (.int x) => (vl fe p.2).bind fun q => match q.1, q.2[i]? with
      | .int y, some (.own es) => (ixN es.length k).map fun j => .nx (q.2.set i (.own (es.set j (.int (g x y)))))
      | _, _ => none
    | _ => none
    else none
  | _, _ => none
  else none
theorem es_augIx {g : Int → Int → Int} {ti te : TE} {fi fe : FE} (i : Nat) (hi : EvW K mg ti fi) (he : EvW K mg te fe) : EvS K mg M (tAugS (tVar i) ti te (rGetL K) (ipI g) rSetL) (sAugIx g i fi fe) := fun F ρ σ H R o e Dn gd => by
  unfold sAugIx at e
  split at e
  case isFalse => cases e
  case isTrue hk =>
    obtain ⟨v, ev⟩ := known_at R hk
    obtain ⟨⟨y, ρ1⟩, e1, e⟩ := bind2 (γ := Unit) e
    dsimp only at e
    split at e
    case h_2 => cases e
    case h_1 k ds ee =>
      split at e
      case isFalse => cases e
      case isTrue h0 =>
        split at e
        case h_2 => cases e
        case h_1 x ex =>
          obtain ⟨⟨z, ρ2⟩, e2, e⟩ := bind2 (γ := Unit) e
          dsimp only at e
          split at e
          case h_2 => cases e
          case h_1 w es ew =>
            obtain ⟨j, ej, rfl⟩ := map2 e
            refine ⟨v, ev, hi.frz F ρ σ H R _ ρ1 e1 _ fun vk F1 H1 R1 S1 rk => ?_⟩
            simp only [Rep] at rk
            subst rk
            obtain ⟨p, us, e4, f, gp, r, a⟩ := R1.own ee
            rw [ev] at e4
            cases e4
            obtain ⟨xv, exv, rxv⟩ := r.atI ex
            simp only [Rep] at rxv
            subst rxv
            refine ⟨p, us, k, _, rfl, rfl, h0, SqL.of gp, exv, he.frz F1 ρ1 σ H1 R1 _ ρ2 e2 _ fun vw F2 H2 R2 S2 rw' => ?_⟩
            simp only [Rep] at rw'
            subst rw'
            refine ⟨x, w, rfl, rfl, ?_⟩
            obtain ⟨p', us', e5, f', gp', r', a'⟩ := R2.own ew
            rw [ev] at e5
            cases e5
            rw [r'.length] at ej
            refine ⟨p, us', k, j, rfl, rfl, gp', ej, ?_⟩
            obtain ⟨R', S'⟩ := R2.write (s' := .own (es.set j (.int (g x w)))) (o := .lst (us'.set j (.int (g x w)))) ew rfl ev ⟨f', _, upd_same, r'.set j rfl⟩ (by show (us'.set j (.int (g x w))).length ≤ sizeLine; rw [List.length_set]; exact R2.siz _ _ gp')
            exact gd F2 σ _ R' ((S1.trans S2).trans S') .refl
/-- a op b op' c -/
def fChain (g g' : D → D → Option Sl) (fa fb fc : FE) : FE := fun ρ => (vl fa ρ).bind fun p => (vl fb p.2).bind fun q => (g p.1 q.1).bind fun s => match s with
  | .val (.bl b) => if b = true then (vl fc q.2).bind fun r => (g' q.1 r.1).map fun s => (s, r.2) else some (.val (.bl false), q.2)
  | _ => none
theorem ev_chain {r r' : R2} {g g' : D → D → Option Sl} {ta tb tc : TE} {fa fb fc : FE} (hr : R2W K mg r g) (hr' : R2W K mg r' g') (ha : EvW K mg ta fa) (hb : EvW K mg tb fb) (hc : EvW K mg tc fc) : EvW K mg (tChain r r' ta tb tc) (fChain g g' fa fb fc) := fun F ρ σ H R s ρ' e Q q => by
  obtain ⟨⟨x, ρ1⟩, e1, e⟩ := bind2 (γ := Unit) e
  obtain ⟨⟨y, ρ2⟩, e2, e⟩ := bind2 (γ := Unit) e
  obtain ⟨u, e3, e⟩ := bind2 (γ := Unit) e
  refine ha.frz F ρ σ H R x ρ1 e1 _ fun vx F1 H1 R1 S1 rx => ?_
  refine hb.frz F1 ρ1 σ H1 R1 y ρ2 e2 _ fun vy F2 H2 R2 S2 ry => ?_
  dsimp only at e
  split at e
  · rename_i b
    refine hr F2 ρ2 σ H2 R2 x y vx vy (rx.mono S2.sF) ry _ e3 _ fun v F3 H3 R3 S3 w => ⟨b, w, ?_⟩
    cases b with
    | false =>
      rw [if_neg Bool.false_ne_true]
      cases e
      exact q _ F3 H3 R3 ((S1.trans S2).trans S3) rfl
    | true =>
      rw [if_pos rfl]
      simp only [if_true] at e
      obtain ⟨⟨z, ρ4⟩, e4, e⟩ := bind2 (γ := Unit) e
      obtain ⟨s', e5, e⟩ := map2 e
      cases e
      refine hc.frz F3 ρ2 σ H3 R3 z _ e4 _ fun vz F4 H4 R4 S4 rz => ?_
      exact hr' F4 _ σ H4 R4 y z vy vz ((ry.mono S3.sF).mono S4.sF) rz s e5 Q fun v F5 H5 R5 S5 w => q v F5 H5 R5 ((((S1.trans S2).trans S3).trans S4).trans S5) (w.back (((S1.trans S2).trans S3).trans S4))
  · cases e
end
end
end DL
namespace DL
open PySem PySem.Spec PyProof.Rows L2
noncomputable section
/-! ### rules: a piece of the text, its reading, what it does to data -/
structure DE (K : PySem.W.Frag) (mg : Str → Option Value) (X : Cx) (e : Expr) (t : TE) (f : FE) : Prop where
  pe : PE X e t
  ev : EvW K mg t f
structure DT (K : PySem.W.Frag) (mg : Str → Option Value) (X : Cx) (e : Expr) (t : TT) (f : FT) : Prop where
  pt : PT X e t
  ev : EvT K mg t f
structure DW (K : PySem.W.Frag) (mg : Str → Option Value) (X : Cx) (e : Expr) (t : TT) (f : FT) : Prop where
  pw : PW X e t
  ev : EvT K mg t f
structure DTs (K : PySem.W.Frag) (mg : Str → Option Value) (X : Cx) (es : List Expr) (t : TT) (f : FT) : Prop where
  pt : PTs X es t
  ev : EvT K mg t f
structure DA (K : PySem.W.Frag) (mg : Str → Option Value) (X : Cx) (es : List Expr) (t : TA) (f : FAr) : Prop where
  pa : PA X es t
  ev : EvA K mg t f
structure DB (K : PySem.W.Frag) (mg : Str → Option Value) (X : Cx) (es : List Expr) (t : TA) (ks : List (Option Nat)) (f : FAr) : Prop where
  pa : PA X es t
  ev : EvB K mg t ks f
structure DO (K : PySem.W.Frag) (mg : Str → Option Value) (X : Cx) (e : Option Expr) (t : TO) (f : En → Option (Option Int × En)) : Prop where
  po : PO X e t
  ev : EvO K mg t f
structure DG (K : PySem.W.Frag) (mg : Str → Option Value) (X : Cx) (e : Expr) (ts : List Nat) (t : TG) (f : FG) : Prop where
  pg : PG X e t
  ev : EvG K mg ts t f
structure DGs (K : PySem.W.Frag) (mg : Str → Option Value) (X : Cx) (es : List Expr) (ts : List Nat) (t : TGs) (f : List D → En → Option En) : Prop where
  pg : PGs X es t
  ev : EvGs K mg ts t f
structure DI (K : PySem.W.Frag) (mg : Str → Option Value) (X : Cx) (tg e : Expr) (t : TI) (f : FSr) : Prop where
  pi : PI X tg e t
  ev : EvI K mg t f
structure DS (K : PySem.W.Frag) (mg : Str → Option Value) (M : List Nat) (X : Cx) (st : Stmt) (t : TS) (f : FS) : Prop where
  ps : PS X st t
  ev : EvS K mg M t f
structure DSs (K : PySem.W.Frag) (mg : Str → Option Value) (M : List Nat) (X : Cx) (st : List Stmt) (t : TS) (f : FS) : Prop where
  ps : PSs X st t
  ev : EvS K mg M t f
section
variable {P : Program} {w : World} {K : PySem.W.Frag} {mg : Str → Option Value} {base : Heap} {k : Nat} {X : Cx} {M : List Nat} {a b c e : Expr} {es : List Expr} {ta tb tc te : TE} {fa fb fc fe : FE} {t u : TT} {f g : FT} {pos : Pos} {A : TA} {fA : FAr} {ks : List (Option Nat)}
/-! names, constants -/
theorem r_var (i : Nat) {x : Str} (hN : X.N[i]? = some x := by rfl) (hv : Vis X.env.scope x := by first | exact Or.inl rfl | exact Or.inr (Or.inl rfl) | exact Or.inr (Or.inr rfl)) (hd : (x == ("__debug__" : Str)) = false := by decide)
    (hcd : (x == ("__classdict__" : Str)) = false := by decide) : DE K mg X (.Name x pos) (tVar i) (fName i) := ⟨pe_var hN hv hd hcd, ev_name i⟩
theorem r_mv (i : Nat) {x : Str} (hN : X.N[i]? = some x := by rfl) (hv : Vis X.env.scope x := by first | exact Or.inl rfl | exact Or.inr (Or.inl rfl) | exact Or.inr (Or.inr rfl)) (hd : (x == ("__debug__" : Str)) = false := by decide)
    (hcd : (x == ("__classdict__" : Str)) = false := by decide) : DE K mg X (.Name x pos) (tVar i) (fMove i) := ⟨pe_var hN hv hd hcd, ev_move i⟩
theorem r_int {i : Int} {j : Nat} : DE K mg X (.Constant (.int i) j pos) (tC (.int i)) (fC (.int i)) := ⟨pe_int, ev_c fun _ => rfl⟩
theorem r_bl {i : Bool} {j : Nat} : DE K mg X (.Constant (.bool i) j pos) (tC (.bl i)) (fC (.bl i)) := ⟨pe_bl, ev_c fun _ => rfl⟩
theorem r_non {j : Nat} : DE K mg X (.Constant .none j pos) (tC .non) (fC .non) := ⟨pe_non, ev_c fun _ => rfl⟩
theorem r_str {x : Str} {j : Nat} : DE K mg X (.Constant (.str x) j pos) (tC (.str x)) (fC (.str x)) := ⟨pe_str, ev_c fun _ => rfl⟩
/-! operators -/
theorem r_op {op : Operator} {r : R2} {h : D → D → Option Sl} (ho : OpR X (binaryOp op) r) (hw : R2W K mg r h) (ha : DE K mg X a ta fa) (hb : DE K mg X b tb fb) : DE K mg X (.BinOp a op b pos) (tOp r ta tb) (fOp2 h fa fb) := ⟨pe_op ho ha.pe hb.pe, ev_op2 hw ha.ev hb.ev⟩
theorem r_plus (x : XI P w K mg base k X) (ha : DE K mg X a ta fa) (hb : DE K mg X b tb fb) : DE K mg X (.BinOp a .Add b pos) (tOp (rPlus K) ta tb) (fOp2 gPlus fa fb) := by
  have := x.kk
  subst this
  exact r_op op_plus w_plus ha hb
theorem r_sub (ha : DE K mg X a ta fa) (hb : DE K mg X b tb fb) : DE K mg X (.BinOp a .Sub b pos) (tOp (rI0 fun i j => .int (i - j)) ta tb) (fOp2 DL.gSub fa fb) := r_op op_sub w_sub ha hb
theorem r_times (ha : DE K mg X a ta fa) (hb : DE K mg X b tb fb) : DE K mg X (.BinOp a .Mult b pos) (tOp rTimes ta tb) (fOp2 gTimes fa fb) := r_op op_times w_times ha hb
theorem r_mod (ha : DE K mg X a ta fa) (hb : DE K mg X b tb fb) : DE K mg X (.BinOp a .Mod b pos) (tOp (rI (fun _ j => j ≠ 0) fun i j => .int (i.fmod j)) ta tb) (fOp2 gMod fa fb) := r_op op_modN w_mod ha hb
theorem r_div (ha : DE K mg X a ta fa) (hb : DE K mg X b tb fb) : DE K mg X (.BinOp a .FloorDiv b pos) (tOp (rI CDivN fun i j => .int (i.fdiv j)) ta tb) (fOp2 gDiv fa fb) := r_op op_fdivN w_div ha hb
theorem r_pow (ha : DE K mg X a ta fa) (hb : DE K mg X b tb fb) : DE K mg X (.BinOp a .Pow b pos) (tOp (rI CPow fun i j => .int (i ^ j.toNat)) ta tb) (fOp2 gPow fa fb) := r_op op_pow w_pow ha hb
theorem r_shl (ha : DE K mg X a ta fa) (hb : DE K mg X b tb fb) : DE K mg X (.BinOp a .LShift b pos) (tOp (rI CPow fun i j => .int (i * 2 ^ j.toNat)) ta tb) (fOp2 gShl fa fb) := r_op op_shl w_shl ha hb
theorem r_shr (ha : DE K mg X a ta fa) (hb : DE K mg X b tb fb) : DE K mg X (.BinOp a .RShift b pos) (tOp (rI (fun _ j => 0 ≤ j) fun i j => .int (i / 2 ^ j.toNat)) ta tb) (fOp2 gShr fa fb) := r_op op_shr w_shr ha hb
theorem r_band (ha : DE K mg X a ta fa) (hb : DE K mg X b tb fb) : DE K mg X (.BinOp a .BitAnd b pos) (tOp (rI0 fun i j => .int (Builtin.bitAnd i j)) ta tb) (fOp2 gAnd fa fb) := r_op op_and w_and ha hb
theorem r_neg (ha : DE K mg X a ta fa) : DE K mg X (.UnaryOp .USub a pos) (tUn (rU fun i => .int (-i)) ta) (fOp1 gNeg fa) := ⟨pe_un un_neg ha.pe, ev_op1 w_neg ha.ev⟩
/-- a comparison -/
structure DCm (K : PySem.W.Frag) (mg : Str → Option Value) (X : Cx) (a : Expr) (op : CmpOp) (b : Expr) (ta tb : TE) (r : R2) (f : FE) : Prop where
  pa : PE X a ta
  pb : PE X b tb
  ho : OpR X (compareOp op) r
  hm : behindInMarks op b = false
  ev : EvW K mg (tOp r ta tb) f
theorem r_cmp {op : CmpOp} {r : R2} {h : D → D → Option Sl} (ho : OpR X (compareOp op) r) (hw : R2W K mg r h) (ha : DE K mg X a ta fa) (hb : DE K mg X b tb fb) (hm : behindInMarks op b = false) : DCm K mg X a op b ta tb r (fOp2 h fa fb) := ⟨ha.pe, hb.pe, ho, hm, ev_op2 hw ha.ev hb.ev⟩
theorem r_cv {op : CmpOp} {r : R2} {f : FE} (h : DCm K mg X a op b ta tb r f) : DE K mg X (.Compare a [op] [b] pos) (tOp r ta tb) f := ⟨pe_cmpR h.ho h.pa h.pb h.hm, h.ev⟩
theorem r_ct {op : CmpOp} {r : R2} {f : FE} (h : DCm K mg X a op b ta tb r f) : DT K mg X (.Compare a [op] [b] pos) (tTest (tOp r ta tb)) (fB f) := ⟨pt_cmpR h.ho h.pa h.pb h.hm, ev_b h.ev⟩
theorem r_lt (ha : DE K mg X a ta fa) (hb : DE K mg X b tb fb) : DCm K mg X a .Lt b ta tb (rI0 fun i j => .bl (decide (i < j))) (fOp2 gLt fa fb) := r_cmp op_lt w_lt ha hb (nomark _)
theorem r_le (ha : DE K mg X a ta fa) (hb : DE K mg X b tb fb) : DCm K mg X a .LtE b ta tb (rI0 fun i j => .bl (decide (i ≤ j))) (fOp2 gLe fa fb) := r_cmp op_le w_le ha hb (nomark _)
theorem r_gt (ha : DE K mg X a ta fa) (hb : DE K mg X b tb fb) : DCm K mg X a .Gt b ta tb (rI0 fun i j => .bl (decide (j < i))) (fOp2 gGt fa fb) := r_cmp op_gt w_gt ha hb (nomark _)
theorem r_ge (ha : DE K mg X a ta fa) (hb : DE K mg X b tb fb) : DCm K mg X a .GtE b ta tb (rI0 fun i j => .bl (decide (j ≤ i))) (fOp2 gGe fa fb) := r_cmp op_ge w_ge ha hb (nomark _)
theorem r_eq (x : XI P w K mg base k X) (ha : DE K mg X a ta fa) (hb : DE K mg X b tb fb) : DCm K mg X a .Eq b ta tb (rEqD K) (fOp2 gEq fa fb) := by
  have := x.kk
  subst this
  exact r_cmp (op_eqD x.rr.units) w_eq ha hb (nomark _)
theorem r_ne (x : XI P w K mg base k X) (ha : DE K mg X a ta fa) (hb : DE K mg X b tb fb) : DCm K mg X a .NotEq b ta tb (rNeD K) (fOp2 gNe fa fb) := by
  have := x.kk
  subst this
  exact r_cmp (op_neD x.rr.units) w_ne ha hb (nomark _)
theorem r_is (ha : DE K mg X a ta fa) (hb : DE K mg X b tb fb) : DCm K mg X a .Is b ta tb (fun x y H Q => y = .non ∧ Q (.bl (decide (x = .non))) H) (fOp2 gIs fa fb) := r_cmp op_isN w_is ha hb (nomark _)
theorem r_isnot (ha : DE K mg X a ta fa) (hb : DE K mg X b tb fb) : DCm K mg X a .IsNot b ta tb (fun x y H Q => y = .non ∧ Q (.bl (!decide (x = .non))) H) (fOp2 gIsNot fa fb) := r_cmp op_notN w_isnot ha hb (nomark _)
theorem XI.u65 (x : XI P w K mg base k X) : X.A.units + 65 < cLine := by have := x.rr.un; omega
theorem r_in (x : XI P w K mg base k X) (ha : DE K mg X a ta fa) (hb : DE K mg X b tb fb) (hm : behindInMarks .In b = false := by rfl) : DCm K mg X a .In b ta tb (rInD K) (fOp2 gIn fa fb) := by
  have := x.kk
  subst this
  exact r_cmp (op_inD x.u65) w_in ha hb hm
theorem r_notin (x : XI P w K mg base k X) (ha : DE K mg X a ta fa) (hb : DE K mg X b tb fb) (hm : behindInMarks .NotIn b = false := by rfl) : DCm K mg X a .NotIn b ta tb (rNotInD K) (fOp2 gNotIn fa fb) := by
  have := x.kk
  subst this
  exact r_cmp (op_notInD x.u65) w_notin ha hb hm
theorem r_inN (x : XI P w K mg base k X) (i : Nat) (ha : DE K mg X a ta fa) {y : Str} {p2 : Pos} (hb : DE K mg X (.Name y p2) (tVar i) (fName i)) (hm : behindInMarks .In (.Name y p2) = false := by rfl) : DCm K mg X a .In (.Name y p2) ta (tVar i) (rInD K) (fInN false fa i) := by
  have := x.kk
  subst this
  exact ⟨ha.pe, hb.pe, op_inD x.u65, hm, ev_inN (neg := false) i ha.ev⟩
theorem r_notinN (x : XI P w K mg base k X) (i : Nat) (ha : DE K mg X a ta fa) {y : Str} {p2 : Pos} (hb : DE K mg X (.Name y p2) (tVar i) (fName i)) (hm : behindInMarks .NotIn (.Name y p2) = false := by rfl) : DCm K mg X a .NotIn (.Name y p2) ta (tVar i) (rNotInD K) (fInN true fa i) := by
  have := x.kk
  subst this
  exact ⟨ha.pe, hb.pe, op_notInD x.u65, hm, ev_inN (neg := true) i ha.ev⟩
/-- a op b op' c, of ints -/
inductive COp : CmpOp → (Int → Int → Bool) → (D → D → Option Sl) → Prop
  | lt : COp .Lt (fun i j => decide (i < j)) gLt
  | le : COp .LtE (fun i j => decide (i ≤ j)) gLe
theorem COp.op {op : CmpOp} {q : Int → Int → Bool} {h : D → D → Option Sl} (o : COp op q h) : OpR X (compareOp op) (rI0 fun i j => .bl (q i j)) := by
  cases o
  · exact op_lt
  · exact op_le
theorem COp.wr {op : CmpOp} {q : Int → Int → Bool} {h : D → D → Option Sl} (o : COp op q h) : R2W K mg (rI0 fun i j => .bl (q i j)) h := by
  cases o
  · exact w_lt
  · exact w_le
theorem r_chain {op op' : CmpOp} {q q' : Int → Int → Bool} {h h' : D → D → Option Sl} (o : COp op q h) (o' : COp op' q' h') (ha : DE K mg X a ta fa) (hb : DE K mg X b tb fb) (hc : DE K mg X c tc fc) (hm : lastMarks [op, op'] [b, c] = false := by with_unfolding_all rfl) :
    DE K mg X (.Compare a [op, op'] [b, c] pos) (tChain (rI0 fun i j => .bl (q i j)) (rI0 fun i j => .bl (q' i j)) ta tb tc) (fChain h h' fa fb fc) :=
  ⟨pe_chain o.op o'.op ha.pe hb.pe hc.pe hm, ev_chain o.wr o'.wr ha.ev hb.ev hc.ev⟩
theorem r_chainT {op op' : CmpOp} {q q' : Int → Int → Bool} {h h' : D → D → Option Sl} (o : COp op q h) (o' : COp op' q' h') (ha : DE K mg X a ta fa) (hb : DE K mg X b tb fb) (hc : DE K mg X c tc fc) (hm : lastMarks [op, op'] [b, c] = false := by with_unfolding_all rfl) :
    DT K mg X (.Compare a [op, op'] [b, c] pos) (tTest (tChain (rI0 fun i j => .bl (q i j)) (rI0 fun i j => .bl (q' i j)) ta tb tc)) (fB (fChain h h' fa fb fc)) :=
  ⟨pt_chain o.op o'.op ha.pe hb.pe hc.pe hm, ev_b (ev_chain o.wr o'.wr ha.ev hb.ev hc.ev)⟩
/-! and, or, not, if else: values -/
theorem r_one {op : BoolOp} (ha : DE K mg X a ta fa) : DE K mg X (.BoolOp op [a] pos) ta fa := ⟨pe_one ha.pe, ha.ev⟩
theorem r_andV (ha : DE K mg X a ta fa) (hb : DE K mg X (.BoolOp .And (b :: es) pos) tb fb) : DE K mg X (.BoolOp .And (a :: b :: es) pos) (tAndV ta tb) (fAndV fa fb) := ⟨pe_and ha.pe hb.pe, ev_andV ha.ev hb.ev⟩
theorem r_orV (ha : DE K mg X a ta fa) (hb : DE K mg X (.BoolOp .Or (b :: es) pos) tb fb) : DE K mg X (.BoolOp .Or (a :: b :: es) pos) (tOrV ta tb) (fOrV fa fb) := ⟨pe_or ha.pe hb.pe, ev_orV ha.ev hb.ev⟩
theorem r_notV (ha : DE K mg X a ta fa) : DE K mg X (.UnaryOp .Not a pos) (tNotV ta) (fNotV fa) := ⟨pe_not ha.pe, ev_notV ha.ev⟩
theorem r_ifE (hc : DT K mg X c t f) (ha : DE K mg X a ta fa) (hb : DE K mg X b tb fb) : DE K mg X (.IfExp c a b pos) (tIf t ta tb) (fIfE f fa fb) := ⟨pe_ifExp hc.pt ha.pe hb.pe, ev_ifE hc.ev ha.ev hb.ev⟩
/-! tests -/
theorem r_b (ha : DE K mg X a ta fa) (he : ∀ whole, isTrue a X.env whole = (do let v ← whole; standAt a.pos; holding [v] (truthy v)) := by intro _; rfl) : DT K mg X a (tB ta) (fB fa) := ⟨pt_val ha.pe he, ev_b ha.ev⟩
theorem r_tru (x : XI P w K mg base k X) (ha : DE K mg X a ta fa) (he : ∀ whole, isTrue a X.env whole = (do let v ← whole; standAt a.pos; holding [v] (truthy v)) := by intro _; rfl) : DT K mg X a (tTru K ta) (fTru fa) := by
  have := x.kk
  subst this
  exact ⟨pt_truth ha.pe he, ev_tru ha.ev⟩
theorem r_truN (x : XI P w K mg base k X) (i : Nat) {y : Str} (ha : DE K mg X (.Name y pos) (tVar i) (fName i)) (he : ∀ whole, isTrue (.Name y pos) X.env whole = (do let v ← whole; standAt (Expr.Name y pos).pos; holding [v] (truthy v)) := by intro _; rfl) : DT K mg X (.Name y pos) (tTru K (tVar i)) (fTruN i) := by
  have := x.kk
  subst this
  exact ⟨pt_truth ha.pe he, ev_truN i⟩
theorem r_w (h : DW K mg X a t f) : DT K mg X a t f := ⟨h.pw.pt, h.ev⟩
theorem r_and1 (ha : DT K mg X a t f) : DW K mg X (.BoolOp .And [a] pos) t f := ⟨pw_and1 ha.pt, ha.ev⟩
theorem r_or1 (ha : DT K mg X a t f) : DW K mg X (.BoolOp .Or [a] pos) t f := ⟨pw_or1 ha.pt, ha.ev⟩
theorem r_andT (ha : DT K mg X a t f) (hb : DW K mg X (.BoolOp .And (b :: es) pos) u g) : DW K mg X (.BoolOp .And (a :: b :: es) pos) (tAnd t u) (fAndT f g) := ⟨pw_and ha.pt hb.pw, ev_andT ha.ev hb.ev⟩
theorem r_orT (ha : DT K mg X a t f) (hb : DW K mg X (.BoolOp .Or (b :: es) pos) u g) : DW K mg X (.BoolOp .Or (a :: b :: es) pos) (tOr t u) (fOrT f g) := ⟨pw_or ha.pt hb.pw, ev_orT ha.ev hb.ev⟩
theorem r_notT (ha : DT K mg X a t f) : DT K mg X (.UnaryOp .Not a pos) (tNot t) (fNotT f) := ⟨pt_not ha.pt, ev_notT ha.ev⟩
/-! arguments, displays -/
theorem r_anil : DA K mg X [] tNil fANil := ⟨pa_nil, ev_anil⟩
theorem r_acons (ha : DE K mg X a ta fa) (hr : DA K mg X es A fA) (hs : starEach (a :: es) X.env = (false, eval a X.env) :: starEach es X.env := by rfl) : DA K mg X (a :: es) (tCons ta A) (fACons fa fA) := ⟨pa_cons ha.pe hr.pa hs, ev_acons ha.ev hr.ev⟩
theorem r_bnil : DB K mg X [] tNil [] fANil := ⟨pa_nil, ev_bnil⟩
theorem r_bval (ha : DE K mg X a ta fa) (hr : DB K mg X es A ks fA) (hs : starEach (a :: es) X.env = (false, eval a X.env) :: starEach es X.env := by rfl) : DB K mg X (a :: es) (tCons ta A) (none :: ks) (fACons fa fA) := ⟨pa_cons ha.pe hr.pa hs, ev_bval ha.ev hr.ev⟩
theorem r_bslot (i : Nat) {x : Str} (ha : DE K mg X (.Name x pos) (tVar i) (fName i)) (hr : DB K mg X es A ks fA) (hs : starEach (.Name x pos :: es) X.env = (false, eval (.Name x pos) X.env) :: starEach es X.env := by rfl) : DB K mg X (.Name x pos :: es) (tCons (tVar i) A) (some i :: ks) (fBSlot i fA) := ⟨pa_cons ha.pe hr.pa hs, ev_bslot i hr.ev⟩
theorem r_lst (h : DA K mg X es A fA) : DE K mg X (.List es pos) (tLst A) (fLst fA) := ⟨pe_lst h.pa, ev_lst h.ev⟩
theorem r_tup {x1} (h : DA K mg X es A fA) : DE K mg X (.Tuple es x1 pos) (tTup A) (fTup fA) := ⟨pe_tup h.pa, ev_tup h.ev⟩
/-! subscripts -/
theorem r_ix (x : XI P w K mg base k X) (ha : DE K mg X a ta fa) (hb : DE K mg X b tb fb) (hs : PlainIx b := by intro _ _; rfl) : DE K mg X (.Subscript a b pos) (tOp (rIx K) ta tb) (fOp2 gIxD fa fb) := by
  have := x.kk
  subst this
  exact ⟨pe_ix ix_seq ha.pe hb.pe hs, ev_op2 w_ix ha.ev hb.ev⟩
theorem r_ixN (x : XI P w K mg base k X) (i : Nat) {y : Str} {p2 : Pos} (ha : DE K mg X (.Name y p2) (tVar i) (fName i)) (hb : DE K mg X b tb fb) (hs : PlainIx b := by intro _ _; rfl) : DE K mg X (.Subscript (.Name y p2) b pos) (tOp (rIx K) (tVar i) tb) (fOpN gIx i fb) := by
  have := x.kk
  subst this
  exact ⟨pe_ix ix_seq ha.pe hb.pe hs, ev_opN i n_ix hb.ev⟩
theorem r_onone : DO K mg X none tNoPart fNoPart := ⟨po_none, ev_noPart⟩
theorem r_osome (h : DE K mg X a ta fa) : DO K mg X (some a) (tPart ta) (fPart fa) := ⟨po_some h.pe, ev_part h.ev⟩
theorem r_sl (x : XI P w K mg base k X) {lo hi : Option Expr} {tl th : TO} {fl fh : En → Option (Option Int × En)} {p2 : Pos} (he : DE K mg X e te fe) (hl : DO K mg X lo tl fl) (hh : DO K mg X hi th fh) : DE K mg X (.Subscript e (.Slice lo hi none p2) pos) (tSl (rSl K) te tl th) (fSl fe fl fh) := by
  have := x.kk
  subst this
  exact ⟨pe_slice sl_seq he.pe hl.po hh.po, ev_sl he.ev hl.ev hh.ev⟩
/-! targets -/
theorem r_gname (i : Nat) {x : Str} (hN : X.N.Nodup) (hi : X.N[i]? = some x := by rfl) (hx : Loc X.env.scope x := by first | exact Or.inl rfl | exact Or.inr rfl) (hf : X.fn x = true ∨ X.env.scope.names.lookup x = some .local := by first | exact .inl rfl | exact .inr rfl) : DG K mg X (.Name x pos) [i] (gName i) (tgName i) := ⟨pg_name hN hi hx hf, eg_name i⟩
theorem r_gnil : DGs K mg X [] [] gNil tgNil := ⟨pgs_nil, egs_nil⟩
theorem r_gcons {ts us : List Nat} {g : TG} {gs : TGs} {f : FG} {fs : List D → En → Option En} (h : DG K mg X a ts g f) (h2 : DGs K mg X es us gs fs) (hs : (assignEach (a :: es) X.env).map (·.2) = assign a X.env :: (assignEach es X.env).map (·.2) := by rfl) : DGs K mg X (a :: es) (ts ++ us) (gCons g gs) (tgCons f fs) :=
  ⟨pgs_cons h.pg h2.pg hs, egs_cons h.ev h2.ev⟩
theorem r_gtup (x : XI P w K mg base k X) {ts : List Nat} {gs : TGs} {fs : List D → En → Option En} {n kk : Nat} (h : DGs K mg X es ts gs fs) (hn : (assignEach es X.env).length = n := by rfl) (hst : (assignEach es X.env).findIdx? (·.1) = none := by rfl) : DG K mg X (.Tuple es kk pos) ts (gTup K n gs) (tgTup n fs) := by
  have := x.kk
  subst this
  exact ⟨pg_tup x.cc h.pg hn hst, eg_tup h.ev⟩
/-! what is walked -/
theorem r_ilist (x : XI P w K mg base k X) {tg : Expr} (ha : DE K mg X a ta fa) : DI K mg X tg a (iList K ta) (rLst fa) := by
  have := x.kk
  subst this
  exact ⟨pi_list ha.pe, ei_list ha.ev⟩
theorem r_itup (x : XI P w K mg base k X) {tg : Expr} (ha : DE K mg X a ta fa) : DI K mg X tg a (iTup K ta) (rTup fa) := by
  have := x.kk
  subst this
  exact ⟨pi_tup ha.pe, ei_tup ha.ev⟩
theorem r_irng1 (x : XI P w K mg base k X) {tg : Expr} {p : Pos} (hg : Gl X "range") (hm : mg "range" = none) (ha : DA K mg X [a] A fA) (hs : starEach [a] X.env = [(false, eval a X.env)] := by rfl) : DI K mg X tg (.Call (.Name "range" p) [a] [] pos) (iRng1 A) (rRng fA) :=
  ⟨pi_range1 hg (by rw [x.mm]; exact hm) ha.pa hs, ei_range1 ha.ev⟩
theorem r_irng2 (x : XI P w K mg base k X) {tg : Expr} {p : Pos} (hg : Gl X "range") (hm : mg "range" = none) (ha : DA K mg X [a, b] A fA) (hs : starEach [a, b] X.env = [(false, eval a X.env), (false, eval b X.env)] := by rfl) (hs2 : starEach [b] X.env = [(false, eval b X.env)] := by rfl) :
    DI K mg X tg (.Call (.Name "range" p) [a, b] [] pos) (iRng2 A) (rRng2 fA) :=
  ⟨pi_range2 hg (by rw [x.mm]; exact hm) ha.pa hs hs2, ei_range2 ha.ev⟩
theorem r_ienum (x : XI P w K mg base k X) {els : List Expr} {kk : Nat} {p tpos : Pos} (hg : Gl X "enumerate") (hm : mg "enumerate" = none) (ha : DB K mg X [a] A ks fA) (hs : starEach [a] X.env = [(false, eval a X.env)] := by rfl) : DI K mg X (.Tuple els kk tpos) (.Call (.Name "enumerate" p) [a] [] pos) (iEnum K A) (rEnum ks fA) := by
  have := x.kk
  subst this
  exact ⟨pi_enum hg (by rw [x.mm]; exact hm) ha.pa hs, ei_enum ha.ev⟩
theorem r_izip (x : XI P w K mg base k X) {els : List Expr} {kk : Nat} {p tpos : Pos} (hg : Gl X "zip") (hm : mg "zip" = none) (ha : DB K mg X [a, b] A ks fA) (hs : starEach [a, b] X.env = (false, eval a X.env) :: starEach [b] X.env := by rfl) (hpl : (backTo pos (starEach [b] X.env)).any (·.1) = false := by rfl) :
    DI K mg X (.Tuple els kk tpos) (.Call (.Name "zip" p) [a, b] [] pos) (iZip K A) (rZip ks fA) := by
  have := x.kk
  subst this
  exact ⟨pi_zip hg (by rw [x.mm]; exact hm) ha.pa hs hpl, ei_zip ha.ev⟩
/-! comprehensions -/
theorem r_ts0 : DTs K mg X [] tYes fYes := ⟨pts_nil, ev_yes⟩
theorem r_ts1 (h : DT K mg X a t f) : DTs K mg X [a] t f := ⟨pts_one h.pt, h.ev⟩
theorem r_lc (x : XI P w K mg base k X) (hN : X.N.Nodup) {elt tg iter : Expr} {ifs : List Expr} {scope : Scope} (own : List (Str × Nat)) {wi : TI} {src : FSr} {ts : List Nat} {g : TG} {fg : FG} {tt : TT} {ft : FT} {te : TE} {fe : FE} (hi : DI K mg X tg iter wi src) (ok : blkC X.N X.env.scope scope own = true)
    (hts : ∀ i ∈ ts, i ∈ own.map (·.2)) (hg : ∀ (s : Shared) (H : Hp) (C : Addr) (cl : List (Str × Addr)) (fp : List Addr), DG K mg (X.blk s H scope (compEnvC scope cl C X.env) fp) tg ts g fg)
    (ht : ∀ (s : Shared) (H : Hp) (C : Addr) (cl : List (Str × Addr)) (fp : List Addr), DTs K mg (X.blk s H scope (compEnvC scope cl C X.env) fp) ifs tt ft)
    (he : ∀ (s : Shared) (H : Hp) (C : Addr) (cl : List (Str × Addr)) (fp : List Addr), DE K mg (X.blk s H scope (compEnvC scope cl C X.env) fp) elt te fe) (hs : ∀ x, foldedSetIterable iter X.env x = pure x := by intro _; rfl) :
    DE K mg X (.ListComp elt [⟨tg, iter, ifs, 0⟩] scope pos) (tLc wi g tt te (own.map (·.2))) (fLc src fg ft fe (own.map (·.2))) :=
  ⟨pe_lc x.cc hN hi.pi (blkOk_by ok) (fun s H C cl fp => (hg s H C cl fp).pg) (fun s H C cl fp => (ht s H C cl fp).pt) (fun s H C cl fp => (he s H C cl fp).pe) hs, ev_lc hts hi.ev (hg {} (fun _ => none) 0 [] []).ev (ht {} (fun _ => none) 0 [] []).ev (he {} (fun _ => none) 0 [] []).ev⟩
/-! calls of built-ins -/
theorem r_callB {id : String} {r : List V → Hp → VK → Prop} {gg : List Sl → Option Sl} {y : Str} {p : Pos} (hc : CallR X (.builtin id) r) (hw : RcW K mg r gg) (x : XI P w K mg base k X) (hg : Gl X y) (hm : mg y = none) (hv : bootBuiltins y = some (.builtin id)) (ha : DB K mg X (a :: es) A ks fA) (hn : y ≠ "__name__") (hdb : (y == ("__debug__" : Str)) = false)
    (he : starEach (a :: es) X.env = (false, eval a X.env) :: starEach es X.env := by rfl) (hpl : (backTo pos (starEach es X.env)).any (·.1) = false := by rfl) : DE K mg X (.Call (.Name y p) (a :: es) [] pos) (tCB r A) (fCall gg ks fA) :=
  ⟨pe_callB hc hg (by rw [x.mm]; exact hm) hv ha.pa hn hdb he hpl, ev_call hw ha.ev⟩
theorem r_callTy {T : String} {r : List V → Hp → VK → Prop} {gg : List Sl → Option Sl} {y : Str} {p : Pos} (hc : CallR X (.type T) r) (hw : RcW K mg r gg) (x : XI P w K mg base k X) (hg : Gl X y) (hm : mg y = none) (hv : bootBuiltins y = some (.type T)) (ha : DB K mg X (a :: es) A ks fA) (hn : y ≠ "__name__") (hdb : (y == ("__debug__" : Str)) = false)
    (he : starEach (a :: es) X.env = (false, eval a X.env) :: starEach es X.env := by rfl) (hpl : (backTo pos (starEach es X.env)).any (·.1) = false := by rfl) : DE K mg X (.Call (.Name y p) (a :: es) [] pos) (tCB r A) (fCall gg ks fA) :=
  ⟨pe_callTy hc hg (by rw [x.mm]; exact hm) hv ha.pa hn hdb he hpl, ev_call hw ha.ev⟩
section
variable {p : Pos} (x : XI P w K mg base k X)
include x
theorem r_len (hg : Gl X "len") (hm : mg "len" = none) (ha : DB K mg X [a] A ks fA) (he : starEach [a] X.env = [(false, eval a X.env)] := by rfl) (hpl : (backTo pos (starEach [] X.env)).any (·.1) = false := by rfl) :
    DE K mg X (.Call (.Name "len" p) [a] [] pos) (tCB (fun xs H Q => ∃ p ys, xs = [.ref p] ∧ (SqL K H p ys ∨ SqT K H p ys) ∧ Q (.int ys.length) H) A) (fCall gLen ks fA) := by
  have := x.kk
  subst this
  exact r_callB call_len_seq c_len x hg hm PySem.boot_len ha (by decide) (by decide) he hpl
theorem r_sum (hg : Gl X "sum") (hm : mg "sum" = none) (ha : DB K mg X [a] A ks fA) (he : starEach [a] X.env = [(false, eval a X.env)] := by rfl) (hpl : (backTo pos (starEach [] X.env)).any (·.1) = false := by rfl) :
    DE K mg X (.Call (.Name "sum" p) [a] [] pos) (tCB (rSum K) A) (fCall gSum ks fA) := by
  have := x.kk
  subst this
  exact r_callB (cr_sum x.cc) c_sum x hg hm (by decide +kernel) ha (by decide) (by decide) he hpl
theorem r_max (hg : Gl X "max") (hm : mg "max" = none) (ha : DB K mg X (a :: es) A ks fA) (he : starEach (a :: es) X.env = (false, eval a X.env) :: starEach es X.env := by rfl) (hpl : (backTo pos (starEach es X.env)).any (·.1) = false := by rfl) :
    DE K mg X (.Call (.Name "max" p) (a :: es) [] pos) (tCB (fun xs H Q => rMax K xs H Q ∨ ∃ i j, xs = [.int i, .int j] ∧ Q (.int (if j > i then j else i)) H) A) (fCall gMax ks fA) := by
  have := x.kk
  subst this
  exact r_callB ((cr_max x.cc).or (call_max2 x.cc)) c_max x hg hm (by decide +kernel) ha (by decide) (by decide) he hpl
theorem r_min (hg : Gl X "min") (hm : mg "min" = none) (ha : DB K mg X (a :: es) A ks fA) (he : starEach (a :: es) X.env = (false, eval a X.env) :: starEach es X.env := by rfl) (hpl : (backTo pos (starEach es X.env)).any (·.1) = false := by rfl) :
    DE K mg X (.Call (.Name "min" p) (a :: es) [] pos) (tCB (fun xs H Q => rMin K xs H Q ∨ ∃ i j, xs = [.int i, .int j] ∧ Q (.int (if j < i then j else i)) H) A) (fCall gMin ks fA) := by
  have := x.kk
  subst this
  exact r_callB ((cr_min x.cc).or (call_min2 x.cc)) c_min x hg hm (by decide +kernel) ha (by decide) (by decide) he hpl
theorem r_abs (hg : Gl X "abs") (hm : mg "abs" = none) (ha : DB K mg X [a] A ks fA) (he : starEach [a] X.env = [(false, eval a X.env)] := by rfl) (hpl : (backTo pos (starEach [] X.env)).any (·.1) = false := by rfl) :
    DE K mg X (.Call (.Name "abs" p) [a] [] pos) (tCB (fun xs H Q => ∃ i, xs = [.int i] ∧ Q (.int (if i < 0 then -i else i)) H) A) (fCall gAbs ks fA) :=
  r_callB call_abs c_abs x hg hm (by decide +kernel) ha (by decide) (by decide) he hpl
theorem r_sorted (hg : Gl X "sorted") (hm : mg "sorted" = none) (ha : DB K mg X [a] A ks fA) (he : starEach [a] X.env = [(false, eval a X.env)] := by rfl) (hpl : (backTo pos (starEach [] X.env)).any (·.1) = false := by rfl) :
    DE K mg X (.Call (.Name "sorted" p) [a] [] pos) (tCB (fun xs H Q => rSortedI K xs H Q ∨ rSortedPO K xs H Q) A) (fCall gSorted ks fA) := by
  have := x.kk
  subst this
  exact r_callB (cr_sortedI.or cr_sortedPO) c_sorted x hg hm (by decide +kernel) ha (by decide) (by decide) he hpl
theorem r_intc (hg : Gl X "int") (hm : mg "int" = none) (ha : DB K mg X [a] A ks fA) (he : starEach [a] X.env = [(false, eval a X.env)] := by rfl) (hpl : (backTo pos (starEach [] X.env)).any (·.1) = false := by rfl) :
    DE K mg X (.Call (.Name "int" p) [a] [] pos) (tCB (fun xs H Q => (∃ i, xs = [.int i] ∧ Q (.int i) H) ∨ ∃ k, xs = [.bl k] ∧ Q (.int (if k then 1 else 0)) H) A) (fCall gInt ks fA) :=
  r_callTy call_int1 c_int x hg hm (by decide +kernel) ha (by decide) (by decide) he hpl
theorem r_listc (hg : Gl X "list") (hm : mg "list" = none) (ha : DB K mg X [a] A ks fA) (he : starEach [a] X.env = [(false, eval a X.env)] := by rfl) (hpl : (backTo pos (starEach [] X.env)).any (·.1) = false := by rfl) :
    DE K mg X (.Call (.Name "list" p) [a] [] pos) (tCB (fun xs H Q => ∃ p ys, xs = [.ref p] ∧ (SqL K H p ys ∨ SqT K H p ys) ∧ ∀ l, H l = none → Q (.ref l) (upd H l (.lst ys))) A) (fCall gList ks fA) := by
  have := x.kk
  subst this
  exact r_callTy call_list_of c_list x hg hm (by decide +kernel) ha (by decide) (by decide) he hpl
theorem r_tuplec (hg : Gl X "tuple") (hm : mg "tuple" = none) (ha : DB K mg X [a] A ks fA) (he : starEach [a] X.env = [(false, eval a X.env)] := by rfl) (hpl : (backTo pos (starEach [] X.env)).any (·.1) = false := by rfl) :
    DE K mg X (.Call (.Name "tuple" p) [a] [] pos) (tCB (fun xs H Q => ∃ p ys, xs = [.ref p] ∧ ((SqL K H p ys ∧ ∀ l, H l = none → Q (.ref l) (upd H l (.tup ys))) ∨ (SqT K H p ys ∧ Q (.ref p) H))) A) (fCall gTuple ks fA) := by
  have := x.kk
  subst this
  exact r_callTy call_tuple_of c_tuple x hg hm (by decide +kernel) ha (by decide) (by decide) he hpl
/-! defs, methods, instances -/
theorem r_use {y : Str} {m j : Nat} {den : Den} (G : GFn P w K mg base y m j den) (hj : j ≤ k) (hg : Gl X y) (o : once ks = true) (hm : ks.length = m) (ha : DB K mg X (a :: es) A ks fA) (hdb : (y == ("__debug__" : Str)) = false := by decide)
    (he : starEach (a :: es) X.env = (false, eval a X.env) :: starEach es X.env := by rfl) (hpl : (backTo pos (starEach es X.env)).any (·.1) = false := by rfl) : DE K mg X (.Call (.Name y p) (a :: es) [] pos) (tCall (spD K mg m den) [] E0 A) (fUse den ks fA) := by
  obtain ⟨f, fd, ps, h1, h2, h3, h4⟩ := G.to
  have e1 := x.pp
  have e2 := x.ww
  have e3 := x.kk
  have e4 := x.mm
  have e5 := x.bb
  subst e1 e2 e3 e4 e5
  exact ⟨pe_call h4 (x.rr.mono hj) hg h1 h2 h3 .nil pass0 ha.pa hdb he hpl, ev_use o hm ha.ev⟩
end
/-- a class of the text -/
structure GCl (K : PySem.W.Frag) (mg : Str → Option Value) (c : Str) (C : Addr) : Prop where
  m : mg c = some (.ref C)
  cl : Cls K C
/-- a method of the class at C -/
structure GMt (P : Program) (w : World) (K : PySem.W.Frag) (mg : Str → Option Value) (base : Heap) (C : Addr) (y : Str) (m k : Nat) (den : Den) : Prop where
  to : ∃ f fd ps, Meth K C y f ∧ Binds K fd ps [] ∧ FnOk P w K mg base CX0 k f fd ps (spD K mg m den)
/-- the __init__ of the class at C -/
structure GMk (P : Program) (w : World) (K : PySem.W.Frag) (mg : Str → Option Value) (base : Heap) (C : Addr) (m k : Nat) (den : Den) : Prop where
  to : ∃ f fd ps, Mk K C f ∧ Binds K fd ps [] ∧ FnOk P w K mg base CX0 k f fd ps (spD K mg m den)
theorem GMt.imp {C : Addr} {y : Str} {m : Nat} {den den' : Den} (G : GMt P w K mg base C y m k den) (h : ∀ ss r, ss.length = m → den' ss = some r → den ss = some r) : GMt P w K mg base C y m k den' := by
  obtain ⟨f, fd, ps, h1, h3, h4⟩ := G.to
  exact ⟨f, fd, ps, h1, h3, h4.imp fun vs H Q E ⟨F, ss, s, ss', hl, R, kn, hd, q⟩ => ⟨F, ss, s, ss', hl, R, kn, h ss _ hl hd, q⟩⟩
theorem GMk.imp {C : Addr} {m : Nat} {den den' : Den} (G : GMk P w K mg base C m k den) (h : ∀ ss r, ss.length = m → den' ss = some r → den ss = some r) : GMk P w K mg base C m k den' := by
  obtain ⟨f, fd, ps, h1, h3, h4⟩ := G.to
  exact ⟨f, fd, ps, h1, h3, h4.imp fun vs H Q E ⟨F, ss, s, ss', hl, R, kn, hd, q⟩ => ⟨F, ss, s, ss', hl, R, kn, h ss _ hl hd, q⟩⟩
theorem r_meth (x : XI P w K mg base k X) {cl y : Str} {C : Addr} {m j : Nat} {den : Den} {apos : Pos} {pl : Sem Bool} (gc : GCl K mg cl C) (G : GMt P w K mg base C y m j den) (hj : j ≤ k) (o : once ks = true) (hm : ks.length + 1 = m) (ho : DE K mg X e te fe) (ha : DB K mg X (a :: es) A ks fA)
    (hst : starEach (a :: es) X.env = (false, eval a X.env) :: starEach es X.env := by rfl) (hpl : (backTo pos (starEach es X.env)).any (·.1) = false := by rfl)
    (hh : eval (.Call (.Attribute e y apos) (a :: es) [] pos) X.env = (do
      let ov ← eval e X.env
      standAt apos.atName
      let (f, first) ← holding [ov] (getMethod ov y pl)
      callWith pos f first (backTo pos (starEach (a :: es) X.env)) (backToKw pos (keywordEach [] X.env))) := by rfl) : DE K mg X (.Call (.Attribute e y apos) (a :: es) [] pos) (tMeth C y (spD K mg m den) [] E0 te A) (fMeth cl y den ks fe fA) := by
  obtain ⟨f, fd, ps, h3, h4, h5⟩ := G.to
  have e1 := x.pp
  have e2 := x.ww
  have e3 := x.kk
  have e4 := x.mm
  have e5 := x.bb
  subst e1 e2 e3 e4 e5
  exact ⟨pe_meth (pl := pl) ho.pe gc.cl h3 h5 (x.rr.mono hj) h4 .nil pass0 ha.pa hst hpl hh, ev_meth gc.m o hm ho.ev ha.ev⟩
theorem r_meth0 (x : XI P w K mg base k X) {cl y : Str} {C : Addr} {j : Nat} {den : Den} {apos : Pos} {pl : Sem Bool} (gc : GCl K mg cl C) (G : GMt P w K mg base C y 1 j den) (hj : j ≤ k) (ho : DE K mg X e te fe)
    (hh : eval (.Call (.Attribute e y apos) [] [] pos) X.env = (do
      let ov ← eval e X.env
      standAt apos.atName
      let (f, first) ← holding [ov] (getMethod ov y pl)
      callWith pos f first (backTo pos (starEach [] X.env)) (backToKw pos (keywordEach [] X.env))) := by rfl) : DE K mg X (.Call (.Attribute e y apos) [] [] pos) (tMeth C y (spD K mg 1 den) [] E0 te tNil) (fMeth cl y den [] fe fANil) := by
  obtain ⟨f, fd, ps, h3, h4, h5⟩ := G.to
  have e1 := x.pp
  have e2 := x.ww
  have e3 := x.kk
  have e4 := x.mm
  have e5 := x.bb
  subst e1 e2 e3 e4 e5
  exact ⟨pe_meth0 (pl := pl) ho.pe gc.cl h3 h5 (x.rr.mono hj) h4 .nil pass0 hh, ev_meth gc.m rfl rfl ho.ev ev_bnil⟩
theorem r_make (x : XI P w K mg base k X) {y : Str} {C : Addr} {m j : Nat} {den : Den} {p : Pos} (gc : GCl K mg y C) (G : GMk P w K mg base C m j den) (hj : j + 1 ≤ k) (hg : Gl X y) (o : once ks = true) (hm : ks.length + 1 = m) (ha : DB K mg X (a :: es) A ks fA) (hdb : (y == ("__debug__" : Str)) = false := by decide)
    (he : starEach (a :: es) X.env = (false, eval a X.env) :: starEach es X.env := by rfl) (hpl : (backTo pos (starEach es X.env)).any (·.1) = false := by rfl) : DE K mg X (.Call (.Name y p) (a :: es) [] pos) (tMake C (spD K mg m den) [] E0 A) (fMake y den ks fA) := by
  obtain ⟨f, fd, ps, h3, h4, h5⟩ := G.to
  have e1 := x.pp
  have e2 := x.ww
  have e3 := x.kk
  have e4 := x.mm
  have e5 := x.bb
  subst e1 e2 e3 e4 e5
  exact ⟨pe_make h3 h5 (x.rr.mono hj) hg gc.m h4 .nil pass0 ha.pa hdb he hpl, ev_make gc.m o hm ha.ev⟩
theorem r_fld (x : XI P w K mg base k X) {cl y : Str} {C : Addr} (gc : GCl K mg cl C) (na : NoAttr K C y) (he : DE K mg X e te fe) (hb : attributeBase e y X.env (eval e X.env) = eval e X.env := by rfl) : DE K mg X (.Attribute e y pos) (tFld K te y) (fFld cl y fe) := by
  have := x.kk
  subst this
  exact ⟨pe_fld he.pe hb, ev_fld gc.m gc.cl na he.ev⟩
theorem r_fldN (x : XI P w K mg base k X) (i : Nat) {cl y z : Str} {C : Addr} {p : Pos} (gc : GCl K mg cl C) (na : NoAttr K C y) (he : DE K mg X (.Name z p) (tVar i) (fName i)) (hb : attributeBase (.Name z p) y X.env (eval (.Name z p) X.env) = eval (.Name z p) X.env := by rfl) : DE K mg X (.Attribute (.Name z p) y pos) (tFld K (tVar i) y) (fFldN cl y i) := by
  have := x.kk
  subst this
  exact ⟨pe_fld he.pe hb, ev_fldN i gc.m gc.cl na⟩
/-! methods of lists -/
theorem r_append (x : XI P w K mg base k X) (i : Nat) {z : Str} {p apos : Pos} (ho : DE K mg X (.Name z p) (tVar i) (fName i)) (ha : DA K mg X [a] A fA) (hst : starEach [a] X.env = [(false, eval a X.env)] := by rfl) (hpl : (backTo pos (starEach [] X.env)).any (·.1) = false := by rfl)
    (hb : attributeBase (.Name z p) "append" X.env (eval (.Name z p) X.env) = eval (.Name z p) X.env := by rfl) (hl : (apos.endLine == pos.line) = true := by rfl)
    (hfew : ((backTo pos (starEach [a] X.env)).all (fun x => !x.1) && (backToKw pos (keywordEach [] X.env)).all (fun x => x.1.isSome) && decide (([a] : List Expr).length + ([] : List Keyword).length + (if ([] : List Keyword).isEmpty then 0 else 1) < 30)) = true := by rfl) : DE K mg X (.Call (.Attribute (.Name z p) "append" apos) [a] [] pos) (tBM K "list" rAppend (tVar i) A) (fMtL gAppend i fA) := by
  have := x.kk
  subst this
  exact ⟨pe_bm PySem.F.plainAttrs_list PySem.F.slot_list_append PySem.F.type_list_append mt_append ho.pe ha.pa hb hfew hl hst hpl, ev_mtL i m_append ha.ev⟩
theorem r_popAt (x : XI P w K mg base k X) (i : Nat) {z : Str} {p apos : Pos} (ho : DE K mg X (.Name z p) (tVar i) (fName i)) (ha : DA K mg X [a] A fA) (hst : starEach [a] X.env = [(false, eval a X.env)] := by rfl) (hpl : (backTo pos (starEach [] X.env)).any (·.1) = false := by rfl)
    (hb : attributeBase (.Name z p) "pop" X.env (eval (.Name z p) X.env) = eval (.Name z p) X.env := by rfl) (hl : (apos.endLine == pos.line) = true := by rfl)
    (hfew : ((backTo pos (starEach [a] X.env)).all (fun x => !x.1) && (backToKw pos (keywordEach [] X.env)).all (fun x => x.1.isSome) && decide (([a] : List Expr).length + ([] : List Keyword).length + (if ([] : List Keyword).isEmpty then 0 else 1) < 30)) = true := by rfl) : DE K mg X (.Call (.Attribute (.Name z p) "pop" apos) [a] [] pos) (tBM K "list" rPopAt (tVar i) A) (fMtL gPopAt i fA) := by
  have := x.kk
  subst this
  exact ⟨pe_bm PySem.F.plainAttrs_list PySem.F.slot_list_pop PySem.F.type_list_pop mt_popAt ho.pe ha.pa hb hfew hl hst hpl, ev_mtL i m_popAt ha.ev⟩
/-! statements -/
section
variable {st : Stmt} {sts : List Stmt} {tS uS : TS} {fS gS : FS}
theorem r_nil : DSs K mg M X [] tNext sNop := ⟨pss_nil, es_nop⟩
theorem r_cons (h : DS K mg M X st tS fS) (h2 : DSs K mg M X sts uS gS) : DSs K mg M X (st :: sts) (tSeq tS uS) (sSeq fS gS) := ⟨pss_cons h.ps h2.ps, es_seq h.ev h2.ev⟩
theorem r_last (h : DS K mg M X st tS fS) : DSs K mg M X [st] tS fS := ⟨pss_one h.ps, h.ev⟩
theorem r_pass : DS K mg M X (.Pass pos) tNext sNop := ⟨ps_pass, es_nop⟩
theorem r_brk : DS K mg M X (.Break pos) tBreak sBrk := ⟨ps_break, es_brk⟩
theorem r_cont : DS K mg M X (.Continue pos) tCont sCont := ⟨ps_continue, es_cont⟩
theorem r_never : DS K mg M X st tNever sNever := ⟨ps_never, es_never⟩
theorem r_if (hc : DT K mg X c t f) (h : DSs K mg M X sts tS fS) {sts2 : List Stmt} (h2 : DSs K mg M X sts2 uS gS) : DS K mg M X (.If c sts sts2 pos) (tIfS t tS uS) (sIf f fS gS) := ⟨ps_if hc.pt h.ps h2.ps, es_if hc.ev h.ev h2.ev⟩
theorem r_ret (h : DE K mg X e te fe) : DS K mg M X (.Return (some e) pos) (tRet te) (sRet fe) := ⟨ps_ret h.pe, es_ret h.ev⟩
theorem r_retN : DS K mg M X (.Return none pos) tRetN sRetN := ⟨ps_retN, es_retN⟩
theorem r_expr (h : DE K mg X e te fe) (hs : swapsWith e none pos.line X.env = pure false := by rfl) : DS K mg M X (.Expr e pos) (tDrop te) (sDrop fe) := ⟨ps_expr h.pe hs, es_drop h.ev⟩
theorem r_set (i : Nat) {y : Str} {p : Pos} (hM : i ∉ M) (hN : X.N.Nodup) (h : DE K mg X e te fe) (hi : X.N[i]? = some y := by rfl) (hx : Loc X.env.scope y := by first | exact Or.inl rfl | exact Or.inr rfl) (hs : swapsWith e (some (.Name y p)) pos.line X.env = pure false := by rfl)
    (hf : X.fn y = true ∨ X.env.scope.names.lookup y = some .local := by first | exact .inl rfl | exact .inr rfl) : DS K mg M X (.Assign [.Name y p] e pos) (tAsg te (gName i)) (sSet i fe) := ⟨ps_set hN hi hx h.pe hs hf, es_set hM h.ev⟩
/-- name = [..], on one line -/
theorem r_setLc (x : XI P w K mg base k X) (i : Nat) {y : Str} {py spos : Pos} (hM : i ∉ M) (hN : X.N.Nodup) {elt tg iter : Expr} {ifs : List Expr} {scope : Scope} (own : List (Str × Nat)) {wi : TI} {src : FSr} {ts : List Nat} {g : TG} {fg : FG} {tt : TT} {ft : FT} {te : TE} {fe : FE} (hi : DI K mg X tg iter wi src) (ok : blkC X.N X.env.scope scope own = true)
    (hts : ∀ i ∈ ts, i ∈ own.map (·.2)) (hg : ∀ (s : Shared) (H : Hp) (C : Addr) (cl : List (Str × Addr)) (fp : List Addr), DG K mg (X.blk s H scope (compEnvC scope cl C X.env) fp) tg ts g fg)
    (ht : ∀ (s : Shared) (H : Hp) (C : Addr) (cl : List (Str × Addr)) (fp : List Addr), DTs K mg (X.blk s H scope (compEnvC scope cl C X.env) fp) ifs tt ft)
    (he : ∀ (s : Shared) (H : Hp) (C : Addr) (cl : List (Str × Addr)) (fp : List Addr), DE K mg (X.blk s H scope (compEnvC scope cl C X.env) fp) elt te fe) (hs : ∀ x, foldedSetIterable iter X.env x = pure x := by intro _; rfl) (hy : X.N[i]? = some y := by rfl) (hyl : X.env.scope.names.lookup y = some .local := by rfl)
    (hsw : swapsWith (.ListComp elt [⟨tg, iter, ifs, 0⟩] scope pos) (some (.Name y py)) spos.line X.env = pure true := by exact sw_true rfl rfl rfl (by decide +kernel)) :
    DS K mg M X (.Assign [.Name y py] (.ListComp elt [⟨tg, iter, ifs, 0⟩] scope pos) spos) (tAsg (tLc wi g tt te (own.map (·.2))) (gName i)) (sSet i (fLc src fg ft fe (own.map (·.2)))) :=
  ⟨ps_setLc x.cc hN hy hyl hsw hi.pi (blkOk_by ok) (fun s H C cl fp => (hg s H C cl fp).pg) (fun s H C cl fp => (ht s H C cl fp).pt) (fun s H C cl fp => (he s H C cl fp).pe) hs,
    es_set hM (ev_lc hts hi.ev (hg {} (fun _ => none) 0 [] []).ev (ht {} (fun _ => none) 0 [] []).ev (he {} (fun _ => none) 0 [] []).ev)⟩
theorem r_asgG {ts : List Nat} {g : TG} {fg : FG} (d : ∀ i ∈ M, i ∉ ts) (h : DE K mg X e te fe) (hg : DG K mg X a ts g fg) (hs : swapsWithSole [a] e pos.line X.env = pure false := by rfl) (hw : swappedStores [a] e X.env = pure none := by rfl)
    (h1 : (assignEach [a] X.env).map (·.2) = [assign a X.env] := by rfl) : DS K mg M X (.Assign [a] e pos) (tAsg te g) (sAsgG fg fe) := ⟨ps_asg h.pe hg.pg hs hw h1, es_asgG d h.ev hg.ev⟩
theorem r_putIx (i : Nat) {y : Str} {p p2 : Pos} (hi : DE K mg X b tb fb) (hv : DE K mg X e te fe) (ho : DE K mg X (.Name y p) (tVar i) (fName i)) (hs : swapsWithSole [.Subscript (.Name y p) b p2] e pos.line X.env = pure false := by rfl) (hw : swappedStores [.Subscript (.Name y p) b p2] e X.env = pure none := by rfl)
    (h1 : (assignEach [.Subscript (.Name y p) b p2] X.env).map (·.2) = [assign (.Subscript (.Name y p) b p2) X.env] := by rfl)
    (hh : ∀ v, assign (.Subscript (.Name y p) b p2) X.env v = (do
      let ov ← holding [v] (eval (.Name y p) X.env)
      let iv ← holding [v, ov] (eval b X.env)
      standAt p2
      holding [v, ov, iv] (setItem ov iv v)
      release [v, ov, iv] []) := by intro _; rfl) : DS K mg M X (.Assign [.Subscript (.Name y p) b p2] e pos) (tAsg te (L2.gSub (tVar i) tb rSetL)) (sPutIx i fb fe) :=
  ⟨ps_asg hv.pe (pg_sub ho.pe hi.pe set_list hh) hs hw h1, es_putIx i hi.ev hv.ev⟩
theorem r_putF (x : XI P w K mg base k X) (i : Nat) {cl y z : Str} {C : Addr} {p p2 : Pos} (gc : GCl K mg cl C) (na : NoAttr K C y) (ho : DE K mg X (.Name z p) (tVar i) (fName i)) (hv : DE K mg X e te fe) (hs : swapsWith e (some (.Attribute (.Name z p) y p2)) pos.line X.env = pure false := by rfl) :
    DS K mg M X (.Assign [.Attribute (.Name z p) y p2] e pos) (sFld K (tVar i) te y) (sPutF cl y i fe) := by
  have := x.kk
  subst this
  exact ⟨ps_fld ho.pe hv.pe hs, es_putF i gc.m gc.cl na hv.ev⟩
theorem r_aug (i : Nat) {y : Str} {p : Pos} {op : Operator} {g : Int → Int → Int} (hM : i ∉ M) (hN : X.N.Nodup) (ho : PIp X op (ipI g)) (h : DE K mg X e te fe) (hi : X.N[i]? = some y := by rfl) (hx : Loc X.env.scope y := by first | exact Or.inl rfl | exact Or.inr rfl)
    (hf : X.fn y = true ∨ X.env.scope.names.lookup y = some .local := by first | exact .inl rfl | exact .inr rfl) : DS K mg M X (.AugAssign (.Name y p) op e pos) (tAug i te (ipI g)) (sAug g i fe) := ⟨ps_aug hN hi hx h.pe ho hf, es_aug hM h.ev⟩
theorem r_augIx (x : XI P w K mg base k X) (i : Nat) {y : Str} {p tpos : Pos} {op : Operator} {g : Int → Int → Int} (hp : PIp X op (ipI g)) (ho : DE K mg X (.Name y p) (tVar i) (fName i)) (hi : DE K mg X b tb fb) (he : DE K mg X e te fe)
    (ha : ∀ ov iv new, augStore b ov iv new = (do holding [new, ov, iv] (setItem ov iv new); release [new, ov, iv] []; pure .next) := by intros; rfl) : DS K mg M X (.AugAssign (.Subscript (.Name y p) b tpos) op e pos) (tAugS (tVar i) tb te (rGetL K) (ipI g) rSetL) (sAugIx g i fb fe) := by
  have := x.kk
  subst this
  exact ⟨ps_augS ho.pe hi.pe get_list he.pe hp set_list ha, es_augIx i hi.ev he.ev⟩
theorem r_for (x : XI P w K mg base k X) {tg iter : Expr} {wi : TI} {src : FSr} {ts : List Nat} {g : TG} {fg : FG} (d : ∀ i ∈ M, i ∉ ts) (hi : DI K mg X tg iter wi src) (hg : DG K mg X tg ts g fg) (hb : DSs K mg M X sts tS fS) (hs : ∀ x, foldedSetIterable iter X.env x = pure x := by intro _; rfl) :
    DS K mg M X (.For tg iter sts [] pos) (tFor wi g tS) (sFor src fg fS) := ⟨ps_for x.pass x.cc hi.pi hg.pg hb.ps hs, es_for d hi.ev hg.ev hb.ev⟩
theorem r_while (x : XI P w K mg base k X) (n : Nat) (hc : DT K mg X c t f) (hb : DSs K mg M X sts tS fS) : DS K mg M X (.While c sts [] pos) (tWhile t tS) (sWhile n f fS) := ⟨ps_while x.pass hc.pt hb.ps, es_while hc.ev hb.ev⟩
/-- forgetting -/
theorem r_fgt (is : List Nat) (h : DS K mg M X st tS fS) : DS K mg M X st tS (sThenFgt fS is) := ⟨h.ps, es_thenFgt is h.ev⟩
theorem r_fgtB (is : List Nat) (h : DSs K mg M X sts tS fS) : DSs K mg M X sts tS (sThenFgt fS is) := ⟨h.ps, es_thenFgt is h.ev⟩
theorem r_pre (is : List Nat) (h : DS K mg M X st tS fS) : DS K mg M X st tS (sFgtThen is fS) := ⟨h.ps, es_fgtThen is h.ev⟩
end
end
end
end DL
namespace DL
open PySem PySem.Spec PyProof.Rows L2
noncomputable section
/-! ### further rules -/
section
variable {P : Program} {w : World} {K : PySem.W.Frag} {mg : Str → Option Value} {base : Heap} {k : Nat} {X : Cx} {M : List Nat} {a b c e : Expr} {es : List Expr} {ta tb tc te : TE} {fa fb fc fe : FE} {t u : TT} {f g : FT} {pos : Pos} {A : TA} {fA : FAr} {ks : List (Option Nat)}
theorem DSs.pair {st : List Stmt} {tS : TS} {f : FS} (h : DSs K mg M X st tS f) : PSs X st tS ∧ EvS K mg M tS f := ⟨h.ps, h.ev⟩
theorem GMt.mk' {x qual : Str} {C : Addr} {st : Stmt} {f : Addr} {fd : FuncData} {N ps : List Str} {n : Nat} {fs : FS} (F : Fun K x qual st f fd) (hm : Meth K C x f) (b : Binds K fd ps []) (S : FnScope N ps (defScope st)) (hn : n = N.length) {m : Nat} (hps : m = ps.length)
    (body : ∀ (cdv : Value) (A : Around) (outer : List Env) (s : Shared) (H : Hp) (E : XK), Room k (A.deeper (envOfC qual (defScope st) s.heap.objs.size f cdv)) →
      ∃ t, PSs (cxOf CX0 P w K mg base N qual (defScope st) f cdv A outer s H E).nox (defBody st) t ∧ EvS K mg M t fs) : GMt P w K mg base C x m (k + 1) (denOf n M fs) :=
  ⟨f, fd, ps, hm, b, by rw [hps]; exact def_ok F S hn body⟩
theorem GMk.mk' {x qual : Str} {C : Addr} {st : Stmt} {f : Addr} {fd : FuncData} {N ps : List Str} {n : Nat} {fs : FS} (F : Fun K x qual st f fd) (hm : Mk K C f) (b : Binds K fd ps []) (S : FnScope N ps (defScope st)) (hn : n = N.length) {m : Nat} (hps : m = ps.length)
    (body : ∀ (cdv : Value) (A : Around) (outer : List Env) (s : Shared) (H : Hp) (E : XK), Room k (A.deeper (envOfC qual (defScope st) s.heap.objs.size f cdv)) →
      ∃ t, PSs (cxOf CX0 P w K mg base N qual (defScope st) f cdv A outer s H E).nox (defBody st) t ∧ EvS K mg M t fs) : GMk P w K mg base C m (k + 1) (denOf n M fs) :=
  ⟨f, fd, ps, hm, b, by rw [hps]; exact def_ok F S hn body⟩
/-! a def that calls itself -/
def recDen (F : Den → Den) : Nat → Den
  | 0 => fun _ => none
  | n + 1 => F (recDen F n)
theorem GFn.no {x qual : Str} {st : Stmt} {f : Addr} {fd : FuncData} {ps : List Str} {m : Nat} {G : Den → Den} (F : Fun K x qual st f fd) (hm : mg x = some (.ref f)) (b : Binds K fd ps []) : GFn P w K mg base x m k (recDen G 0) :=
  ⟨f, fd, ps, hm, F.kp, b, ⟨fun vs H Q E ⟨_, _, _, _, _, _, _, h, _⟩ => (nomatch h), fun _ _ _ _ _ _ _ _ _ _ _ _ _ ⟨_, _, _, _, _, _, _, h, _⟩ => (nomatch h)⟩⟩
/-! a written table of ints by texts -/
structure KTab (K : PySem.W.Frag) (w : World) (mg : Str → Option Value) (y : Str) (L : Addr) (tab : List (Str × Int)) : Prop where
  m : mg y = some (.ref L)
  t : ∀ (z : Str) (i : Int), tab.lookup z = some i → KDct K w L z (.int i)
def fIxK (tab : List (Str × Int)) (fb : FE) : FE := fun ρ => (vl fb ρ).bind fun p => match p.1 with
  | .str z => (tab.lookup z).map fun i => (.val (.int i), p.2)
  | _ => none
theorem r_ixK {y : Str} {L : Addr} {tab : List (Str × Int)} {p2 : Pos} (x : XI P w K mg base k X) (T : KTab K w mg y L tab) (hb : DE K mg X b tb fb) (hg : Gl X y := by rfl) (hs : PlainIx b := by intro _ _; rfl) (hd : (y == ("__debug__" : Str)) = false := by decide) :
    DE K mg X (.Subscript (.Name y p2) b pos) (tOp (rIxD K w) (tC (.ref L)) tb) (fIxK tab fb) := by
  have e1 := x.kk
  have e2 := x.ww
  subst e1 e2
  refine ⟨pe_ix ix_kdict (pe_glob hg (by rw [x.mm]; exact T.m) rfl hd) hb.pe hs, fun F ρ σ H R s ρ' e Q q => ?_⟩
  obtain ⟨⟨z, ρ1⟩, e1, e⟩ := bind2 (γ := Unit) e
  cases z <;> try (cases e)
  obtain ⟨i, e2, e⟩ := map2 e
  cases e
  refine hb.ev.frz F ρ σ H R _ _ e1 _ fun v F1 H1 R1 S1 r => ?_
  simp only [Rep] at r
  subst r
  exact ⟨L, _, .int i, rfl, rfl, T.t _ _ e2, q _ F1 H1 R1 S1 rfl⟩
/-! isinstance against a built-in class -/
def tyD : D → Option String
  | .non => some "NoneType"
  | .bl _ => some "bool"
  | .int _ => some "int"
  | .str _ => some "str"
  | .tup _ => some "tuple"
  | .lst _ => some "list"
  | _ => none
def isiD (n : String) (d : D) : Option Bool := (tyD d).bind fun t => kitB t n
def fIsi (n : String) (fa : FE) : FE := fun ρ => (vl fa ρ).bind fun p => (isiD n p.1).map fun r => (.val (.bl r), p.2)
theorem tyD_ok {F : Hp} {d : D} {v : V} {t : String} (r : Rep K mg F d v) (e : tyD d = some t) : TyX K F v (.type t) := by
  cases d <;> try (cases e)
  · simp only [Rep] at r; subst r; exact .base .non
  · simp only [Rep] at r; subst r; exact .base (.bl _)
  · simp only [Rep] at r; subst r; exact .base (.int _)
  · simp only [Rep] at r; subst r; exact .base (.str _)
  · simp only [Rep] at r; obtain ⟨p, vs, rfl, _, g, _⟩ := r; exact .base (.tup g)
  · simp only [Rep] at r; obtain ⟨p, vs, rfl, g, _⟩ := r; exact .base (.lst g)
theorem ev_isi {n : String} (ha : EvW K mg ta fa) : EvW K mg (tCB (rIsi K) (tCons ta (tCons (tC (.ty n)) tNil))) (fIsi n fa) := fun F ρ σ H R s ρ' e Q q => by
  obtain ⟨⟨d, ρ1⟩, e1, e⟩ := bind2 (γ := Unit) e
  obtain ⟨b, e2, e⟩ := map2 e
  cases e
  refine ha.frz F ρ σ H R d _ e1 _ fun v F1 H1 R1 S1 r => ?_
  obtain ⟨t, e3, e4⟩ := bind2 (γ := Unit) e2
  exact ⟨v, .ty n, .type t, .type n, b, rfl, .ty n, tyD_ok (r.mono R1.same) e3, kit_ty e4, q _ F1 H1 R1 S1 rfl⟩
theorem r_isi {n : String} {y : Str} {p p2 : Pos} (hv2 : bootBuiltins y = some (.type n)) (hn2 : y ≠ "__name__") (hd2 : (y == ("__debug__" : Str)) = false) (x : XI P w K mg base k X) (hg : Gl X "isinstance") (hm : mg "isinstance" = none) (hg2 : Gl X y) (hm2 : mg y = none) (ha : DE K mg X a ta fa)
    (he : starEach [a, .Name y p2] X.env = (false, eval a X.env) :: starEach [.Name y p2] X.env := by rfl) (he2 : starEach [.Name y p2] X.env = [(false, eval (.Name y p2) X.env)] := by rfl) (hpl : (backTo pos (starEach [.Name y p2] X.env)).any (·.1) = false := by rfl) :
    DE K mg X (.Call (.Name "isinstance" p) [a, .Name y p2] [] pos) (tCB (rIsi K) (tCons ta (tCons (tC (.ty n)) tNil))) (fIsi n fa) := by
  have := x.kk
  subst this
  exact ⟨pe_callB call_isi hg (by rw [x.mm]; exact hm) (by decide +kernel) (pa_cons ha.pe (pa_cons (pe_bltn hg2 (by rw [x.mm]; exact hm2) hv2 rfl hn2 hd2) pa_nil he2) he) (by decide) (by decide) he hpl, ev_isi ha.ev⟩
section
variable {p p2 : Pos} (x : XI P w K mg base k X) (hg : Gl X "isinstance") (hm : mg "isinstance" = none)
include x hg hm
theorem r_isi_bool (hg2 : Gl X "bool") (hm2 : mg "bool" = none) (ha : DE K mg X a ta fa) (he : starEach [a, .Name "bool" p2] X.env = (false, eval a X.env) :: starEach [.Name "bool" p2] X.env := by rfl) (he2 : starEach [.Name "bool" p2] X.env = [(false, eval (.Name "bool" p2) X.env)] := by rfl) (hpl : (backTo pos (starEach [.Name "bool" p2] X.env)).any (·.1) = false := by rfl) :
    DE K mg X (.Call (.Name "isinstance" p) [a, .Name "bool" p2] [] pos) (tCB (rIsi K) (tCons ta (tCons (tC (.ty "bool")) tNil))) (fIsi "bool" fa) := r_isi (by decide +kernel) (by decide) (by decide) x hg hm hg2 hm2 ha he he2 hpl
theorem r_isi_int (hg2 : Gl X "int") (hm2 : mg "int" = none) (ha : DE K mg X a ta fa) (he : starEach [a, .Name "int" p2] X.env = (false, eval a X.env) :: starEach [.Name "int" p2] X.env := by rfl) (he2 : starEach [.Name "int" p2] X.env = [(false, eval (.Name "int" p2) X.env)] := by rfl) (hpl : (backTo pos (starEach [.Name "int" p2] X.env)).any (·.1) = false := by rfl) :
    DE K mg X (.Call (.Name "isinstance" p) [a, .Name "int" p2] [] pos) (tCB (rIsi K) (tCons ta (tCons (tC (.ty "int")) tNil))) (fIsi "int" fa) := r_isi (by decide +kernel) (by decide) (by decide) x hg hm hg2 hm2 ha he he2 hpl
theorem r_isi_str (hg2 : Gl X "str") (hm2 : mg "str" = none) (ha : DE K mg X a ta fa) (he : starEach [a, .Name "str" p2] X.env = (false, eval a X.env) :: starEach [.Name "str" p2] X.env := by rfl) (he2 : starEach [.Name "str" p2] X.env = [(false, eval (.Name "str" p2) X.env)] := by rfl) (hpl : (backTo pos (starEach [.Name "str" p2] X.env)).any (·.1) = false := by rfl) :
    DE K mg X (.Call (.Name "isinstance" p) [a, .Name "str" p2] [] pos) (tCB (rIsi K) (tCons ta (tCons (tC (.ty "str")) tNil))) (fIsi "str" fa) := r_isi (by decide +kernel) (by decide) (by decide) x hg hm hg2 hm2 ha he he2 hpl
theorem r_isi_tuple (hg2 : Gl X "tuple") (hm2 : mg "tuple" = none) (ha : DE K mg X a ta fa) (he : starEach [a, .Name "tuple" p2] X.env = (false, eval a X.env) :: starEach [.Name "tuple" p2] X.env := by rfl) (he2 : starEach [.Name "tuple" p2] X.env = [(false, eval (.Name "tuple" p2) X.env)] := by rfl) (hpl : (backTo pos (starEach [.Name "tuple" p2] X.env)).any (·.1) = false := by rfl) :
    DE K mg X (.Call (.Name "isinstance" p) [a, .Name "tuple" p2] [] pos) (tCB (rIsi K) (tCons ta (tCons (tC (.ty "tuple")) tNil))) (fIsi "tuple" fa) := r_isi (by decide +kernel) (by decide) (by decide) x hg hm hg2 hm2 ha he he2 hpl
theorem r_isi_list (hg2 : Gl X "list") (hm2 : mg "list" = none) (ha : DE K mg X a ta fa) (he : starEach [a, .Name "list" p2] X.env = (false, eval a X.env) :: starEach [.Name "list" p2] X.env := by rfl) (he2 : starEach [.Name "list" p2] X.env = [(false, eval (.Name "list" p2) X.env)] := by rfl) (hpl : (backTo pos (starEach [.Name "list" p2] X.env)).any (·.1) = false := by rfl) :
    DE K mg X (.Call (.Name "isinstance" p) [a, .Name "list" p2] [] pos) (tCB (rIsi K) (tCons ta (tCons (tC (.ty "list")) tNil))) (fIsi "list" fa) := r_isi (by decide +kernel) (by decide) (by decide) x hg hm hg2 hm2 ha he he2 hpl
end
/-! f(new thing, values ..): the new thing is the def's own -/
def fUseT (den : Den) (f0 : FE) (fA : FAr) : FE := fun ρ => (f0 ρ).bind fun p => if p.1.isOwn = true then (fA p.2).bind fun q => (den (p.1 :: q.1.map Sl.val)).map fun r => (r.1, q.2) else none
theorem reps_sls {F H : Hp} : ∀ {ds : List D} {vs : List V}, Reps K mg F ds vs → SlRs K mg F H (ds.map Sl.val) vs
  | [], _, h => by simp only [Reps] at h; subst h; exact .nil
  | d :: ds, _, h => by
    simp only [Reps] at h
    obtain ⟨v, r, rfl, h1, h2⟩ := h
    exact .cons ⟨v, rfl, h1⟩ (reps_sls h2)
theorem ev_useT {m : Nat} {den : Den} {t0 : TE} {f0 : FE} (hm : es.length + 1 = m) (hes : ∀ ρ ds ρ', fA ρ = some (ds, ρ') → ds.length = es.length) (h0 : EvW K mg t0 f0) (ha : EvA K mg A fA) : EvW K mg (tCall (spD K mg m den) [] E0 (tCons t0 A)) (fUseT den f0 fA) := fun F ρ σ H R s ρ' e Q q => by
  obtain ⟨⟨s0, ρ1⟩, e1, e⟩ := bind2 (γ := Unit) e
  dsimp only at e
  split at e
  case isFalse => cases e
  case isTrue o0 =>
    obtain ⟨⟨ds, ρ2⟩, e2, e⟩ := bind2 (γ := Unit) e
    obtain ⟨⟨u, ss'⟩, e3, e⟩ := map2 e
    cases e
    refine h0 F ρ σ H R s0 ρ1 e1 _ fun v0 F1 H1 R1 S1 w0 => ?_
    obtain ⟨p, rfl, g, np, z0⟩ := w0.own o0
    obtain ⟨ob, eo⟩ := g.hS
    refine ha F1 ρ1 σ H1 R1 ds _ e2 _ fun vs F2 H2 R2 S2 rs => ?_
    have f2 : F2 p = none := S2.un p ob eo g.fN np
    have h2 : H2 p = some ob := S2.fr p ob eo np
    have n2 : ¬ Ow ρ2 σ p := fun z => by
      rcases S2.ow p z with z | z
      · exact np z
      · rw [eo] at z; cases z
    have g2 : OwR K mg F2 H2 s0 p := g.mono S2.sF f2 (h2.trans eo.symm)
    have hr := reps_sls (H := H2) rs
    have oa : ∀ i q, OwA (s0 :: ds.map Sl.val) ((V.ref p :: vs).map some) i q → i = 0 ∧ q = p := fun i q ⟨⟨u, e1, o1⟩, e2⟩ => by
      cases i with
      | zero =>
        simp at e2
        exact ⟨rfl, e2.symm⟩
      | succ i =>
        simp only [List.getElem?_cons_succ, List.getElem?_map] at e1
        obtain ⟨d, _, rfl⟩ := map2 e1
        cases o1
    have Ra : SR K mg F2 (s0 :: ds.map Sl.val) ((V.ref p :: vs).map some) H2 := by
      refine ⟨R2.same, R2.siz, ?_, fun i u e => ?_, fun i j q a b => ?_⟩
      · rw [List.length_cons, List.length_map, List.length_map, List.length_cons, rs.length]
      · cases i with
        | zero =>
          simp at e
          subst e
          exact ⟨some (.ref p), rfl, DL.SlR.of_ow g2⟩
        | succ i =>
          obtain ⟨v, e2, r⟩ := hr.2 i u (by simpa using e)
          exact ⟨some v, by rw [List.getElem?_map, List.getElem?_cons_succ, e2]; rfl, r⟩
      · rw [(oa i q a).1, (oa j q b).1]
    show spD K mg m den ((V.ref p :: vs) ++ []) H2 Q E0
    rw [List.append_nil]
    refine ⟨F2, _, u, ss', by rw [List.length_cons, List.length_map, hes _ _ _ e2]; exact hm, Ra, fun y hy => ?_, e3, fun v F' H' R' S' own w => ?_⟩
    · rcases List.mem_cons.mp hy with e | hy
      · subst e
        cases y <;> first | rfl | cases o0
      · obtain ⟨d, _, rfl⟩ := List.mem_map.mp hy
        rfl
    · have nos : ∀ q, q ≠ p → ¬ Ow (s0 :: ds.map Sl.val) ((V.ref p :: vs).map some) q := fun q hq ⟨i, z⟩ => hq (oa i q z).2
      have ne : ∀ q, Ow ρ2 σ q → q ≠ p := fun q z e => n2 (e ▸ z)
      have R3 : SR K mg F' ρ2 σ H' := R2.grow S'.sF R'.same R'.siz fun q z => by
        obtain ⟨o, eq⟩ := R2.owH z
        exact ⟨S'.un q o eq (R2.owF z) (nos q (ne q z)), by rw [S'.fr q o eq (nos q (ne q z)), eq]⟩
      have S3 : Stp F ρ σ H F' ρ2 σ H' := by
        have Z := S1.trans S2
        -- p is new, or was owned at the start
        refine ⟨Z.sF.trans S'.sF, fun q o eq n => ?_, fun q o eq f n => ?_, Z.ow⟩
        · have hq : q ≠ p := fun e => by
            subst e
            rcases z0 with z | z
            · exact n z
            · rw [eq] at z; cases z
          exact S'.fr q o (Z.fr q o eq n) (nos q hq)
        · have hq : q ≠ p := fun e => by
            subst e
            rcases z0 with z | z
            · exact n z
            · rw [eq] at z; cases z
          exact S'.un q o (Z.fr q o eq n) (Z.un q o eq f n) (nos q hq)
      refine q v F' H' R3 S3 ?_
      by_cases os : u.isOwn = true
      · obtain ⟨r, rfl, gr, nr, zr⟩ := WV.own w os
        have hr2 : H2 r = none := by
          rcases zr with ⟨i, z⟩ | z
          · obtain ⟨rfl, rfl⟩ := oa i r z
            obtain ⟨⟨y, y1, y2⟩, y3⟩ := z
            obtain ⟨u', e5, o5⟩ := own 0 y y1 y2
            exact absurd ⟨0, ⟨u', e5, o5⟩, y3⟩ nr
          · exact z
        refine .of_own gr (fun z => ?_) ?_
        · exact R2.nw hr2 z
        · by_cases zz : Ow ρ σ r
          · exact .inl zz
          · refine .inr ?_
            cases eh : H r with
            | none => rfl
            | some o =>
              have := (S1.trans S2).fr r o eh zz
              rw [hr2] at this
              cases this
      · cases u with
        | val d => exact w
        | no => exact w
        | own ds => exact absurd rfl os
        | oob c fs => exact absurd rfl os
        | odK ds => exact absurd rfl os
        | odT ds => exact absurd rfl os
        | ownA a ds => exact absurd rfl os
end
/-- a row of values of a known length -/
structure DAn (K : PySem.W.Frag) (mg : Str → Option Value) (X : Cx) (es : List Expr) (t : TA) (f : FAr) : Prop where
  d : DA K mg X es t f
  l : ∀ ρ ds ρ', f ρ = some (ds, ρ') → ds.length = es.length
section
variable {P : Program} {w : World} {K : PySem.W.Frag} {mg : Str → Option Value} {base : Heap} {k : Nat} {X : Cx} {M : List Nat} {a b c e : Expr} {es : List Expr} {ta tb tc te : TE} {fa fb fc fe : FE} {pos : Pos} {A : TA} {fA : FAr}
theorem len_nil : ∀ ρ ds ρ', fANil ρ = some (ds, ρ') → ds.length = ([] : List Expr).length := fun ρ ds ρ' e => by cases e; rfl
theorem len_cons (h : ∀ ρ ds ρ', fA ρ = some (ds, ρ') → ds.length = es.length) : ∀ ρ ds ρ', fACons fa fA ρ = some (ds, ρ') → ds.length = (a :: es).length := fun ρ ds ρ' e => by
  obtain ⟨⟨x, ρ1⟩, e1, e⟩ := bind2 (γ := Unit) e
  obtain ⟨⟨xs, ρ2⟩, e2, e⟩ := map2 e
  cases e
  simp only [List.length_cons, h _ _ _ e2]
theorem r_useT {y : Str} {p : Pos} {m j : Nat} {den : Den} (x : XI P w K mg base k X) (G : GFn P w K mg base y m j den) (hj : j ≤ k) (hg : Gl X y) (hm : es.length + 1 = m) (h0 : DE K mg X a ta fa) (ha : DA K mg X es A fA)
    (hl : ∀ ρ ds ρ', fA ρ = some (ds, ρ') → ds.length = es.length := by first | exact len_nil | exact len_cons len_nil | exact len_cons (len_cons len_nil) | exact len_cons (len_cons (len_cons len_nil)) | exact len_cons (len_cons (len_cons (len_cons len_nil)))) (hdb : (y == ("__debug__" : Str)) = false := by decide)
    (he : starEach (a :: es) X.env = (false, eval a X.env) :: starEach es X.env := by rfl) (hpl : (backTo pos (starEach es X.env)).any (·.1) = false := by rfl) : DE K mg X (.Call (.Name y p) (a :: es) [] pos) (tCall (spD K mg m den) [] E0 (tCons ta A)) (fUseT den fa fA) := by
  obtain ⟨f, fd, ps, h1, h2, h3, h4⟩ := G.to
  have e1 := x.pp
  have e2 := x.ww
  have e3 := x.kk
  have e4 := x.mm
  have e5 := x.bb
  subst e1 e2 e3 e4 e5
  exact ⟨pe_call h4 (x.rr.mono hj) hg h1 h2 h3 .nil pass0 (pa_cons h0.pe ha.pa he) hdb he hpl, ev_useT hm hl h0.ev ha.ev⟩
end
end
end DL
namespace DL
open PySem PySem.Spec PyProof.Rows L2
noncomputable section
/-! sorted(set(pairs)) -/
def uniq : List (Int × Int) → List (Int × Int)
  | [] => []
  | p :: ps => if p ∈ uniq ps then uniq ps else p :: uniq ps
theorem uniq_mem : ∀ {ps : List (Int × Int)} {x : Int × Int}, x ∈ uniq ps ↔ x ∈ ps
  | [], x => Iff.rfl
  | p :: ps, x => by
    unfold uniq
    split
    · rename_i h
      rw [uniq_mem, List.mem_cons]
      exact ⟨.inr, fun z => z.elim (fun e => e ▸ uniq_mem.mp h) id⟩
    · rw [List.mem_cons, List.mem_cons, uniq_mem]
theorem uniq_nodup : ∀ {ps : List (Int × Int)}, (uniq ps).Nodup
  | [] => List.Pairwise.nil
  | p :: ps => by
    unfold uniq
    split
    · exact uniq_nodup
    · rename_i h
      exact List.nodup_cons.mpr ⟨h, uniq_nodup⟩
theorem nodup_perm {α : Type} [DecidableEq α] : ∀ {xs ys : List α}, xs.Nodup → ys.Nodup → (∀ x, x ∈ xs ↔ x ∈ ys) → xs.Perm ys
  | [], ys, _, _, h => by
    cases ys with
    | nil => exact .refl _
    | cons y ys => exact absurd ((h y).mpr List.mem_cons_self) (by simp)
  | x :: xs, ys, h1, h2, h => by
    rw [List.nodup_cons] at h1
    have hx := (h x).mp List.mem_cons_self
    refine (List.Perm.cons x (nodup_perm h1.2 (h2.erase x) fun y => ?_)).trans (List.perm_cons_erase hx).symm
    rw [h2.mem_erase_iff, ← h, List.mem_cons]
    constructor
    · exact fun hy => ⟨fun z => h1.1 (z ▸ hy), .inr hy⟩
    · exact fun ⟨n, z⟩ => z.elim (fun z => absurd z n) id
def sortSet (ps : List (Int × Int)) : List (Int × Int) := sortP (uniq ps)
/-- few pairs of small numbers -/
def fitSet (ps : List (Int × Int)) : Bool := may (ps.length < 64 ∧ ∀ p ∈ ps, (0 ≤ p.1 ∧ p.1 < 64) ∧ 0 ≤ p.2 ∧ p.2 < 64)
theorem fitSet_ok {ps : List (Int × Int)} (h : fitSet ps = true) : ps.length < 64 ∧ ∀ p ∈ ps, (0 ≤ p.1 ∧ p.1 < 64) ∧ 0 ≤ p.2 ∧ p.2 < 64 := may_ok h
theorem fitSet_of {ps : List (Int × Int)} (h : ps.length < 64 ∧ ∀ p ∈ ps, (0 ≤ p.1 ∧ p.1 < 64) ∧ 0 ≤ p.2 ∧ p.2 < 64) : fitSet ps = true := may_of h
def fSortSet (fa : FE) : FE := fun ρ => (vl fa ρ).bind fun p => ((lstOf (.val p.1)).bind pairsOf).bind fun ps => if fitSet ps = true then some (.own ((sortSet ps).map pairD), p.2) else none
section
variable {P : Program} {w : World} {K : PySem.W.Frag} {mg : Str → Option Value} {base : Heap}
theorem ks_of {F : Hp} : ∀ {ps : List (Int × Int)} {vs : List V}, Reps K mg F (ps.map pairD) vs → ∃ ks : List (Addr × List Int), vs = ks.map (fun k => V.ref k.1) ∧ ks.map (fun k => k.2) = ps.map (fun p => [p.1, p.2]) ∧ ∀ k ∈ ks, ∃ p ∈ ps, k.2 = [p.1, p.2] ∧ F k.1 = some (.tup [.int p.1, .int p.2])
  | [], _, h => by
    simp only [List.map_nil, Reps] at h
    subst h
    exact ⟨[], rfl, rfl, fun k hk => by cases hk⟩
  | p :: ps, _, h => by
    simp only [List.map_cons, Reps] at h
    obtain ⟨v, r, rfl, h1, h2⟩ := h
    obtain ⟨ks, rfl, e, hk⟩ := ks_of h2
    obtain ⟨t, rfl, g⟩ := pair_at h1
    refine ⟨(t, [p.1, p.2]) :: ks, rfl, by rw [List.map_cons, List.map_cons, e], fun k m => ?_⟩
    rcases List.mem_cons.mp m with rfl | m
    · exact ⟨p, List.mem_cons_self, rfl, g⟩
    · obtain ⟨q, hq, a, b⟩ := hk k m
      exact ⟨q, List.mem_cons_of_mem _ hq, a, b⟩
theorem ev_sortset {ta : TE} {fa : FE} (h : EvW K mg ta fa) : EvW K mg (tCB (rSortedT K P w) (tCons (tCB (rSetOfT K P w) (tCons ta tNil)) tNil)) (fSortSet fa) := fun F ρ σ H R s ρ' e Q q => by
  obtain ⟨⟨x, ρ1⟩, e1, e⟩ := bind2 (γ := Unit) e
  obtain ⟨ps, e2, e⟩ := bind2 (γ := Unit) e
  dsimp only at e
  split at e
  case isFalse => cases e
  rename_i hc
  cases e
  obtain ⟨hl, hb⟩ := fitSet_ok hc
  obtain ⟨ds, e3, e4⟩ := bind2 (γ := Unit) e2
  refine h.frz F ρ σ H R x _ e1 _ fun vx F1 H1 R1 S1 rx => ?_
  obtain ⟨a, vs, rfl, g, r, z⟩ := lst_at R1 (s := .val x) ⟨vx, rfl, rx⟩ e3
  have e5 := pairsOf_eq e4
  subst e5
  obtain ⟨ks, rfl, ek, hk⟩ := ks_of r
  have hkl : ks.length = ps.length := by
    have := congrArg List.length ek
    rw [List.length_map, List.length_map] at this
    exact this
  refine ⟨a, ks, rfl, g, fun k m => ?_, by omega, fun b L hn hsub hall => ?_⟩
  · obtain ⟨p, _, e6, g6⟩ := hk k m
    rw [e6]
    exact SqT.of (R1.same _ _ g6)
  obtain ⟨R2, S2⟩ := R1.alloc (o := SetTO P w b L) hn trivial
  have hL : ∀ k ∈ L, ∃ p ∈ ps, k.2 = [p.1, p.2] ∧ (upd F1 b (SetTO P w b L)) k.1 = some (.tup [.int p.1, .int p.2]) := fun k m => by
    obtain ⟨p, hp, e6, g6⟩ := hk k (hsub k m)
    exact ⟨p, hp, e6, (S2.1 _ _ g6)⟩
  refine ⟨b, L, 2, 64, rfl, upd_same, fun k m => ?_, by decide, fun k m => ?_, fun L' p pm nd lt pw hp => ?_⟩
  · obtain ⟨p, _, e6, g6⟩ := hL k m
    rw [e6]
    exact SqT.of (R2.same _ _ g6)
  · obtain ⟨p, hp, e6, _⟩ := hL k m
    have := hb p hp
    rw [e6]
    refine ⟨rfl, fun i hi => ?_⟩
    simp only [List.mem_cons, List.not_mem_nil, or_false] at hi
    rcases hi with rfl | rfl <;> omega
  · have hL' : ∀ k ∈ L', ∃ p ∈ ps, k.2 = [p.1, p.2] ∧ (upd F1 b (SetTO P w b L)) k.1 = some (.tup [.int p.1, .int p.2]) := fun k m => hL k (pm.mem_iff.mp m)
    have key : ∀ k ∈ L', keyAt (upd F1 b (SetTO P w b L)) (.ref k.1) ∈ ps ∧ k.2 = [(keyAt (upd F1 b (SetTO P w b L)) (.ref k.1)).1, (keyAt (upd F1 b (SetTO P w b L)) (.ref k.1)).2] := fun k m => by
      obtain ⟨p, hp, e6, g6⟩ := hL' k m
      rw [keyAt_of g6]
      exact ⟨hp, e6⟩
    have e7 : (L'.map fun k => V.ref k.1).map (keyAt (upd F1 b (SetTO P w b L))) = sortSet ps := by
      rw [List.map_map]
      refine sortP_of (nodup_perm ?_ uniq_nodup fun x => ?_) ?_
      · rw [List.Nodup, List.pairwise_map]
        rw [List.Nodup, List.pairwise_map] at nd
        refine List.Pairwise.imp_of_mem (fun {k k'} m m' ne z => ne ?_) nd
        rw [(key k m).2, (key k' m').2]
        dsimp only [Function.comp] at z
        rw [z]
      · rw [uniq_mem, List.mem_map]
        constructor
        · rintro ⟨k, m, rfl⟩
          exact (key k m).1
        · intro hx
          have hx2 : [x.1, x.2] ∈ ks.map (fun k => k.2) := by
            rw [ek]
            exact List.mem_map.mpr ⟨x, hx, rfl⟩
          obtain ⟨k, m, e8⟩ := List.mem_map.mp hx2
          obtain ⟨k', m', e9⟩ := List.mem_map.mp (hall k m)
          refine ⟨k', pm.mem_iff.mpr m', ?_⟩
          have h10 := (key k' (pm.mem_iff.mpr m')).2
          rw [e9, e8] at h10
          injection h10 with i1 i2
          injection i2 with i2 _
          exact Prod.ext i1.symm i2.symm
      · rw [List.pairwise_map]
        refine List.Pairwise.imp_of_mem (fun {k k'} m m' c => ?_) pw
        obtain ⟨a1, b1⟩ := key k m
        obtain ⟨a2, b2⟩ := key k' m'
        rw [b1, b2, code_pair, code_pair] at c
        have h1 := hb _ a1
        have h2 := hb _ a2
        rw [lexLe_iff]
        dsimp only [Function.comp]
        omega
    have rr : Reps K mg (upd F1 b (SetTO P w b L)) ((sortSet ps).map pairD) (L'.map fun k => V.ref k.1) := by
      rw [← e7]
      refine reps_keys fun x hx => ?_
      obtain ⟨k, m, rfl⟩ := List.mem_map.mp hx
      obtain ⟨p, hp, e6, g6⟩ := hL' k m
      rw [keyAt_of g6]
      show Rep K mg _ (.tup [.int p.1, .int p.2]) _
      simp only [Rep, Reps]
      exact ⟨k.1, _, rfl, (by rw [sizeLine_eq]; show 2 ≤ 16777216; decide), g6, _, _, rfl, rfl, _, _, rfl, rfl, rfl⟩
    exact wv_new R2 rr (by rw [List.length_map, sizeLine_eq]; omega) (fun v F' H' R' S' W => q v F' H' R' ((S1.trans S2).trans S') (W.back (S1.trans S2))) p hp
variable {k : Nat} {X : Cx} {a : Expr} {ta : TE} {fa : FE} {pos pos2 p p2 : Pos}
theorem r_sortset (x : XI P w K mg base k X) (hg : Gl X "sorted") (hm : mg "sorted" = none) (hg2 : Gl X "set") (hm2 : mg "set" = none) (ha : DE K mg X a ta fa) (hs : starEach [a] X.env = [(false, eval a X.env)] := by rfl) (hpl : (backTo pos2 (starEach [] X.env)).any (·.1) = false := by rfl)
    (hs2 : starEach [.Call (.Name "set" p2) [a] [] pos2] X.env = [(false, eval (.Call (.Name "set" p2) [a] [] pos2) X.env)] := by rfl) (hpl2 : (backTo pos (starEach [] X.env)).any (·.1) = false := by rfl) :
    DE K mg X (.Call (.Name "sorted" p) [.Call (.Name "set" p2) [a] [] pos2] [] pos) (tCB (rSortedT K P w) (tCons (tCB (rSetOfT K P w) (tCons ta tNil)) tNil)) (fSortSet fa) := by
  have e1 := x.kk
  have e2 := x.ww
  have e3 := x.pp
  subst e1 e2 e3
  exact ⟨pe_callB (cr_sortedT x.cc) hg (by rw [x.mm]; exact hm) (by decide +kernel) (pa_cons (pe_callTy (cr_setOfT x.cc (by have := x.u65; omega)) hg2 (by rw [x.mm]; exact hm2) (by decide +kernel) (pa_cons ha.pe pa_nil hs) (by decide) (by decide) hs hpl) pa_nil hs2) (by decide) (by decide) hs2 hpl2, ev_sortset ha.ev⟩
end
end
end DL
namespace DL
open PySem PySem.Spec PyProof.Rows L2
noncomputable section
/-! ### own dicts whose keys are tuples -/
def keysOf : List D → Option (List Key)
  | [] => some []
  | .int i :: r => (keysOf r).map fun ks => Sum.inl i :: ks
  | .str s :: r => (keysOf r).map fun ks => Sum.inr s :: ks
  | _ => none
def keyT : D → Option (List Key)
  | .tup ds => keysOf ds
  | _ => none
section
variable {κ : Type} [DecidableEq κ]
def valD (kvs : List (κ × D)) (k : κ) : Option D := (kvs.find? fun kv => decide (kv.1 = k)).map (·.2)
def putKD (kvs : List (κ × D)) (k : κ) (v : D) : List (κ × D) :=
  if (kvs.any fun kv => decide (kv.1 = k)) = true then kvs.map (fun kv => if kv.1 = k then (kv.1, v) else kv) else kvs ++ [(k, v)]
theorem valD_pos {p : κ × D} {r : List (κ × D)} {k : κ} (e : p.1 = k) : valD (p :: r) k = some p.2 := by simp [valD, List.find?_cons, e]
theorem valD_neg {p : κ × D} {r : List (κ × D)} {k : κ} (e : ¬ p.1 = k) : valD (p :: r) k = valD r k := by simp [valD, List.find?_cons, e]
theorem valD_any (k : κ) : ∀ kvs : List (κ × D), (kvs.any fun kv => decide (kv.1 = k)) = (valD kvs k).isSome
  | [] => rfl
  | p :: r => by
    rw [List.any_cons]
    by_cases e : p.1 = k
    · simp only [valD_pos e, decide_eq_true e, Bool.true_or, Option.isSome_some]
    · rw [valD_neg e, decide_eq_false e, Bool.false_or]; exact valD_any k r
theorem valD_map (k j : κ) (y : D) : ∀ kvs : List (κ × D), valD (kvs.map fun kv => if kv.1 = k then (kv.1, y) else kv) j = (valD kvs j).map fun x => if j = k then y else x
  | [] => rfl
  | p :: r => by
    have ih := valD_map k j y r
    rw [List.map_cons]
    by_cases h : p.1 = k
    · rw [if_pos h]
      by_cases e : p.1 = j
      · rw [valD_pos (p := (p.1, y)) e, valD_pos e, Option.map_some, if_pos (e.symm.trans h)]
      · rw [valD_neg (p := (p.1, y)) e, valD_neg e, ih]
    · rw [if_neg h]
      by_cases e : p.1 = j
      · rw [valD_pos (p := p) e, valD_pos e, Option.map_some, if_neg (fun z => h (e.trans z))]
      · rw [valD_neg (p := p) e, valD_neg e, ih]
theorem valD_snoc (k j : κ) (y : D) : ∀ kvs : List (κ × D), valD kvs k = none → valD (kvs ++ [(k, y)]) j = if j = k then some y else valD kvs j
  | [], _ => by
    by_cases e : k = j
    · rw [if_pos e.symm]; exact valD_pos (p := (k, y)) e
    · rw [if_neg (fun z => e z.symm)]; exact valD_neg (p := (k, y)) e
  | p :: r, hn => by
    rw [List.cons_append]
    have hk : ¬ p.1 = k := fun z => by rw [valD_pos z] at hn; cases hn
    rw [valD_neg hk] at hn
    have ih := valD_snoc k j y r hn
    by_cases e : p.1 = j
    · rw [valD_pos e, valD_pos e, if_neg (fun z => hk (e.trans z))]
    · rw [valD_neg e, valD_neg e, ih]
theorem valD_put (kvs : List (κ × D)) (k j : κ) (y : D) : valD (putKD kvs k y) j = if j = k then some y else valD kvs j := by
  unfold putKD
  by_cases a : (kvs.any fun kv => decide (kv.1 = k)) = true
  · rw [if_pos a, valD_map]
    rw [valD_any] at a
    by_cases e : j = k
    · obtain ⟨x, hx⟩ := Option.isSome_iff_exists.mp a
      rw [if_pos e, e, hx, Option.map_some, if_pos rfl]
    · rw [if_neg e]
      cases valD kvs j with
      | none => rfl
      | some x => rw [Option.map_some, if_neg e]
  · rw [if_neg a]
    refine valD_snoc k j y kvs ?_
    rw [valD_any] at a
    cases q : valD kvs k with
    | none => rfl
    | some x => rw [q] at a; exact (a rfl).elim
theorem length_putKD (kvs : List (κ × D)) (k : κ) (v : D) : (putKD kvs k v).length = if (valD kvs k).isSome = true then kvs.length else kvs.length + 1 := by
  unfold putKD
  rw [valD_any]
  split
  · rw [List.length_map]
  · rw [List.length_append, List.length_cons, List.length_nil]
end
section
variable {P : Program} {w : World} {K : PySem.W.Frag} {mg : Str → Option Value} {base : Heap}
theorem keysOf_rep {F : Hp} : ∀ {ds : List D} {ks : List Key} {vs : List V}, keysOf ds = some ks → Reps K mg F ds vs → vs = ks.map kV
  | [], ks, vs, e, r => by
    cases e
    simp only [Reps] at r
    exact r
  | d :: ds, ks, vs, e, r => by
    simp only [Reps] at r
    obtain ⟨v, r', rfl, h1, h2⟩ := r
    cases d <;> try (cases e)
    all_goals
      obtain ⟨js, e1, rfl⟩ := map2 e
      simp only [Rep] at h1
      subst h1
      rw [keysOf_rep e1 h2]
      rfl
theorem keyT_rep {F : Hp} {d : D} {ks : List Key} {v : V} (e : keyT d = some ks) (r : Rep K mg F d v) : ∃ b, v = .ref b ∧ F b = some (.tup (ks.map kV)) := by
  cases d <;> try (cases e)
  simp only [Rep] at r
  obtain ⟨a, vs, rfl, _, g, h⟩ := r
  exact ⟨a, rfl, by rw [g, keysOf_rep e h]⟩
theorem repT_val {F : Hp} : ∀ {fs : List (List Key × D)} {vs : List (List Key × V)}, RepT K mg F fs vs → ∀ k, (valD fs k = none → valV vs k = none) ∧ ∀ d, valD fs k = some d → ∃ v, valV vs k = some v ∧ Rep K mg F d v
  | [], _, h, k => by
    simp only [RepT] at h
    subst h
    exact ⟨fun _ => rfl, fun d e => by cases e⟩
  | (x, e) :: fs, _, h, k => by
    simp only [RepT] at h
    obtain ⟨v, r, rfl, h1, h2⟩ := h
    obtain ⟨i1, i2⟩ := repT_val h2 k
    by_cases hx : x = k
    · rw [valD_pos (p := (x, e)) hx, valV_pos (p := (x, v)) hx]
      exact ⟨fun z => (by cases z), fun d z => by cases z; exact ⟨v, rfl, h1⟩⟩
    · rw [valD_neg (p := (x, e)) hx, valV_neg (p := (x, v)) hx]
      exact ⟨i1, i2⟩
theorem repT_map {F : Hp} {k : List Key} {d : D} {u : V} (g : Rep K mg F d u) : ∀ {fs : List (List Key × D)} {vs : List (List Key × V)}, RepT K mg F fs vs → RepT K mg F (fs.map fun kv => if kv.1 = k then (kv.1, d) else kv) (vs.map fun kv => if kv.1 = k then (kv.1, u) else kv)
  | [], _, h => by
    simp only [RepT] at h
    subst h
    rfl
  | (x, e) :: fs, _, h => by
    simp only [RepT] at h
    obtain ⟨v, r, rfl, h1, h2⟩ := h
    rw [List.map_cons, List.map_cons]
    dsimp only
    by_cases hx : x = k
    · rw [if_pos hx, if_pos hx]
      exact ⟨u, _, rfl, g, repT_map g h2⟩
    · rw [if_neg hx, if_neg hx]
      exact ⟨v, _, rfl, h1, repT_map g h2⟩
theorem repT_snoc {F : Hp} {k : List Key} {d : D} {u : V} (g : Rep K mg F d u) : ∀ {fs : List (List Key × D)} {vs : List (List Key × V)}, RepT K mg F fs vs → RepT K mg F (fs ++ [(k, d)]) (vs ++ [(k, u)])
  | [], _, h => by
    simp only [RepT] at h
    subst h
    exact ⟨u, [], rfl, g, rfl⟩
  | (x, e) :: fs, _, h => by
    simp only [RepT] at h
    obtain ⟨v, r, rfl, h1, h2⟩ := h
    exact ⟨v, _, rfl, h1, repT_snoc g h2⟩
theorem repT_put {F : Hp} {k : List Key} {d : D} {u : V} {fs : List (List Key × D)} {vs : List (List Key × V)} (g : Rep K mg F d u) (h : RepT K mg F fs vs) : RepT K mg F (putKD fs k d) (putK vs k u) := by
  have he : (fs.any fun kv => decide (kv.1 = k)) = (vs.any fun kv => decide (kv.1 = k)) := by
    rw [valD_any, valV_any]
    obtain ⟨i1, i2⟩ := repT_val h k
    cases q : valD fs k with
    | none => rw [i1 q]; rfl
    | some d => obtain ⟨v, e, _⟩ := i2 d q; rw [e]; rfl
  unfold putKD putK
  rw [he]
  split
  · exact repT_map g h
  · exact repT_snoc g h
theorem SR.odT {F : Hp} {ρ : En} {σ : L2.St} {H : Hp} {i : Nat} (R : SR K mg F ρ σ H) {kvs : List (List Key × D)} (h : ρ[i]? = some (.odT kvs)) : ∃ p vs, σ[i]? = some (some (.ref p)) ∧ F p = none ∧ H p = some (.dT vs) ∧ RepT K mg F kvs vs ∧ OwA ρ σ i p := by
  obtain ⟨ov, e, p, rfl, f, vs, g, r⟩ := R.sl i _ h
  exact ⟨p, vs, e, f, g, r, ⟨_, h, rfl⟩, e⟩
/-- {} whose keys will be tuples -/
def fNewT : FE := fun ρ => some (.odT [], ρ)
theorem ev_newT : EvW K mg tDNewT fNewT := fun F ρ σ H R s ρ' e Q q => by
  cases e
  intro p hp
  obtain ⟨R', S'⟩ := R.fresh (o := .dT []) hp trivial
  exact q _ F _ R' S' (.of_own (s := .odT []) ⟨R.same.free hp, [], upd_same, rfl⟩ (R.nw hp) (.inr hp))
/-- d[e] of an own dict -/
def fDIx (i : Nat) (fb : FE) : FE := fun ρ => if knownAt ρ i = true then (vl fb ρ).bind fun q => match q.2[i]? with
  | some (.odT kvs) => (keyT q.1).bind fun k => (valD kvs k).map fun d => (.val d, q.2)
  | _ => none
  else none
theorem ev_dIx {tb : TE} {fb : FE} (i : Nat) (hb : EvW K mg tb fb) : EvW K mg (tDGet (tVar i) tb) (fDIx i fb) := fun F ρ σ H R s ρ' e Q q => by
  unfold fDIx at e
  split at e
  case isFalse => cases e
  case isTrue hk =>
    obtain ⟨v, ev⟩ := known_at R hk
    obtain ⟨⟨y, ρ1⟩, e1, e⟩ := bind2 (γ := Unit) e
    dsimp only at e
    split at e
    · rename_i kvs e3
      obtain ⟨k, e4, e⟩ := bind2 (γ := Unit) e
      obtain ⟨d, e5, e⟩ := map2 e
      cases e
      refine ⟨v, ev, ?_⟩
      refine hb.frz F ρ σ H R y ρ' e1 _ fun vy F1 H1 R1 S1 ry => ?_
      obtain ⟨p, us, e6, f, g, r, a⟩ := R1.odT e3
      rw [ev] at e6
      cases e6
      obtain ⟨b, rfl, gb⟩ := keyT_rep e4 ry
      obtain ⟨u, e7, ru⟩ := (repT_val r k).2 d e5
      exact ⟨p, u, rfl, e7 ▸ DGet.t g (R1.same _ _ gb), q u F1 H1 R1 S1 ru⟩
    · cases e
/-- e in d, e not in d -/
def fDIn (neg : Bool) (fa : FE) (i : Nat) : FE := fun ρ => (vl fa ρ).bind fun p => match p.2[i]? with
  | some (.odT kvs) => (keyT p.1).map fun k => (.val (.bl (if neg then !(valD kvs k).isSome else (valD kvs k).isSome)), p.2)
  | _ => none
theorem ev_dIn {neg : Bool} {ta : TE} {fa : FE} (i : Nat) (ha : EvW K mg ta fa) : EvW K mg ((if neg then tDNotIn else tDIn) ta (tVar i)) (fDIn neg fa i) := fun F ρ σ H R s ρ' e Q q => by
  obtain ⟨⟨x, ρ1⟩, e1, e⟩ := bind2 (γ := Unit) e
  dsimp only at e
  split at e
  · rename_i kvs e3
    obtain ⟨k, e4, e⟩ := map2 e
    cases e
    have key : ∀ (vx : V) F1 H1, SR K mg F1 ρ' σ H1 → Stp F ρ σ H F1 ρ' σ H1 → Rep K mg F1 x vx → ∃ p o, σ[i]? = some (some (.ref p)) ∧ DGet H1 p vx o ∧ o.isSome = (valD kvs k).isSome := fun vx F1 H1 R1 S1 rx => by
      obtain ⟨p, us, e6, f, g, r, a⟩ := R1.odT e3
      obtain ⟨b, rfl, gb⟩ := keyT_rep e4 rx
      refine ⟨p, valV us k, e6, DGet.t g (R1.same _ _ gb), ?_⟩
      obtain ⟨i1, i2⟩ := repT_val r k
      cases z : valD kvs k with
      | none => rw [i1 z]; rfl
      | some d => obtain ⟨v, e, _⟩ := i2 d z; rw [e]; rfl
    cases neg with
    | true =>
      refine ha.frz F ρ σ H R x ρ' e1 _ fun vx F1 H1 R1 S1 rx => ?_
      obtain ⟨p, o, e6, g, e7⟩ := key vx F1 H1 R1 S1 rx
      refine ⟨_, e6, p, o, rfl, g, ?_⟩
      rw [e7]
      exact q _ F1 H1 R1 S1 rfl
    | false =>
      refine ha.frz F ρ σ H R x ρ' e1 _ fun vx F1 H1 R1 S1 rx => ?_
      obtain ⟨p, o, e6, g, e7⟩ := key vx F1 H1 R1 S1 rx
      refine ⟨_, e6, p, o, rfl, g, ?_⟩
      rw [e7]
      exact q _ F1 H1 R1 S1 rfl
  · cases e
/-- d[e] = value -/
def sDPutT (i : Nat) (fi fv : FE) : FS := fun ρ => (vl fv ρ).bind fun p => if knownAt p.2 i = true then (vl fi p.2).bind fun q => match q.2[i]? with
  | some (.odT kvs) => (keyT q.1).bind fun k => if fitL (kvs.length + 1) = true then some (.nx (q.2.set i (.odT (putKD kvs k p.1)))) else none
  | _ => none
  else none
variable {M : List Nat}
theorem es_dput {ti tv : TE} {fi fv : FE} (i : Nat) (hi : EvW K mg ti fi) (hv : EvW K mg tv fv) : EvS K mg M (sDPut (tVar i) ti tv) (sDPutT i fi fv) := fun F ρ σ H R o e Dn gd => by
  obtain ⟨⟨x, ρ1⟩, e1, e⟩ := bind2 (γ := Unit) e
  dsimp only at e
  split at e
  case isFalse => cases e
  case isTrue hk =>
    obtain ⟨⟨y, ρ2⟩, e2, e⟩ := bind2 (γ := Unit) e
    dsimp only at e
    split at e
    · rename_i kvs e3
      obtain ⟨k, e4, e⟩ := bind2 (γ := Unit) e
      split at e
      case isFalse => cases e
      rename_i hz
      cases e
      replace hz := fitL_ok hz
      refine hv.frz F ρ σ H R x ρ1 e1 _ fun vx F1 H1 R1 S1 rx => ?_
      obtain ⟨v, ev⟩ := known_at R1 hk
      refine ⟨v, ev, hi.frz F1 ρ1 σ H1 R1 _ ρ2 e2 _ fun vy F2 H2 R2 S2 ry => ?_⟩
      obtain ⟨p, us, e6, f, g, r, a⟩ := R2.odT e3
      rw [ev] at e6
      cases e6
      obtain ⟨b, rfl, gb⟩ := keyT_rep e4 ry
      have hl : us.length < sizeLine := by
        rw [← r.length]
        omega
      obtain ⟨R', S'⟩ := R2.write (s' := .odT (putKD kvs k x)) (o := .dT (putK us k vx)) e3 rfl ev ⟨f, _, upd_same, repT_put (rx.mono S2.sF) r⟩ trivial
      exact ⟨p, _, rfl, DPut.t g (R2.same _ _ gb) hl, gd F2 σ _ R' ((S1.trans S2).trans S') .refl⟩
    · cases e
variable {k : Nat} {X : Cx} {a b e : Expr} {ta tb te : TE} {fa fb fe : FE} {pos : Pos}
theorem XI.u1 (x : XI P w K mg base k X) : X.A.units + 1 < cLine := by have := x.u65; omega
theorem r_newT : DE K mg X (.Dict [] [] pos) tDNewT fNewT := ⟨pe_dnewT, ev_newT⟩
theorem r_dIx (x : XI P w K mg base k X) (i : Nat) {y : Str} {p2 : Pos} (ho : DE K mg X (.Name y p2) (tVar i) (fName i)) (hb : DE K mg X b tb fb) (hs : NoSl b := by intro _ _; rfl) : DE K mg X (.Subscript (.Name y p2) b pos) (tDGet (tVar i) tb) (fDIx i fb) :=
  ⟨pe_dget x.u1 ho.pe hb.pe hs, ev_dIx i hb.ev⟩
theorem r_dInT (x : XI P w K mg base k X) (i : Nat) {y : Str} {p2 : Pos} (ha : DE K mg X a ta fa) (ho : DE K mg X (.Name y p2) (tVar i) (fName i)) : DT K mg X (.Compare a [.In] [.Name y p2] pos) (tTest (tDIn ta (tVar i))) (fB (fDIn false fa i)) :=
  ⟨pt_cmp (pc_din x.u1 ha.pe ho.pe), ev_b (ev_dIn (neg := false) i ha.ev)⟩
theorem r_dNotInT (x : XI P w K mg base k X) (i : Nat) {y : Str} {p2 : Pos} (ha : DE K mg X a ta fa) (ho : DE K mg X (.Name y p2) (tVar i) (fName i)) : DT K mg X (.Compare a [.NotIn] [.Name y p2] pos) (tTest (tDNotIn ta (tVar i))) (fB (fDIn true fa i)) :=
  ⟨pt_cmp (pc_dnotin x.u1 ha.pe ho.pe), ev_b (ev_dIn (neg := true) i ha.ev)⟩
theorem r_dPut (x : XI P w K mg base k X) (i : Nat) {y : Str} {p p2 : Pos} (hi : DE K mg X b tb fb) (hv : DE K mg X e te fe) (ho : DE K mg X (.Name y p) (tVar i) (fName i)) (hs : swapsWith e (some (.Subscript (.Name y p) b p2)) pos.line X.env = pure false := by rfl) :
    DS K mg M X (.Assign [.Subscript (.Name y p) b p2] e pos) (sDPut (tVar i) tb te) (sDPutT i fb fe) :=
  ⟨ps_dput x.u1 ho.pe hi.pe hv.pe hs, es_dput i hi.ev hv.ev⟩
/-- list(range(a, b)) -/
def fListRg (fa fb : FE) : FE := fun ρ => (vl fa ρ).bind fun p => (vl fb p.2).bind fun q => match p.1, q.1 with
  | .int i, .int j => if (fit62 i = true ∧ fit62 j = true) ∧ fitL (j - i).toNat = true then some (.own (upto i j), q.2) else none
  | _, _ => none
theorem reps_rg {F : Hp} (i j : Int) : Reps K mg F (upto i j) (rgV i j) := by
  unfold upto rgV
  generalize (j - i).toNat = n
  suffices h : ∀ ks : List Nat, Reps K mg F (ks.map fun (i' : Nat) => D.int (i + (i' : Int))) (ks.map fun i' => V.int (i + (i' : Nat))) from h _
  intro ks
  induction ks with
  | nil => rfl
  | cons x xs ih => exact ⟨_, _, rfl, rfl, ih⟩
theorem ev_listRg (ha : EvW K mg ta fa) (hb : EvW K mg tb fb) : EvW K mg (tLstRg (tRg2 ta tb)) (fListRg fa fb) := fun F ρ σ H R s ρ' e Q q => by
  obtain ⟨⟨x, ρ1⟩, e1, e⟩ := bind2 (γ := Unit) e
  obtain ⟨⟨y, ρ2⟩, e2, e⟩ := bind2 (γ := Unit) e
  dsimp only at e
  split at e
  · rename_i i j e3
    split at e
    case isFalse => cases e
    rename_i hc
    cases e
    obtain ⟨⟨h1, h2⟩, h3⟩ := hc
    have h1 := fit62_ok h1
    have h2 := fit62_ok h2
    have h3 := fitL_ok h3
    refine ha.frz F ρ σ H R _ ρ1 e1 _ fun vx F1 H1 R1 S1 rx => ?_
    refine hb.frz F1 ρ1 σ H1 R1 _ ρ' e2 _ fun vy F2 H2 R2 S2 ry => ?_
    simp only [Rep] at rx ry
    subst rx ry
    refine ⟨i, j, rfl, rfl, ⟨?_, ?_, ?_, ?_, ?_⟩, fun p hp => ?_⟩
    · exact h1.1
    · exact h1.2
    · exact h2.1
    · exact h2.2
    · rw [sizeLine_eq] at h3; omega
    · exact wv_new R2 (reps_rg i j) (by rw [rgV_length]; exact h3) (fun v F' H' R' S' W => q v F' H' R' ((S1.trans S2).trans S') (W.back (S1.trans S2))) p hp
  · cases e
theorem r_listRg (x : XI P w K mg base k X) {p p2 pos2 : Pos} (hg : Gl X "list") (hm : mg "list" = none) (hg2 : Gl X "range") (hm2 : mg "range" = none) (ha : DE K mg X a ta fa) (hb : DE K mg X b tb fb)
    (na : starEach [a, b] X.env = (false, eval a X.env) :: starEach [b] X.env := by rfl) (nb : starEach [b] X.env = (false, eval b X.env) :: starEach [] X.env := by rfl) (hp : (backTo pos2 (starEach [b] X.env)).any (·.1) = false := by rfl)
    (nc : starEach [.Call (.Name "range" p2) [a, b] [] pos2] X.env = (false, eval (.Call (.Name "range" p2) [a, b] [] pos2) X.env) :: starEach [] X.env := by rfl) :
    DE K mg X (.Call (.Name "list" p) [.Call (.Name "range" p2) [a, b] [] pos2] [] pos) (tLstRg (tRg2 ta tb)) (fListRg fa fb) :=
  ⟨pe_listRg x.cc hg (by rw [x.mm]; exact hm) (prg_2 hg2 (by rw [x.mm]; exact hm2) ha.pe hb.pe na nb hp) nc, ev_listRg ha.ev hb.ev⟩
end
end
end DL
namespace DL
open PySem PySem.Spec PyProof.Rows L2
noncomputable section
/-! ### a list of rows that grow in place: a region in which slot x holds it -/
def noOwn (ρ : En) : Bool := ρ.all fun s => !s.isOwn
theorem noOwn_at {ρ : En} (h : noOwn ρ = true) {i : Nat} {s : Sl} (e : ρ[i]? = some s) : s.isOwn = false := by
  have := List.all_eq_true.mp h s (List.mem_of_getElem? e)
  simpa using this
theorem noOwn_Ow {ρ : En} {σ : L2.St} (h : noOwn ρ = true) (p : Addr) : ¬Ow ρ σ p := fun ⟨i, ⟨s, e, o⟩, _⟩ => by
  rw [noOwn_at h e] at o
  cases o
theorem noOwn_set {ρ : En} (h : noOwn ρ = true) (i : Nat) {s : Sl} (o : s.isOwn = false) : noOwn (ρ.set i s) = true := by
  refine List.all_eq_true.mpr fun u hu => ?_
  rcases List.mem_or_eq_of_mem_set hu with m | e
  · exact List.all_eq_true.mp h u m
  · subst e
    rw [o]
    rfl
section
variable (K : PySem.W.Frag) (mg : Str → Option Value)
def RowsR (F H : Hp) : List Addr → List (List D) → Prop
  | [], [] => True
  | q :: qs, d :: dss => (F q = none ∧ ∃ vs, H q = some (.lst vs) ∧ Reps K mg F d vs) ∧ RowsR F H qs dss
  | _, _ => False
/-- from (F0, ρ0, σ0, H0) on, p being its list -/
structure D2 (x : Nat) (F0 : Hp) (ρ0 : En) (σ0 : L2.St) (H0 : Hp) (p : Addr) (F : Hp) (ρ : En) (σ : L2.St) (H : Hp) (qs : List Addr) (dss : List (List D)) : Prop where
  at_ : ρ[x]? = some (.own (dss.map D.lst))
  sr : SR K mg F (ρ.set x .no) σ H
  no : noOwn (ρ.set x .no) = true
  slot : σ[x]? = some (some (.ref p))
  top : H p = some (.lst (qs.map V.ref))
  topF : F p = none
  own : Ow ρ0 σ0 p
  own1 : ∀ q, Ow ρ0 σ0 q → q = p
  np : p ∉ qs
  nd : qs.Nodup
  rows : RowsR K mg F H qs dss
  new : ∀ q ∈ qs, H0 q = none
  sF : Same F0 F
  fr : ∀ q o, H0 q = some o → ¬Ow ρ0 σ0 q → H q = some o
  un : ∀ q o, H0 q = some o → F0 q = none → ¬Ow ρ0 σ0 q → F q = none
structure EvS2 (M : List Nat) (x : Nat) (t : TS) (f : FS) : Prop where
  nx : ∀ ρ o, f ρ = some o → ∃ ρ', o = .nx ρ'
  run : ∀ F0 ρ0 σ0 H0 p F ρ σ H qs dss, D2 K mg x F0 ρ0 σ0 H0 p F ρ σ H qs dss → ∀ ρ', f ρ = some (.nx ρ') → ∀ Dn : Ends,
    (∀ F' σ' H' qs' dss', D2 K mg x F0 ρ0 σ0 H0 p F' ρ' σ' H' qs' dss' → Same F F' → Kp M σ σ' → Dn.nx σ' H') → t Dn σ H
end
variable {P : Program} {w : World} {K : PySem.W.Frag} {mg : Str → Option Value} {base : Heap} {M : List Nat}
theorem RowsR.length {F H : Hp} : ∀ {qs : List Addr} {dss : List (List D)}, RowsR K mg F H qs dss → qs.length = dss.length
  | [], [], _ => rfl
  | q :: qs, d :: dss, h => by rw [List.length_cons, List.length_cons, h.2.length]
  | [], _ :: _, h => h.elim
  | _ :: _, [], h => h.elim
theorem RowsR.get {F H : Hp} : ∀ {qs : List Addr} {dss : List (List D)}, RowsR K mg F H qs dss → ∀ {j : Nat} {d : List D}, dss[j]? = some d → ∃ q vs, qs[j]? = some q ∧ F q = none ∧ H q = some (.lst vs) ∧ Reps K mg F d vs
  | [], [], _, j, d, e => by simp at e
  | q :: qs, d :: dss, h, 0, d', e => by
    simp at e
    subst e
    obtain ⟨⟨a, vs, b, c⟩, _⟩ := h
    exact ⟨q, vs, rfl, a, b, c⟩
  | q :: qs, d :: dss, h, j + 1, d', e => by
    obtain ⟨q', vs, a, b⟩ := h.2.get (j := j) (by simpa using e)
    exact ⟨q', vs, by simpa using a, b⟩
  | [], _ :: _, h, _, _, _ => h.elim
  | _ :: _, [], h, _, _, _ => h.elim
theorem RowsR.ish {F H : Hp} : ∀ {qs : List Addr} {dss : List (List D)}, RowsR K mg F H qs dss → ∀ q ∈ qs, F q = none ∧ ∃ vs, H q = some (.lst vs)
  | [], [], _, q, hq => by cases hq
  | q :: qs, d :: dss, h, q', hq => by
    rcases List.mem_cons.mp hq with rfl | hq
    · obtain ⟨⟨a, vs, b, c⟩, _⟩ := h
      exact ⟨a, vs, b⟩
    · exact h.2.ish q' hq
  | [], _ :: _, h, _, _ => h.elim
  | _ :: _, [], h, _, _ => h.elim
theorem RowsR.move {F F' H H' : Hp} (m : Same F F') : ∀ {qs : List Addr} {dss : List (List D)}, RowsR K mg F H qs dss → (∀ q ∈ qs, ∀ o, H q = some o → H' q = some o ∧ F' q = none) → RowsR K mg F' H' qs dss
  | [], [], _, _ => trivial
  | q :: qs, d :: dss, h, hm => by
    obtain ⟨⟨a, vs, b, c⟩, h2⟩ := h
    have := hm q List.mem_cons_self _ b
    exact ⟨⟨this.2, vs, this.1, c.mono m⟩, h2.move m fun q hq => hm q (List.mem_cons_of_mem _ hq)⟩
  | [], _ :: _, h, _ => h.elim
  | _ :: _, [], h, _ => h.elim
theorem RowsR.snoc {F H : Hp} {q : Addr} {d : List D} {vs : List V} (f : F q = none) (g : H q = some (.lst vs)) (r : Reps K mg F d vs) : ∀ {qs : List Addr} {dss : List (List D)}, RowsR K mg F H qs dss → RowsR K mg F H (qs ++ [q]) (dss ++ [d])
  | [], [], _ => ⟨⟨f, vs, g, r⟩, trivial⟩
  | q :: qs, d :: dss, h => ⟨h.1, RowsR.snoc f g r h.2⟩
  | [], _ :: _, h => h.elim
  | _ :: _, [], h => h.elim
theorem RowsR.set {F H : Hp} {o : List V} {d : List D} (r : Reps K mg F d o) : ∀ {qs : List Addr} {dss : List (List D)} {j : Nat} {q : Addr}, RowsR K mg F H qs dss → qs.Nodup → qs[j]? = some q → RowsR K mg F (upd H q (.lst o)) qs (dss.set j d)
  | [], [], j, q, _, _, e => by simp at e
  | q :: qs, d' :: dss, 0, q', h, nd, e => by
    simp at e
    subst e
    obtain ⟨nq, nd⟩ := List.nodup_cons.mp nd
    refine ⟨⟨h.1.1, o, upd_same, r⟩, h.2.move (Same.refl _) fun q2 hq o2 e2 => ?_⟩
    have hne : q2 ≠ q := fun z => nq (z ▸ hq)
    rw [upd_ne hne]
    exact ⟨e2, (h.2.ish q2 hq).1⟩
  | q :: qs, d' :: dss, j + 1, q', h, nd, e => by
    obtain ⟨nq, nd⟩ := List.nodup_cons.mp nd
    have e' : qs[j]? = .some q' := by simpa using e
    have hne : q ≠ q' := fun z => nq (z ▸ List.mem_of_getElem? e')
    obtain ⟨⟨a, vs, b, c⟩, h2⟩ := h
    exact ⟨⟨a, vs, by rw [upd_ne hne]; exact b, c⟩, RowsR.set r h2 nd e'⟩
  | [], _ :: _, _, _, h, _, _ => h.elim
  | _ :: _, [], _, _, h, _, _ => h.elim
/-- frozen rows are data -/
theorem RowsR.reps {F F' H : Hp} (m : Same F F') : ∀ {qs : List Addr} {dss : List (List D)}, RowsR K mg F H qs dss → (∀ q ∈ qs, F' q = H q) → Reps K mg F' (dss.map D.lst) (qs.map V.ref)
  | [], [], _, _ => rfl
  | q :: qs, d :: dss, h, hm => by
    obtain ⟨⟨a, vs, b, c⟩, h2⟩ := h
    refine ⟨.ref q, _, rfl, ?_, h2.reps m fun q hq => hm q (List.mem_cons_of_mem _ hq)⟩
    simp only [Rep]
    exact ⟨q, vs, rfl, (hm q List.mem_cons_self).trans b, c.mono m⟩
  | [], _ :: _, h, _ => h.elim
  | _ :: _, [], h, _ => h.elim
section
variable {x : Nat} {F0 : Hp} {ρ0 : En} {σ0 : L2.St} {H0 : Hp} {p : Addr} {F : Hp} {ρ : En} {σ : L2.St} {H : Hp} {qs : List Addr} {dss : List (List D)}
theorem D2.lt (h : D2 K mg x F0 ρ0 σ0 H0 p F ρ σ H qs dss) : x < ρ.length := (List.getElem?_eq_some_iff.mp h.at_).1
/-- a step that leaves slot x alone -/
theorem D2.step (h : D2 K mg x F0 ρ0 σ0 H0 p F ρ σ H qs dss) {F1 : Hp} {ρ1 : En} {H1 : Hp} (R : SR K mg F1 ρ1 σ H1) (S : Stp F (ρ.set x .no) σ H F1 ρ1 σ H1) (n : noOwn ρ1 = true) : D2 K mg x F0 ρ0 σ0 H0 p F1 (ρ1.set x (.own (dss.map D.lst))) σ H1 qs dss := by
  have no : ∀ q, ¬Ow (ρ.set x .no) σ q := noOwn_Ow h.no
  have hl : x < ρ1.length := by
    have h1 := R.len
    have h2 := h.sr.len
    rw [List.length_set] at h2
    have := h.lt
    omega
  refine ⟨?_, ?_, ?_, h.slot, S.fr _ _ h.top (no _), S.un _ _ h.top h.topF (no _), h.own, h.own1, h.np, h.nd, ?_, h.new, h.sF.trans S.sF, fun q o e n => S.fr _ _ (h.fr q o e n) (no _), fun q o e f n => S.un _ _ (h.fr q o e n) (h.un q o e f n) (no _)⟩
  · rw [List.getElem?_set_self hl]
  · rw [List.set_set]
    exact R.know rfl fun _ _ => trivial
  · rw [List.set_set]
    exact noOwn_set n x rfl
  · exact h.rows.move S.sF fun q hq o e => ⟨S.fr _ _ e (no _), S.un _ _ e (h.rows.ish q hq).1 (no _)⟩
/-- the rows are fixed for a while -/
def frzF (F H : Hp) (qs : List Addr) : Hp := fun a => if a ∈ qs then H a else F a
theorem frzF_same (hF : ∀ q ∈ qs, F q = none) : Same F (frzF F H qs) := fun a o e => by
  unfold frzF
  split
  · rename_i m
    rw [hF a m] at e
    cases e
  · exact e
theorem frzF_le (m : Same F H) : Same (frzF F H qs) H := fun a o e => by
  unfold frzF at e
  split at e
  · exact e
  · exact m a o e
theorem SR.refix {ρ1 : En} {F1 H1 : Hp} (R : SR K mg F ρ1 σ H) (n : noOwn ρ1 = true) (m : Same F F1) (m2 : Same F1 H1) (z : Siz H1) : SR K mg F1 ρ1 σ H1 :=
  R.grow m m2 z fun q w => absurd w (noOwn_Ow n q)
theorem D2.frozen (h : D2 K mg x F0 ρ0 σ0 H0 p F ρ σ H qs dss) : SR K mg (frzF F H (p :: qs)) (ρ.set x (.val (.lst (dss.map D.lst)))) σ H ∧ Same F (frzF F H (p :: qs)) := by
  have hm : Same F (frzF F H (p :: qs)) := frzF_same fun q hq => by
    rcases List.mem_cons.mp hq with rfl | hq
    · exact h.topF
    · exact (h.rows.ish q hq).1
  refine ⟨?_, hm⟩
  have R1 := h.sr.refix h.no hm (frzF_le h.sr.same) h.sr.siz
  have := R1.know (i := x) (s := .val (.lst (dss.map D.lst))) rfl fun ov e => by
    rw [h.slot] at e
    cases e
    refine ⟨_, rfl, ?_⟩
    simp only [Rep]
    refine ⟨p, qs.map V.ref, rfl, ?_, h.rows.reps hm fun q hq => ?_⟩
    · unfold frzF
      rw [if_pos List.mem_cons_self]
      exact h.top
    · unfold frzF
      rw [if_pos (List.mem_cons_of_mem _ hq)]
  rw [List.set_set] at this
  exact this
/-- the region ends -/
theorem D2.leave (h : D2 K mg x F0 ρ0 σ0 H0 p F ρ σ H qs dss) : ∃ F', SR K mg F' ρ σ H ∧ Stp F0 ρ0 σ0 H0 F' ρ σ H := by
  have hm : Same F (frzF F H qs) := frzF_same fun q hq => (h.rows.ish q hq).1
  have R1 := h.sr.refix h.no hm (frzF_le h.sr.same) h.sr.siz
  have hp : frzF F H qs p = none := by
    unfold frzF
    rw [if_neg h.np]
    exact h.topF
  have ownx : ∀ {i : Nat} {q : Addr}, OwA ρ σ i q → i = x ∧ q = p := fun {i q} ⟨⟨s, e, o⟩, e2⟩ => by
    by_cases hi : i = x
    · subst hi
      rw [h.slot] at e2
      cases e2
      exact ⟨rfl, rfl⟩
    · have := noOwn_at h.no (i := i) (s := s) (by rw [List.getElem?_set_ne (fun z => hi z.symm)]; exact e)
      rw [this] at o
      cases o
  refine ⟨frzF F H qs, ⟨R1.same, R1.siz, ?_, fun i s e => ?_, fun i j q a b => (ownx a).1.trans (ownx b).1.symm⟩, ⟨h.sF.trans hm, h.fr, fun q o e f n => ?_, fun q ⟨i, w⟩ => .inl ?_⟩⟩
  · have := R1.len
    rw [List.length_set] at this
    exact this
  · by_cases hi : i = x
    · subst hi
      rw [h.at_] at e
      cases e
      refine ⟨_, h.slot, p, rfl, hp, qs.map V.ref, h.top, h.rows.reps hm fun q hq => ?_⟩
      unfold frzF
      rw [if_pos hq]
    · exact R1.sl i s (by rw [List.getElem?_set_ne (fun z => hi z.symm)]; exact e)
  · unfold frzF
    rw [if_neg fun m => by rw [h.new q m] at e; cases e]
    exact h.un q o e f n
  · rw [(ownx w).2]
    exact h.own
end
/-- a region -/
def sDeep (x : Nat) (f : FS) : FS := fun ρ => match ρ[x]? with
  | some (.own []) => if noOwn (ρ.set x .no) = true then f ρ else none
  | _ => none
theorem es_deep {x : Nat} {t : TS} {f : FS} (h : EvS2 K mg M x t f) : EvS K mg M t (sDeep x f) := fun F ρ σ H R o e Dn gd => by
  unfold sDeep at e
  split at e
  · rename_i ex
    split at e
    case isFalse => cases e
    rename_i hn
    obtain ⟨ρ', rfl⟩ := h.nx ρ o e
    obtain ⟨p, vs, e2, f0, g, r, a⟩ := R.own ex
    simp only [Reps] at r
    subst r
    refine h.run F ρ σ H p F ρ σ H [] [] ⟨ex, R.know rfl fun _ _ => trivial, hn, e2, g, f0, ⟨x, a⟩, (fun q ⟨i, ⟨s, e3, o⟩, e4⟩ => by
      by_cases hi : i = x
      · subst hi
        rw [e2] at e4
        cases e4
        rfl
      · rw [noOwn_at hn (i := i) (s := s) (by rw [List.getElem?_set_ne (fun z => hi z.symm)]; exact e3)] at o
        cases o), (by simp), List.nodup_nil, trivial, (fun q hq => by cases hq), Same.refl _, fun q o e _ => e, fun q o _ f _ => f⟩ ρ' e Dn fun F' σ' H' qs dss d _ k => ?_
    obtain ⟨F2, R2, S2⟩ := d.leave
    exact gd F2 σ' H' R2 S2 k
  · cases e
theorem es2_seq {x : Nat} {t u : TS} {f g : FS} (h : EvS2 K mg M x t f) (h2 : EvS2 K mg M x u g) : EvS2 K mg M x (tSeq t u) (sSeq f g) where
  nx ρ o e := by
    unfold sSeq at e
    cases hf : f ρ with
    | none => rw [hf] at e; cases e
    | some o1 =>
      obtain ⟨ρ1, rfl⟩ := h.nx ρ o1 hf
      rw [hf] at e
      exact h2.nx ρ1 o e
  run F0 ρ0 σ0 H0 p F ρ σ H qs dss d ρ' e Dn q := by
    unfold sSeq at e
    cases hf : f ρ with
    | none => rw [hf] at e; cases e
    | some o1 =>
      obtain ⟨ρ1, rfl⟩ := h.nx ρ o1 hf
      rw [hf] at e
      exact h.run F0 ρ0 σ0 H0 p F ρ σ H qs dss d ρ1 hf _ fun F1 σ1 H1 qs1 dss1 d1 m1 k1 => h2.run F0 ρ0 σ0 H0 p F1 ρ1 σ1 H1 qs1 dss1 d1 ρ' e Dn fun F2 σ2 H2 qs2 dss2 d2 m2 k2 => q F2 σ2 H2 qs2 dss2 d2 (m1.trans m2) (k1.trans k2)
/-- for a name, over what does not ask slot x -/
def sFor2 (x i : Nat) (src : FSr) (fb : FS) : FS := fun ρ => match ρ[x]? with
  | some (.own ds) => (src (ρ.set x .no)).bind fun p => if noOwn p.2 = true then forD (tgName i) fb p.1 (p.2.set x (.own ds)) else none
  | _ => none
theorem forD_nx {fg : FG} {fb : FS} (h : ∀ ρ o, fb ρ = some o → ∃ ρ', o = .nx ρ') : ∀ (ds : List D) (ρ : En) (o : Ou), forD fg fb ds ρ = some o → ∃ ρ', o = .nx ρ'
  | [], ρ, o, e => by cases e; exact ⟨_, rfl⟩
  | d :: ds, ρ, o, e => by
    simp only [forD] at e
    obtain ⟨ρ1, _, e⟩ := bind2 (γ := Unit) e
    obtain ⟨o1, e1, e⟩ := bind2 (γ := Unit) e
    obtain ⟨ρ2, rfl⟩ := h _ _ e1
    exact forD_nx h ds ρ2 o e
theorem es2_for {x i : Nat} {wi : TI} {src : FSr} {tb : TS} {fb : FS} (hx : x ≠ i) (hM : i ∉ M) (hi : EvI K mg wi src) (hb : EvS2 K mg M x tb fb) : EvS2 K mg M x (tFor wi (gName i) tb) (sFor2 x i src fb) where
  nx ρ o e := by
    unfold sFor2 at e
    split at e
    · obtain ⟨p, _, e⟩ := bind2 (γ := Unit) e
      split at e
      · exact forD_nx hb.nx _ _ _ e
      · cases e
    · cases e
  run F0 ρ0 σ0 H0 p F ρ σ H qs dss d ρ' e Dn gd := by
    unfold sFor2 at e
    rw [d.at_] at e
    obtain ⟨⟨ds, ρ1⟩, e1, e⟩ := bind2 (γ := Unit) e
    dsimp only at e
    split at e
    case isFalse => cases e
    rename_i hn
    refine hi F _ σ H d.sr ds ρ1 e1 _ fun J F1 H1 R1 S1 ok => ?_
    obtain ⟨⟨G, Y, w, hG, hY⟩, _⟩ := ok
    have d1 := d.step R1 S1 hn
    refine for_it w (fun j σ' H' => ∃ F' ρ2 qs' dss', D2 K mg x F0 ρ0 σ0 H0 p F' ρ2 σ' H' qs' dss' ∧ Same F1 F' ∧ forD (tgName i) fb (ds.drop j) ρ2 = some (.nx ρ') ∧ Kp M σ σ') ⟨F1, _, qs, dss, d1, Same.refl _, e, .refl⟩ (fun j σ' H' _ ⟨F', ρ2, qs', dss', d', m, _⟩ => hG F' _ σ' H' d'.sr m) ?_ ?_
    · rintro j v σ' H' H2 hlt ⟨F', ρ2, qs', dss', d', m, e', k'⟩ y
      obtain ⟨F2, z, R2, S2, ed, rd⟩ := hY j F' _ σ' H' v H2 d'.sr m hlt y
      have edr : ds.drop j = z :: ds.drop (j + 1) := by
        rw [List.drop_eq_getElem_cons hlt]
        rw [List.getElem?_eq_getElem hlt] at ed
        rw [Option.some.inj ed]
      rw [edr] at e'
      simp only [forD] at e'
      obtain ⟨ρ3, e3, e'⟩ := bind2 (γ := Unit) e'
      obtain ⟨o2, e4, e'⟩ := bind2 (γ := Unit) e'
      cases e3
      obtain ⟨ρ4, rfl⟩ := hb.nx _ _ e4
      have d2 := d'.step R2 S2 d'.no
      rw [List.set_set] at d2
      have hself : ρ2.set x (.own (dss'.map D.lst)) = ρ2 := by
        apply List.ext_getElem?
        intro k
        by_cases hk : x = k
        · subst hk
          rw [List.getElem?_set_self d'.lt, d'.at_]
        · rw [List.getElem?_set_ne hk]
      rw [hself] at d2
      have d3 : D2 K mg x F0 ρ0 σ0 H0 p F2 (ρ2.set i (.val z)) (σ'.set i (some v)) H2 qs' dss' := by
        have hcm : (ρ2.set i (.val z)).set x .no = (ρ2.set x .no).set i (.val z) := List.set_comm _ _ (fun z => hx z.symm)
        refine ⟨?_, ?_, ?_, ?_, d2.top, d2.topF, d2.own, d2.own1, d2.np, d2.nd, d2.rows, d2.new, d2.sF, d2.fr, d2.un⟩
        · rw [List.getElem?_set_ne (fun z => hx z.symm)]
          exact d2.at_
        · rw [hcm]
          exact d2.sr.put ⟨v, rfl, rd⟩ fun p o => nomatch o
        · rw [hcm]
          exact noOwn_set d2.no i rfl
        · rw [List.getElem?_set_ne (fun z => hx z.symm)]
          exact d2.slot
      show tb _ (σ'.set i (some v)) H2
      refine hb.run F0 ρ0 σ0 H0 p F2 _ _ H2 qs' dss' d3 ρ4 e4 _ fun F4 σ4 H4 qs4 dss4 d4 m4 k4 => ?_
      exact ⟨F4, ρ4, qs4, dss4, d4, (m.trans S2.sF).trans m4, e', (k'.trans (Kp.set hM)).trans k4⟩
    · rintro σ' H' ⟨F', ρ2, qs', dss', d', m, e', k'⟩
      rw [List.drop_length] at e'
      cases e'
      exact gd F' σ' H' qs' dss' d' (S1.sF.trans m) k'
/-- x.append([..]) -/
def sApp2 (x : Nat) (fe : FE) : FS := fun ρ => match ρ[x]? with
  | some (.own ds) => (fe (ρ.set x .no)).bind fun p => match p.1 with
    | .own row => if noOwn p.2 = true ∧ fitL (ds.length + 1) = true then some (.nx (p.2.set x (.own (ds ++ [.lst row])))) else none
    | _ => none
  | _ => none
theorem es2_app {x : Nat} {te : TE} {fe : FE} (he : EvW K mg te fe) : EvS2 K mg M x (tDrop (tBM K "list" rAppend (tVar x) (tCons te tNil))) (sApp2 x fe) where
  nx ρ o e := by
    unfold sApp2 at e
    split at e
    · obtain ⟨p, _, e⟩ := bind2 (γ := Unit) e
      split at e
      · split at e
        · cases e; exact ⟨_, rfl⟩
        · cases e
      · cases e
    · cases e
  run F0 ρ0 σ0 H0 p F ρ σ H qs dss d ρ' e Dn gd := by
    unfold sApp2 at e
    rw [d.at_] at e
    obtain ⟨⟨s, ρ1⟩, e1, e⟩ := bind2 (γ := Unit) e
    dsimp only at e
    split at e
    case h_2 => cases e
    rename_i row
    split at e
    case isFalse => cases e
    rename_i hc
    obtain ⟨hn, hz⟩ := hc
    cases e
    replace hz := fitL_ok hz
    rw [List.length_map] at hz
    have hlen := d.rows.length
    refine ⟨.ref p, d.slot, .inl ⟨rfl, _, SqL.of d.top⟩, he F _ σ H d.sr _ ρ1 e1 _ fun v F1 H1 R1 S1 W => ?_⟩
    obtain ⟨q, rfl, ⟨f, vs, g, r⟩, nw, old⟩ := W
    have hq : H q = none := old.resolve_left (noOwn_Ow d.no q)
    have d1 := d.step R1 S1 hn
    have hl : x < ρ1.length := by
      have := d1.lt
      rw [List.length_set] at this
      exact this
    have hq0 : H0 q = none := by
      cases z : H0 q with
      | none => rfl
      | some o =>
        by_cases w : Ow ρ0 σ0 q
        · rw [d.own1 q w, d.top] at hq
          cases hq
        · rw [d.fr q o z w] at hq
          cases hq
    have hqp : q ≠ p := fun z => by
      rw [z, d.top] at hq
      cases hq
    have hqs : q ∉ qs := fun m => by
      obtain ⟨_, vs, z⟩ := d.rows.ish q m
      rw [z] at hq
      cases hq
    refine ⟨p, qs.map V.ref, .ref q, rfl, rfl, d1.top, by rw [List.length_map, hlen]; omega, ?_⟩
    have hm : ∀ a, a ≠ p → upd H1 p (.lst (qs.map V.ref ++ [V.ref q])) a = H1 a := fun a h => upd_ne h
    refine gd F1 σ _ (qs ++ [q]) (dss ++ [row]) ⟨?_, ?_, ?_, d1.slot, ?_, d1.topF, d1.own, d1.own1, ?_, ?_, ?_, ?_, d1.sF, fun a o e n => ?_, d1.un⟩ S1.sF .refl
    · rw [List.getElem?_set_self hl, List.map_append]
      rfl
    · have R2 := d1.sr
      rw [List.set_set] at R2 ⊢
      refine R2.refix (by have := d1.no; rw [List.set_set] at this; exact this) (Same.refl _) (fun a o e => ?_) (R2.siz.upd (by show (qs.map V.ref ++ [V.ref q]).length ≤ sizeLine; rw [List.length_append, List.length_map, List.length_singleton, hlen]; omega))
      have hne : a ≠ p := fun z => by
        rw [z, d1.topF] at e
        cases e
      rw [hm a hne]
      exact R2.same a o e
    · have := d1.no
      rw [List.set_set] at this ⊢
      exact this
    · rw [upd_same, List.map_append]
      rfl
    · rw [List.mem_append, List.mem_singleton, not_or]
      exact ⟨d.np, fun z => hqp z.symm⟩
    · rw [List.nodup_append]
      exact ⟨d.nd, List.nodup_cons.mpr ⟨by simp, List.nodup_nil⟩, fun a ha b hb z => by
        rw [List.mem_singleton] at hb
        exact hqs (hb ▸ z ▸ ha)⟩
    · refine RowsR.snoc f (vs := vs) ?_ r (d1.rows.move (Same.refl _) fun a ha o e => ?_)
      · rw [hm q hqp]
        exact g
      · have hne : a ≠ p := fun z => d.np (z ▸ ha)
        rw [hm a hne]
        exact ⟨e, (d1.rows.ish a ha).1⟩
    · intro a ha
      rcases List.mem_append.mp ha with ha | ha
      · exact d.new a ha
      · rw [List.mem_singleton] at ha
        rw [ha]
        exact hq0
    · have hne : a ≠ p := fun z => n (z ▸ d.own)
      rw [hm a hne]
      exact d1.fr a o e n
/-- x[i].append(e), e an int; slot x may be asked within e -/
def sAppIx2 (x : Nat) (fi fe : FE) : FS := fun ρ => match ρ[x]? with
  | some (.own ds) => (vl fi (ρ.set x .no)).bind fun p => match p.1 with
    | .int k => if noOwn p.2 = true then (vl fe (p.2.set x (.val (.lst ds)))).bind fun q => match q.1 with
      | .int v => (ixN ds.length k).bind fun j => match ds[j]? with
        | some (.lst row) => if fitL (row.length + 1) = true then some (.nx (p.2.set x (.own (ds.set j (.lst (row ++ [.int v])))))) else none
        | _ => none
      | _ => none
      else none
    | _ => none
  | _ => none
theorem es2_appIx {x : Nat} {ti te : TE} {fi fe : FE} (hi : EvW K mg ti fi) (he : EvW K mg te fe) : EvS2 K mg M x (tDrop (tBM K "list" rAppend (tOp (rIx K) (tVar x) ti) (tCons te tNil))) (sAppIx2 x fi fe) where
  nx ρ o e := by
    unfold sAppIx2 at e
    split at e
    · obtain ⟨p, _, e⟩ := bind2 (γ := Unit) e
      split at e
      · split at e
        · obtain ⟨q, _, e⟩ := bind2 (γ := Unit) e
          split at e
          · obtain ⟨j, _, e⟩ := bind2 (γ := Unit) e
            split at e
            · split at e
              · cases e; exact ⟨_, rfl⟩
              · cases e
            · cases e
          · cases e
        · cases e
      · cases e
    · cases e
  run F0 ρ0 σ0 H0 p F ρ σ H qs dss d ρ' e Dn gd := by
    unfold sAppIx2 at e
    rw [d.at_] at e
    obtain ⟨⟨y, ρ1⟩, e1, e⟩ := bind2 (γ := Unit) e
    dsimp only at e
    split at e
    case h_2 => cases e
    rename_i k
    split at e
    case isFalse => cases e
    rename_i hn
    obtain ⟨⟨z, ρ2⟩, e2, e⟩ := bind2 (γ := Unit) e
    dsimp only at e
    split at e
    case h_2 => cases e
    rename_i v
    obtain ⟨j, ej, e⟩ := bind2 (γ := Unit) e
    split at e
    case h_2 => cases e
    rename_i row er
    split at e
    case isFalse => cases e
    rename_i hz
    cases e
    replace hz := fitL_ok hz
    have er' : dss[j]? = some row := by
      rw [List.getElem?_map] at er
      obtain ⟨r, a, b⟩ := Option.map_eq_some_iff.mp er
      cases b
      exact a
    refine ⟨.ref p, d.slot, hi.frz F _ σ H d.sr _ ρ1 e1 _ fun vy F1 H1 R1 S1 ry => ?_⟩
    simp only [Rep] at ry
    subst ry
    have d1 := d.step R1 S1 hn
    obtain ⟨q, vs, eq, fq, gq, rq⟩ := d1.rows.get er'
    have hlen := d.rows.length
    have hixr : L2.atI (qs.map V.ref) k = some (.ref q) := by
      unfold L2.atI
      rw [List.length_map] at ej ⊢
      rw [hlen, ej]
      show (qs.map V.ref)[j]? = _
      rw [List.getElem?_map, eq]
      rfl
    refine .inl ⟨p, qs.map V.ref, k, .ref q, rfl, rfl, SqL.of d1.top, hixr, ?_⟩
    refine ⟨.inl ⟨rfl, vs, SqL.of gq⟩, ?_⟩
    obtain ⟨R2, m2⟩ := d1.frozen
    rw [List.set_set] at R2
    refine he.frz _ _ σ H1 R2 _ ρ2 e2 _ fun vz F3 H3 R3 S3 rz => ?_
    simp only [Rep] at rz
    subst rz
    have hF3 : ∀ a, a ∈ p :: qs → H3 a = H1 a := fun a ha => by
      have h1 : ∃ o, H1 a = some o := by
        rcases List.mem_cons.mp ha with rfl | ha
        · exact ⟨_, d1.top⟩
        · obtain ⟨_, vs, g⟩ := d1.rows.ish a ha
          exact ⟨_, g⟩
      obtain ⟨o, ho⟩ := h1
      rw [ho]
      refine R3.same _ _ (S3.sF _ _ ?_)
      unfold frzF
      rw [if_pos ha]
      exact ho
    have hno : noOwn (ρ1.set x (.val (.lst (dss.map D.lst)))) = true := noOwn_set hn x rfl
    have hqm : q ∈ qs := List.mem_of_getElem? eq
    have hqp : q ≠ p := fun z => d.np (z ▸ hqm)
    have hl : x < ρ1.length := by
      have := d1.lt
      rw [List.length_set] at this
      exact this
    have hvl : vs.length = row.length := rq.length.symm
    refine ⟨q, vs, .int v, rfl, rfl, (hF3 q (List.mem_cons_of_mem _ hqm)).trans gq, by omega, ?_⟩
    have hm : ∀ a, a ≠ q → upd H3 q (.lst (vs ++ [V.int v])) a = H3 a := fun a h => upd_ne h
    have hsame : Same F1 H3 := fun a o e => R3.same _ _ (S3.sF _ _ (m2 _ _ e))
    refine gd F1 σ _ qs (dss.set j (row ++ [.int v])) ⟨?_, ?_, ?_, d1.slot, ?_, d1.topF, d1.own, d1.own1, d1.np, d1.nd, ?_, d1.new, d1.sF, fun a o e n => ?_, d1.un⟩ S1.sF .refl
    · rw [List.getElem?_set_self hl, List.map_set]
    · have R4 := d1.sr
      have n4 := d1.no
      rw [List.set_set] at R4 n4 ⊢
      refine R4.refix n4 (Same.refl _) (fun a o e => ?_) (R3.siz.upd (by show (vs ++ [V.int v]).length ≤ sizeLine; rw [List.length_append, List.length_singleton]; omega))
      have hne : a ≠ q := fun z => by
        rw [z, fq] at e
        cases e
      rw [hm a hne]
      exact hsame a o e
    · have := d1.no
      rw [List.set_set] at this ⊢
      exact this
    · rw [hm p (fun z => hqp z.symm), hF3 p List.mem_cons_self]
      exact d1.top
    · refine RowsR.set (K := K) (mg := mg) (F := F1) (H := H3) (rq.append (.one (by simp only [Rep]))) (d1.rows.move (Same.refl _) fun a ha o e => ⟨?_, (d1.rows.ish a ha).1⟩) d.nd eq
      rw [hF3 a (List.mem_cons_of_mem _ ha)]
      exact e
    · have hne : a ≠ q := fun z => by
        rw [z, d.new q hqm] at e
        cases e
      rw [hm a hne]
      exact S3.fr _ _ (d1.fr a o e n) (noOwn_Ow hno a)
/-- slots that are not asked again -/
def sFgt2 (x : Nat) (f : FS) (is : List Nat) : FS := fun ρ => match f ρ with
  | some (.nx ρ') => if is.contains x = true then none else some (.nx (fgt is ρ'))
  | _ => none
theorem D2.fgt1 {x i : Nat} {F0 : Hp} {ρ0 : En} {σ0 : L2.St} {H0 : Hp} {p : Addr} {F : Hp} {ρ : En} {σ : L2.St} {H : Hp} {qs : List Addr} {dss : List (List D)} (hx : i ≠ x) (d : D2 K mg x F0 ρ0 σ0 H0 p F ρ σ H qs dss) : D2 K mg x F0 ρ0 σ0 H0 p F (ρ.set i .no) σ H qs dss := by
  have hcm : (ρ.set i .no).set x .no = (ρ.set x .no).set i .no := List.set_comm _ _ hx
  refine ⟨?_, ?_, ?_, d.slot, d.top, d.topF, d.own, d.own1, d.np, d.nd, d.rows, d.new, d.sF, d.fr, d.un⟩
  · rw [List.getElem?_set_ne hx]
    exact d.at_
  · rw [hcm]
    exact d.sr.know rfl fun _ _ => trivial
  · rw [hcm]
    exact noOwn_set d.no i rfl
theorem es2_fgt {x : Nat} {t : TS} {f : FS} (is : List Nat) (h : EvS2 K mg M x t f) : EvS2 K mg M x t (sFgt2 x f is) where
  nx ρ o e := by
    unfold sFgt2 at e
    split at e
    · split at e
      · cases e
      · cases e; exact ⟨_, rfl⟩
    · cases e
  run F0 ρ0 σ0 H0 p F ρ σ H qs dss d ρ' e Dn gd := by
    unfold sFgt2 at e
    split at e
    · rename_i ρ1 e1
      split at e
      · cases e
      · rename_i hc
        cases e
        refine h.run F0 ρ0 σ0 H0 p F ρ σ H qs dss d ρ1 e1 Dn fun F' σ' H' qs' dss' d' m k => gd F' σ' H' qs' dss' ?_ m k
        clear e1 gd
        induction is generalizing ρ1 with
        | nil => exact d'
        | cons i is ih =>
          have hxi : i ≠ x ∧ is.contains x = false := by
            simp at hc
            exact ⟨fun z => hc.1 z.symm, by simpa using hc.2⟩
          exact ih (ρ1.set i .no) (by rw [hxi.2]; simp) (d'.fgt1 hxi.1)
    · cases e
structure DS2 (K : PySem.W.Frag) (mg : Str → Option Value) (M : List Nat) (x : Nat) (X : Cx) (st : Stmt) (t : TS) (f : FS) : Prop where
  ps : PS X st t
  ev : EvS2 K mg M x t f
structure DSs2 (K : PySem.W.Frag) (mg : Str → Option Value) (M : List Nat) (x : Nat) (X : Cx) (st : List Stmt) (t : TS) (f : FS) : Prop where
  ps : PSs X st t
  ev : EvS2 K mg M x t f
variable {k : Nat} {X : Cx} {a b e : Expr} {ta tb te : TE} {fa fb fe : FE} {pos : Pos} {st : Stmt} {sts : List Stmt} {tS uS : TS} {fS gS : FS} {n : Nat}
theorem r2_cons (h : DS2 K mg M n X st tS fS) (h2 : DSs2 K mg M n X sts uS gS) : DSs2 K mg M n X (st :: sts) (tSeq tS uS) (sSeq fS gS) := ⟨pss_cons h.ps h2.ps, es2_seq h.ev h2.ev⟩
theorem r2_last (h : DS2 K mg M n X st tS fS) : DSs2 K mg M n X [st] tS fS := ⟨pss_one h.ps, h.ev⟩
theorem r2_fgtB (is : List Nat) (h : DSs2 K mg M n X sts tS fS) : DSs2 K mg M n X sts tS (sFgt2 n fS is) := ⟨h.ps, es2_fgt is h.ev⟩
theorem r2_for (x : XI P w K mg base k X) (i : Nat) {tg iter : Expr} {wi : TI} {src : FSr} {ts : List Nat} (hx : n ≠ i) (hM : i ∉ M) (hi : DI K mg X tg iter wi src) (hg : DG K mg X tg ts (gName i) (tgName i)) (hb : DSs2 K mg M n X sts tS fS) (hs : ∀ x, foldedSetIterable iter X.env x = pure x := by intro _; rfl) :
    DS2 K mg M n X (.For tg iter sts [] pos) (tFor wi (gName i) tS) (sFor2 n i src fS) := ⟨ps_for x.pass x.cc hi.pi hg.pg hb.ps hs, es2_for hx hM hi.ev hb.ev⟩
theorem r_deep (h : DS2 K mg M n X st tS fS) : DS K mg M X st tS (sDeep n fS) := ⟨h.ps, es_deep h.ev⟩
theorem r2_app (x : XI P w K mg base k X) {z : Str} {p apos spos : Pos} (ho : DE K mg X (.Name z p) (tVar n) (fName n)) (ha : DE K mg X a ta fa) (hst : starEach [a] X.env = [(false, eval a X.env)] := by rfl) (hpl : (backTo pos (starEach [] X.env)).any (·.1) = false := by rfl)
    (hb : attributeBase (.Name z p) "append" X.env (eval (.Name z p) X.env) = eval (.Name z p) X.env := by rfl) (hl : (apos.endLine == pos.line) = true := by rfl)
    (hfew : ((backTo pos (starEach [a] X.env)).all (fun x => !x.1) && (backToKw pos (keywordEach [] X.env)).all (fun x => x.1.isSome) && decide (([a] : List Expr).length + ([] : List Keyword).length + (if ([] : List Keyword).isEmpty then 0 else 1) < 30)) = true := by rfl)
    (hsw : swapsWith (.Call (.Attribute (.Name z p) "append" apos) [a] [] pos) none spos.line X.env = pure false := by rfl) :
    DS2 K mg M n X (.Expr (.Call (.Attribute (.Name z p) "append" apos) [a] [] pos) spos) (tDrop (tBM K "list" rAppend (tVar n) (tCons ta tNil))) (sApp2 n fa) := by
  have := x.kk
  subst this
  exact ⟨ps_expr (pe_bm PySem.F.plainAttrs_list PySem.F.slot_list_append PySem.F.type_list_append mt_append ho.pe (pa_cons ha.pe pa_nil hst) hb hfew hl hst hpl) hsw, es2_app ha.ev⟩
theorem r2_appIx (x : XI P w K mg base k X) {z : Str} {p p2 apos spos : Pos} (ho : DE K mg X (.Name z p) (tVar n) (fName n)) (hi : DE K mg X b tb fb) (ha : DE K mg X a ta fa) (hix : PlainIx b := by intro _ _; rfl) (hst : starEach [a] X.env = [(false, eval a X.env)] := by rfl) (hpl : (backTo pos (starEach [] X.env)).any (·.1) = false := by rfl)
    (hb : attributeBase (.Subscript (.Name z p) b p2) "append" X.env (eval (.Subscript (.Name z p) b p2) X.env) = eval (.Subscript (.Name z p) b p2) X.env := by rfl) (hl : (apos.endLine == pos.line) = true := by rfl)
    (hfew : ((backTo pos (starEach [a] X.env)).all (fun x => !x.1) && (backToKw pos (keywordEach [] X.env)).all (fun x => x.1.isSome) && decide (([a] : List Expr).length + ([] : List Keyword).length + (if ([] : List Keyword).isEmpty then 0 else 1) < 30)) = true := by rfl)
    (hsw : swapsWith (.Call (.Attribute (.Subscript (.Name z p) b p2) "append" apos) [a] [] pos) none spos.line X.env = pure false := by rfl) :
    DS2 K mg M n X (.Expr (.Call (.Attribute (.Subscript (.Name z p) b p2) "append" apos) [a] [] pos) spos) (tDrop (tBM K "list" rAppend (tOp (rIx K) (tVar n) tb) (tCons ta tNil))) (sAppIx2 n fb fa) := by
  have := x.kk
  subst this
  exact ⟨ps_expr (pe_bm PySem.F.plainAttrs_list PySem.F.slot_list_append PySem.F.type_list_append mt_append (pe_ix ix_seq ho.pe hi.pe hix) (pa_cons ha.pe pa_nil hst) hb hfew hl hst hpl) hsw, es2_appIx hi.ev ha.ev⟩
end
end DL
namespace DL
open PySem PySem.Spec PyProof.Rows L2
noncomputable section
/-! ### dicts whose keys are texts: written out, asked -/
section
variable {P : Program} {w : World} {K : PySem.W.Frag} {mg : Str → Option Value} {base : Heap} {M : List Nat}
theorem repK_val {F : Hp} : ∀ {fs : List (Key × D)} {vs : List (Key × V)}, RepK K mg F fs vs → ∀ k d, valD fs k = some d → ∃ v, valV vs k = some v ∧ Rep K mg F d v
  | [], _, h, k, d, e => by cases e
  | (x, e0) :: fs, _, h, k, d, e => by
    simp only [RepK] at h
    obtain ⟨v, r, rfl, h1, h2⟩ := h
    by_cases hx : x = k
    · rw [valD_pos (p := (x, e0)) hx] at e
      cases e
      exact ⟨v, valV_pos (p := (x, v)) hx, h1⟩
    · rw [valD_neg (p := (x, e0)) hx] at e
      rw [valV_neg (p := (x, v)) hx]
      exact repK_val h2 k d e
/-- the pairs of a display -/
def EvP (K : PySem.W.Frag) (mg : Str → Option Value) (trs : List (TE × TE)) (keys : List Str) (fa : FAr) : Prop := ∀ F ρ σ H, SR K mg F ρ σ H → ∀ ds ρ', fa ρ = some (ds, ρ') → ∀ Q : List (V × V) → Hp → Prop,
  (∀ vs F' H', SR K mg F' ρ' σ H' → Stp F ρ σ H F' ρ' σ H' → Reps K mg F' ds vs → vs.length = keys.length → Q ((keys.zip vs).map fun kv => (V.str kv.1, kv.2)) H') → tPairs trs σ H Q
theorem evp_nil : EvP K mg [] [] fANil := fun F ρ σ H R ds ρ' e Q q => by
  cases e
  exact q [] F H R .refl rfl rfl
theorem evp_cons {k : Str} {te : TE} {fe : FE} {trs : List (TE × TE)} {keys : List Str} {fa : FAr} (h : EvW K mg te fe) (h2 : EvP K mg trs keys fa) : EvP K mg ((tC (.str k), te) :: trs) (k :: keys) (fACons fe fa) := fun F ρ σ H R ds ρ' e Q q => by
  obtain ⟨⟨d, ρ1⟩, e1, e⟩ := bind2 (γ := Unit) e
  obtain ⟨⟨ds1, ρ2⟩, e2, e⟩ := map2 e
  cases e
  refine h.frz F ρ σ H R d ρ1 e1 _ fun v F1 H1 R1 S1 r => ?_
  refine h2 F1 ρ1 σ H1 R1 ds1 _ e2 _ fun vs F2 H2 R2 S2 rs hl => ?_
  exact q (v :: vs) F2 H2 R2 (S1.trans S2) ⟨v, vs, rfl, r.mono S2.sF, rs⟩ (by rw [List.length_cons, List.length_cons, hl])
theorem merge_new : ∀ (kvs acc : List (Key × V)), (∀ kv ∈ kvs, valV acc kv.1 = none) → (kvs.map (·.1)).Nodup → mergeK acc kvs = acc ++ kvs
  | [], acc, _, _ => by rw [List.append_nil]; rfl
  | (k, v) :: r, acc, h, nd => by
    rw [List.map_cons, List.nodup_cons] at nd
    show mergeK (putK acc k v) r = _
    rw [putK_new v (h (k, v) List.mem_cons_self), merge_new r _ (fun kv m => ?_) nd.2, List.append_assoc]
    · rfl
    · rw [valV_snoc k kv.1 v acc (h (k, v) List.mem_cons_self), if_neg (fun (z : kv.1 = k) => nd.1 (List.mem_map.mpr ⟨kv, m, z⟩))]
      exact h kv (List.mem_cons_of_mem _ m)
def kzip : List Str → List D → List (Key × D)
  | k :: ks, d :: ds => (Sum.inr k, d) :: kzip ks ds
  | _, _ => []
theorem kzip_rep {F : Hp} : ∀ {ks : List Str} {ds : List D} {vs : List V}, Reps K mg F ds vs → vs.length = ks.length → RepK K mg F (kzip ks ds) ((ks.zip vs).map fun kv => (Sum.inr kv.1, kv.2))
  | [], ds, vs, r, hl => by
    rw [List.zip_nil_left]
    cases ds <;> rfl
  | k :: ks, [], vs, r, hl => by
    simp only [Reps] at r
    subst r
    cases hl
  | k :: ks, d :: ds, vs, r, hl => by
    simp only [Reps] at r
    obtain ⟨v, w, rfl, h1, h2⟩ := r
    exact ⟨v, _, rfl, h1, kzip_rep h2 (by simpa using hl)⟩
/-- {'a': x, ..} -/
def fDisp (keys : List Str) (fa : FAr) : FE := fun ρ => (fa ρ).map fun p => (.odK (kzip keys p.1), p.2)
theorem ev_disp {trs : List (TE × TE)} {keys : List Str} {fa : FAr} (nd : keys.Nodup) (h15 : keys.length ≤ 15) (h : EvP K mg trs keys fa) : EvW K mg (tDisp trs) (fDisp keys fa) := fun F ρ σ H R s ρ' e Q q => by
  obtain ⟨⟨ds, ρ1⟩, e1, e⟩ := map2 e
  cases e
  intro p hp
  obtain ⟨R1, S1⟩ := R.fresh (o := .dK []) hp trivial
  have nw := R.nw hp
  refine h F ρ σ _ R1 ds _ e1 _ fun vs F2 H2 R2 S2 rs hl => ?_
  have g2 : H2 p = some (.dK []) := S2.fr p _ upd_same nw
  have f2 : F2 p = none := S2.un p _ upd_same (R.same.free hp) nw
  have nw2 : ¬Ow ρ1 σ p := fun w => by
    rcases S2.ow p w with z | z
    · exact nw z
    · rw [upd_same] at z; cases z
  refine ⟨g2, (keys.zip vs).map fun kv => (Sum.inr kv.1, kv.2), ?_, ?_, ?_⟩
  · rw [List.map_map]
    rfl
  · rw [List.length_map, List.length_zip, hl]
    omega
  rw [merge_new _ [] (fun _ _ => rfl) (by
    rw [List.map_map]
    have : (keys.zip vs).map ((fun kv : Key × V => kv.1) ∘ fun kv => (Sum.inr kv.1, kv.2)) = keys.map Sum.inr := by
      have hz : (keys.zip vs).map (fun kv => kv.1) = keys := by
        rw [List.map_fst_zip (by omega)]
      conv => rhs; rw [← hz]
      rw [List.map_map]
      rfl
    rw [this]
    exact nd.map _ fun a b hab z => hab (by cases z; rfl)), List.nil_append]
  have R3 : SR K mg F2 ρ1 σ (upd H2 p (.dK ((keys.zip vs).map fun kv => (Sum.inr kv.1, kv.2)))) := R2.grow (Same.refl _) (fun a o e => by
    have hne : a ≠ p := fun z => by rw [z, f2] at e; cases e
    rw [upd_ne hne]
    exact R2.same a o e) (R2.siz.upd (o := .dK ((keys.zip vs).map fun kv => (Sum.inr kv.1, kv.2))) trivial) fun a w => ⟨R2.owF w, upd_ne fun z => nw2 (z ▸ w)⟩
  refine q _ F2 _ R3 ⟨S2.sF, fun a o e n => ?_, fun a o e f n => ?_, fun a w => ?_⟩ (.of_own (s := .odK (kzip keys ds)) ⟨f2, _, upd_same, kzip_rep rs hl⟩ nw2 (.inr hp))
  · have hne : a ≠ p := fun z => by rw [z, hp] at e; cases e
    rw [upd_ne hne]
    exact S2.fr a o (by rw [upd_ne hne]; exact e) n
  · have hne : a ≠ p := fun z => by rw [z, hp] at e; cases e
    exact S2.un a o (by rw [upd_ne hne]; exact e) f n
  · rcases S2.ow a w with z | z
    · exact .inl z
    · by_cases hne : a = p
      · rw [hne]; exact .inr hp
      · rw [upd_ne hne] at z; exact .inr z
/-- d['a'] -/
def fKGet (k : Str) (fe : FE) : FE := fun ρ => (vl fe ρ).bind fun p => match p.1 with
  | .dK kvs => (valD kvs (Sum.inr k)).map fun d => (.val d, p.2)
  | _ => none
theorem ev_kget {k : Str} {te : TE} {fe : FE} (h : EvW K mg te fe) : EvW K mg (tDGet te (tC (.str k))) (fKGet k fe) := fun F ρ σ H R s ρ' e Q q => by
  obtain ⟨⟨x, ρ1⟩, e1, e⟩ := bind2 (γ := Unit) e
  dsimp only at e
  split at e
  · rename_i kvs
    obtain ⟨d, e2, e⟩ := map2 e
    cases e
    refine h.frz F ρ σ H R _ _ e1 _ fun v F1 H1 R1 S1 r => ?_
    simp only [Rep] at r
    obtain ⟨a, us, rfl, g, r⟩ := r
    obtain ⟨u, e3, ru⟩ := repK_val r _ d e2
    exact ⟨a, u, rfl, e3 ▸ DGet.k (k := Sum.inr k) (R1.same _ _ g), q u F1 H1 R1 S1 ru⟩
  · cases e
/-- .. of a name -/
def fKGetN (k : Str) (i : Nat) : FE := fun ρ => match ρ[i]? with
  | some (.odK kvs) => (valD kvs (Sum.inr k)).map fun d => (.val d, ρ)
  | some (.val (.dK kvs)) => (valD kvs (Sum.inr k)).map fun d => (.val d, ρ)
  | _ => none
theorem ev_kgetN {k : Str} (i : Nat) : EvW K mg (tDGet (tVar i) (tC (.str k))) (fKGetN k i) := fun F ρ σ H R s ρ' e Q q => by
  unfold fKGetN at e
  split at e
  · rename_i kvs e0
    obtain ⟨d, e2, e⟩ := map2 e
    cases e
    obtain ⟨ov, e3, p, rfl, f, us, g, r⟩ := R.sl i _ e0
    obtain ⟨u, e4, ru⟩ := repK_val r _ d e2
    exact ⟨_, e3, p, u, rfl, e4 ▸ DGet.k (k := Sum.inr k) g, q u F H R .refl ru⟩
  · rename_i kvs e0
    obtain ⟨d, e2, e⟩ := map2 e
    cases e
    obtain ⟨ov, e3, v, rfl, r⟩ := R.sl i _ e0
    simp only [Rep] at r
    obtain ⟨a, us, rfl, g, r⟩ := r
    obtain ⟨u, e4, ru⟩ := repK_val r _ d e2
    exact ⟨_, e3, a, u, rfl, e4 ▸ DGet.k (k := Sum.inr k) (R.same _ _ g), q u F H R .refl ru⟩
  · cases e
structure DPr (K : PySem.W.Frag) (mg : Str → Option Value) (X : Cx) (pos : Pos) (ks : List (Option Expr)) (vs : List Expr) (trs : List (TE × TE)) (keys : List Str) (fa : FAr) : Prop where
  pp : PPs X pos ks vs trs
  ev : EvP K mg trs keys fa
variable {k : Nat} {X : Cx} {a b e : Expr} {ta tb te : TE} {fa fb fe : FE} {pos : Pos}
theorem rp_nil : DPr K mg X pos [] [] [] [] fANil := ⟨pps_nil, evp_nil⟩
theorem rp_cons {z : Str} {pk : Pos} {jz : Nat} {fk : FE} {ks : List (Option Expr)} {vs : List Expr} {trs : List (TE × TE)} {keys : List Str} {fr : FAr} (hk : DE K mg X (.Constant (.str z) jz pk) (tC (.str z)) fk) (h : DE K mg X e te fe) (hr : DPr K mg X pos ks vs trs keys fr) : DPr K mg X pos (some (.Constant (.str z) jz pk) :: ks) (e :: vs) ((tC (.str z), te) :: trs) (z :: keys) (fACons fe fr) :=
  ⟨pps_cons hk.pe h.pe hr.pp, evp_cons h.ev hr.ev⟩
theorem r_disp {ks : List (Option Expr)} {vs : List Expr} {trs : List (TE × TE)} {keys : List Str} {fr : FAr} (h : DPr K mg X pos ks vs trs keys fr) (nd : keys.Nodup) (h15 : keys.length ≤ 15) (hall : ks.all (·.isSome) = true := by rfl) (hl : ks.length = vs.length := by rfl) (h0 : ks ≠ [] := by (intro z; cases z)) (hk15 : ks.length ≤ 15 := by decide) : DE K mg X (.Dict ks vs pos) (tDisp trs) (fDisp keys fr) :=
  ⟨pe_disp h.pp hall hl h0 hk15, ev_disp nd h15 h.ev⟩
theorem r_kget (x : XI P w K mg base k X) {z : Str} {pk : Pos} {jz : Nat} {fk : FE} (h : DE K mg X e te fe) (hk : DE K mg X (.Constant (.str z) jz pk) (tC (.str z)) fk) (hs : NoSl (.Constant (.str z) jz pk) := by intro _ _; rfl) : DE K mg X (.Subscript e (.Constant (.str z) jz pk) pos) (tDGet te (tC (.str z))) (fKGet z fe) := ⟨pe_dget x.u1 h.pe hk.pe hs, ev_kget h.ev⟩
theorem r_kgetN (x : XI P w K mg base k X) (i : Nat) {y z : Str} {p2 pk : Pos} {jz : Nat} {fk : FE} (ho : DE K mg X (.Name y p2) (tVar i) (fName i)) (hk : DE K mg X (.Constant (.str z) jz pk) (tC (.str z)) fk) (hs : NoSl (.Constant (.str z) jz pk) := by intro _ _; rfl) : DE K mg X (.Subscript (.Name y p2) (.Constant (.str z) jz pk) pos) (tDGet (tVar i) (tC (.str z))) (fKGetN z i) := ⟨pe_dget x.u1 ho.pe hk.pe hs, ev_kgetN i⟩
/-! d['a'] = x, of an own dict -/
theorem repK_none {F : Hp} : ∀ {fs : List (Key × D)} {vs : List (Key × V)}, RepK K mg F fs vs → ∀ k, valD fs k = none → valV vs k = none
  | [], _, h, k, _ => by
    simp only [RepK] at h
    subst h
    rfl
  | (x, e0) :: fs, _, h, k, e => by
    simp only [RepK] at h
    obtain ⟨v, r, rfl, h1, h2⟩ := h
    by_cases hx : x = k
    · rw [valD_pos (p := (x, e0)) hx] at e
      cases e
    · rw [valD_neg (p := (x, e0)) hx] at e
      rw [valV_neg (p := (x, v)) hx]
      exact repK_none h2 k e
theorem repK_map {F : Hp} {k : Key} {d : D} {u : V} (g : Rep K mg F d u) : ∀ {fs : List (Key × D)} {vs : List (Key × V)}, RepK K mg F fs vs → RepK K mg F (fs.map fun kv => if kv.1 = k then (kv.1, d) else kv) (vs.map fun kv => if kv.1 = k then (kv.1, u) else kv)
  | [], _, h => by
    simp only [RepK] at h
    subst h
    rfl
  | (x, e) :: fs, _, h => by
    simp only [RepK] at h
    obtain ⟨v, r, rfl, h1, h2⟩ := h
    rw [List.map_cons, List.map_cons]
    dsimp only
    by_cases hx : x = k
    · rw [if_pos hx, if_pos hx]
      exact ⟨u, _, rfl, g, repK_map g h2⟩
    · rw [if_neg hx, if_neg hx]
      exact ⟨v, _, rfl, h1, repK_map g h2⟩
theorem repK_snoc {F : Hp} {k : Key} {d : D} {u : V} (g : Rep K mg F d u) : ∀ {fs : List (Key × D)} {vs : List (Key × V)}, RepK K mg F fs vs → RepK K mg F (fs ++ [(k, d)]) (vs ++ [(k, u)])
  | [], _, h => by
    simp only [RepK] at h
    subst h
    exact ⟨u, [], rfl, g, rfl⟩
  | (x, e) :: fs, _, h => by
    simp only [RepK] at h
    obtain ⟨v, r, rfl, h1, h2⟩ := h
    exact ⟨v, _, rfl, h1, repK_snoc g h2⟩
theorem repK_put {F : Hp} {k : Key} {d : D} {u : V} {fs : List (Key × D)} {vs : List (Key × V)} (g : Rep K mg F d u) (h : RepK K mg F fs vs) : RepK K mg F (putKD fs k d) (putK vs k u) := by
  have he : (fs.any fun kv => decide (kv.1 = k)) = (vs.any fun kv => decide (kv.1 = k)) := by
    rw [valD_any, valV_any]
    cases q : valD fs k with
    | none => rw [repK_none h k q]; rfl
    | some d => obtain ⟨v, e, _⟩ := repK_val h k d q; rw [e]; rfl
  unfold putKD putK
  rw [he]
  split
  · exact repK_map g h
  · exact repK_snoc g h
theorem SR.odK {F : Hp} {ρ : En} {σ : L2.St} {H : Hp} {i : Nat} (R : SR K mg F ρ σ H) {kvs : List (Key × D)} (h : ρ[i]? = some (.odK kvs)) : ∃ p vs, σ[i]? = some (some (.ref p)) ∧ F p = none ∧ H p = some (.dK vs) ∧ RepK K mg F kvs vs ∧ OwA ρ σ i p := by
  obtain ⟨ov, e, p, rfl, f, vs, g, r⟩ := R.sl i _ h
  exact ⟨p, vs, e, f, g, r, ⟨_, h, rfl⟩, e⟩
def sDPutK (k : Str) (i : Nat) (fv : FE) : FS := fun ρ => (vl fv ρ).bind fun p => match p.2[i]? with
  | some (.odK kvs) => if fitL (kvs.length + 1) = true then some (.nx (p.2.set i (.odK (putKD kvs (Sum.inr k) p.1)))) else none
  | _ => none
theorem es_dputK {k : Str} {tv : TE} {fv : FE} (i : Nat) (hv : EvW K mg tv fv) : EvS K mg M (sDPut (tVar i) (tC (.str k)) tv) (sDPutK k i fv) := fun F ρ σ H R o e Dn gd => by
  obtain ⟨⟨x, ρ1⟩, e1, e⟩ := bind2 (γ := Unit) e
  dsimp only at e
  split at e
  · rename_i kvs e3
    split at e
    case isFalse => cases e
    rename_i hz
    cases e
    replace hz := fitL_ok hz
    refine hv.frz F ρ σ H R x ρ1 e1 _ fun vx F1 H1 R1 S1 rx => ?_
    obtain ⟨p, us, e6, f, g, r, a⟩ := R1.odK e3
    have hl : us.length < sizeLine := by
      rw [← r.length]
      omega
    obtain ⟨R', S'⟩ := R1.write (s' := .odK (putKD kvs (Sum.inr k) x)) (o := .dK (putK us (Sum.inr k) vx)) e3 rfl e6 ⟨f, _, upd_same, repK_put rx r⟩ trivial
    exact ⟨_, e6, p, _, rfl, DPut.k (k := Sum.inr k) g hl, gd F1 σ _ R' (S1.trans S') .refl⟩
  · cases e
theorem r_dPutK (x : XI P w K mg base k X) (i : Nat) {y z : Str} {p p2 pk : Pos} {jz : Nat} {fk : FE} (hv : DE K mg X e te fe) (ho : DE K mg X (.Name y p) (tVar i) (fName i)) (hk : DE K mg X (.Constant (.str z) jz pk) (tC (.str z)) fk) (hs : swapsWith e (some (.Subscript (.Name y p) (.Constant (.str z) jz pk) p2)) pos.line X.env = pure false := by rfl) :
    DS K mg M X (.Assign [.Subscript (.Name y p) (.Constant (.str z) jz pk) p2] e pos) (sDPut (tVar i) (tC (.str z)) te) (sDPutK z i fe) :=
  ⟨ps_dput x.u1 ho.pe hk.pe hv.pe hs, es_dputK i hv.ev⟩
end
end
end DL
namespace DL
open PySem PySem.Spec PyProof.Rows L2
noncomputable section
/-! ### own things lent for a while: an expression that gives a scalar -/
def lend1 (xs : List Nat) (i : Nat) (s : Sl) : Sl := if s.isOwn = true then (if xs.contains i = true then (match frz s with | some d => .val d | none => .no) else .no) else s
def lend (xs : List Nat) (ρ : En) : En := ρ.mapIdx (lend1 xs)
theorem lend_own {xs : List Nat} {ρ : En} : noOwn (lend xs ρ) = true := by
  refine List.all_eq_true.mpr fun s hs => ?_
  obtain ⟨i, hi, e⟩ := List.mem_mapIdx.mp hs
  subst e
  unfold lend1
  split
  · split
    · split <;> rfl
    · rfl
  · rename_i h
    simpa using h
section
variable {P : Program} {w : World} {K : PySem.W.Frag} {mg : Str → Option Value} {base : Heap} {M : List Nat}
theorem lend_sr {xs : List Nat} {F : Hp} {ρ : En} {σ : L2.St} {H : Hp} (R : SR K mg F ρ σ H) : ∃ F1, Same F F1 ∧ SR K mg F1 (lend xs ρ) σ H := by
  classical
  let F1 : Hp := fun a => if Ow ρ σ a then H a else F a
  have m : Same F F1 := fun a o e => by
    show (if Ow ρ σ a then H a else F a) = some o
    by_cases h : Ow ρ σ a
    · rw [R.owF h] at e
      cases e
    · rw [if_neg h]
      exact e
  have m2 : Same F1 H := fun a o e => by
    have e : (if Ow ρ σ a then H a else F a) = some o := e
    by_cases h : Ow ρ σ a
    · rw [if_pos h] at e
      exact e
    · rw [if_neg h] at e
      exact R.same a o e
  refine ⟨F1, m, m2, R.siz, by unfold lend; rw [List.length_mapIdx]; exact R.len, fun i s e => ?_, fun i j p a b => ?_⟩
  · unfold lend at e
    rw [List.getElem?_mapIdx] at e
    obtain ⟨u, eu, rfl⟩ := Option.map_eq_some_iff.mp e
    obtain ⟨ov, e2, r⟩ := R.sl i u eu
    refine ⟨ov, e2, ?_⟩
    unfold lend1
    by_cases ho : u.isOwn = true
    · rw [if_pos ho]
      split
      · cases hd : frz u with
        | none => trivial
        | some d =>
          have hp : ∃ p, ov = some (.ref p) ∧ OwR K mg F H u p := by
            cases u <;> first | exact r | cases ho
          obtain ⟨p, rfl, ho2⟩ := hp
          obtain ⟨o, h1, _, h3⟩ := ho2.fixed hd
          refine ⟨_, rfl, h3.mono fun a o2 e => ?_⟩
          by_cases ha : a = p
          · subst ha
            rw [upd_same] at e
            cases e
            show (if Ow ρ σ a then H a else F a) = some o
            rw [if_pos ⟨i, ⟨u, eu, ho⟩, e2⟩]
            exact h1
          · rw [upd_ne ha] at e
            exact m a o2 e
      · trivial
    · rw [if_neg ho]
      cases u with
      | no => trivial
      | val d => obtain ⟨v, a, b⟩ := r; exact ⟨v, a, b.mono m⟩
      | own ds => exact absurd rfl ho
      | oob c fs => exact absurd rfl ho
      | odK k => exact absurd rfl ho
      | odT k => exact absurd rfl ho
      | ownA a ds => exact absurd rfl ho
  · exact absurd ⟨i, a⟩ (noOwn_Ow lend_own p)
theorem lend_back {xs : List Nat} {F F1 F2 : Hp} {ρ ρ2 : En} {σ : L2.St} {H H2 : Hp} (R : SR K mg F ρ σ H) (m : Same F F1) (R2 : SR K mg F2 ρ2 σ H2) (S2 : Stp F1 (lend xs ρ) σ H F2 ρ2 σ H2) : SR K mg F ρ σ H2 ∧ Stp F ρ σ H F ρ σ H2 := by
  have no : ∀ q, ¬Ow (lend xs ρ) σ q := noOwn_Ow lend_own
  refine ⟨R.grow (Same.refl _) (fun a o e => R2.same _ _ (S2.sF _ _ (m _ _ e))) R2.siz fun q h => ⟨R.owF h, ?_⟩, ⟨Same.refl _, fun q o e n => S2.fr q o e (no q), fun q o e f n => f, fun q h => .inl h⟩⟩
  obtain ⟨i, ⟨u, eu, ho⟩, e2⟩ := h
  obtain ⟨ov, e3, r⟩ := R.sl i u eu
  rw [e2] at e3
  cases e3
  have hp : OwR K mg F H u q := by
    have : ∃ p, some (V.ref q) = some (.ref p) ∧ OwR K mg F H u p := by
      cases u <;> first | exact r | cases ho
    obtain ⟨p, e, h⟩ := this
    cases e
    exact h
  cases hd : frz u with
  | none => exact (Bool.false_ne_true (by cases u <;> first | exact ho | cases hd)).elim
  | some d =>
    obtain ⟨o, h1, _⟩ := hp.fixed hd
    rw [h1]
    exact S2.fr q o h1 (no q)
def scl : Sl → Bool
  | .val .non | .val (.bl _) | .val (.int _) => true
  | _ => false
def fLend (xs : List Nat) (f : FE) : FE := fun ρ => (f (lend xs ρ)).bind fun p => if scl p.1 = true then some (p.1, ρ) else none
theorem ev_lend {t : TE} {f : FE} (xs : List Nat) (h : EvW K mg t f) : EvW K mg t (fLend xs f) := fun F ρ σ H R s ρ' e Q q => by
  obtain ⟨⟨s1, ρ1⟩, e1, e⟩ := bind2 (γ := Unit) e
  dsimp only at e
  split at e
  case isFalse => cases e
  rename_i hs
  cases e
  obtain ⟨F1, m, R1⟩ := lend_sr (xs := xs) R
  refine h F1 _ σ H R1 _ ρ1 e1 Q fun v F2 H2 R2 S2 W => ?_
  obtain ⟨R3, S3⟩ := lend_back R m R2 S2
  refine q v F H2 R3 S3 ?_
  cases s with
  | val d => cases d <;> first | (simp only [WV, Rep] at W ⊢; exact W) | cases hs
  | no => cases hs
  | own ds => cases hs
  | oob c fs => cases hs
  | odK k => cases hs
  | odT k => cases hs
  | ownA a k => cases hs
def tLend (xs : List Nat) (f : FT) : FT := fun ρ => (f (lend xs ρ)).map fun p => (p.1, ρ)
theorem et_lend {t : TT} {f : FT} (xs : List Nat) (h : EvT K mg t f) : EvT K mg t (tLend xs f) := fun F ρ σ H R b ρ' e Q q => by
  obtain ⟨⟨b1, ρ1⟩, e1, e⟩ := map2 e
  cases e
  obtain ⟨F1, m, R1⟩ := lend_sr (xs := xs) R
  refine h F1 _ σ H R1 _ ρ1 e1 Q fun F2 H2 R2 S2 => ?_
  obtain ⟨R3, S3⟩ := lend_back R m R2 S2
  exact q F H2 R3 S3
variable {X : Cx} {e : Expr} {te : TE} {fe : FE} {t : TT} {f : FT}
theorem r_lend (xs : List Nat) (h : DE K mg X e te fe) : DE K mg X e te (fLend xs fe) := ⟨h.pe, ev_lend xs h.ev⟩
theorem r_lendT (xs : List Nat) (h : DT K mg X e t f) : DT K mg X e t (tLend xs f) := ⟨h.pt, et_lend xs h.ev⟩
end
end
end DL
namespace DL
open PySem PySem.Spec PyProof.Rows L2
noncomputable section
/-! ### plain data: loops and comprehensions as folds and maps -/
/-- a for that carries a, by an invariant -/
theorem forD_inv {α : Type} {fg : FG} {fb : FS} (mk : α → En) (I : Nat → α → Prop) : ∀ (ds : List D) (n : Nat) (a : α), I n a →
    (∀ (i : Nat) (d : D) (a : α), ds[i]? = some d → I (n + i) a → ∃ ρ1 a', fg d (mk a) = some ρ1 ∧ (fb ρ1 = some (.nx (mk a')) ∨ fb ρ1 = some (.ct (mk a'))) ∧ I (n + i + 1) a') →
    ∃ a', I (n + ds.length) a' ∧ forD fg fb ds (mk a) = some (.nx (mk a'))
  | [], n, a, h0, _ => ⟨a, h0, rfl⟩
  | d :: ds, n, a, h0, hs => by
    obtain ⟨ρ1, a1, e1, e2, h1⟩ := hs 0 d a rfl h0
    obtain ⟨a2, h2, e3⟩ := forD_inv mk I ds (n + 1) a1 h1 fun i d' a' e h => by
      have := hs (i + 1) d' a' (by simpa using e)
      rw [show n + (i + 1) = n + 1 + i by omega] at this
      exact this h
    refine ⟨a2, by rw [List.length_cons, show n + (ds.length + 1) = n + 1 + ds.length by omega]; exact h2, ?_⟩
    rcases e2 with e2 | e2 <;> simp only [forD, e1, e2, Option.bind_some, e3]
/-- .. as a fold -/
theorem forD_fold {α β : Type} {fg : FG} {fb : FS} (mk : α → En) (enc : β → D) (step : α → β → α) : ∀ (xs : List β) (a : α),
    (∀ x ∈ xs, ∀ a, ∃ ρ1, fg (enc x) (mk a) = some ρ1 ∧ fb ρ1 = some (.nx (mk (step a x)))) → forD fg fb (xs.map enc) (mk a) = some (.nx (mk (xs.foldl step a)))
  | [], a, _ => rfl
  | x :: xs, a, h => by
    obtain ⟨ρ1, e1, e2⟩ := h x List.mem_cons_self a
    simp only [List.map_cons, forD, e1, e2, Option.bind_some, List.foldl_cons]
    exact forD_fold mk enc step xs _ fun y hy => h y (List.mem_cons_of_mem _ hy)
/-- a search that leaves at the first hit -/
theorem forD_find {β : Type} {fg : FG} {fb : FS} {ρ : En} (enc : β → D) (t : β → Bool) (out : β → Ou) : ∀ (xs : List β),
    (∀ x ∈ xs, ∃ ρ1, fg (enc x) ρ = some ρ1 ∧ fb ρ1 = some (if t x = true then out x else .nx ρ)) → (∀ x, (∃ s ρ', out x = .rt s ρ') ∨ ∃ ρ', out x = .bk ρ') →
    forD fg fb (xs.map enc) ρ = some (match xs.find? t with
      | some x => (match out x with | .bk ρ' => .nx ρ' | o => o)
      | none => .nx ρ)
  | [], _, _ => rfl
  | x :: xs, h, ho => by
    obtain ⟨ρ1, e1, e2⟩ := h x List.mem_cons_self
    simp only [List.map_cons, forD, e1, e2, Option.bind_some, List.find?_cons]
    cases ht : t x with
    | true =>
      simp only [if_true]
      rcases ho x with ⟨s, ρ', e⟩ | ⟨ρ', e⟩ <;> rw [e]
    | false =>
      simp only [Bool.false_eq_true, if_false]
      exact forD_find enc t out xs (fun y hy => h y (List.mem_cons_of_mem _ hy)) ho
/-- nothing is found -/
theorem forD_all {β : Type} {fg : FG} {fb : FS} {ρ : En} (enc : β → D) : ∀ (xs : List β),
    (∀ x ∈ xs, ∃ ρ1, fg (enc x) ρ = some ρ1 ∧ fb ρ1 = some (.nx ρ)) → forD fg fb (xs.map enc) ρ = some (.nx ρ)
  | [], _ => rfl
  | x :: xs, h => by
    obtain ⟨ρ1, e1, e2⟩ := h x List.mem_cons_self
    simp only [List.map_cons, forD, e1, e2, Option.bind_some]
    exact forD_all enc xs fun y hy => h y (List.mem_cons_of_mem _ hy)
/-- a comprehension without effects -/
theorem lcD_pure {β : Type} {fg : FG} {ft : FT} {fe : FE} {vs : List Nat} {ρ : En} (enc : β → D) (t : β → Bool) (y : β → D) : ∀ (xs : List β),
    (∀ x ∈ xs, ∃ ρ1, fg (enc x) ρ = some ρ1 ∧ ft ρ1 = some (t x, ρ1) ∧ (t x = true → vl fe ρ1 = some (y x, ρ1)) ∧ hide vs ρ1 = ρ) → lcD fg ft fe vs (xs.map enc) ρ = some ((xs.filter t).map y, ρ)
  | [], _ => rfl
  | x :: xs, h => by
    obtain ⟨ρ1, e1, e2, e3, e4⟩ := h x List.mem_cons_self
    have ih := lcD_pure enc t y xs fun z hz => h z (List.mem_cons_of_mem _ hz)
    simp only [List.map_cons, lcD, e1, e2, Option.bind_some, List.filter_cons]
    cases ht : t x with
    | true => simp only [if_true, e3 ht, Option.bind_some, e4, ih, Option.map_some, List.map_cons]
    | false => simp only [Bool.false_eq_true, if_false, e4, ih]
theorem filter_true {β : Type} (xs : List β) : xs.filter (fun _ => true) = xs := List.filter_eq_self.mpr fun _ _ => rfl
theorem lcD_map {β : Type} {fg : FG} {ft : FT} {fe : FE} {vs : List Nat} {ρ : En} (enc : β → D) (y : β → D) (xs : List β)
    (h : ∀ x ∈ xs, ∃ ρ1, fg (enc x) ρ = some ρ1 ∧ ft ρ1 = some (true, ρ1) ∧ vl fe ρ1 = some (y x, ρ1) ∧ hide vs ρ1 = ρ) : lcD fg ft fe vs (xs.map enc) ρ = some (xs.map y, ρ) := by
  have := lcD_pure (fg := fg) (ft := ft) (fe := fe) (vs := vs) (ρ := ρ) enc (fun _ => true) y xs fun x hx => by
    obtain ⟨ρ1, a, b, c, d⟩ := h x hx
    exact ⟨ρ1, a, b, fun _ => c, d⟩
  rw [filter_true] at this
  exact this
/-- a comprehension that draws: a is what the slots carry, R what is known of each result -/
theorem lcD_draw {α β γ : Type} {fg : FG} {ft : FT} {fe : FE} {vs : List Nat} (mk : α → En) (enc : β → D) (y : γ → D) (R : β → γ → Prop) : ∀ (xs : List β) (a : α),
    (∀ x ∈ xs, ∀ a, ∃ ρ1 b ρ2, fg (enc x) (mk a) = some ρ1 ∧ ft ρ1 = some (b, ρ2) ∧ (b = false → ∃ a', hide vs ρ2 = mk a') ∧ (b = true → ∃ c a' ρ3, R x c ∧ vl fe ρ2 = some (y c, ρ3) ∧ hide vs ρ3 = mk a')) →
    ∃ (zs : List γ) (a' : α), (∀ z ∈ zs, ∃ x ∈ xs, R x z) ∧ zs.length ≤ xs.length ∧ lcD fg ft fe vs (xs.map enc) (mk a) = some (zs.map y, mk a')
  | [], a, _ => ⟨[], a, (fun z hz => nomatch hz), Nat.le_refl _, rfl⟩
  | x :: xs, a, h => by
    obtain ⟨ρ1, b, ρ2, e1, e2, e3, e4⟩ := h x List.mem_cons_self a
    have ih := fun a => lcD_draw mk enc y R xs a fun z hz => h z (List.mem_cons_of_mem _ hz)
    cases b with
    | false =>
      obtain ⟨a1, e5⟩ := e3 rfl
      obtain ⟨zs, a2, hz, hl, e6⟩ := ih a1
      refine ⟨zs, a2, fun z m => ?_, Nat.le_succ_of_le hl, ?_⟩
      · obtain ⟨w, m2, r⟩ := hz z m
        exact ⟨w, List.mem_cons_of_mem _ m2, r⟩
      · simp only [List.map_cons, lcD, e1, e2, Option.bind_some, Bool.false_eq_true, if_false, e5, e6]
    | true =>
      obtain ⟨c, a1, ρ3, r, e5, e5'⟩ := e4 rfl
      obtain ⟨zs, a2, hz, hl, e6⟩ := ih a1
      refine ⟨c :: zs, a2, fun z m => ?_, Nat.succ_le_succ hl, ?_⟩
      · rcases List.mem_cons.mp m with e | m
        · subst e
          exact ⟨x, List.mem_cons_self, r⟩
        · obtain ⟨w, m2, r⟩ := hz z m
          exact ⟨w, List.mem_cons_of_mem _ m2, r⟩
      · simp only [List.map_cons, lcD, e1, e2, Option.bind_some, if_true, e5, e5', e6, Option.map_some, List.map_cons]
/-- .. without a test: one result an item -/
theorem lcD_drawAll {α β γ : Type} {fg : FG} {fe : FE} {vs : List Nat} (mk : α → En) (enc : β → D) (y : γ → D) (R : β → γ → Prop) : ∀ (xs : List β) (a : α),
    (∀ x ∈ xs, ∀ a, ∃ ρ1 c a' ρ3, fg (enc x) (mk a) = some ρ1 ∧ R x c ∧ vl fe ρ1 = some (y c, ρ3) ∧ hide vs ρ3 = mk a') →
    ∃ (zs : List γ) (a' : α), zs.length = xs.length ∧ (∀ (i : Nat) (x : β) (z : γ), xs[i]? = some x → zs[i]? = some z → R x z) ∧ lcD fg fYes fe vs (xs.map enc) (mk a) = some (zs.map y, mk a')
  | [], a, _ => ⟨[], a, rfl, fun i x z h => by simp at h, rfl⟩
  | x :: xs, a, h => by
    obtain ⟨ρ1, c, a1, ρ3, e1, r, e2, e3⟩ := h x List.mem_cons_self a
    obtain ⟨zs, a2, hl, hr, e6⟩ := lcD_drawAll mk enc y R xs a1 fun z hz => h z (List.mem_cons_of_mem _ hz)
    refine ⟨c :: zs, a2, by rw [List.length_cons, List.length_cons, hl], fun i x' z' h1 h2 => ?_, ?_⟩
    · cases i with
      | zero =>
        simp at h1 h2
        subst h1 h2
        exact r
      | succ i => exact hr i x' z' (by simpa using h1) (by simpa using h2)
    · simp only [List.map_cons, lcD, e1, fYes, Option.bind_some, if_true, e2, e3, e6, Option.map_some, List.map_cons]
/-! ### places in lists -/
theorem atI_map {α : Type} {xs : List α} {f : α → D} {i : Nat} {x : α} (h : xs[i]? = some x) : atI (xs.map f) (i : Int) = some (f x) := atI_nat (by rw [List.getElem?_map, h]; rfl)
theorem ixN_nat {n i : Nat} (h : i < n) : ixN n (i : Int) = some i := by
  unfold ixN
  rw [if_pos (Int.natCast_nonneg i), if_pos (by omega)]
  rfl
theorem ixN_pos {n : Nat} {i : Int} (h0 : 0 ≤ i) (h : i < n) : ixN n i = some i.toNat := by
  unfold ixN
  rw [if_pos h0, if_pos h]
theorem atI_pos {α : Type} {xs : List α} {i : Int} {x : α} (h0 : 0 ≤ i) (h : xs[i.toNat]? = some x) : atI xs i = some x := by
  have hl := (List.getElem?_eq_some_iff.mp h).1
  unfold atI
  rw [ixN_pos h0 (by omega)]
  exact h
theorem atI_0 {α : Type} {x : α} {xs : List α} : atI (x :: xs) 0 = some x := atI_nat (j := 0) rfl
theorem atI_1 {α : Type} {x y : α} {xs : List α} : atI (x :: y :: xs) 1 = some y := atI_nat (j := 1) rfl
theorem atI_2 {α : Type} {x y z : α} {xs : List α} : atI (x :: y :: z :: xs) 2 = some z := atI_nat (j := 2) rfl
theorem atI_3 {α : Type} {x y z u : α} {xs : List α} : atI (x :: y :: z :: u :: xs) 3 = some u := atI_nat (j := 3) rfl
theorem ixN_0 {n : Nat} : ixN (n + 1) 0 = some 0 := ixN_nat (i := 0) (by omega)
theorem ixN_1 {n : Nat} : ixN (n + 2) 1 = some 1 := ixN_nat (i := 1) (by omega)
theorem ixN_2 {n : Nat} : ixN (n + 3) 2 = some 2 := ixN_nat (i := 2) (by omega)
theorem upto_map (lo : Int) (n : Nat) : upto lo (lo + n) = (List.range n).map fun (i : Nat) => D.int (lo + (i : Int)) := by
  unfold upto
  rw [show (lo + (n : Int) - lo).toNat = n by omega]
theorem upto0 (n : Nat) : upto 0 (n : Int) = (List.range n).map fun (i : Nat) => D.int (i : Int) := by
  unfold upto
  rw [show ((n : Int) - 0).toNat = n by omega]
  apply List.map_congr_left
  intro i _
  rw [Int.zero_add]
end
end DL
namespace DL
open PySem PySem.Spec PyProof.Rows L2
noncomputable section
local macro_rules | `(tactic| walk_at "dl") => `(tactic| simp (config := { maxSteps := 1000000, failIfUnchanged := false }) (disch := omega) only [frz, vl, fC, fName, fMove, fOp2, fOp1, known, knownAt, fOpN, i2, gAdd, gSub, gMul, gMod, gDiv, gPow, gShl, gShr, gAnd, gLt, gLe, gGt, gGe, gNeg, gCat, gCatT, gRep, gPlus, gTimes, gEq, gNe, isNon, gIs, gIsNot, gIn, gNotIn, fInN, seqOf, gIx, gIxD, fNoPart, fPart, gSl, fSl, fANil, fACons, fLst, fTup, fB, fAndT, fOrT, fNotT, fAndV, fOrV, fNotV, fIfE, gTru, fTru, fTruN, fBSlot, res, fCall, gLen, lstOf, gSum, gMax1, gMin1, gMax2, gMin2, gMax, gMin, gAbs, gInt, gList, gTuple, gSortI, gSortP, gSorted, sNop, sBrk, sCont, sSeq, sIf, sRet, sRetN, sDrop, sNever, sSet, fgt, sThenFgt, sFgtThen, fMt, isLst, lstAt, fMtL, gAppend, gPopAt, sPutIx, tgName, tgNil, tgCons, tgTup, sAsgG, rLst, rTup, rRng, rRng2, rEnum, rZip, sFor, sWhile, hide, back1, backS, fYes, fLc, still, fin, keptBy, denOf, give, fUse, isObj, fMeth, fMake, fFld, objOf, fFldN, putD, sPutF, sAug, sAugIx, fChain, fIxK, fIsi, fUseT, Sl.isOwn, Option.bind_some, Option.bind_none, Option.map_some, Option.map_none, Option.or_some, Option.or_none, Option.none_or, Option.or, List.getElem?_cons_zero, List.getElem?_cons_succ, List.set_cons_zero, List.set_cons_succ, List.length_cons, List.length_nil, List.all_cons, List.all_nil, List.isEmpty_cons, List.isEmpty_nil, List.cons_append, List.nil_append, List.replicate_succ, List.replicate_zero, List.map_cons, List.map_nil, List.contains_cons, List.contains_nil, Nat.reduceAdd, Nat.reduceSub, Nat.reduceLeDiff, Nat.reduceBEq, Bool.true_and, Bool.and_true, Bool.false_and, Bool.and_false, Bool.or_true, Bool.true_or, Bool.or_false, Bool.false_or, Bool.not_true, Bool.not_false, beq_self_eq_true, decide_true, decide_false, if_true, if_false, reduceIte, Bool.false_eq_true, Bool.true_eq_false, ite_true, ite_false, reduceCtorEq, ne_eq, not_true_eq_false, not_false_eq_true, and_self, and_true, true_and, and_false, false_and, or_true, true_or, or_false, false_or, Int.reduceLT, Int.reduceLE, Int.reduceNeg, Int.reducePow, Int.reduceEq, Int.reduceNe, Int.reduceToNat, Int.reduceMul, Int.reduceAdd, Int.reduceSub, Nat.reduceLT, Nat.reducePow, atI_0, atI_1, atI_2, atI_3, ixN_0, ixN_1, ixN_2, List.length_map, decide_eq_true_eq, fitL_small, fit62_small, fit63_small, fit64_small, fit30_small, fitP_small, if_pos, if_neg, *])
/-! ### the laws' common defs -/

/-! _law_draw (level 1) -/
def f_law_draw : FS :=
  (sSeq (sThenFgt (sIf (fB (fOp2 gGt (fOpN gIx 0 (fC (.int 0))) (fC (.int 0)))) (sSeq (sSet 2 (fOp2 gMod (fCall gInt [none] (fACons (fOpN gIx 0 (fC (.int 0))) fANil)) (fName 1)))
    (sSeq (sPutIx 0 (fC (.int 0)) (fOp2 gDiv (fOpN gIx 0 (fC (.int 0))) (fName 1)))
    (sRet (fMove 2)))) sNop) [2])
    (sSeq (sAugIx (fun i j => i + j) 0 (fC (.int 2)) (fC (.int 1)))
    (sSeq (sPutIx 0 (fC (.int 1)) (fOp2 gMod (fCall gInt [none] (fACons (fOp2 gPlus (fOp2 gTimes (fOpN gIx 0 (fC (.int 1))) (fC (.int 48271))) (fOp2 gTimes (fOpN gIx 0 (fC (.int 2))) (fC (.int 69621)))) fANil)) (fC (.int 2147483647))))
    (sRet (fOp2 gMod (fOp2 gDiv (fOp2 gMod (fCall gInt [none] (fACons (fOp2 gPlus (fOp2 gTimes (fOpN gIx 0 (fC (.int 1))) (fC (.int 16807))) (fOp2 gTimes (fOpN gIx 0 (fC (.int 2))) (fC (.int 7919)))) fANil)) (fC (.int 2147483629))) (fC (.int 8))) (fName 1))))))
def den_law_draw : Den := denOf 3 [0] f_law_draw

/-! _law_matches (level 12) -/
def f_law_matches (den_law_matches : Den) : FS :=
  (sSeq (sIf (fOrT (fB (fOp2 gIs (fName 1) (fC .non))) (fB (fOp2 gIs (fName 0) (fC .non)))) (sRet (fAndV (fOp2 gIs (fName 1) (fC .non)) (fOp2 gIs (fName 0) (fC .non)))) sNop)
    (sSeq (sIf (fOrT (fB (fIsi "bool" (fName 1))) (fB (fIsi "bool" (fName 0)))) (sRet (fAndV (fIsi "bool" (fName 1)) (fAndV (fIsi "bool" (fName 0)) (fOp2 gEq (fName 0) (fName 1))))) sNop)
    (sSeq (sIf (fB (fIsi "int" (fName 1))) (sRet (fAndV (fIsi "int" (fName 0)) (fOp2 gEq (fName 0) (fName 1)))) sNop)
    (sSeq (sIf (fB (fIsi "str" (fName 1))) (sRet (fAndV (fIsi "str" (fName 0)) (fOp2 gEq (fName 0) (fName 1)))) sNop)
    (sSeq (sIf (fAndT (fB (fIsi "tuple" (fName 1))) (fNotT (fB (fIsi "tuple" (fName 0))))) (sRet (fC (.bl false))) sNop)
    (sSeq (sIf (fAndT (fB (fIsi "list" (fName 1))) (fNotT (fB (fIsi "list" (fName 0))))) (sRet (fC (.bl false))) sNop)
    (sSeq (sIf (fB (fOp2 gNe (fCall gLen [some 0] (fBSlot 0 fANil)) (fCall gLen [some 1] (fBSlot 1 fANil)))) (sRet (fC (.bl false))) sNop)
    (sSeq (sFgtThen [2] (sFor (rRng (fACons (fCall gLen [some 1] (fBSlot 1 fANil)) fANil)) (tgName 2) (sThenFgt (sIf (fNotT (fTru (fUse den_law_matches [none, none] (fACons (fOpN gIx 0 (fName 2)) (fACons (fOpN gIx 1 (fName 2)) fANil))))) (sRet (fC (.bl false))) sNop) [2])))
    (sRet (fC (.bl true)))))))))))
def denr_law_matches (n : Nat) : Den := recDen (fun den => denOf 3 [] (f_law_matches den)) n
abbrev den_law_matches : Den := denr_law_matches 12

/-! _law_mix (level 2) -/
def f_law_mix : FS :=
  (sSeq (sSet 2 (fCall gList [some 1] (fBSlot 1 fANil)))
    (sSeq (sSet 3 (fLst fANil))
    (sSeq (sFgtThen [4] (sFor (rRng (fACons (fCall gLen [some 1] (fBSlot 1 fANil)) fANil)) (tgName 4) (sThenFgt (sDrop (fMtL gAppend 3 (fACons (fMtL gPopAt 2 (fACons (fUse den_law_draw [some 0, none] (fBSlot 0 (fACons (fCall gLen [some 2] (fBSlot 2 fANil)) fANil))) fANil)) fANil))) [4])))
    (sRet (fMove 3)))))
def den_law_mix : Den := denOf 5 [0] f_law_mix

/-! _law_purse (level 1) -/
def f_law_purse : FS :=
  (sSeq (sSet 2 (fIfE (fB (fOp2 gLt (fName 1) (fCall gLen [some 0] (fBSlot 0 fANil)))) (fCall gInt [none] (fACons (fOpN gIx 0 (fName 1)) fANil)) (fOp2 gTimes (fC (.int 31)) (fCall gSum [none] (fACons (fLc (rLst (fSl (fName 0) fNoPart (fPart (fC (.int 4))))) (tgName 4) fYes (fCall gInt [some 4] (fBSlot 4 fANil)) [4]) fANil)))))
    (sSeq (sSet 3 (fOp2 gPlus (fOp2 gTimes (fC (.int 2)) (fCall gAbs [some 2] (fBSlot 2 fANil))) (fIfE (fB (fOp2 gLt (fName 2) (fC (.int 0)))) (fC (.int 1)) (fC (.int 0)))))
    (sRet (fLst (fACons (fIfE (fB (fOp2 gGe (fName 3) (fOp2 gPow (fC (.int 10)) (fC (.int 18))))) (fName 3) (fC (.int 0))) (fACons (fOp2 gMod (fCall gInt [none] (fACons (fOp2 gPlus (fOp2 gPlus (fName 3) (fOp2 gTimes (fName 1) (fC (.int 104729)))) (fC (.int 12345))) fANil)) (fC (.int 2147483629))) (fACons (fName 1) fANil)))))))
def den_law_purse : Den := denOf 5 [] f_law_purse

/-- a purse -/
def prs (p : Int × Int × Int) : Sl := .own [.int p.1, .int p.2.1, .int p.2.2]
theorem draw_ok (p : Int × Int × Int) (m : Int) (h0 : 0 < m) (h1 : m < 1048576) : ∃ r p', 0 ≤ r ∧ r < m ∧ den_law_draw [prs p, .val (.int m)] = some (.val (.int r), [prs p', .no]) := by
  obtain ⟨a, b, c⟩ := p
  have hm : m ≠ 0 := by omega
  have hm2 : m < 1073741824 := by omega
  have hm3 : -1073741824 < m := by omega
  by_cases h : 0 < a
  · have h3 : decide (0 < a) = true := decide_eq_true h
    refine ⟨a.fmod m, (a.fdiv m, b, c), Int.fmod_nonneg_of_pos a h0, Int.fmod_lt_of_pos a h0, ?_⟩
    unfold den_law_draw denOf f_law_draw prs
    walk_at "dl"
  · have h3 : decide (0 < a) = false := decide_eq_false h
    refine ⟨((((b * 48271 + (c + 1) * 69621).fmod 2147483647 * 16807 + (c + 1) * 7919).fmod 2147483629).fdiv 8).fmod m, (a, (b * 48271 + (c + 1) * 69621).fmod 2147483647, c + 1), Int.fmod_nonneg_of_pos _ h0, Int.fmod_lt_of_pos _ h0, ?_⟩
    unfold den_law_draw denOf f_law_draw prs
    walk_at "dl"
theorem purse_ok (ns : List Int) (at_ : Int) (h0 : 0 ≤ at_) (h1 : at_ < 1000) : ∃ p, den_law_purse [.val (.scr ns), .val (.int at_)] = some (prs p, [.no, .no]) := by
  have cellIs : ∃ cell : Int, (fIfE (fB (fOp2 gLt (fName 1) (fCall gLen [some 0] (fBSlot 0 fANil)))) (fCall gInt [none] (fACons (fOpN gIx 0 (fName 1)) fANil)) (fOp2 gTimes (fC (.int 31)) (fCall gSum [none] (fACons (fLc (rLst (fSl (fName 0) fNoPart (fPart (fC (.int 4))))) (tgName 4) fYes (fCall gInt [some 4] (fBSlot 4 fANil)) [4]) fANil))))
      [.val (.scr ns), .val (.int at_), .no, .no, .no] = some (.val (.int cell), [.val (.scr ns), .val (.int at_), .no, .no, .no]) := by
    by_cases h : at_ < ns.length
    · have h3 : decide (at_ < (ns.length : Int)) = true := decide_eq_true h
      have hi : at_.toNat < ns.length := by omega
      have e : atI (ns.map D.int) at_ = some (.int ns[at_.toNat]) := atI_pos h0 (by rw [List.getElem?_map, List.getElem?_eq_getElem hi]; rfl)
      refine ⟨ns[at_.toNat], ?_⟩
      walk_at "dl"
    · have h3 : decide (at_ < (ns.length : Int)) = false := decide_eq_false h
      have hc : cutL (ns.map D.int) none (some 4) = (ns.take 4).map D.int := by
        unfold cutL
        rw [HT.sIx_none, show HT.sIx (ns.map D.int).length (ns.map D.int).length (some 4) = min 4 (ns.map D.int).length from HT.sIx_nat _ _ 4, List.drop_zero, Nat.sub_zero, List.length_map, List.map_take]
        rw [← List.map_take, ← List.map_take]
        congr 1
        by_cases hn : 4 ≤ ns.length
        · rw [Nat.min_eq_left hn]
        · rw [Nat.min_eq_right (by omega), List.take_of_length_le (Nat.le_refl _), List.take_of_length_le (by omega)]
      refine ⟨31 * (ns.take 4).sum, ?_⟩
      have hl := lcD_map (fg := tgName 4) (ft := fYes) (fe := fCall gInt [some 4] (fBSlot 4 fANil)) (vs := [4]) (ρ := [.val (.scr ns), .val (.int at_), .no, .no, .no]) D.int D.int (ns.take 4) fun x _ => ⟨[.val (.scr ns), .val (.int at_), .no, .no, .val (.int x)], rfl, rfl, rfl, rfl⟩
      have hI := intsOf_map (ns.take 4)
      walk_at "dl"
  obtain ⟨cell, hcell⟩ := cellIs
  obtain ⟨sg, hsg⟩ : ∃ sg : Int, sg = if cell < 0 then 1 else 0 := ⟨_, rfl⟩
  obtain ⟨ab, hab⟩ : ∃ ab : Int, ab = if cell < 0 then -cell else cell := ⟨_, rfl⟩
  obtain ⟨sz, hsz⟩ : ∃ sz : Int, 2 * ab + sg = sz := ⟨_, rfl⟩
  have h1 : (fIfE (fB (fOp2 gLt (fName 2) (fC (.int 0)))) (fC (.int 1)) (fC (.int 0))) [.val (.scr ns), .val (.int at_), .val (.int cell), .no, .no] = some (.val (.int sg), [.val (.scr ns), .val (.int at_), .val (.int cell), .no, .no]) := by
    rw [hsg]
    by_cases hn : cell < 0 <;> walk_at "dl"
  have h2 : (fOp2 gTimes (fC (.int 2)) (fCall gAbs [some 2] (fBSlot 2 fANil))) [.val (.scr ns), .val (.int at_), .val (.int cell), .no, .no] = some (.val (.int (2 * ab)), [.val (.scr ns), .val (.int at_), .val (.int cell), .no, .no]) := by
    rw [hab]
    walk_at "dl"
  have h3 : (fIfE (fB (fOp2 gGe (fName 3) (fOp2 gPow (fC (.int 10)) (fC (.int 18))))) (fName 3) (fC (.int 0))) [.val (.scr ns), .val (.int at_), .val (.int cell), .val (.int sz), .no] = some (.val (.int (if 10 ^ 18 ≤ sz then sz else 0)), [.val (.scr ns), .val (.int at_), .val (.int cell), .val (.int sz), .no]) := by
    clear hsg hab hsz h1 h2 hcell
    by_cases hn : (10 : Int) ^ 18 ≤ sz <;> (simp only [Int.reducePow] at hn; walk_at "dl")
  refine ⟨(if 10 ^ 18 ≤ sz then sz else 0, (sz + at_ * 104729 + 12345).fmod 2147483629, at_), ?_⟩
  unfold den_law_purse denOf f_law_purse prs
  generalize (fIfE (fB (fOp2 gLt (fName 1) (fCall gLen [some 0] (fBSlot 0 fANil)))) (fCall gInt [none] (fACons (fOpN gIx 0 (fName 1)) fANil)) (fOp2 gTimes (fC (.int 31)) (fCall gSum [none] (fACons (fLc (rLst (fSl (fName 0) fNoPart (fPart (fC (.int 4))))) (tgName 4) fYes (fCall gInt [some 4] (fBSlot 4 fANil)) [4]) fANil)))) = cellF at hcell ⊢
  generalize (fIfE (fB (fOp2 gLt (fName 2) (fC (.int 0)))) (fC (.int 1)) (fC (.int 0))) = sgF at h1 ⊢
  generalize (fOp2 gTimes (fC (.int 2)) (fCall gAbs [some 2] (fBSlot 2 fANil))) = abF at h2 ⊢
  generalize (fIfE (fB (fOp2 gGe (fName 3) (fOp2 gPow (fC (.int 10)) (fC (.int 18))))) (fName 3) (fC (.int 0))) = ofF at h3 ⊢
  clear hsg hab h0
  walk_at "dl"
end
end DL
namespace DL
open PySem PySem.Spec PyProof.Rows L2
noncomputable section
section
variable {d : D} {ds : List D} {c : Str} {fs : List (Str × D)} {k : List (Key × D)} {t : List (List Key × D)} {p : Int × Int × Int}
theorem known_val : known (.val d) = true := rfl
theorem known_own : known (.own ds) = true := rfl
theorem known_oob : known (.oob c fs) = true := rfl
theorem known_odK : known (.odK k) = true := rfl
theorem known_odT : known (.odT t) = true := rfl
theorem known_no : known .no = false := rfl
theorem isOwn_val : (Sl.val d).isOwn = false := rfl
theorem isOwn_own : (Sl.own ds).isOwn = true := rfl
theorem isOwn_oob : (Sl.oob c fs).isOwn = true := rfl
theorem isOwn_odK : (Sl.odK k).isOwn = true := rfl
theorem isOwn_odT : (Sl.odT t).isOwn = true := rfl
theorem isOwn_no : Sl.no.isOwn = false := rfl
theorem prs_own : (prs p).isOwn = true := rfl
theorem prs_known : known (prs p) = true := rfl
end
/-! ### what a run of plain data gives, from the front -/
inductive Wp {α : Type} (o : Option α) (Q : α → Prop) : Prop
  | mk (x : α) (e : o = some x) (q : Q x)
theorem Wp.ex {α : Type} {o : Option α} {Q : α → Prop} (h : Wp o Q) : ∃ x, o = some x ∧ Q x := by
  obtain ⟨x, e, q⟩ := h
  exact ⟨x, e, q⟩
section
variable {α β : Type} {Q : α → Prop}
theorem wp_some {x : α} (h : Q x) : Wp (some x) Q := ⟨x, rfl, h⟩
theorem wp_to {o : Option α} {x : α} (h : Wp o fun y => y = x) : o = some x := by
  obtain ⟨y, e, rfl⟩ := h
  exact e
theorem wp_of {o o' : Option α} (e : o = o') (h : Wp o' Q) : Wp o Q := e ▸ h
theorem Wp.imp {o : Option α} {Q' : α → Prop} (h : Wp o Q) (i : ∀ x, Q x → Q' x) : Wp o Q' := by
  obtain ⟨x, e, q⟩ := h
  exact ⟨x, e, i x q⟩
theorem wp_bind {o : Option β} {f : β → Option α} (h : Wp o fun x => Wp (f x) Q) : Wp (o.bind f) Q := by
  obtain ⟨x, e, y, e2, q⟩ := h
  exact ⟨y, by rw [e]; exact e2, q⟩
theorem wp_map {o : Option β} {f : β → α} (h : Wp o fun x => Q (f x)) : Wp (o.map f) Q := by
  obtain ⟨x, e, q⟩ := h
  exact ⟨f x, by rw [e]; rfl, q⟩
end
section
variable {Q : Ou → Prop} {f g : FS} {e : FE} {c : FT} {ρ : En} {is : List Nat}
/-- goes on after a statement -/
def Nx (g : FS) (Q : Ou → Prop) : Ou → Prop
  | .nx ρ' => Wp (g ρ') Q
  | o => Q o
theorem wp_seq (h : Wp (f ρ) (Nx g Q)) : Wp (sSeq f g ρ) Q := by
  obtain ⟨o, e, q⟩ := h
  unfold sSeq
  rw [e]
  cases o <;> first | exact q | exact ⟨_, rfl, q⟩
theorem wp_set {i : Nat} (h : Wp (e ρ) fun p => Q (.nx (p.2.set i p.1))) : Wp (sSet i e ρ) Q := wp_map h
theorem wp_drop (h : Wp (e ρ) fun p => Q (.nx p.2)) : Wp (sDrop e ρ) Q := wp_map h
theorem wp_ret (h : Wp (e ρ) fun p => Q (.rt p.1 p.2)) : Wp (sRet e ρ) Q := wp_map h
theorem wp_nop (h : Q (.nx ρ)) : Wp (sNop ρ) Q := ⟨_, rfl, h⟩
theorem wp_if (h : Wp (c ρ) fun p => if p.1 = true then Wp (f p.2) Q else Wp (g p.2) Q) : Wp (sIf c f g ρ) Q := by
  obtain ⟨⟨b, ρ'⟩, e, q⟩ := h
  unfold sIf
  rw [e]
  cases b <;> exact q
def Fg (is : List Nat) (Q : Ou → Prop) : Ou → Prop
  | .nx ρ' => Q (.nx (fgt is ρ'))
  | .ct ρ' => Q (.ct (fgt is ρ'))
  | o => Q o
theorem wp_thenFgt (h : Wp (f ρ) (Fg is Q)) : Wp (sThenFgt f is ρ) Q := by
  obtain ⟨o, e, q⟩ := h
  unfold sThenFgt
  rw [e]
  cases o <;> exact ⟨_, rfl, q⟩
theorem wp_fgtThen (h : Wp (f (fgt is ρ)) Q) : Wp (sFgtThen is f ρ) Q := h
end
section
variable {Q : Ou → Prop} {f g : FS} {e : FE} {c : FT} {ρ : En} {is : List Nat} {src : FSr} {fg : FG} {fb : FS} {fe : FE} {vs : List Nat}
theorem wp_src (h : Wp (src ρ) fun p => Wp (forD fg fb p.1 p.2) Q) : Wp (sFor src fg fb ρ) Q := wp_bind h
/-- a for by an invariant on what it carries -/
theorem wp_for {α : Type} {ds : List D} {ρ : En} (mk : α → En) (I : Nat → α → Prop) (a0 : α) (hρ : ρ = mk a0) (h0 : I 0 a0)
    (hs : ∀ (i : Nat) (d : D) (a : α), ds[i]? = some d → I i a → ∃ ρ1, fg d (mk a) = some ρ1 ∧ Wp (fb ρ1) fun o => ∃ a', (o = .nx (mk a') ∨ o = .ct (mk a')) ∧ I (i + 1) a')
    (hk : ∀ a', I ds.length a' → Q (.nx (mk a'))) : Wp (forD fg fb ds ρ) Q := by
  subst hρ
  obtain ⟨a', h, e⟩ := forD_inv (fg := fg) (fb := fb) mk I ds 0 a0 h0 fun i d a e h => by
    rw [Nat.zero_add] at h ⊢
    obtain ⟨ρ1, e1, o, e2, a', ho, h2⟩ := hs i d a e h
    exact ⟨ρ1, a', e1, by rcases ho with rfl | rfl; exact .inl e2; exact .inr e2, h2⟩
  rw [Nat.zero_add] at h
  exact ⟨_, e, hk a' h⟩
/-- .. that may leave by a return or a break -/
theorem wp_forX {α : Type} {ρ : En} (mk : α → En) (I : Nat → α → Prop) : ∀ {ds : List D} (n : Nat) (a0 : α) (hρ : ρ = mk a0) (h0 : I n a0)
    (hs : ∀ (i : Nat) (d : D) (a : α), ds[i]? = some d → I (n + i) a → ∃ ρ1, fg d (mk a) = some ρ1 ∧ Wp (fb ρ1) fun o => (∃ a', (o = .nx (mk a') ∨ o = .ct (mk a')) ∧ I (n + i + 1) a') ∨ (∃ s ρ', o = .rt s ρ' ∧ Q o) ∨ (∃ ρ', o = .bk ρ' ∧ Q (.nx ρ')))
    (hk : ∀ a', I (n + ds.length) a' → Q (.nx (mk a'))), Wp (forD fg fb ds ρ) Q
  | [], n, a0, hρ, h0, _, hk => ⟨_, rfl, hρ ▸ hk a0 h0⟩
  | d :: ds, n, a0, hρ, h0, hs, hk => by
    subst hρ
    obtain ⟨ρ1, e1, o, e2, h⟩ := hs 0 d a0 rfl h0
    simp only [forD, e1, e2, Option.bind_some]
    rcases h with ⟨a', ho, h1⟩ | ⟨s, ρ', rfl, q⟩ | ⟨ρ', rfl, q⟩
    · have ih := wp_forX mk I (ds := ds) (n + 1) a' rfl h1 (fun i d' a'' e h => by
        have := hs (i + 1) d' a'' (by simpa using e)
        rw [show n + (i + 1) = n + 1 + i by omega] at this
        exact this h) fun a'' h => hk a'' (by rw [List.length_cons, show n + (ds.length + 1) = n + 1 + ds.length by omega]; exact h)
      rcases ho with rfl | rfl <;> exact ih
    · exact ⟨_, rfl, q⟩
    · exact ⟨_, rfl, q⟩
end
section
variable {Q : Sl × En → Prop} {src : FSr} {fg : FG} {ft : FT} {fe fa fb : FE} {vs : List Nat} {ρ : En} {den : Den} {ks : List (Option Nat)} {fA : FAr}
theorem wp_lc (h : Wp (src ρ) fun p => Wp (lcD fg ft fe vs p.1 (hide vs p.2)) fun q => Q (.own q.1, backS p.2 vs q.2)) : Wp (fLc src fg ft fe vs ρ) Q := by
  refine wp_bind (h.imp fun p h => wp_map h)
theorem wp_use (h : Wp (fA ρ) fun p => Wp (res ks p.1 p.2) fun ss => (ss.all known = true) ∧ Wp (den ss) fun q => Q (q.1, give ks ss q.2 p.2)) : Wp (fUse den ks fA ρ) Q := by
  refine wp_bind (h.imp fun p h => wp_bind (h.imp fun ss h => ?_))
  rw [if_pos h.1]
  exact wp_map h.2
theorem wp_op2 {g : D → D → Option Sl} (h : Wp (vl fa ρ) fun p => Wp (vl fb p.2) fun q => Wp (g p.1 q.1) fun s => Q (s, q.2)) : Wp (fOp2 g fa fb ρ) Q :=
  wp_bind (h.imp fun p h => wp_bind (h.imp fun q h => wp_map h))
end
theorem wp_acons {Q : List D × En → Prop} {f : FE} {r : FAr} {ρ : En} (h : Wp (vl f ρ) fun p => Wp (r p.2) fun q => Q (p.1 :: q.1, q.2)) : Wp (fACons f r ρ) Q :=
  wp_bind (h.imp fun p h => wp_map h)
theorem wp_vl {Q : D × En → Prop} {f : FE} {ρ : En} (h : Wp (f ρ) fun p => Wp (frz p.1) fun d => Q (d, p.2)) : Wp (vl f ρ) Q := by
  unfold vl
  exact wp_bind (h.imp fun p h => wp_map h)
/-- what a def's run gives -/
def Fi (ss : List Sl) (Q : Sl × List Sl → Prop) : Ou → Prop
  | .rt s ρ' => still ss ρ' = true ∧ Q (s, fin ss ρ')
  | .nx ρ' => still ss ρ' = true ∧ Q (.val .non, fin ss ρ')
  | _ => False
theorem wp_den {n : Nat} {M : List Nat} {f : FS} {ss : List Sl} {Q : Sl × List Sl → Prop} (hk : keptBy M 0 ss = true) (h : Wp (f (ss ++ List.replicate (n - ss.length) .no)) (Fi ss Q)) : Wp (denOf n M f ss) Q := by
  unfold denOf
  rw [if_pos hk]
  refine wp_bind (h.imp fun o h => ?_)
  cases o with
  | rt s ρ' => simp only [Fi] at h; exact ⟨_, if_pos h.1, h.2⟩
  | nx ρ' => simp only [Fi] at h; exact ⟨_, if_pos h.1, h.2⟩
  | bk ρ' => exact h.elim
  | ct ρ' => exact h.elim
/-- a comprehension that draws, with a state -/
theorem wp_lcDraw {α β γ : Type} {Q : List D × En → Prop} {fg : FG} {ft : FT} {fe : FE} {vs : List Nat} {ρ : En} (mk : α → En) (enc : β → D) (y : γ → D) (R : β → γ → Prop) (xs : List β) (a0 : α) {ds : List D} (hd : ds = xs.map enc) (hρ : ρ = mk a0)
    (h : ∀ x ∈ xs, ∀ a, ∃ ρ1, fg (enc x) (mk a) = some ρ1 ∧ Wp (ft ρ1) fun p => (p.1 = false → ∃ a', hide vs p.2 = mk a') ∧ (p.1 = true → Wp (vl fe p.2) fun q => ∃ c a', R x c ∧ q.1 = y c ∧ hide vs q.2 = mk a'))
    (hk : ∀ (zs : List γ) (a' : α), (∀ z ∈ zs, ∃ x ∈ xs, R x z) → zs.length ≤ xs.length → Q (zs.map y, mk a')) : Wp (lcD fg ft fe vs ds ρ) Q := by
  subst hd hρ
  obtain ⟨zs, a', h1, h2, e⟩ := lcD_draw (fg := fg) (ft := ft) (fe := fe) (vs := vs) mk enc y R xs a0 fun x hx a => by
    obtain ⟨ρ1, e1, ⟨b, ρ2⟩, e2, h3, h4⟩ := h x hx a
    refine ⟨ρ1, b, ρ2, e1, e2, fun hb => h3 hb, fun hb => ?_⟩
    obtain ⟨⟨d, ρ3⟩, e3, c, a', r, rfl, e4⟩ := h4 hb
    exact ⟨c, a', ρ3, r, e3, e4⟩
  exact ⟨_, e, hk zs a' h1 h2⟩
/-- .. without a test -/
theorem wp_lcAll {α β γ : Type} {Q : List D × En → Prop} {fg : FG} {fe : FE} {vs : List Nat} {ρ : En} (mk : α → En) (enc : β → D) (y : γ → D) (R : β → γ → Prop) (xs : List β) (a0 : α) {ds : List D} (hd : ds = xs.map enc) (hρ : ρ = mk a0)
    (h : ∀ x ∈ xs, ∀ a, ∃ ρ1, fg (enc x) (mk a) = some ρ1 ∧ Wp (vl fe ρ1) fun q => ∃ c a', R x c ∧ q.1 = y c ∧ hide vs q.2 = mk a')
    (hk : ∀ (zs : List γ) (a' : α), zs.length = xs.length → (∀ (i : Nat) (x : β) (z : γ), xs[i]? = some x → zs[i]? = some z → R x z) → Q (zs.map y, mk a')) : Wp (lcD fg fYes fe vs ds ρ) Q := by
  subst hd hρ
  obtain ⟨zs, a', h1, h2, e⟩ := lcD_drawAll (fg := fg) (fe := fe) (vs := vs) mk enc y R xs a0 fun x hx a => by
    obtain ⟨ρ1, e1, ⟨d, ρ3⟩, e2, c, a', r, rfl, e4⟩ := h x hx a
    exact ⟨ρ1, c, a', ρ3, e1, r, e2, e4⟩
  exact ⟨_, e, hk zs a' h1 h2⟩
/-- .. without effects -/
theorem wp_lcPure {β : Type} {Q : List D × En → Prop} {fg : FG} {ft : FT} {fe : FE} {vs : List Nat} {ρ : En} (enc : β → D) (t : β → Bool) (y : β → D) (xs : List β) {ds : List D} (hd : ds = xs.map enc)
    (h : ∀ x ∈ xs, ∃ ρ1, fg (enc x) ρ = some ρ1 ∧ ft ρ1 = some (t x, ρ1) ∧ (t x = true → vl fe ρ1 = some (y x, ρ1)) ∧ hide vs ρ1 = ρ)
    (hk : Q ((xs.filter t).map y, ρ)) : Wp (lcD fg ft fe vs ds ρ) Q := by
  subst hd
  exact ⟨_, lcD_pure enc t y xs h, hk⟩
theorem wp_lcMap {β : Type} {Q : List D × En → Prop} {fg : FG} {ft : FT} {fe : FE} {vs : List Nat} {ρ : En} (enc : β → D) (y : β → D) (xs : List β) {ds : List D} (hd : ds = xs.map enc)
    (h : ∀ x ∈ xs, ∃ ρ1, fg (enc x) ρ = some ρ1 ∧ ft ρ1 = some (true, ρ1) ∧ vl fe ρ1 = some (y x, ρ1) ∧ hide vs ρ1 = ρ)
    (hk : Q (xs.map y, ρ)) : Wp (lcD fg ft fe vs ds ρ) Q := by
  subst hd
  exact ⟨_, lcD_map enc y xs h, hk⟩
end
end DL
namespace DL
open PySem PySem.Spec PyProof.Rows L2
noncomputable section
abbrev Pur := Int × Int × Int
theorem draw_ex (p : Pur) (m : Int) : ∃ q : Int × Pur, 0 < m → m < 1048576 → 0 ≤ q.1 ∧ q.1 < m ∧ den_law_draw [prs p, .val (.int m)] = some (.val (.int q.1), [prs q.2, .no]) := by
  by_cases h : 0 < m ∧ m < 1048576
  · obtain ⟨r, p', a, b, c⟩ := draw_ok p m h.1 h.2
    exact ⟨(r, p'), fun _ _ => ⟨a, b, c⟩⟩
  · exact ⟨(0, p), fun a b => absurd ⟨a, b⟩ h⟩
/-- what is drawn, and the purse after it -/
noncomputable def dr (p : Pur) (m : Int) : Int := (Classical.choose (draw_ex p m)).1
noncomputable def dp (p : Pur) (m : Int) : Pur := (Classical.choose (draw_ex p m)).2
theorem dr_lo {p : Pur} {m : Int} (h : 0 < m) (h1 : m < 1048576) : 0 ≤ dr p m := (Classical.choose_spec (draw_ex p m) h h1).1
theorem dr_hi {p : Pur} {m : Int} (h : 0 < m) (h1 : m < 1048576) : dr p m < m := (Classical.choose_spec (draw_ex p m) h h1).2.1
theorem den_draw {p : Pur} {m : Int} (h : 0 < m) (h1 : m < 1048576) : den_law_draw [prs p, .val (.int m)] = some (.val (.int (dr p m)), [prs (dp p m), .no]) := (Classical.choose_spec (draw_ex p m) h h1).2.2
local macro_rules | `(tactic| walk_at "dl") => `(tactic| simp (config := { maxSteps := 1000000, failIfUnchanged := false }) (disch := omega) only [frz, vl, fC, fName, fMove, fOp2, fOp1, known_val, known_own, known_oob, known_odK, known_odT, known_no, knownAt, fOpN, i2, gAdd, gSub, gMul, gMod, gDiv, gPow, gShl, gShr, gAnd, gLt, gLe, gGt, gGe, gNeg, gCat, gCatT, gRep, gPlus, gTimes, gEq, gNe, isNon, gIs, gIsNot, gIn, gNotIn, fInN, seqOf, gIx, gIxD, fNoPart, fPart, gSl, fSl, fANil, fACons, fLst, fTup, fB, fAndT, fOrT, fNotT, fAndV, fOrV, fNotV, fIfE, gTru, fTru, fTruN, fBSlot, res, fCall, gLen, lstOf, gSum, gMax1, gMin1, gMax2, gMin2, gMax, gMin, gAbs, gInt, gList, gTuple, gSortI, gSortP, gSorted, sNop, sBrk, sCont, sSeq, sIf, sRet, sRetN, sDrop, sNever, sSet, fgt, sThenFgt, sFgtThen, fMt, isLst, lstAt, fMtL, gAppend, gPopAt, sPutIx, tgName, tgNil, tgCons, tgTup, sAsgG, rLst, rTup, rRng, rRng2, rEnum, rZip, sFor, sWhile, hide, back1, backS, fYes, fLc, still, fin, keptBy, denOf, give, fUse, isObj, fMeth, fMake, fFld, objOf, fFldN, putD, sPutF, sAug, sAugIx, fChain, fIxK, fIsi, fUseT, isOwn_val, isOwn_own, isOwn_oob, isOwn_odK, isOwn_odT, isOwn_no, Option.bind_some, Option.bind_none, Option.map_some, Option.map_none, Option.or_some, Option.or_none, Option.none_or, Option.or, List.getElem?_cons_zero, List.getElem?_cons_succ, List.set_cons_zero, List.set_cons_succ, List.length_cons, List.length_nil, List.all_cons, List.all_nil, List.isEmpty_cons, List.isEmpty_nil, List.cons_append, List.nil_append, List.replicate_succ, List.replicate_zero, List.map_cons, List.map_nil, List.contains_cons, List.contains_nil, Nat.reduceAdd, Nat.reduceSub, Nat.reduceLeDiff, Nat.reduceBEq, Bool.true_and, Bool.and_true, Bool.false_and, Bool.and_false, Bool.or_true, Bool.true_or, Bool.or_false, Bool.false_or, Bool.not_true, Bool.not_false, beq_self_eq_true, decide_true, decide_false, if_true, if_false, reduceIte, Bool.false_eq_true, Bool.true_eq_false, ite_true, ite_false, reduceCtorEq, ne_eq, not_true_eq_false, not_false_eq_true, and_self, and_true, true_and, and_false, false_and, or_true, true_or, or_false, false_or, Int.reduceLT, Int.reduceLE, Int.reduceNeg, Int.reducePow, Int.reduceEq, Int.reduceNe, Int.reduceToNat, Int.reduceMul, Int.reduceAdd, Int.reduceSub, Nat.reduceLT, Nat.reducePow, atI_0, atI_1, atI_2, atI_3, ixN_0, ixN_1, ixN_2, List.length_map, decide_eq_true_eq, prs_own, prs_known, den_draw, fitL_small, fit62_small, fit63_small, fit64_small, fit30_small, fitP_small, if_pos, if_neg, *])
local macro_rules | `(tactic| walk_at "ev") => `(tactic| (refine wp_of (by walk_at "dl"; with_reducible exact rfl) (wp_some ?_)))
local macro_rules | `(tactic| walk_at "cl") => `(tactic| simp (config := { failIfUnchanged := false }) only [Nx, Fg, Fi, fgt, hide, backS, back1, List.set_cons_zero, List.set_cons_succ, List.getElem?_cons_zero, List.getElem?_cons_succ, List.length_cons, List.length_nil, Nat.reduceAdd, Nat.reduceSub, List.replicate_succ, List.replicate_zero, List.cons_append, List.nil_append, still, fin, isOwn_val, isOwn_own, isOwn_oob, isOwn_odK, isOwn_odT, isOwn_no, prs_own, Bool.not_true, Bool.not_false, Bool.true_or, Bool.false_or, Bool.true_and, Bool.and_true, Bool.or_true, if_true, if_false, Bool.false_eq_true, reduceIte, true_and, and_true])
local macro_rules | `(tactic| walk_at "go") => `(tactic| (repeat (first
  | refine wp_seq ?_
  | (refine wp_fgtThen ?_; walk_at "cl")
  | refine wp_thenFgt ?_
  | (refine wp_set ?_; walk_at "ev"; walk_at "cl")
  | (refine wp_drop ?_; walk_at "ev"; walk_at "cl")
  | (refine wp_ret ?_; walk_at "ev"; walk_at "cl")
  | (refine wp_nop ?_; walk_at "cl")
  | (refine wp_src ?_; walk_at "ev"; walk_at "cl")
  | (walk_at "ev"; walk_at "cl"))))
theorem eraseIdx_perm {α : Type} : ∀ {xs : List α} {k : Nat} (h : k < xs.length), (xs[k] :: xs.eraseIdx k).Perm xs
  | x :: xs, 0, _ => .refl _
  | x :: xs, k + 1, h => by
    have h' : k < xs.length := by simpa using h
    simp only [List.getElem_cons_succ, List.eraseIdx_cons_succ]
    exact (List.Perm.swap x _ _).trans ((eraseIdx_perm h').cons x)
theorem upto_len (n : Nat) : (upto 0 (n : Int)).length = n := by unfold upto; rw [List.length_map, List.length_range]; omega
theorem upto_get {n i : Nat} {d : D} (h : (upto 0 (n : Int))[i]? = some d) : d = .int i ∧ i < n := by
  rw [upto0] at h
  obtain ⟨k, h1, h2⟩ := Option.map_eq_some_iff.mp (List.getElem?_map ▸ h)
  obtain ⟨h3, h4⟩ := List.getElem?_eq_some_iff.mp h1
  rw [List.length_range] at h3
  rw [List.getElem_range] at h4
  subst h4
  exact ⟨h2.symm, h3⟩
theorem mix_ok (p : Pur) (ds : List D) (hl : ds.length < 1000) : ∃ ys p', ys.Perm ds ∧ den_law_mix [prs p, .val (.lst ds)] = some (.own ys, [prs p', .no]) := by
  suffices h : Wp (den_law_mix [prs p, .val (.lst ds)]) fun q => ∃ ys p', ys.Perm ds ∧ q = (.own ys, [prs p', .no]) by
    obtain ⟨q, e, ys, p', hp, rfl⟩ := h
    exact ⟨ys, p', hp, e⟩
  refine wp_den rfl ?_
  unfold f_law_mix
  walk_at "go"
  refine wp_for (α := Pur × List D × List D) (fun a => [prs a.1, .val (.lst ds), .own a.2.1, .own a.2.2, .no]) (fun i a => (a.2.2 ++ a.2.1).Perm ds ∧ a.2.1.length + i = ds.length) (p, ds, []) rfl ⟨by simp, rfl⟩ ?_ ?_
  · rintro i d ⟨p, rem, out⟩ hd ⟨hp, hn⟩
    obtain ⟨rfl, hi⟩ := upto_get hd
    refine ⟨_, rfl, ?_⟩
    have hlen := hp.length_eq
    rw [List.length_append] at hlen
    dsimp only at hn hlen hp
    have h0 := dr_lo (p := p) (m := rem.length) (by omega) (by omega)
    have h1 := dr_hi (p := p) (m := rem.length) (by omega) (by omega)
    have hk : (dr p rem.length).toNat < rem.length := by omega
    have e1 : ixN rem.length (dr p rem.length) = some (dr p rem.length).toNat := ixN_pos h0 (by omega)
    have e2 : rem[(dr p rem.length).toNat]? = some rem[(dr p rem.length).toNat] := List.getElem?_eq_getElem hk
    walk_at "cl"
    walk_at "go"
    refine ⟨(dp p rem.length, rem.eraseIdx (dr p rem.length).toNat, out ++ [rem[(dr p rem.length).toNat]]), .inl rfl, ?_, ?_⟩
    · refine .trans ?_ hp
      dsimp only
      rw [List.append_assoc]
      exact (eraseIdx_perm hk).append_left out
    · dsimp only
      rw [List.length_eraseIdx_of_lt hk]
      omega
  · rintro ⟨p', rem, out⟩ ⟨hp, hn⟩
    rw [upto_len] at hn
    have hr : rem = [] := List.eq_nil_of_length_eq_zero (by dsimp only at hn; omega)
    subst hr
    walk_at "cl"
    walk_at "go"
    exact ⟨_, _, by simpa using hp, rfl⟩
end
end DL
namespace DL
open PySem PySem.Spec PyProof.Rows L2
noncomputable section
section
variable {b : Bool} {i : Int} {z : Str} {ds : List D}
theorem isi_bool_non : isiD "bool" D.non = some false := by first | rfl | decide
theorem isi_bool_bl : isiD "bool" (D.bl b) = some true := by first | rfl | decide
theorem isi_bool_int : isiD "bool" (D.int i) = some false := by first | rfl | decide
theorem isi_bool_str : isiD "bool" (D.str z) = some false := by first | rfl | decide
theorem isi_bool_tup : isiD "bool" (D.tup ds) = some false := by first | rfl | decide
theorem isi_bool_lst : isiD "bool" (D.lst ds) = some false := by first | rfl | decide
theorem isi_int_non : isiD "int" D.non = some false := by first | rfl | decide
theorem isi_int_bl : isiD "int" (D.bl b) = some true := by first | rfl | decide
theorem isi_int_int : isiD "int" (D.int i) = some true := by first | rfl | decide
theorem isi_int_str : isiD "int" (D.str z) = some false := by first | rfl | decide
theorem isi_int_tup : isiD "int" (D.tup ds) = some false := by first | rfl | decide
theorem isi_int_lst : isiD "int" (D.lst ds) = some false := by first | rfl | decide
theorem isi_str_non : isiD "str" D.non = some false := by first | rfl | decide
theorem isi_str_bl : isiD "str" (D.bl b) = some false := by first | rfl | decide
theorem isi_str_int : isiD "str" (D.int i) = some false := by first | rfl | decide
theorem isi_str_str : isiD "str" (D.str z) = some true := by first | rfl | decide
theorem isi_str_tup : isiD "str" (D.tup ds) = some false := by first | rfl | decide
theorem isi_str_lst : isiD "str" (D.lst ds) = some false := by first | rfl | decide
theorem isi_tuple_non : isiD "tuple" D.non = some false := by first | rfl | decide
theorem isi_tuple_bl : isiD "tuple" (D.bl b) = some false := by first | rfl | decide
theorem isi_tuple_int : isiD "tuple" (D.int i) = some false := by first | rfl | decide
theorem isi_tuple_str : isiD "tuple" (D.str z) = some false := by first | rfl | decide
theorem isi_tuple_tup : isiD "tuple" (D.tup ds) = some true := by first | rfl | decide
theorem isi_tuple_lst : isiD "tuple" (D.lst ds) = some false := by first | rfl | decide
theorem isi_list_non : isiD "list" D.non = some false := by first | rfl | decide
theorem isi_list_bl : isiD "list" (D.bl b) = some false := by first | rfl | decide
theorem isi_list_int : isiD "list" (D.int i) = some false := by first | rfl | decide
theorem isi_list_str : isiD "list" (D.str z) = some false := by first | rfl | decide
theorem isi_list_tup : isiD "list" (D.tup ds) = some false := by first | rfl | decide
theorem isi_list_lst : isiD "list" (D.lst ds) = some true := by first | rfl | decide
end
/-- data without objects, n deep -/
def Fl : Nat → D → Prop
  | _, .non => True
  | _, .bl _ => True
  | _, .int _ => True
  | _, .str x => okE (.str x) = true
  | n + 1, .tup ds => ds.length ≤ 1000000 ∧ ∀ d ∈ ds, Fl n d
  | n + 1, .lst ds => ds.length ≤ 1000000 ∧ ∀ d ∈ ds, Fl n d
  | _, _ => False
theorem gEq_int {i j : Int} : gEq (.int i) (.int j) = some (.val (.bl (decide (i = j)))) := by
  unfold gEq eqD
  rw [if_pos ⟨rfl, rfl⟩]
  rfl
theorem gEq_bl {i j : Bool} : gEq (.bl i) (.bl j) = some (.val (.bl (decide (i = j)))) := by
  unfold gEq eqD
  rw [if_pos ⟨rfl, rfl⟩]
  cases i <;> cases j <;> rfl
theorem gEq_str {i j : Str} (h1 : okE (.str i) = true) (h2 : okE (.str j) = true) : gEq (.str i) (.str j) = some (.val (.bl (decide (i = j)))) := by
  unfold gEq eqD
  rw [if_pos ⟨h1, h2⟩]
  rfl
theorem gNe_int {i j : Int} : gNe (.int i) (.int j) = some (.val (.bl (!decide (i = j)))) := by
  unfold gNe eqD
  rw [if_pos ⟨rfl, rfl⟩]
  rfl
local macro_rules | `(tactic| walk_at "dl") => `(tactic| simp (config := { maxSteps := 1000000, failIfUnchanged := false }) (disch := omega) only [frz, vl, fC, fName, fMove, fOp2, fOp1, known_val, known_own, known_oob, known_odK, known_odT, known_no, knownAt, fOpN, i2, gAdd, gSub, gMul, gMod, gDiv, gPow, gShl, gShr, gAnd, gLt, gLe, gGt, gGe, gNeg, gCat, gCatT, gRep, gPlus, gTimes, gEq_int, gEq_bl, gNe_int, isNon, gIs, gIsNot, gIn, gNotIn, fInN, seqOf, gIx, gIxD, fNoPart, fPart, gSl, fSl, fANil, fACons, fLst, fTup, fB, fAndT, fOrT, fNotT, fAndV, fOrV, fNotV, fIfE, gTru, fTru, fTruN, fBSlot, res, fCall, gLen, lstOf, gSum, gMax1, gMin1, gMax2, gMin2, gMax, gMin, gAbs, gInt, gList, gTuple, gSortI, gSortP, gSorted, sNop, sBrk, sCont, sSeq, sIf, sRet, sRetN, sDrop, sNever, sSet, fgt, sThenFgt, sFgtThen, fMt, isLst, lstAt, fMtL, gAppend, gPopAt, sPutIx, tgName, tgNil, tgCons, tgTup, sAsgG, rLst, rTup, rRng, rRng2, rEnum, rZip, sFor, sWhile, hide, back1, backS, fYes, fLc, still, fin, keptBy, denOf, give, fUse, isObj, fMeth, fMake, fFld, objOf, fFldN, putD, sPutF, sAug, sAugIx, fChain, fIxK, fIsi, fUseT, isOwn_val, isOwn_own, isOwn_oob, isOwn_odK, isOwn_odT, isOwn_no, Option.bind_some, Option.bind_none, Option.map_some, Option.map_none, Option.or_some, Option.or_none, Option.none_or, Option.or, List.getElem?_cons_zero, List.getElem?_cons_succ, List.set_cons_zero, List.set_cons_succ, List.length_cons, List.length_nil, List.all_cons, List.all_nil, List.isEmpty_cons, List.isEmpty_nil, List.cons_append, List.nil_append, List.replicate_succ, List.replicate_zero, List.map_cons, List.map_nil, List.contains_cons, List.contains_nil, Nat.reduceAdd, Nat.reduceSub, Nat.reduceLeDiff, Nat.reduceBEq, Bool.true_and, Bool.and_true, Bool.false_and, Bool.and_false, Bool.or_true, Bool.true_or, Bool.or_false, Bool.false_or, Bool.not_true, Bool.not_false, beq_self_eq_true, decide_true, decide_false, if_true, if_false, reduceIte, Bool.false_eq_true, Bool.true_eq_false, ite_true, ite_false, reduceCtorEq, ne_eq, not_true_eq_false, not_false_eq_true, and_self, and_true, true_and, and_false, false_and, or_true, true_or, or_false, false_or, Int.reduceLT, Int.reduceLE, Int.reduceNeg, Int.reducePow, Int.reduceEq, Int.reduceNe, Int.reduceToNat, Int.reduceMul, Int.reduceAdd, Int.reduceSub, Nat.reduceLT, Nat.reducePow, atI_0, atI_1, atI_2, atI_3, ixN_0, ixN_1, ixN_2, List.length_map, decide_eq_true_eq, isi_bool_non, isi_bool_bl, isi_bool_int, isi_bool_str, isi_bool_tup, isi_bool_lst, isi_int_non, isi_int_bl, isi_int_int, isi_int_str, isi_int_tup, isi_int_lst, isi_str_non, isi_str_bl, isi_str_int, isi_str_str, isi_str_tup, isi_str_lst, isi_tuple_non, isi_tuple_bl, isi_tuple_int, isi_tuple_str, isi_tuple_tup, isi_tuple_lst, isi_list_non, isi_list_bl, isi_list_int, isi_list_str, isi_list_tup, isi_list_lst, prs_own, prs_known, den_draw, fitL_small, fit62_small, fit63_small, fit64_small, fit30_small, fitP_small, if_pos, if_neg, *])
local macro_rules | `(tactic| walk_at "ev") => `(tactic| (refine wp_of (by walk_at "dl"; with_reducible exact rfl) (wp_some ?_)))
local macro_rules | `(tactic| walk_at "cl") => `(tactic| simp (config := { failIfUnchanged := false }) only [Nx, Fg, Fi, fgt, hide, backS, back1, List.set_cons_zero, List.set_cons_succ, List.getElem?_cons_zero, List.getElem?_cons_succ, List.length_cons, List.length_nil, Nat.reduceAdd, Nat.reduceSub, List.replicate_succ, List.replicate_zero, List.cons_append, List.nil_append, still, fin, isOwn_val, isOwn_own, isOwn_oob, isOwn_odK, isOwn_odT, isOwn_no, prs_own, Bool.not_true, Bool.not_false, Bool.true_or, Bool.false_or, Bool.true_and, Bool.and_true, Bool.or_true, if_true, if_false, Bool.false_eq_true, reduceIte, true_and, and_true])
local macro_rules | `(tactic| walk_at "go") => `(tactic| (repeat (first
  | refine wp_seq ?_
  | (refine wp_fgtThen ?_; walk_at "cl")
  | refine wp_thenFgt ?_
  | (refine wp_set ?_; walk_at "ev"; walk_at "cl")
  | (refine wp_drop ?_; walk_at "ev"; walk_at "cl")
  | (refine wp_ret ?_; walk_at "ev"; walk_at "cl")
  | (refine wp_nop ?_; walk_at "cl")
  | (refine wp_src ?_; walk_at "ev"; walk_at "cl")
  | (walk_at "ev"; walk_at "cl"))))

theorem matches_succ {n : Nat} : denr_law_matches (n + 1) = denOf 3 [] (f_law_matches (denr_law_matches n)) := rfl
theorem mat_refl : ∀ (n : Nat) (d : D), Fl n d → denr_law_matches (n + 1) [.val d, .val d] = some (.val (.bl true), [.no, .no]) := by
  have seqCase : ∀ (n : Nat) (d : D) (ds : List D) (hd : d = .tup ds ∨ d = .lst ds), (∀ d ∈ ds, denr_law_matches n [.val d, .val d] = some (.val (.bl true), [.no, .no])) → ds.length ≤ 1000000 → denr_law_matches (n + 1) [.val d, .val d] = some (.val (.bl true), [.no, .no]) := by
    intro n d ds hd ih hl
    refine wp_to ?_
    show Wp (denOf 3 [] (f_law_matches (denr_law_matches n)) [.val d, .val d]) _
    refine wp_den rfl ?_
    unfold f_law_matches
    rcases hd with rfl | rfl
    all_goals
      walk_at "go"
      refine wp_for (α := Unit) (fun a => [.val _, .val _, .no]) (fun i a => True) () rfl trivial ?_ ?_
      · intro i d a hd _
        obtain ⟨rfl, hi⟩ := upto_get hd
        refine ⟨_, rfl, ?_⟩
        have e1 : atI ds (i : Int) = some ds[i] := atI_nat (List.getElem?_eq_getElem hi)
        have e2 := ih ds[i] (List.getElem_mem hi)
        walk_at "cl"
        walk_at "go"
        exact ⟨(), .inl trivial⟩
      · intro a _
        walk_at "cl"
        walk_at "go"
  intro n
  induction n with
  | zero =>
    intro d h
    refine wp_to ?_
    show Wp (denOf 3 [] (f_law_matches (denr_law_matches 0)) [.val d, .val d]) _
    refine wp_den rfl ?_
    unfold f_law_matches
    cases d <;> try (exact h.elim)
    case str x =>
      have h' : okE (.str x) = true := h
      have := gEq_str h' h'
      walk_at "go"
    all_goals walk_at "go"
  | succ n ih =>
    intro d h
    cases d <;> try (exact h.elim)
    case tup ds => exact seqCase (n + 1) _ ds (.inl rfl) (fun d hd => ih d (h.2 d hd)) h.1
    case lst ds => exact seqCase (n + 1) _ ds (.inr rfl) (fun d hd => ih d (h.2 d hd)) h.1
    all_goals
      refine wp_to ?_
      rw [matches_succ]
      refine wp_den rfl ?_
      unfold f_law_matches
    case str x =>
      have h' : okE (.str x) = true := h
      have := gEq_str h' h'
      walk_at "go"
    all_goals walk_at "go"
end
end DL
namespace DL
open PySem PySem.Spec PyProof.Rows L2
noncomputable section
theorem intsOf_mapf {α : Type} {f : α → Int} : ∀ {xs : List α}, intsOf (xs.map fun x => D.int (f x)) = some (xs.map f)
  | [] => rfl
  | x :: xs => by
    show (intsOf (xs.map fun x => D.int (f x))).map _ = _
    rw [intsOf_mapf]
    rfl
theorem max_some {us : List Int} (h : us ≠ []) : us.max? = some (us.max?.getD 0) := by
  cases us with
  | nil => exact absurd rfl h
  | cons x xs => rw [List.max?_cons']; rfl
/-- a list by its places -/
theorem byIx {α : Type} (d : α) (xs : List α) : (List.range xs.length).map (fun j => xs.getD j d) = xs := by
  apply List.ext_getElem
  · simp
  · intro i h1 h2
    simp [List.getD_eq_getElem?_getD, List.getElem?_eq_getElem h2]
theorem byIx_filter {α β : Type} (d : α) (xs : List α) (q : α → Bool) (f : α → β) : ((List.range xs.length).filter fun j => q (xs.getD j d)).map (fun j => f (xs.getD j d)) = (xs.filter q).map f := by
  conv => rhs; rw [← byIx d xs]
  rw [List.filter_map, List.map_map]
  rfl
theorem byIx_map {α β : Type} (d : α) (xs : List α) (f : α → β) : (List.range xs.length).map (fun j => f (xs.getD j d)) = xs.map f := by
  conv => rhs; rw [← byIx d xs]
  rw [List.map_map]
  rfl
/-! ### rules for expressions -/
section
variable {Q : Sl × En → Prop} {fa fb fe : FE} {fA : FAr} {ρ : En} {ks : List (Option Nat)} {i : Nat}
theorem wp_call {g : List Sl → Option Sl} (h : Wp (fA ρ) fun p => Wp (res ks p.1 p.2) fun ss => Wp (g ss) fun s => Q (s, p.2)) : Wp (fCall g ks fA ρ) Q :=
  wp_bind (h.imp fun p h => wp_bind (h.imp fun q h => wp_map h))
theorem wp_useC {den : Den} (h : Wp (fA ρ) fun p => Wp (res ks p.1 p.2) fun ss => Wp (if (ss.all known) = true then den ss else none) fun q => Q (q.1, give ks ss q.2 p.2)) : Wp (fUse den ks fA ρ) Q := by
  refine wp_bind (h.imp fun p h => wp_bind (h.imp fun ss h => ?_))
  split at h
  · rename_i hk
    rw [if_pos hk]
    exact wp_map h
  · obtain ⟨_, e, _⟩ := h
    cases e
theorem wp_opN {g : Sl → D → Option D} (h : Wp (if knownAt ρ i = true then vl fb ρ else none) fun q => Wp (q.2[i]?) fun s => Wp (g s q.1) fun d => Q (.val d, q.2)) : Wp (fOpN g i fb ρ) Q := by
  unfold fOpN
  split at h
  · rename_i hk
    rw [if_pos hk]
    exact wp_bind (h.imp fun q h => wp_bind (h.imp fun s h => wp_map h))
  · obtain ⟨_, e, _⟩ := h
    cases e
theorem wp_tup (h : Wp (fA ρ) fun p => Wp (if p.1.length ≤ 1000 then some () else none) fun _ => Q (.val (.tup p.1), p.2)) : Wp (fTup fA ρ) Q := by
  refine wp_bind (h.imp fun p h => ?_)
  split at h
  · rename_i hk
    rw [if_pos hk]
    obtain ⟨_, _, q⟩ := h
    exact wp_some q
  · obtain ⟨_, e, _⟩ := h
    cases e
theorem wp_lst (h : Wp (fA ρ) fun p => Wp (if p.1.length ≤ 1000 then some () else none) fun _ => Q (.own p.1, p.2)) : Wp (fLst fA ρ) Q := by
  refine wp_bind (h.imp fun p h => ?_)
  split at h
  · rename_i hk
    rw [if_pos hk]
    obtain ⟨_, _, q⟩ := h
    exact wp_some q
  · obtain ⟨_, e, _⟩ := h
    cases e
theorem wp_mtL {g : Sl → List D → Option (D × Sl)} (h : Wp (if lstAt ρ i = true ∧ knownAt ρ i = true then fA ρ else none) fun p => Wp (p.2[i]?) fun s => Wp (g s p.1) fun q => Q (.val q.1, p.2.set i q.2)) : Wp (fMtL g i fA ρ) Q := by
  unfold fMtL fMt
  split at h
  · rename_i hk
    rw [if_pos hk.1, if_pos hk.2]
    exact wp_bind (h.imp fun q h => wp_bind (h.imp fun s h => wp_map h))
  · obtain ⟨_, e, _⟩ := h
    cases e
theorem wp_ife {c : FT} (h : Wp (c ρ) fun p => Wp (if p.1 = true then fa p.2 else fb p.2) Q) : Wp (fIfE c fa fb ρ) Q := wp_bind h
theorem wp_andV (h : Wp (vl fa ρ) fun p => Wp (match p.1 with | .bl b => if b = true then fb p.2 else some (.val (.bl false), p.2) | _ => none) Q) : Wp (fAndV fa fb ρ) Q := wp_bind h
theorem wp_aug {Q : Ou → Prop} {g : Int → Int → Int} {x : Int} (hx : ρ[i]? = some (.val (.int x))) (h : Wp (vl fe ρ) fun p => Wp (match p.1 with | .int y => some y | _ => none) fun y => Q (.nx (p.2.set i (.val (.int (g x y)))))) : Wp (sAug g i fe ρ) Q := by
  unfold sAug
  rw [hx]
  refine wp_bind (h.imp fun p h => ?_)
  obtain ⟨y, e, q⟩ := h
  obtain ⟨d, ρ'⟩ := p
  cases d <;> try (cases e)
  exact wp_some q
theorem wp_putIx {Q : Ou → Prop} (h : Wp (vl fb ρ) fun p => Wp (if knownAt p.2 i = true then vl fa p.2 else none) fun q => Wp (match q.2[i]?, q.1 with
  | some (.own ds), .int k => (ixN ds.length k).map fun j => Ou.nx (q.2.set i (.own (ds.set j p.1)))
  | _, _ => none) Q) : Wp (sPutIx i fa fb ρ) Q := by
  unfold sPutIx
  refine wp_bind (h.imp fun p h => ?_)
  split at h
  · rename_i hk
    rw [if_pos hk]
    exact wp_bind h
  · obtain ⟨_, e, _⟩ := h
    cases e
end
section
variable {Q : Bool × En → Prop} {f : FE} {ρ : En}
theorem wp_b (h : Wp (vl f ρ) fun p => Wp (match p.1 with | .bl b => some b | _ => none) fun b => Q (b, p.2)) : Wp (fB f ρ) Q := by
  refine wp_bind (h.imp fun p h => ?_)
  obtain ⟨y, e, q⟩ := h
  obtain ⟨d, ρ'⟩ := p
  cases d <;> try (cases e)
  exact wp_some q
theorem wp_tru (h : Wp (vl f ρ) fun p => Wp (gTru (.val p.1)) fun b => Q (b, p.2)) : Wp (fTru f ρ) Q := wp_bind (h.imp fun p h => wp_map h)
theorem wp_notT {f : FT} (h : Wp (f ρ) fun p => Q (!p.1, p.2)) : Wp (fNotT f ρ) Q := wp_map h
theorem wp_orT {f g : FT} (h : Wp (f ρ) fun p => Wp (if p.1 = true then some (true, p.2) else g p.2) Q) : Wp (fOrT f g ρ) Q := wp_bind h
theorem wp_andT {f g : FT} (h : Wp (f ρ) fun p => Wp (if p.1 = true then g p.2 else some (false, p.2)) Q) : Wp (fAndT f g ρ) Q := wp_bind h
end
theorem wp_srcLst {Q : List D × En → Prop} {f : FE} {ρ : En} (h : Wp (vl f ρ) fun p => Wp (lstOf (.val p.1)) fun ds => Q (ds, p.2)) : Wp (rLst f ρ) Q := wp_bind (h.imp fun p h => wp_map h)
theorem wp_srcRng {Q : List D × En → Prop} {fA : FAr} {ρ : En} (h : Wp (fA ρ) fun p => Wp (match p.1 with
  | [.int j] => if fit62 j = true ∧ fitL j.toNat = true then some (upto 0 j, p.2) else none
  | _ => none) Q) : Wp (rRng fA ρ) Q := wp_bind h
theorem ifd_t {p A B : Prop} [Decidable p] (h : p) (a : A) : if decide p = true then A else B := by
  rw [if_pos (decide_eq_true h)]
  exact a
theorem ifd_f {p A B : Prop} [Decidable p] (h : ¬p) (b : B) : if decide p = true then A else B := by
  rw [if_neg (by rw [decide_eq_true_eq]; exact h)]
  exact b
theorem gSorted_of {s : Sl} {ds : List D} {ns : List Int} (h : lstOf s = some ds) (h2 : intsOf ds = some ns) : gSorted [s] = some (.own ((sortI ns).map D.int)) := by
  show ((((lstOf s).bind intsOf).map fun ns => Sl.own ((sortI ns).map D.int)).or (gSortP [s])) = _
  rw [h, Option.bind_some, h2]
  rfl
theorem gSorted_int {xs : List Int} : gSorted [.val (.lst (xs.map D.int))] = some (.own ((sortI xs).map D.int)) := gSorted_of rfl (intsOf_map xs)
theorem gSorted_own {xs : List Int} : gSorted [.own (xs.map D.int)] = some (.own ((sortI xs).map D.int)) := gSorted_of rfl (intsOf_map xs)
theorem gSorted_mapf {α : Type} {xs : List α} {f : α → Int} : gSorted [.val (.lst (xs.map fun x => D.int (f x)))] = some (.own ((sortI (xs.map f)).map D.int)) := gSorted_of rfl intsOf_mapf
theorem gSorted_ownf {α : Type} {xs : List α} {f : α → Int} : gSorted [.own (xs.map fun x => D.int (f x))] = some (.own ((sortI (xs.map f)).map D.int)) := gSorted_of rfl intsOf_mapf
theorem pairsOf_mapf {α : Type} {f g : α → Int} : ∀ {xs : List α}, pairsOf (xs.map fun x => .tup [.int (f x), .int (g x)]) = some (xs.map fun x => (f x, g x))
  | [] => rfl
  | x :: xs => by
    show (pairsOf (xs.map fun x => .tup [.int (f x), .int (g x)])).map _ = _
    rw [pairsOf_mapf]
    rfl
theorem gSorted_P {α : Type} {s : Sl} {xs : List α} {f g : α → Int} (h : lstOf s = some (xs.map fun x => .tup [.int (f x), .int (g x)])) : gSorted [s] = some (.own ((sortP (xs.map fun x => (f x, g x))).map pairD)) := by
  show ((((lstOf s).bind intsOf).map fun ns => Sl.own ((sortI ns).map D.int)).or (((lstOf s).bind pairsOf).map fun ps => Sl.own ((sortP ps).map pairD))) = _
  rw [h, Option.bind_some, Option.bind_some, pairsOf_mapf]
  cases xs with
  | nil =>
    show some (Sl.own ((sortI []).map D.int)) = some (.own ((sortP []).map pairD))
    unfold sortI sortP
    rw [List.mergeSort_nil, List.mergeSort_nil]
    rfl
  | cons x xs => rfl
theorem gSorted_pair {α : Type} {xs : List α} {f g : α → Int} : gSorted [.val (.lst (xs.map fun x => .tup [.int (f x), .int (g x)]))] = some (.own ((sortP (xs.map fun x => (f x, g x))).map pairD)) := gSorted_P rfl
theorem gSorted_ownP {α : Type} {xs : List α} {f g : α → Int} : gSorted [.own (xs.map fun x => .tup [.int (f x), .int (g x)])] = some (.own ((sortP (xs.map fun x => (f x, g x))).map pairD)) := gSorted_P rfl
/-- a loop as a fold -/
theorem wp_fold {α β : Type} {fg : FG} {fb : FS} {Q : Ou → Prop} (mk : α → En) (enc : β → D) (step : α → β → α) (J : Nat → α → Prop) : ∀ (xs : List β) (n : Nat) (a0 : α) {ds : List D} {ρ : En}, ds = xs.map enc → ρ = mk a0 → J n a0 →
    (∀ (i : Nat) (x : β) (a : α), xs[i]? = some x → J (n + i) a → J (n + i + 1) (step a x) ∧ ∃ ρ1, fg (enc x) (mk a) = some ρ1 ∧ Wp (fb ρ1) fun o => o = .nx (mk (step a x))) → Q (.nx (mk (xs.foldl step a0))) → Wp (forD fg fb ds ρ) Q
  | [], n, a0, _, _, hd, hρ, _, _, hk => by
    subst hd hρ
    exact ⟨_, rfl, hk⟩
  | x :: xs, n, a0, _, _, hd, hρ, hj, hs, hk => by
    subst hd hρ
    obtain ⟨hj', ρ1, e1, o, e2, rfl⟩ := hs 0 x a0 rfl hj
    simp only [List.map_cons, forD, e1, e2, Option.bind_some]
    exact wp_fold mk enc step J xs (n + 1) (step a0 x) rfl rfl hj' (fun i y a hy h => by
      have := hs (i + 1) y a (by simpa using hy)
      rw [show n + (i + 1) = n + 1 + i by omega] at this
      exact this h) hk
/-- a search over a loop; E is what is known of the slots -/
theorem wp_find {β : Type} {fg : FG} {fb : FS} (enc : β → D) (t : β → Bool) (E : En → Prop) (R : β → Sl → En → Prop) {Q : Ou → Prop} : ∀ (xs : List β) {ds : List D} {ρ : En}, ds = xs.map enc → E ρ →
    (∀ x ∈ xs, ∀ ρ, E ρ → ∃ ρ1, fg (enc x) ρ = some ρ1 ∧ Wp (fb ρ1) fun o => (t x = true → ∃ s ρ', o = .rt s ρ' ∧ R x s ρ') ∧ (t x = false → ∃ ρ', (o = .nx ρ' ∨ o = .ct ρ') ∧ E ρ')) →
    (∀ x s ρ', xs.find? t = some x → R x s ρ' → Q (.rt s ρ')) → (xs.find? t = none → ∀ ρ', E ρ' → Q (.nx ρ')) → Wp (forD fg fb ds ρ) Q
  | [], _, ρ, hd, e, _, _, hn => by
    subst hd
    exact ⟨_, rfl, hn rfl ρ e⟩
  | x :: xs, _, ρ, hd, e, h, hs, hn => by
    subst hd
    obtain ⟨ρ1, e1, o, e2, h1, h2⟩ := h x List.mem_cons_self ρ e
    simp only [List.map_cons, forD, e1, e2, Option.bind_some]
    cases ht : t x with
    | true =>
      obtain ⟨s, ρ', rfl, r⟩ := h1 ht
      exact ⟨_, rfl, hs x s ρ' (by rw [List.find?_cons, ht]) r⟩
    | false =>
      obtain ⟨ρ', ho, e'⟩ := h2 ht
      have ih := wp_find enc t E R (Q := Q) xs rfl e' (fun y hy => h y (List.mem_cons_of_mem _ hy)) (fun y s ρ' hf => hs y s ρ' (by rw [List.find?_cons, ht]; exact hf)) (fun hf => hn (by rw [List.find?_cons, ht]; exact hf))
      rcases ho with rfl | rfl <;> exact ih
/-! ### the law's promise from its plain run -/
section
variable {P : Program} {w : World} {K : PySem.W.Frag} {mg : Str → Option Value} {base : Heap}
def spLaw (K : PySem.W.Frag) : Sp := fun vs H Q _ => ∃ (a : Addr) (ns : List Int), vs = [.ref a] ∧ SqL K H a (ns.map V.int) ∧ ns.length ≤ 63 ∧ Siz H ∧ ∀ H', Q (.bl true) H'
theorem siz_only {H : Hp} (h : Only H) : Siz H := fun p vs e => by
  rcases h p with z | ⟨o, xs, z⟩
  · rw [e] at z; cases z
  · rw [e] at z; cases z
theorem law_sp {K : Params → PySem.W.Frag} (w : World) (H : Hp) (a : Addr) (ns : List Int) (hl : ns.length ≤ 63) (ho : Only H) (hS : SqL (K w.params) H a (ns.map V.int)) : spLaw (K w.params) [.ref a] H (fun v _ => v = .bl true) fun _ _ _ => False :=
  ⟨a, ns, rfl, hS, hl, siz_only ho, fun _ => rfl⟩
theorem law_end {f : Addr} {fd : FuncData} {k : Nat} {den : Den} (G : FnOk P w K mg base CX0 k f fd ["script"] (spD K mg 1 den)) (h : ∀ ns : List Int, ns.length ≤ 63 → ∃ r, den [.val (.scr ns)] = some (.val (.bl true), r)) : FnOk P w K mg base CX0 k f fd ["script"] (spLaw K) := by
  refine G.imp fun vs H Q E ⟨a, ns, e, hS, hl, hz, q⟩ => ?_
  subst e
  obtain ⟨r, hr⟩ := h ns hl
  refine ⟨H, [.val (.scr ns)], _, r, rfl, ⟨Same.refl _, hz, rfl, fun i s e => ?_, fun i j p a b => ?_⟩, fun s hs => ?_, hr, fun v F' H' R' S' own w => ?_⟩
  · cases i with
    | zero =>
      simp at e
      subst e
      exact ⟨_, rfl, _, rfl, a, rfl, Nat.le_trans hl (by rw [sizeLine_eq]; decide), hS⟩
    | succ i => simp at e
  · obtain ⟨⟨s, e, o⟩, _⟩ := a
    cases i with
    | zero => simp at e; subst e; cases o
    | succ i => simp at e
  · simp at hs
    subst hs
    rfl
  · rw [show v = .bl true from w]
    exact q _
end
end
end DL
namespace DL
open PySem PySem.Spec PyProof.Rows L2
noncomputable section
theorem wp_putF {Q : Ou → Prop} {c f : Str} {i : Nat} {fv : FE} {ρ : En} (h : Wp (vl fv ρ) fun p => Wp (match p.2[i]? with
  | some (.oob c' fs) => if c' = c ∧ fs.length < 1000 then some (Ou.nx (p.2.set i (.oob c' (putD f p.1 fs)))) else none
  | _ => none) Q) : Wp (sPutF c f i fv ρ) Q := wp_bind h
theorem wp_make {Q : Sl × En → Prop} {c : Str} {den : Den} {ks : List (Option Nat)} {fA : FAr} {ρ : En} (h : Wp (fA ρ) fun p => Wp (res ks p.1 p.2) fun ss => Wp (if (ss.all known) = true then den (.oob c [] :: ss) else none) fun q => Wp (match q with
  | (.val .non, .oob c' fs :: us) => some (Sl.val (.obj c' fs), give ks ss us p.2)
  | _ => none) Q) : Wp (fMake c den ks fA ρ) Q := by
  refine wp_bind (h.imp fun p h => wp_bind (h.imp fun ss h => ?_))
  split at h
  · rename_i hk
    rw [if_pos hk]
    exact wp_bind h
  · obtain ⟨_, e, _⟩ := h
    cases e
theorem wp_meth {Q : Sl × En → Prop} {c m : Str} {den : Den} {ks : List (Option Nat)} {fe : FE} {fA : FAr} {ρ : En} (h : Wp (vl fe ρ) fun p => Wp (if isObj c m p.1 = true then fA p.2 else none) fun q => Wp (res (none :: ks) (p.1 :: q.1) q.2) fun ss => Wp (if (ss.all known) = true then den ss else none) fun r => Q (r.1, give (none :: ks) ss r.2 q.2)) : Wp (fMeth c m den ks fe fA ρ) Q := by
  refine wp_bind (h.imp fun p h => ?_)
  split at h
  · rename_i ho
    rw [if_pos ho]
    refine wp_bind (h.imp fun q h => wp_bind (h.imp fun ss h => ?_))
    split at h
    · rename_i hk
      rw [if_pos hk]
      exact wp_map h
    · obtain ⟨_, e, _⟩ := h
      cases e
  · obtain ⟨_, e, _⟩ := h
    cases e
theorem wp_asgG {Q : Ou → Prop} {g : FG} {fe : FE} {ρ : En} (h : Wp (vl fe ρ) fun p => Wp (g p.1 p.2) fun ρ' => Q (.nx ρ')) : Wp (sAsgG g fe ρ) Q :=
  wp_bind (h.imp fun p h => wp_map h)
theorem wp_orV {Q : Sl × En → Prop} {fa fb : FE} {ρ : En} (h : Wp (vl fa ρ) fun p => Wp (match p.1 with | .bl b => if b = true then some (.val (.bl true), p.2) else fb p.2 | _ => none) Q) : Wp (fOrV fa fb ρ) Q := wp_bind h
/-- some of the items, as drawn, in their order; those that must be are among them -/
theorem wp_lcSub {α β : Type} {Q : List D × En → Prop} {fg : FG} {ft : FT} {fe : FE} {vs : List Nat} (mk : α → En) (enc : β → D) (must : β → Prop) : ∀ (xs : List β) (a0 : α) {ds : List D} {ρ : En} (hd : ds = xs.map enc) (hρ : ρ = mk a0)
    (h : ∀ x ∈ xs, ∀ a, ∃ ρ1, fg (enc x) (mk a) = some ρ1 ∧ Wp (ft ρ1) fun p => (p.1 = false → ¬must x ∧ ∃ a', hide vs p.2 = mk a') ∧ (p.1 = true → Wp (vl fe p.2) fun q => q.1 = enc x ∧ ∃ a', hide vs q.2 = mk a'))
    (hk : ∀ (zs : List β) (a' : α), zs.Sublist xs → (∀ x ∈ xs, must x → x ∈ zs) → Q (zs.map enc, mk a')), Wp (lcD fg ft fe vs ds ρ) Q
  | [], a0, _, _, hd, hρ, _, hk => by
    subst hd hρ
    exact ⟨_, rfl, hk [] a0 (List.Sublist.refl _) fun x hx _ => hx⟩
  | x :: xs, a0, _, _, hd, hρ, h, hk => by
    subst hd hρ
    obtain ⟨ρ1, e1, ⟨b, ρ2⟩, e2, h3, h4⟩ := h x List.mem_cons_self a0
    cases b with
    | false =>
      obtain ⟨hm, a1, e3⟩ := h3 rfl
      have ih := wp_lcSub (Q := Q) mk enc must xs a1 rfl rfl (fun y hy => h y (List.mem_cons_of_mem _ hy)) fun zs a' hs hms => hk zs a' (hs.cons x) fun y hy my => by
        rcases List.mem_cons.mp hy with rfl | hy
        · exact absurd my hm
        · exact hms y hy my
      simp only [List.map_cons, lcD, e1, e2, Option.bind_some, Bool.false_eq_true, if_false, e3]
      exact ih
    | true =>
      obtain ⟨⟨d, ρ3⟩, e4, rfl, a1, e5⟩ := h4 rfl
      have ih := wp_lcSub (Q := fun r => Q (enc x :: r.1, r.2)) mk enc must xs a1 rfl rfl (fun y hy => h y (List.mem_cons_of_mem _ hy)) fun zs a' hs hms => hk (x :: zs) a' (hs.cons₂ x) fun y hy my => by
        rcases List.mem_cons.mp hy with rfl | hy
        · exact List.mem_cons_self
        · exact List.mem_cons_of_mem _ (hms y hy my)
      simp only [List.map_cons, lcD, e1, e2, Option.bind_some, if_true, e4, e5]
      exact wp_map ih
theorem ex_map {α β : Type} {f : α → β} {xs : List α} : ∀ {ys : List β}, (∀ y ∈ ys, ∃ x, x ∈ xs ∧ f x = y) → ∃ zs : List α, ys = zs.map f ∧ ∀ z ∈ zs, z ∈ xs
  | [], _ => ⟨[], rfl, fun z hz => by cases hz⟩
  | y :: ys, h => by
    obtain ⟨x, hx, rfl⟩ := h y List.mem_cons_self
    obtain ⟨zs, rfl, hz⟩ := ex_map fun y hy => h y (List.mem_cons_of_mem _ hy)
    exact ⟨x :: zs, rfl, fun z m => by
      rcases List.mem_cons.mp m with rfl | m
      · exact hx
      · exact hz z m⟩
/-- a mixed list of encoded things -/
theorem mix_enc {α : Type} {f : α → D} (p : Pur) (xs : List α) (hl : xs.length < 1000) : ∃ (zs : List α) (p' : Pur), zs.length = xs.length ∧ (∀ z ∈ zs, z ∈ xs) ∧ den_law_mix [prs p, .val (.lst (xs.map f))] = some (.own (zs.map f), [prs p', .no]) := by
  obtain ⟨ys, p', hp, e⟩ := mix_ok p (xs.map f) (by rw [List.length_map]; exact hl)
  obtain ⟨zs, rfl, hz⟩ := ex_map (f := f) (xs := xs) (ys := ys) fun y hy => List.mem_map.mp (hp.mem_iff.mp hy)
  refine ⟨zs, p', ?_, hz, e⟩
  have := hp.length_eq
  rw [List.length_map, List.length_map] at this
  exact this
end
end DL
namespace DL
open PySem PySem.Spec PyProof.Rows L2
noncomputable section
theorem okPs_ints : ∀ us : List Int, okPs (us.map D.int) = true
  | [] => rfl
  | u :: us => by
    show (okP (.int u) && okPs (us.map D.int)) = true
    rw [okPs_ints us]
    rfl
theorem lay_ints : ∀ us : List Int, PyData.canLayAll0 (toPs (us.map D.int)) = true ∧ PyData.depthAll (toPs (us.map D.int)) = 0
  | [] => ⟨rfl, rfl⟩
  | u :: us => by
    obtain ⟨h1, h2⟩ := lay_ints us
    constructor
    · show (PyData.canLay0 (.int u) && PyData.canLayAll0 (toPs (us.map D.int))) = true
      rw [h1]
      rfl
    · show max (PyData.depth (.int u)) (PyData.depthAll (toPs (us.map D.int))) = 0
      rw [h2]
      rfl
theorem okE_ints (us : List Int) : okE (.lst (us.map D.int)) = true := by
  obtain ⟨h1, h2⟩ := lay_ints us
  show (okPs (us.map D.int) && (PyData.canLayAll0 (toPs (us.map D.int)) && decide (PyData.depthAll (toPs (us.map D.int)) + 1 ≤ 64))) = true
  rw [okPs_ints, h1, h2]
  rfl
theorem inD_int {i : Int} {us : List Int} : inD (.int i) (us.map D.int) = decide (i ∈ us) := by
  unfold inD
  rw [List.any_map]
  have : ((fun z => eqD z (.int i)) ∘ D.int) = fun u => u == i := by
    funext u
    rfl
  rw [this, Bool.eq_iff_iff, List.any_eq_true, decide_eq_true_eq]
  constructor
  · rintro ⟨x, hx, e⟩
    rw [beq_iff_eq] at e
    exact e ▸ hx
  · exact fun h => ⟨i, h, by simp⟩
theorem gIn_int {i : Int} {us : List Int} : gIn (.int i) (.lst (us.map D.int)) = some (.val (.bl (decide (i ∈ us)))) := by
  unfold gIn
  simp only
  rw [if_pos ⟨rfl, okE_ints us⟩, inD_int]
theorem gNotIn_int {i : Int} {us : List Int} : gNotIn (.int i) (.lst (us.map D.int)) = some (.val (.bl (!decide (i ∈ us)))) := by
  unfold gNotIn
  simp only
  rw [if_pos ⟨rfl, okE_ints us⟩, inD_int]
theorem max_is {us : List Int} {m : Int} (h : m ∈ us) (h2 : ∀ u ∈ us, u ≤ m) : us.max?.getD 0 = m := by
  rw [List.max?_eq_some_iff.mpr ⟨h, h2⟩]
  rfl
end
end DL
namespace DL
open PySem PySem.Spec PyProof.Rows L2
noncomputable section
theorem wp_while {α : Type} {c : FT} {fb : FS} {Q : Ou → Prop} (mk : α → En) (I : α → Prop) (μ : α → Nat)
    (hs : ∀ a, I a → Wp (c (mk a)) fun p => (p.1 = true → Wp (fb p.2) fun o => ∃ a', (o = .nx (mk a') ∨ o = .ct (mk a')) ∧ I a' ∧ μ a' < μ a) ∧ (p.1 = false → Q (.nx p.2))) :
    ∀ (n : Nat) (a : α) {ρ : En}, ρ = mk a → I a → μ a < n → Wp (whileD c fb n ρ) Q
  | 0, a, _, _, _, h => absurd h (Nat.not_lt_zero _)
  | n + 1, a, _, hρ, hI, h => by
    subst hρ
    obtain ⟨⟨b, ρ1⟩, e1, h1, h2⟩ := hs a hI
    cases b with
    | false => exact ⟨.nx ρ1, by simp only [whileD, e1, Option.bind_some, Bool.false_eq_true, if_false], h2 rfl⟩
    | true =>
      obtain ⟨o, e2, a', ho, hI', hm⟩ := h1 rfl
      have ih := wp_while (Q := Q) mk I μ hs n a' rfl hI' (by omega)
      obtain ⟨q, e3, hq⟩ := ih
      refine ⟨q, ?_, hq⟩
      simp only [whileD, e1, Option.bind_some, if_true, e2]
      rcases ho with rfl | rfl <;> exact e3
/-- a loop that may be left -/
theorem wp_brk {α β : Type} {fg : FG} {fb : FS} {Q : Ou → Prop} (mk : α → En) (enc : β → D) (I : Nat → α → Prop) (J : En → Prop) : ∀ (xs : List β) (n : Nat) (a0 : α) {ds : List D} {ρ : En}, ds = xs.map enc → ρ = mk a0 → I n a0 →
    (∀ (i : Nat) (x : β) (a : α), xs[i]? = some x → I (n + i) a → ∃ ρ1, fg (enc x) (mk a) = some ρ1 ∧ Wp (fb ρ1) fun o => (∃ a', (o = .nx (mk a') ∨ o = .ct (mk a')) ∧ I (n + i + 1) a') ∨ ∃ ρ', o = .bk ρ' ∧ J ρ') →
    (∀ a, I (n + xs.length) a → Q (.nx (mk a))) → (∀ ρ', J ρ' → Q (.nx ρ')) → Wp (forD fg fb ds ρ) Q
  | [], n, a0, _, _, hd, hρ, h0, _, hk, _ => by
    subst hd hρ
    exact ⟨_, rfl, hk a0 h0⟩
  | x :: xs, n, a0, _, _, hd, hρ, h0, hs, hk, hj => by
    subst hd hρ
    obtain ⟨ρ1, e1, o, e2, h⟩ := hs 0 x a0 rfl h0
    simp only [List.map_cons, forD, e1, e2, Option.bind_some]
    rcases h with ⟨a', ho, hI⟩ | ⟨ρ', rfl, hJ⟩
    · have ih := wp_brk (Q := Q) (fg := fg) (fb := fb) mk enc I J xs (n + 1) a' rfl rfl hI (fun i y a hy h => by
        have := hs (i + 1) y a (by simpa using hy)
        rw [show n + (i + 1) = n + 1 + i by omega] at this
        exact this h) (fun a h => hk a (by rw [List.length_cons, show n + (xs.length + 1) = n + 1 + xs.length by omega]; exact h)) hj
      rcases ho with rfl | rfl <;> exact ih
    · exact ⟨_, rfl, hj ρ' hJ⟩
end
end DL
namespace DL
open PySem PySem.Spec PyProof.Rows L2
noncomputable section
section
variable {Q : Ou → Prop} {x i : Nat} {ρ : En} {ds : List D} {f : FS} {fe fi : FE}
theorem wp_deep (e : ρ[x]? = some (.own [])) (n : noOwn (ρ.set x .no) = true) (h : Wp (f ρ) Q) : Wp (sDeep x f ρ) Q := by
  unfold sDeep
  rw [e]
  dsimp only
  rw [if_pos n]
  exact h
theorem wp_for2 {src : FSr} {fb : FS} (e : ρ[x]? = some (.own ds)) (h : Wp (src (ρ.set x .no)) fun p => noOwn p.2 = true ∧ Wp (forD (tgName i) fb p.1 (p.2.set x (.own ds))) Q) : Wp (sFor2 x i src fb ρ) Q := by
  unfold sFor2
  rw [e]
  refine wp_bind (h.imp fun p h => ?_)
  rw [if_pos h.1]
  exact h.2
theorem wp_fgt2 {is : List Nat} (hx : is.contains x = false) (h : Wp (f ρ) fun o => ∃ ρ', o = .nx ρ' ∧ Q (.nx (fgt is ρ'))) : Wp (sFgt2 x f is ρ) Q := by
  obtain ⟨o, e, ρ', rfl, q⟩ := h
  refine ⟨.nx (fgt is ρ'), ?_, q⟩
  unfold sFgt2
  rw [e]
  dsimp only
  rw [hx]
  rfl
theorem wp_app2 (e : ρ[x]? = some (.own ds)) (h : Wp (fe (ρ.set x .no)) fun p => ∃ row, p.1 = .own row ∧ noOwn p.2 = true ∧ fitL (ds.length + 1) = true ∧ Q (.nx (p.2.set x (.own (ds ++ [.lst row]))))) : Wp (sApp2 x fe ρ) Q := by
  unfold sApp2
  rw [e]
  refine wp_bind (h.imp fun p h => ?_)
  obtain ⟨s, ρ'⟩ := p
  obtain ⟨row, rfl, a, b, c⟩ := h
  dsimp only at a b c ⊢
  rw [if_pos ⟨a, b⟩]
  exact wp_some c
theorem wp_appIx2 (e : ρ[x]? = some (.own ds)) (h : Wp (vl fi (ρ.set x .no)) fun p => ∃ k, p.1 = .int k ∧ noOwn p.2 = true ∧ Wp (vl fe (p.2.set x (.val (.lst ds)))) fun q => ∃ v j row, q.1 = .int v ∧ ixN ds.length k = some j ∧ ds[j]? = some (.lst row) ∧ fitL (row.length + 1) = true ∧ Q (.nx (p.2.set x (.own (ds.set j (.lst (row ++ [.int v]))))))) : Wp (sAppIx2 x fi fe ρ) Q := by
  unfold sAppIx2
  rw [e]
  refine wp_bind (h.imp fun p h => ?_)
  obtain ⟨d, ρ'⟩ := p
  obtain ⟨k, rfl, a, h⟩ := h
  dsimp only at a h ⊢
  rw [if_pos a]
  refine wp_bind (h.imp fun q h => ?_)
  obtain ⟨d, ρ2⟩ := q
  obtain ⟨v, j, row, rfl, b, c, g, q⟩ := h
  dsimp only at q ⊢
  rw [b]
  show Wp (match ds[j]? with
    | some (.lst row) => _
    | _ => none) Q
  rw [c]
  dsimp only
  rw [if_pos g]
  exact wp_some q
end
theorem wp_disp {Q : Sl × En → Prop} {keys : List Str} {fa : FAr} {ρ : En} (h : Wp (fa ρ) fun p => Q (.odK (kzip keys p.1), p.2)) : Wp (fDisp keys fa ρ) Q := wp_map h
/-! line dicts: n, sights, places, comings -/
def lnK (a b c d : D) : List (Key × D) := [(Sum.inr "n", a), (Sum.inr "sights", b), (Sum.inr "places", c), (Sum.inr "comings", d)]
theorem lnK_n {a b c d : D} : valD (lnK a b c d) (Sum.inr ("n" : Str)) = some a := rfl
theorem lnK_s {a b c d : D} : valD (lnK a b c d) (Sum.inr ("sights" : Str)) = some b := rfl
theorem lnK_p {a b c d : D} : valD (lnK a b c d) (Sum.inr ("places" : Str)) = some c := rfl
theorem lnK_c {a b c d : D} : valD (lnK a b c d) (Sum.inr ("comings" : Str)) = some d := rfl
theorem lnK_z {a b c d : D} : kzip [("n" : Str), ("sights" : Str), ("places" : Str), ("comings" : Str)] [a, b, c, d] = lnK a b c d := rfl
end
end DL
namespace DL
open PySem PySem.Spec PyProof.Rows L2
noncomputable section
/-! ### own dicts lent for a while: an expression whose result holds no dict -/
def isD : Sl → Bool
  | .odK _ => true
  | .odT _ => true
  | _ => false
theorem isD_own {s : Sl} (h : isD s = true) : s.isOwn = true := by cases s <;> first | rfl | cases h
def lendD1 (xs : List Nat) (i : Nat) (s : Sl) : Sl := if s.isOwn = true then (if (xs.contains i && isD s) = true then (match frz s with | some d => .val d | none => .no) else .no) else s
def lendD (xs : List Nat) (ρ : En) : En := ρ.mapIdx (lendD1 xs)
theorem lendD_own {xs : List Nat} {ρ : En} : noOwn (lendD xs ρ) = true := by
  refine List.all_eq_true.mpr fun s hs => ?_
  obtain ⟨i, hi, e⟩ := List.mem_mapIdx.mp hs
  subst e
  unfold lendD1
  split
  · split
    · split <;> rfl
    · rfl
  · rename_i h
    simpa using h
mutual
/-- data without a dict -/
def ndD : D → Bool
  | .non | .bl _ | .int _ | .str _ => true
  | .tup ds => ndL ds
  | .lst ds => ndL ds
  | _ => false
def ndL : List D → Bool
  | [] => true
  | d :: ds => ndD d && ndL ds
end
def ndS : Sl → Bool
  | .val d => ndD d
  | .own ds => ndL ds
  | _ => false
def LentD (ρ : En) (σ : L2.St) (xs : List Nat) (a : Addr) : Prop := ∃ i s, xs.contains i = true ∧ ρ[i]? = some s ∧ isD s = true ∧ σ[i]? = some (some (.ref a))
section
variable {K : PySem.W.Frag} {mg : Str → Option Value}
theorem LentD.ow {ρ : En} {σ : L2.St} {xs : List Nat} {a : Addr} (h : LentD ρ σ xs a) : Ow ρ σ a := by
  obtain ⟨i, s, _, e, d, e2⟩ := h
  exact ⟨i, ⟨s, e, isD_own d⟩, e2⟩
theorem LentD.dict {xs : List Nat} {F : Hp} {ρ : En} {σ : L2.St} {H : Hp} {a : Addr} (R : SR K mg F ρ σ H) (h : LentD ρ σ xs a) : (∃ vs, H a = some (.dK vs)) ∨ ∃ vs, H a = some (.dT vs) := by
  obtain ⟨i, s, _, e, d, e2⟩ := h
  obtain ⟨u, eu, r⟩ := R.ow ⟨⟨s, e, isD_own d⟩, e2⟩
  rw [e] at eu
  cases eu
  cases s <;> first | cases d | skip
  · obtain ⟨_, vs, g, _⟩ := r
    exact .inl ⟨vs, g⟩
  · obtain ⟨_, vs, g, _⟩ := r
    exact .inr ⟨vs, g⟩
theorem lendD_sr {xs : List Nat} {F : Hp} {ρ : En} {σ : L2.St} {H : Hp} (R : SR K mg F ρ σ H) : ∃ F1, Same F F1 ∧ (∀ a, LentD ρ σ xs a → F1 a = H a) ∧ (∀ a, ¬LentD ρ σ xs a → F1 a = F a) ∧ SR K mg F1 (lendD xs ρ) σ H := by
  classical
  let F1 : Hp := fun a => if LentD ρ σ xs a then H a else F a
  have f1 : ∀ a, LentD ρ σ xs a → F1 a = H a := fun a h => if_pos h
  have f2 : ∀ a, ¬LentD ρ σ xs a → F1 a = F a := fun a h => if_neg h
  have m : Same F F1 := fun a o e => by
    by_cases h : LentD ρ σ xs a
    · rw [R.owF h.ow] at e
      cases e
    · rw [f2 a h]
      exact e
  have m2 : Same F1 H := fun a o e => by
    by_cases h : LentD ρ σ xs a
    · rw [f1 a h] at e
      exact e
    · rw [f2 a h] at e
      exact R.same a o e
  refine ⟨F1, m, f1, f2, m2, R.siz, by unfold lendD; rw [List.length_mapIdx]; exact R.len, fun i s e => ?_, fun i j p a b => ?_⟩
  · unfold lendD at e
    rw [List.getElem?_mapIdx] at e
    obtain ⟨u, eu, rfl⟩ := Option.map_eq_some_iff.mp e
    obtain ⟨ov, e2, r⟩ := R.sl i u eu
    refine ⟨ov, e2, ?_⟩
    unfold lendD1
    by_cases ho : u.isOwn = true
    · rw [if_pos ho]
      split
      · rename_i hx
        rw [Bool.and_eq_true] at hx
        cases hd : frz u with
        | none => trivial
        | some d =>
          obtain ⟨p, rfl, ho2⟩ := r.ow ho
          obtain ⟨o, h1, _, h3⟩ := ho2.fixed hd
          refine ⟨_, rfl, h3.mono fun a o2 e => ?_⟩
          by_cases ha : a = p
          · subst ha
            rw [upd_same] at e
            cases e
            rw [f1 a ⟨i, u, hx.1, eu, hx.2, e2⟩]
            exact h1
          · rw [upd_ne ha] at e
            exact m a o2 e
      · trivial
    · rw [if_neg ho]
      cases u with
      | no => trivial
      | val d => obtain ⟨v, a, b⟩ := r; exact ⟨v, a, b.mono m⟩
      | own ds => exact absurd rfl ho
      | oob c fs => exact absurd rfl ho
      | odK k => exact absurd rfl ho
      | odT k => exact absurd rfl ho
      | ownA a ds => exact absurd rfl ho
  · exact absurd ⟨i, a⟩ (noOwn_Ow lendD_own p)
/-- no dict in sight: the dicts may go -/
def DropD (F F' : Hp) : Prop := ∀ a o, F a = some o → F' a = some o ∨ (∃ vs, o = .dK vs) ∨ ∃ vs, o = .dT vs
mutual
theorem Rep.dropD {F F' : Hp} (m : DropD F F') : ∀ {d : D} {v : V}, ndD d = true → Rep K mg F d v → Rep K mg F' d v
  | .non, _, _, h => h
  | .bl _, _, _, h => h
  | .int _, _, _, h => h
  | .str _, _, _, h => h
  | .tup ds, _, n, h => by
    simp only [Rep] at h ⊢
    simp only [ndD] at n
    obtain ⟨a, vs, e, z, q, r⟩ := h
    rcases m a _ q with g | ⟨_, g⟩ | ⟨_, g⟩
    · exact ⟨a, vs, e, z, g, Reps.dropD m n r⟩
    · cases g
    · cases g
  | .lst ds, _, n, h => by
    simp only [Rep] at h ⊢
    simp only [ndD] at n
    obtain ⟨a, vs, e, q, r⟩ := h
    rcases m a _ q with g | ⟨_, g⟩ | ⟨_, g⟩
    · exact ⟨a, vs, e, g, Reps.dropD m n r⟩
    · cases g
    · cases g
  | .obj _ _, _, n, _ => by simp only [ndD] at n; cases n
  | .scr _, _, n, _ => by simp only [ndD] at n; cases n
  | .dK _, _, n, _ => by simp only [ndD] at n; cases n
  | .dT _, _, n, _ => by simp only [ndD] at n; cases n
theorem Reps.dropD {F F' : Hp} (m : DropD F F') : ∀ {ds : List D} {vs : List V}, ndL ds = true → Reps K mg F ds vs → Reps K mg F' ds vs
  | [], _, _, h => h
  | d :: ds, _, n, h => by
    simp only [Reps] at h ⊢
    simp only [ndL, Bool.and_eq_true] at n
    obtain ⟨v, r, e, h1, h2⟩ := h
    exact ⟨v, r, e, Rep.dropD m n.1 h1, Reps.dropD m n.2 h2⟩
end
def fLendD (xs : List Nat) (f : FE) : FE := fun ρ => (f (lendD xs ρ)).bind fun p => if ndS p.1 = true then some (p.1, ρ) else none
theorem ev_lendD {t : TE} {f : FE} (xs : List Nat) (h : EvW K mg t f) : EvW K mg t (fLendD xs f) := fun F ρ σ H R s ρ' e Q q => by
  classical
  obtain ⟨⟨s1, ρ1⟩, e1, e⟩ := bind2 (γ := Unit) e
  dsimp only at e
  split at e
  case isFalse => cases e
  rename_i hs
  cases e
  obtain ⟨F1, m, f1, f2, R1⟩ := lendD_sr (xs := xs) R
  have no : ∀ p, ¬Ow (lendD xs ρ) σ p := noOwn_Ow lendD_own
  refine h F1 _ σ H R1 _ ρ1 e1 Q fun v F2 H2 R2 S2 W => ?_
  let F' : Hp := fun a => if LentD ρ σ xs a then none else F2 a
  have g1 : ∀ a, LentD ρ σ xs a → F' a = none := fun a h => if_pos h
  have g2 : ∀ a, ¬LentD ρ σ xs a → F' a = F2 a := fun a h => if_neg h
  have mF : Same F F' := fun a o e => by
    by_cases h : LentD ρ σ xs a
    · rw [R.owF h.ow] at e
      cases e
    · rw [g2 a h]
      exact S2.sF a o (m a o e)
  have dr : DropD F2 F' := fun a o e => by
    by_cases h : LentD ρ σ xs a
    · refine .inr ?_
      have : F2 a = H a := by
        rcases h.dict R with ⟨vs, g⟩ | ⟨vs, g⟩
        · rw [S2.sF a _ ((f1 a h).trans g), g]
        · rw [S2.sF a _ ((f1 a h).trans g), g]
      rw [this] at e
      rcases h.dict R with ⟨vs, g⟩ | ⟨vs, g⟩
      · rw [g] at e; cases e; exact .inl ⟨vs, rfl⟩
      · rw [g] at e; cases e; exact .inr ⟨vs, rfl⟩
    · exact .inl ((g2 a h).trans e)
  have keep : ∀ a, Ow ρ σ a → H2 a = H a := fun a h => by
    obtain ⟨o, e⟩ := R.owH h
    rw [S2.fr a o e (no a), e]
  have offF : ∀ a, Ow ρ σ a → F' a = none := fun a h => by
    by_cases hl : LentD ρ σ xs a
    · exact g1 a hl
    · obtain ⟨o, e⟩ := R.owH h
      rw [g2 a hl]
      exact S2.un a o e ((f2 a hl).trans (R.owF h)) (no a)
  have R3 : SR K mg F' ρ σ H2 := R.grow mF (fun a o e => by
    by_cases hl : LentD ρ σ xs a
    · rw [g1 a hl] at e
      cases e
    · rw [g2 a hl] at e
      exact R2.same a o e) R2.siz fun a h => ⟨offF a h, keep a h⟩
  have S3 : Stp F ρ σ H F' ρ σ H2 := ⟨mF, fun a o e n => S2.fr a o e (no a), fun a o e f n => by
    have hl : ¬LentD ρ σ xs a := fun h => n h.ow
    rw [g2 a hl]
    exact S2.un a o e ((f2 a hl).trans f) (no a), fun a h => .inl h⟩
  refine q v F' H2 R3 S3 ?_
  cases s with
  | val d =>
    simp only [ndS] at hs
    exact Rep.dropD dr hs W
  | no => cases hs
  | own ds =>
    simp only [ndS] at hs
    obtain ⟨p, rfl, g, n, w⟩ := WV.own W rfl
    obtain ⟨fn, vs, g3, r⟩ := g
    have hp : H p = none := by
      rcases w with w | w
      · exact absurd w (no p)
      · exact w
    have nl : ¬Ow ρ σ p := fun h => by
      obtain ⟨o, e⟩ := R.owH h
      rw [hp] at e
      cases e
    refine .of_own (s := .own ds) ⟨?_, vs, g3, Reps.dropD dr hs r⟩ nl (.inr hp)
    rw [g2 p fun h => nl h.ow]
    exact fn
  | oob c fs => cases hs
  | odK k => cases hs
  | odT k => cases hs
  | ownA a k => cases hs
theorem r_lendD {X : Cx} {e : Expr} {te : TE} {fe : FE} (xs : List Nat) (h : DE K mg X e te fe) : DE K mg X e te (fLendD xs fe) := ⟨h.pe, ev_lendD xs h.ev⟩
/-! plain lemmas -/
theorem ndL_ints : ∀ us : List Int, ndL (us.map D.int) = true
  | [] => rfl
  | u :: us => by
    show (ndD (.int u) && ndL (us.map D.int)) = true
    rw [ndL_ints us]
    rfl
theorem ndL_all {ds : List D} (h : ∀ d ∈ ds, ndD d = true) : ndL ds = true := by
  induction ds with
  | nil => rfl
  | cons d ds ih =>
    show (ndD d && ndL ds) = true
    rw [h d List.mem_cons_self, ih fun x hx => h x (List.mem_cons_of_mem _ hx)]
    rfl
theorem wp_lendD {xs : List Nat} {f : FE} {ρ ρ' : En} {Q : Sl × En → Prop} (e : lendD xs ρ = ρ') (h : Wp (f ρ') fun p => ndS p.1 = true ∧ Q (p.1, ρ)) : Wp (fLendD xs f ρ) Q := by
  subst e
  obtain ⟨⟨s, ρ1⟩, e1, h1, h2⟩ := h
  refine ⟨(s, ρ), ?_, h2⟩
  unfold fLendD
  rw [e1]
  show (if ndS s = true then _ else _) = _
  rw [if_pos h1]
end
end
end DL
namespace DL
open PySem PySem.Spec PyProof.Rows L2
noncomputable section
/-! ### max of three ints -/
def gMax3 : List Sl → Option Sl
  | [.val (.int i), .val (.int j), .val (.int k)] => some (.val (.int (if j > i then (if k > j then k else j) else (if k > i then k else i))))
  | _ => none
section
variable {P : Program} {w : World} {K : PySem.W.Frag} {mg : Str → Option Value} {base : Heap} {M : List Nat} {X : Cx}
theorem vals3 {x y z : V} {us : List Value} (r : Vals [x, y, z] us) : ∃ u v t, us = [u, v, t] ∧ RelV x u ∧ RelV y v ∧ RelV z t := by
  cases r with
  | cons r1 r2 =>
    cases r2 with
    | cons r3 r4 =>
      cases r4 with
      | cons r5 r6 => cases r6; exact ⟨_, _, _, rfl, r1, r3, r5⟩
def rMax3 : List V → Hp → VK → Prop := fun xs H Q => ∃ i j k, xs = [.int i, .int j, .int k] ∧ Q (.int (if j > i then (if k > j then k else j) else (if k > i then k else i))) H
theorem call_max3 (hc : X.calm = true) : CallR X (.builtin "max") rMax3 := by
  intro pins s σ H xs us Q I r h
  obtain ⟨i, j, k, rfl, q⟩ := h
  obtain ⟨u, v, t, rfl, ⟨t1, rfl⟩, ⟨t2, rfl⟩, ⟨t3, rfl⟩⟩ := vals3 r
  refine PySem.max_three_ints (I.ok.hd hc) fun h' tk kp => ⟨_, H, I.kept kp, ?_, q⟩
  by_cases h1 : j > i
  · rw [if_pos h1, if_pos h1]
    by_cases h2 : k > j
    · rw [if_pos h2, if_pos h2]; exact ⟨_, rfl⟩
    · rw [if_neg h2, if_neg h2]; exact ⟨_, rfl⟩
  · rw [if_neg h1, if_neg h1]
    by_cases h2 : k > i
    · rw [if_pos h2, if_pos h2]; exact ⟨_, rfl⟩
    · rw [if_neg h2, if_neg h2]; exact ⟨_, rfl⟩
theorem c_max3 : RcW K mg rMax3 gMax3 := fun F ρ σ H R ss vs rs s e Q q => by
  match ss, e with
  | [.val (.int i), .val (.int j), .val (.int k)], e =>
    cases e
    obtain ⟨hl, hr⟩ := rs
    match vs, hl with
    | [a, b, c], _ =>
      obtain ⟨a', ea, r1⟩ := hr 0 _ rfl
      obtain ⟨b', eb, r2⟩ := hr 1 _ rfl
      obtain ⟨c', ec, r3⟩ := hr 2 _ rfl
      cases ea; cases eb; cases ec
      rw [val_int r1, val_int r2, val_int r3]
      exact ⟨i, j, k, rfl, q _ F H R .refl rfl⟩
variable {k : Nat} {p pos : Pos} {a : Expr} {es : List Expr} {A : TA} {ks : List (Option Nat)} {fA : FAr}
theorem r_max3 (x : XI P w K mg base k X) (hg : Gl X "max") (hm : mg "max" = none) (ha : DB K mg X (a :: es) A ks fA) (he : starEach (a :: es) X.env = (false, eval a X.env) :: starEach es X.env := by rfl) (hpl : (backTo pos (starEach es X.env)).any (·.1) = false := by rfl) :
    DE K mg X (.Call (.Name "max" p) (a :: es) [] pos) (tCB rMax3 A) (fCall gMax3 ks fA) := r_callB (call_max3 x.cc) c_max3 x hg hm (by decide +kernel) ha (by decide) (by decide) he hpl
end
/-! ### two own lists in a list, each read once by a comprehension -/
section
variable {K : PySem.W.Frag} {mg : Str → Option Value}
/-- an expression that works upon an own list at p, which no slot held before -/
theorem cell_step {te : TE} {fe : FE} {v : Nat} (he : EvW K mg te fe) {F : Hp} {ρ : En} {σ : L2.St} {H : Hp} (R : SR K mg F ρ σ H) {p : Addr} {vs : List V} {d : List D} (fp : F p = none) (hp : H p = some (.lst vs)) (rp : Reps K mg F d vs) (np : ¬Ow ρ σ p) {a : D} {ρ1 : En} (e : vl fe (ρ.set v (.own d)) = some (a, ρ1)) (Q : VK)
    (q : ∀ vy F' H', SR K mg F' ρ1 (σ.set v (some (.ref p))) H' → Same F F' → (∀ q o, H q = some o → ¬Ow ρ σ q → q ≠ p → H' q = some o ∧ (F q = none → F' q = none) ∧ ¬Ow ρ1 (σ.set v (some (.ref p))) q) → (∀ q, Ow ρ1 (σ.set v (some (.ref p))) q → Ow ρ σ q ∨ q = p ∨ H q = none) → Rep K mg F' a vy → Q vy H') : te (σ.set v (some (.ref p))) H Q := by
  have R1 := R.put (s := .own d) (v := .ref p) (i := v) ⟨p, rfl, fp, vs, hp, rp⟩ fun q _ e => by cases e; exact np
  refine he.frz F _ _ H R1 a ρ1 e Q fun vy F' H' R' S' r => q vy F' H' R' S'.sF (fun z o ez nz hz => ?_) (fun z hz => ?_) r
  · have nz' : ¬Ow (ρ.set v (.own d)) (σ.set v (some (.ref p))) z := fun w => by
      rcases w.set with w | ⟨_, e⟩
      · exact nz w
      · cases e
        exact hz rfl
    refine ⟨S'.fr z o ez nz', fun f => S'.un z o ez f nz', fun w => ?_⟩
    rcases S'.ow z w with w | w
    · exact nz' w
    · rw [ez] at w
      cases w
  · rcases S'.ow z hz with w | w
    · rcases w.set with w | ⟨_, e⟩
      · exact .inl w
      · cases e
        exact .inr (.inl rfl)
    · exact .inr (.inr w)
theorem cell_lc {te : TE} {fe : FE} {v : Nat} (he : EvW K mg te fe) {F : Hp} {ρ : En} {σ : L2.St} {H : Hp} (R : SR K mg F ρ σ H) {p N : Addr} {vs acc : List V} {d : List D} (hw : wipe (σ.set v (some (.ref p))) [v] = σ) (fp : F p = none) (hp : H p = some (.lst vs)) (rp : Reps K mg F d vs) (np : ¬Ow ρ σ p)
    (fN : F N = none) (hN : H N = some (.lst acc)) (nN : ¬Ow ρ σ N) (hac : acc.length < 10) (hpN : p ≠ N) {a : D} {ρ1 : En} (e : vl fe (ρ.set v (.own d)) = some (a, ρ1)) (Pn : Hp → Prop)
    (q : ∀ va F5 H6, SR K mg F5 (hide [v] ρ1) σ H6 → Same F F5 → Rep K mg F5 a va → H6 N = some (.lst (acc ++ [va])) → F5 N = none → ¬Ow (hide [v] ρ1) σ N → (∀ q o, H q = some o → ¬Ow ρ σ q → q ≠ p → q ≠ N → H6 q = some o ∧ (F q = none → F5 q = none) ∧ ¬Ow (hide [v] ρ1) σ q) → (∀ q, Ow (hide [v] ρ1) σ q → Ow ρ σ q ∨ q = p ∨ H q = none) → Pn H6) :
    te (σ.set v (some (.ref p))) H fun y H4 => ∃ acc', H4 N = some (.lst acc') ∧ acc'.length < sizeLine ∧ Pn (upd H4 N (.lst (acc' ++ [y]))) := by
  refine cell_step he R fp hp rp np e _ fun vy F5 H5 R5 sF fr ow r => ?_
  obtain ⟨n1, n2, n3⟩ := fr N _ hN nN (fun z => hpN z.symm)
  refine ⟨acc, n1, by rw [sizeLine_eq]; omega, ?_⟩
  have f5 := n2 fN
  have R6 : SR K mg F5 ρ1 (σ.set v (some (.ref p))) (upd H5 N (.lst (acc ++ [vy]))) := by
    refine R5.grow (Same.refl _) (fun b o eb => ?_) (R5.siz.upd (by show (acc ++ [vy]).length ≤ sizeLine; rw [List.length_append, List.length_singleton, sizeLine_eq]; omega)) fun q wq => ?_
    · have hb : b ≠ N := fun z => by rw [z, f5] at eb; cases eb
      rw [upd_ne hb]
      exact R5.same b o eb
    · have hq : q ≠ N := fun z => n3 (z ▸ wq)
      rw [upd_ne hq]
      exact ⟨R5.owF wq, rfl⟩
  have R7 := R6.hide [v]
  rw [hw] at R7
  have owh : ∀ q, Ow (hide [v] ρ1) σ q → Ow ρ1 (σ.set v (some (.ref p))) q := fun q w => by
    refine Ow.hide (vs := [v]) ?_
    rw [hw]
    exact w
  refine q vy F5 _ R7 sF r upd_same f5 (fun w => n3 (owh _ w)) (fun z o ez nz hz hzN => ?_) (fun z w => ow z (owh z w))
  obtain ⟨m1, m2, m3⟩ := fr z o ez nz hz
  exact ⟨by rw [upd_ne hzN]; exact m1, m2, fun w => m3 (owh _ w)⟩
def sPurse2 (x y v : Nat) (f1 f2 fe : FE) : FS := fun ρ => (f1 ρ).bind fun p1 => match p1.1 with
  | .own d1 => (f2 p1.2).bind fun p2 => match p2.1 with
    | .own d2 => if x < p2.2.length then (vl fe ((hide [v] (p2.2.set x .no)).set v (.own d1))).bind fun q1 => (vl fe ((hide [v] q1.2).set v (.own d2))).bind fun q2 =>
      some (.nx ((backS (p2.2.set x .no) [v] (hide [v] q2.2)).set y (.own [q1.1, q2.1]))) else none
    | _ => none
  | _ => none
theorem wipe1 {σ : L2.St} {v : Nat} {o : Option V} : wipe ((wipe σ [v]).set v o) [v] = wipe σ [v] :=
  wipe_eq (σ := wipe σ [v]) (by rw [List.length_set]) (fun j hj => by
    have : v ≠ j := fun z => hj (by simp [z])
    rw [List.getElem?_set_ne this]) |>.trans wipe_wipe
theorem es_purse2 {x y v : Nat} {t1 t2 te : TE} {f1 f2 fe : FE} {M : List Nat} (hx : x ∉ M) (hy : y ∉ M) (h1 : EvW K mg t1 f1) (h2 : EvW K mg t2 f2) (he : EvW K mg te fe) :
    EvS K mg M (tSeq (tAsg (tLst (tCons t1 (tCons t2 tNil))) (gName x)) (tAsg (tLc (iList K (tVar x)) (gName v) tYes te [v]) (gName y))) (sPurse2 x y v f1 f2 fe) := fun F ρ σ H R o e Dn gd => by
  unfold sPurse2 at e
  obtain ⟨⟨s1, ρ1⟩, e1, e⟩ := bind2 (γ := Unit) e
  dsimp only at e
  split at e
  case h_2 => cases e
  rename_i d1
  obtain ⟨⟨s2, ρ2⟩, e2, e⟩ := bind2 (γ := Unit) e
  dsimp only at e
  split at e
  case h_2 => cases e
  rename_i d2
  split at e
  case isFalse => cases e
  rename_i hxl
  obtain ⟨⟨a, ρ4⟩, e3, e⟩ := bind2 (γ := Unit) e
  obtain ⟨⟨b, ρ5⟩, e4, e⟩ := bind2 (γ := Unit) e
  cases e
  refine h1 F ρ σ H R _ ρ1 e1 _ fun v1 F1 H1 R1 S1 W1 => ?_
  obtain ⟨p1, rfl, ⟨f1n, vs1, g1, r1⟩, n1, w1⟩ := W1
  refine h2 F1 ρ1 σ H1 R1 _ ρ2 e2 _ fun v2 F2 H2 R2 S2 W2 => ?_
  have W2b := W2.back S1
  obtain ⟨p2, rfl, ⟨f2n, vs2, g2, r2⟩, n2, w2⟩ := W2
  obtain ⟨p2', e', _, _, w2b⟩ := W2b
  cases e'
  have g1' : H2 p1 = some (.lst vs1) := S2.fr _ _ g1 n1
  have f1' : F2 p1 = none := S2.un _ _ g1 f1n n1
  have n1' : ¬Ow ρ2 σ p1 := fun w => by
    rcases S2.ow _ w with w | w
    · exact n1 w
    · rw [g1] at w
      cases w
  have hne : p1 ≠ p2 := fun z => by
    rcases w2 with w | w
    · exact n1 (z ▸ w)
    · rw [← z, g1] at w
      cases w
  refine ⟨by rw [sizeLine_eq]; show 2 ≤ 16777216; omega, fun p hp => ?_⟩
  obtain ⟨R3, S3⟩ := R2.fresh (o := .lst [V.ref p1, V.ref p2]) hp (by show 2 ≤ sizeLine; rw [sizeLine_eq]; omega)
  have S12 := (S1.trans S2).trans S3
  have R4 := R3.put (s := .no) (v := .ref p) (i := x) trivial fun q o => by cases o
  have S4 := S12.put (i := x) (s := .no) (v := .ref p) fun q o => by cases o
  have hpl : ∀ q, H2 q ≠ none → upd H2 p (.lst [V.ref p1, V.ref p2]) q = H2 q := fun q hq => upd_ne fun z => hq (z ▸ hp)
  have g1'' : upd H2 p (.lst [V.ref p1, V.ref p2]) p1 = some (.lst vs1) := by rw [hpl p1 (by rw [g1']; simp), g1']
  have g2'' : upd H2 p (.lst [V.ref p1, V.ref p2]) p2 = some (.lst vs2) := by rw [hpl p2 (by rw [g2]; simp), g2]
  have ow4 : ∀ q, Ow (ρ2.set x .no) (σ.set x (some (.ref p))) q → Ow ρ2 σ q := fun q w => by
    rcases w.set with w | ⟨o, _⟩
    · exact w
    · cases o
  have n1'' : ¬Ow (ρ2.set x .no) (σ.set x (some (.ref p))) p1 := fun w => n1' (ow4 _ w)
  have n2'' : ¬Ow (ρ2.set x .no) (σ.set x (some (.ref p))) p2 := fun w => n2 (ow4 _ w)
  have hp3 : upd H2 p (.lst [V.ref p1, V.ref p2]) p = some (.lst [V.ref p1, V.ref p2]) := upd_same
  have fp3 : F2 p = none := R2.same.free hp
  have np3 : ¬Ow (ρ2.set x .no) (σ.set x (some (.ref p))) p := fun w => R2.nw hp (ow4 _ w)
  have hxσ : x < σ.length := by rw [← R2.len]; exact hxl
  have hσx : (σ.set x (some (V.ref p)))[x]? = some (some (.ref p)) := List.getElem?_set_self hxσ
  have hpp1 : p ≠ p1 := fun z => by rw [← z, hp] at g1'; cases g1'
  have hpp2 : p ≠ p2 := fun z => by rw [← z, hp] at g2; cases g2
  show tLc (iList K (tVar x)) (gName v) tYes te [v] (σ.set x (some (.ref p))) (upd H2 p (.lst [V.ref p1, V.ref p2])) (fun z H' => gName y z (σ.set x (some (.ref p))) H' Dn.nx)
  generalize upd H2 p (.lst [V.ref p1, V.ref p2]) = H3 at *
  generalize hρ3 : ρ2.set x .no = ρ3 at *
  generalize hσ3 : σ.set x (some (.ref p)) = σ3 at *
  refine ⟨.ref p, hσx, p, rfl, ⟨_, SqL.of hp3⟩, fun N hN => ?_⟩
  have hN1 : p1 ≠ N := fun z => by rw [z, hN] at g1''; cases g1''
  have hN2 : p2 ≠ N := fun z => by rw [z, hN] at g2''; cases g2''
  have hNp : p ≠ N := fun z => by rw [z, hN] at hp3; cases hp3
  have fN : F2 N = none := R4.same.free hN
  have nN : ¬Ow ρ3 σ3 N := R4.nw hN
  obtain ⟨R5, S5⟩ := R4.fresh (o := .lst []) hN (Nat.zero_le _)
  have R5h := R5.hide [v]
  have u0 : ∀ q, q ≠ N → upd H3 N (.lst []) q = H3 q := fun q h => upd_ne h
  have hw : ∀ o, wipe ((wipe σ3 [v]).set v o) [v] = wipe σ3 [v] := fun o => wipe1
  obtain ⟨Pv, hPv⟩ : ∃ Pv : Nat → Hp → Prop, Pv = fun i H' => (i = 0 ∧ H' = upd H3 N (.lst []))
    ∨ (i = 1 ∧ ∃ F' va, SR K mg F' (hide [v] ρ4) (wipe σ3 [v]) H' ∧ Same F2 F' ∧ Rep K mg F' a va ∧ H' N = some (.lst [va]) ∧ F' N = none ∧ ¬Ow (hide [v] ρ4) (wipe σ3 [v]) N ∧ (∀ q o, H3 q = some o → ¬Ow ρ3 σ3 q → q ≠ p1 → H' q = some o ∧ (F2 q = none → F' q = none) ∧ ¬Ow (hide [v] ρ4) (wipe σ3 [v]) q) ∧ (∀ q, Ow (hide [v] ρ4) (wipe σ3 [v]) q → Ow ρ3 σ3 q ∨ q = p1 ∨ H3 q = none))
    ∨ (i = 2 ∧ ∃ F' va vb, SR K mg F' (hide [v] ρ5) (wipe σ3 [v]) H' ∧ Same F2 F' ∧ Rep K mg F' a va ∧ Rep K mg F' b vb ∧ H' N = some (.lst [va, vb]) ∧ F' N = none ∧ ¬Ow (hide [v] ρ5) (wipe σ3 [v]) N ∧ (∀ q o, H3 q = some o → ¬Ow ρ3 σ3 q → q ≠ p1 → q ≠ p2 → H' q = some o ∧ (F2 q = none → F' q = none)) ∧ (∀ q, Ow (hide [v] ρ5) (wipe σ3 [v]) q → Ow ρ3 σ3 q ∨ q = p1 ∨ q = p2 ∨ H3 q = none)) := ⟨_, rfl⟩
  refine lc_it (walk_list (xs := [V.ref p1, V.ref p2])) Pv (by rw [hPv]; exact .inl ⟨rfl, rfl⟩) (fun i H' _ h => ?_) ?_ ?_
  · refine SqL.of ?_
    rw [hPv] at h
    rcases h with ⟨_, rfl⟩ | ⟨_, F', va, _, _, _, _, _, _, h, _⟩ | ⟨_, F', va, vb, _, _, _, _, _, _, _, h, _⟩
    · rw [u0 p hNp]
      exact hp3
    · exact (h p _ hp3 np3 hpp1).1
    · exact (h p _ hp3 np3 hpp1 hpp2).1
  · rintro i z H' H6 hlt h ⟨rfl, yz⟩
    rw [hPv] at h
    rcases h with ⟨rfl, rfl⟩ | ⟨rfl, F', va, R', m', ra, hN', fN', nN', fr', ow'⟩ | ⟨rfl, _⟩
    · cases yz
      refine ⟨hw _, ?_⟩
      show te _ _ _
      refine cell_lc he R5h (hw _) f1' (by rw [u0 p1 hN1]; exact g1'') (r1.mono S2.sF) (fun w => n1'' w.hide) fN upd_same (fun w => nN w.hide) (by decide) hN1 e3 (Pv 1) fun va F5 H6 R6 m6 ra hN6 f6 n6 fr6 ow6 => by
        rw [hPv]
        refine .inr (.inl ⟨rfl, F5, va, R6, m6, ra, hN6, f6, n6, fun q o eq nq hq => ?_, fun q w => ?_⟩)
        · have hqN : q ≠ N := fun z => by rw [z, hN] at eq; cases eq
          exact fr6 q o (by rw [u0 q hqN]; exact eq) (fun w => nq w.hide) hq hqN
        · rcases ow6 q w with w | w | w
          · exact .inl w.hide
          · exact .inr (.inl w)
          · by_cases hqN : q = N
            · exact absurd (hqN ▸ w) (by rw [upd_same]; simp)
            · rw [u0 q hqN] at w
              exact .inr (.inr w)
    · cases yz
      refine ⟨hw _, ?_⟩
      show te _ _ _
      obtain ⟨k1, k2, k3⟩ := fr' p2 _ g2'' n2'' (fun z => hne z.symm)
      refine cell_lc he R' (hw _) (k2 f2n) k1 (r2.mono m') k3 fN' hN' nN' (by show 1 < 10; omega) hN2 e4 (Pv 2) fun vb F5 H6 R6 m6 rb hN6 f6 n6 fr6 ow6 => by
        rw [hPv]
        refine .inr (.inr ⟨rfl, F5, va, vb, R6, m'.trans m6, ra.mono m6, rb, hN6, f6, n6, fun q o eq nq hq hq2 => ?_, fun q w => ?_⟩)
        · have hqN : q ≠ N := fun z => by rw [z, hN] at eq; cases eq
          obtain ⟨j1, j2, j3⟩ := fr' q o eq nq hq
          obtain ⟨l1, l2, _⟩ := fr6 q o j1 j3 hq2 hqN
          exact ⟨l1, fun f => l2 (j2 f)⟩
        · rcases ow6 q w with w | w | w
          · rcases ow' q w with w | w | w
            · exact .inl w
            · exact .inr (.inl w)
            · exact .inr (.inr (.inr w))
          · exact .inr (.inr (.inl w))
          · by_cases hqo : Ow ρ3 σ3 q
            · exact .inl hqo
            · by_cases hq1 : q = p1
              · exact .inr (.inl hq1)
              · refine .inr (.inr (.inr ?_))
                cases hh : H3 q with
                | none => rfl
                | some o =>
                  rw [(fr' q o hh hqo hq1).1] at w
                  cases w
    · exact absurd hlt (by simp)
  · intro H' h
    rw [hPv] at h
    rcases h with ⟨h, _⟩ | ⟨h, _⟩ | ⟨_, F', va, vb, R', m', ra, rb, hN', fN', nN', fr', ow'⟩
    · cases h
    · cases h
    have Rb := R4.back m' R'
    have hown : SlR K mg F' H' (.own [a, b]) (some (.ref N)) := ⟨N, rfl, fN', [va, vb], hN', va, [vb], rfl, ra, vb, [], rfl, rb, rfl⟩
    have Rf := Rb.put (i := y) hown fun q _ e => by
      cases e
      exact fun w => nN' w.back
    have ok : ∀ q, Ow ρ σ q ∨ H q = none → True := fun _ _ => trivial
    have t1 : Ow ρ σ p1 ∨ H p1 = none := w1
    have t2 : Ow ρ σ p2 ∨ H p2 = none := w2b
    have far1 : ∀ q o, H q = some o → ¬Ow ρ σ q → q ≠ p1 := fun q o e n z => by
      rw [z] at e n
      rcases t1 with w | w
      · exact n w
      · rw [e] at w
        cases w
    have far2 : ∀ q o, H q = some o → ¬Ow ρ σ q → q ≠ p2 := fun q o e n z => by
      rw [z] at e n
      rcases t2 with w | w
      · exact n w
      · rw [e] at w
        cases w
    have far : ∀ q o, H q = some o → ¬Ow ρ σ q → q ≠ p1 ∧ q ≠ p2 := fun q o e n => ⟨far1 q o e n, far2 q o e n⟩
    have n3 : ∀ q o, H q = some o → ¬Ow ρ σ q → ¬Ow ρ3 σ3 q := fun q o e n w => by
      rcases S4.ow q w with w | w
      · exact n w
      · rw [e] at w
        cases w
    have back3 : ∀ q, H3 q = none → Ow ρ σ q ∨ H q = none := fun q w => by
      by_cases ho : Ow ρ σ q
      · exact .inl ho
      · refine .inr ?_
        cases hh : H q with
        | none => rfl
        | some o =>
          rw [S4.fr q o hh ho] at w
          cases w
    refine gd F' _ H' Rf ⟨S4.sF.trans m', fun q o e n => ?_, fun q o e f n => ?_, fun q w => ?_⟩ ?_
    · obtain ⟨a1, a2⟩ := far q o e n
      exact (fr' q o (S4.fr q o e n) (n3 q o e n) a1 a2).1
    · obtain ⟨a1, a2⟩ := far q o e n
      exact (fr' q o (S4.fr q o e n) (n3 q o e n) a1 a2).2 (S4.un q o e f n)
    · rcases w.set with w | ⟨_, e⟩
      · rcases ow' q w.back with w | rfl | rfl | w
        · exact S4.ow q w
        · exact t1
        · exact t2
        · exact back3 q w
      · cases e
        exact back3 _ hN
    · rw [← hσ3]
      exact (Kp.set hx).trans (Kp.set hy)
variable {P : Program} {w : World} {base : Heap} {M : List Nat} {X : Cx}
theorem r_purse2 {x y v : Nat} {tgs1 tgs : List Expr} {lpos ps1 : Pos} {gen : List Comprehension} {ps pos : Pos} {sts : List Stmt} {e1 e2 elt : Expr} {t1 t2 te : TE} {f1 f2 fe : FE} {g1 g2 g : FS} {u : TS} {scope : Scope} (hx : x ∉ M) (hy : y ∉ M) (d1 : DS K mg M X (.Assign tgs1 (.List [e1, e2] lpos) ps1) (tAsg (tLst (tCons t1 (tCons t2 tNil))) (gName x)) g1) (d2 : DS K mg M X (.Assign tgs (.ListComp elt gen scope pos) ps) (tAsg (tLc (iList K (tVar x)) (gName v) tYes te [v]) (gName y)) g2)
    (h1 : DE K mg X e1 t1 f1) (h2 : DE K mg X e2 t2 f2) (he : ∀ (s : Shared) (H : Hp) (C : Addr) (cl : List (Str × Addr)) (fp : List Addr), DE K mg (X.blk s H scope (compEnvC scope cl C X.env) fp) elt te fe) (r : DSs K mg M X sts u g) :
    DSs K mg M X (.Assign tgs1 (.List [e1, e2] lpos) ps1 :: .Assign tgs (.ListComp elt gen scope pos) ps :: sts) (tSeq (tAsg (tLst (tCons t1 (tCons t2 tNil))) (gName x)) (tSeq (tAsg (tLc (iList K (tVar x)) (gName v) tYes te [v]) (gName y)) u)) (sSeq (sPurse2 x y v f1 f2 fe) g) :=
  ⟨pss_cons d1.ps (pss_cons d2.ps r.ps), fun F ρ σ H R o e Dn gd => es_seq (es_purse2 hx hy h1.ev h2.ev (he {} (fun _ => none) 0 [] []).ev) r.ev F ρ σ H R o e Dn gd⟩
/-! what a run gives -/
theorem wp_purse2 {x y v : Nat} {f1 f2 fe : FE} {ρ : En} {Q : Ou → Prop} (h : Wp (f1 ρ) fun p1 => ∃ d1, p1.1 = .own d1 ∧ Wp (f2 p1.2) fun p2 => ∃ d2, p2.1 = .own d2 ∧ x < p2.2.length ∧ Wp (vl fe ((hide [v] (p2.2.set x .no)).set v (.own d1))) fun q1 => Wp (vl fe ((hide [v] q1.2).set v (.own d2))) fun q2 => Q (.nx ((backS (p2.2.set x .no) [v] (hide [v] q2.2)).set y (.own [q1.1, q2.1])))) : Wp (sPurse2 x y v f1 f2 fe ρ) Q := by
  unfold sPurse2
  refine wp_bind (h.imp fun p1 h => ?_)
  obtain ⟨s1, ρ1⟩ := p1
  obtain ⟨d1, rfl, h⟩ := h
  refine wp_bind (h.imp fun p2 h => ?_)
  obtain ⟨s2, ρ2⟩ := p2
  obtain ⟨d2, rfl, hl, h⟩ := h
  dsimp only at hl h ⊢
  rw [if_pos hl]
  exact wp_bind (h.imp fun q1 h => wp_bind (h.imp fun q2 h => wp_some h))
end
end
end DL
/-! xs[::-1] -/
namespace DL
open PySem PySem.Spec PyProof.Rows L2
noncomputable section
section
variable {P : Program} {w : World} {K : PySem.W.Frag} {mg : Str → Option Value} {base : Heap} {k : Nat} {X : Cx} {M : List Nat} {e : Expr} {te : TE} {fe : FE} {pos : Pos}
def fRev (fe : FE) : FE := fun ρ => (vl fe ρ).bind fun p => match p.1 with
  | .lst ds => some (.own ds.reverse, p.2)
  | _ => none
theorem ev_rev (he : EvW K mg te fe) : EvW K mg (tRevL K te) (fRev fe) := fun F ρ σ H R s ρ' e Q q => by
  obtain ⟨⟨x, ρ1⟩, e1, e⟩ := bind2 (γ := Unit) e
  cases x <;> try (cases e)
  refine he.frz F ρ σ H R _ ρ1 e1 _ fun vx F1 H1 R1 S1 rx => ?_
  simp only [Rep] at rx
  obtain ⟨a, vs, rfl, g, r⟩ := rx
  have ha := R1.same _ _ g
  refine ⟨a, vs, rfl, .inl (.inl ha), fun p hp => ?_⟩
  exact wv_new R1 r.reverse (by rw [List.length_reverse]; exact R1.siz a vs ha) (fun v F4 H4 R4 S4 w => q v F4 H4 R4 (S1.trans S4) (w.back S1)) p hp
theorem r_rev {kk : Nat} {p1 p2 p3 : Pos} (x : XI P w K mg base k X) (he : DE K mg X e te fe) : DE K mg X (.Subscript e (.Slice none none (some (.UnaryOp .USub (.Constant (.int 1) kk p1) p2)) p3) pos) (tRevL K te) (fRev fe) := by
  have := x.kk
  subst this
  exact ⟨pe_revL he.pe, ev_rev he.ev⟩
end
end
end DL
namespace DL
open PySem PySem.Spec PyProof.Rows L2
noncomputable section
/-! ### two purses in a list: the list is fixed, the purses lie in slots that no name of the text shows -/
section
variable {K : PySem.W.Frag} {mg : Str → Option Value} {F H : Hp} {ρ : En} {σ : L2.St} {g i : Nat} {p : Addr}
theorem OwA.swap {s s' : Sl} (hg : ρ[g]? = some s) (o : s.isOwn = true) (o' : s'.isOwn = true) : OwA (ρ.set g s') σ i p ↔ OwA ρ σ i p := by
  by_cases n : g = i
  · subst n
    have hl := (List.getElem?_eq_some_iff.mp hg).1
    refine ⟨fun ⟨_, e⟩ => ⟨⟨s, hg, o⟩, e⟩, fun ⟨_, e⟩ => ⟨⟨s', List.getElem?_set_self hl, o'⟩, e⟩⟩
  · refine ⟨fun ⟨⟨u, e, ou⟩, e2⟩ => ⟨⟨u, by rw [List.getElem?_set_ne n] at e; exact e, ou⟩, e2⟩, fun ⟨⟨u, e, ou⟩, e2⟩ => ⟨⟨u, by rw [List.getElem?_set_ne n]; exact e, ou⟩, e2⟩⟩
theorem Ow.swap {s s' : Sl} (hg : ρ[g]? = some s) (o : s.isOwn = true) (o' : s'.isOwn = true) : Ow (ρ.set g s') σ p ↔ Ow ρ σ p := ⟨fun ⟨i, h⟩ => ⟨i, (OwA.swap hg o o').mp h⟩, fun ⟨i, h⟩ => ⟨i, (OwA.swap hg o o').mpr h⟩⟩
theorem SR.swap {s s' : Sl} (R : SR K mg F ρ σ H) (hg : ρ[g]? = some s) (o : s.isOwn = true) (o' : s'.isOwn = true) (h : ∀ p, OwR K mg F H s p → σ[g]? = some (some (.ref p)) → OwR K mg F H s' p) : SR K mg F (ρ.set g s') σ H := by
  refine ⟨R.same, R.siz, by rw [List.length_set]; exact R.len, fun i u e => ?_, fun i j p a b => R.sep i j p ((OwA.swap hg o o').mp a) ((OwA.swap hg o o').mp b)⟩
  by_cases n : g = i
  · subst n
    have hl := (List.getElem?_eq_some_iff.mp hg).1
    rw [List.getElem?_set_self hl] at e
    cases e
    obtain ⟨ov, e2, r⟩ := R.sl g s hg
    obtain ⟨p, rfl, r2⟩ := r.ow o
    exact ⟨_, e2, DL.SlR.of_ow (h p r2 e2)⟩
  · rw [List.getElem?_set_ne n] at e
    exact R.sl i u e
end
/-- the slot among gs that holds the list at p -/
def gFind (ρ : En) (p : Addr) : List Nat → Option (Nat × List D)
  | [] => none
  | g :: gs => match ρ[g]? with
    | some (.ownA a ds) => if a = p then some (g, ds) else gFind ρ p gs
    | _ => gFind ρ p gs
theorem gFind_at {ρ : En} {p : Addr} {g : Nat} {ds : List D} : ∀ {gs : List Nat}, gFind ρ p gs = some (g, ds) → ρ[g]? = some (.ownA p ds)
  | [], e => by cases e
  | k :: gs, e => by
    unfold gFind at e
    split at e
    · rename_i a ds' h
      split at e
      · rename_i ha
        cases e
        rw [h, ha]
      · exact gFind_at e
    · exact gFind_at e
def isAdr : Sl → Option Addr
  | .val (.adr a) => some a
  | _ => none
def hdOwn : List Sl → Option (List D)
  | .own ds :: _ => some ds
  | _ => none
/-- a call whose first argument is the address of a list that a slot of gs holds -/
def fUseA (den : Den) (gs : List Nat) (f0 : FE) (fA : FAr) : FE := fun ρ => (f0 ρ).bind fun p => (isAdr p.1).bind fun a => (fA p.2).bind fun q => (gFind q.2 a gs).bind fun z =>
  (den (.own z.2 :: q.1.map Sl.val)).bind fun r => (hdOwn r.2).map fun ds' => (r.1, q.2.set z.1 (.ownA a ds'))
section
variable {P : Program} {w : World} {K : PySem.W.Frag} {mg : Str → Option Value} {base : Heap} {k : Nat} {X : Cx} {M : List Nat} {a b c e : Expr} {es : List Expr} {ta tb tc te : TE} {fa fb fc fe : FE} {pos : Pos} {A : TA} {fA : FAr}
theorem nones_ArV {F : Hp} {σ : L2.St} : ∀ {ds : List D} {vs : List V}, Reps K mg F ds vs → ArV K mg F σ (ds.map fun _ => none) ds vs
  | [], vs, h => ⟨rfl, by simpa only [Reps] using h⟩
  | d :: ds, vs, h => by
    simp only [Reps] at h
    obtain ⟨v, r, rfl, h1, h2⟩ := h
    exact ⟨d, ds, v, r, rfl, rfl, h1, nones_ArV h2⟩
theorem nones_res {ρ : En} : ∀ {ds : List D}, res (ds.map fun _ => none) ds ρ = some (ds.map Sl.val)
  | [] => rfl
  | d :: ds => by
    show (res (ds.map fun _ => none) ds ρ).map _ = _
    rw [nones_res]
    rfl
theorem nones_once : ∀ {ds : List D}, once (ds.map fun _ => none) = true
  | [] => rfl
  | d :: ds => nones_once (ds := ds)
theorem nones_give {ρ : En} : ∀ {ds : List D} {us : List Sl}, give (ds.map fun _ => none) (ds.map Sl.val) us ρ = ρ
  | [], us => by unfold give; rfl
  | d :: ds, [] => by unfold give; rfl
  | d :: ds, u :: us => by
    show give (ds.map fun _ => none) (ds.map Sl.val) us ρ = ρ
    exact nones_give
theorem nones_no {g : Nat} : ∀ {ds : List D}, (ds.map fun (_ : D) => (none : Option Nat)).contains (some g) = false
  | [] => rfl
  | d :: ds => by
    rw [List.map_cons, List.contains_cons, nones_no]
    rfl
theorem ev_useA {m : Nat} {den : Den} {gs : List Nat} {t0 : TE} {f0 : FE} (hm : es.length + 1 = m) (hes : ∀ ρ ds ρ', fA ρ = some (ds, ρ') → ds.length = es.length) (h0 : EvW K mg t0 f0) (ha : EvA K mg A fA) : EvW K mg (tCall (spD K mg m den) [] E0 (tCons t0 A)) (fUseA den gs f0 fA) := fun F ρ σ H R s ρ' e Q q => by
  obtain ⟨⟨s0, ρ1⟩, e1, e⟩ := bind2 (γ := Unit) e
  obtain ⟨a, ea, e⟩ := bind2 (γ := Unit) e
  obtain ⟨⟨ds, ρ2⟩, e2, e⟩ := bind2 (γ := Unit) e
  obtain ⟨⟨g, d0⟩, eg, e⟩ := bind2 (γ := Unit) e
  obtain ⟨⟨u, ss'⟩, e3, e⟩ := bind2 (γ := Unit) e
  obtain ⟨d1, e4, e⟩ := map2 e
  cases e
  have hs0 : s0 = .val (.adr a) := by
    unfold isAdr at ea
    split at ea
    · cases ea
      assumption
    · cases ea
  subst hs0
  dsimp only at *
  obtain ⟨us, rfl⟩ : ∃ us, ss' = .own d1 :: us := by
    cases ss' with
    | nil => cases e4
    | cons y us => cases y <;> first | (cases e4; exact ⟨_, rfl⟩) | cases e4
  refine h0 F ρ σ H R _ ρ1 e1 _ fun v0 F1 H1 R1 S1 w0 => ?_
  have w0 : Rep K mg F1 (.adr a) v0 := w0
  simp only [Rep] at w0
  subst w0
  refine ha F1 ρ1 σ H1 R1 ds _ e2 _ fun vs F2 H2 R2 S2 rs => ?_
  have hg := gFind_at eg
  have hl := (List.getElem?_eq_some_iff.mp hg).1
  have hσ : σ[g]? = some (some (V.ref a)) := by
    obtain ⟨ov, e5, r⟩ := R2.sl g _ hg
    obtain ⟨p, rfl, r2⟩ := r.ow rfl
    rw [r2.2.1] at e5
    exact e5
  have Rx : SR K mg F2 (ρ2.set g (.own d0)) σ H2 := R2.swap hg rfl rfl fun p h _ => ⟨h.1, h.2.2⟩
  have hgx : (ρ2.set g (.own d0))[g]? = some (.own d0) := List.getElem?_set_self hl
  have ax : ArV K mg F2 σ (some g :: ds.map fun _ => none) ds (V.ref a :: vs) := ⟨_, _, rfl, hσ, nones_ArV rs⟩
  have rx : res (some g :: ds.map fun _ => none) ds (ρ2.set g (.own d0)) = some (.own d0 :: ds.map Sl.val) := by
    show ((ρ2.set g (.own d0))[g]?).bind _ = _
    rw [hgx]
    show (res (ds.map fun _ => none) ds _).map _ = _
    rw [nones_res]
    rfl
  have ox : once (some g :: ds.map fun (_ : D) => (none : Option Nat)) = true := by
    show (!(ds.map fun (_ : D) => (none : Option Nat)).contains (some g) && once (ds.map fun (_ : D) => (none : Option Nat))) = true
    rw [nones_no, nones_once]
    rfl
  have Ra := (Rx.args ax rx ox).1
  show spD K mg m den ((V.ref a :: vs) ++ []) H2 Q E0
  rw [List.append_nil]
  refine ⟨F2, _, u, _, by rw [List.length_cons, List.length_map, hes _ _ _ e2]; exact hm, Ra, fun y hy => ?_, e3, fun v F' H' R' S' own w => ?_⟩
  · rcases List.mem_cons.mp hy with e | hy
    · subst e
      rfl
    · obtain ⟨d, _, rfl⟩ := List.mem_map.mp hy
      rfl
  · obtain ⟨R3, S3, w3⟩ := use_end Rx ax rx ox R' S' own w
    have hgv : give (some g :: ds.map fun _ => none) (.own d0 :: ds.map Sl.val) (.own d1 :: us) (ρ2.set g (.own d0)) = ρ2.set g (.own d1) := by
      show give (ds.map fun _ => none) (ds.map Sl.val) us (if (Sl.own d0).isOwn = true then (ρ2.set g (.own d0)).set g (.own d1) else ρ2.set g (.own d0)) = _
      rw [nones_give, if_pos (show (Sl.own d0).isOwn = true from rfl), List.set_set]
    rw [hgv] at R3 S3 w3
    have hg1 : (ρ2.set g (.own d1))[g]? = some (.own d1) := List.getElem?_set_self hl
    have R4 : SR K mg F' (ρ2.set g (.ownA a d1)) σ H' := by
      have := R3.swap (s' := .ownA a d1) hg1 rfl rfl fun p h e => ⟨h.1, by rw [hσ] at e; cases e; rfl, h.2⟩
      rw [List.set_set] at this
      exact this
    have owx : ∀ p, Ow (ρ2.set g (.own d0)) σ p ↔ Ow ρ2 σ p := fun p => Ow.swap hg rfl rfl
    have owy : ∀ p, Ow (ρ2.set g (.ownA a d1)) σ p ↔ Ow (ρ2.set g (.own d1)) σ p := fun p => by
      rw [Ow.swap hg rfl rfl, Ow.swap hg rfl rfl]
    have S4 : Stp F2 ρ2 σ H2 F' (ρ2.set g (.ownA a d1)) σ H' := ⟨S3.sF, fun q o e n => S3.fr q o e fun z => n ((owx q).mp z), fun q o e f n => S3.un q o e f fun z => n ((owx q).mp z), fun q z => by
      rcases S3.ow q ((owy q).mp z) with z | z
      · exact .inl ((owx q).mp z)
      · exact .inr z⟩
    refine q v F' H' R4 ((S1.trans S2).trans S4) (WV.back (S1.trans S2) ?_)
    by_cases os : u.isOwn = true
    · obtain ⟨p, rfl, g3, np, z⟩ := w3.own os
      refine .of_own g3 (fun z => np ((owy p).mp z)) ?_
      rcases z with z | z
      · exact .inl ((owx p).mp z)
      · exact .inr z
    · cases u with
      | val d => exact w3
      | no => exact w3
      | own ds => exact absurd rfl os
      | oob c fs => exact absurd rfl os
      | odK ds => exact absurd rfl os
      | odT ds => exact absurd rfl os
      | ownA a ds => exact absurd rfl os
theorem r_useA {y : Str} {p : Pos} {m j : Nat} {den : Den} (x : XI P w K mg base k X) (gs : List Nat) (G : GFn P w K mg base y m j den) (hj : j ≤ k) (hg : Gl X y) (hm : es.length + 1 = m) (h0 : DE K mg X a ta fa) (ha : DA K mg X es A fA)
    (hl : ∀ ρ ds ρ', fA ρ = some (ds, ρ') → ds.length = es.length := by first | exact len_nil | exact len_cons len_nil | exact len_cons (len_cons len_nil) | exact len_cons (len_cons (len_cons len_nil)) | exact len_cons (len_cons (len_cons (len_cons len_nil)))) (hdb : (y == ("__debug__" : Str)) = false := by decide)
    (he : starEach (a :: es) X.env = (false, eval a X.env) :: starEach es X.env := by rfl) (hpl : (backTo pos (starEach es X.env)).any (·.1) = false := by rfl) : DE K mg X (.Call (.Name y p) (a :: es) [] pos) (tCall (spD K mg m den) [] E0 (tCons ta A)) (fUseA den gs fa fA) := by
  obtain ⟨f, fd, ps, h1, h2, h3, h4⟩ := G.to
  have e1 := x.pp
  have e2 := x.ww
  have e3 := x.kk
  have e4 := x.mm
  have e5 := x.bb
  subst e1 e2 e3 e4 e5
  exact ⟨pe_call h4 (x.rr.mono hj) hg h1 h2 h3 .nil pass0 (pa_cons h0.pe ha.pa he) hdb he hpl, ev_useA hm hl h0.ev ha.ev⟩
/-! slots that no name of the text shows -/
def tGh (g1 g2 : Nat) (t : TS) : TS := fun Dn σ H => ∃ v1 v2, t Dn ((σ.set g1 (some v1)).set g2 (some v2)) H
theorem pss_gh {g1 g2 : Nat} {y1 y2 : Str} {sts : List Stmt} {t : TS} (h : PSs X sts t) (n1 : X.N[g1]? = some y1) (n2 : X.N[g2]? = some y2) (v1 : X.env.scope.names.lookup y1 = none) (v2 : X.env.scope.names.lookup y2 = none) : PSs X sts (tGh g1 g2 t) := ⟨fun pins s σ H Dn I ⟨a, b, q⟩ => by
  refine h.run pins s _ H Dn ?_ q
  have hv : ∀ y, X.env.scope.names.lookup y = none → ¬Vis X.env.scope y := fun y e w => by
    rcases w with w | w | w <;> (rw [e] at w; cases w)
  obtain ⟨m, hm, hl⟩ := I.loc
  refine ⟨I.ok, I.os, I.bare, I.base, ⟨m, hm, fun i x v e1 e2 e3 => ?_⟩, I.cell, I.free, I.freeC, I.pin, I.hok, by rw [List.length_set, List.length_set]; exact I.len⟩
  by_cases z2 : g2 = i
  · subst z2
    rw [n2] at e1
    cases e1
    exact absurd e3 (hv _ v2)
  rw [List.getElem?_set_ne z2] at e2
  by_cases z1 : g1 = i
  · subst z1
    rw [n1] at e1
    cases e1
    exact absurd e3 (hv _ v1)
  rw [List.getElem?_set_ne z1] at e2
  exact hl i x v e1 e2 e3⟩
/-- x = [f1, f2], two lists that change later; what comes then always gives True -/
def duoAt (x g1 g2 : Nat) (a b : Addr) (d1 d2 : List D) (ρ : En) : En := ((ρ.set x (.val (.lst [.adr a, .adr b]))).set g1 (.ownA a d1)).set g2 (.ownA b d2)
def sDuo (x g1 g2 : Nat) (f1 f2 : FE) (k : FS) : FS := fun ρ => (f1 ρ).bind fun p1 => match p1.1 with
  | .own d1 => (f2 p1.2).bind fun p2 => match p2.1 with
    | .own d2 => open Classical in if (x < g1 ∧ g1 < g2 ∧ g2 < p2.2.length) ∧ ∀ a b, a ≠ b → ∃ ρ' : En, ρ'.length = p2.2.length ∧ k (duoAt x g1 g2 a b d1 d2 p2.2) = some (.rt (.val (.bl true)) ρ') then some (.rt (.val (.bl true)) (List.replicate p2.2.length .no)) else none
    | _ => none
  | _ => none
theorem SR.nos {F H : Hp} {ρ : En} {σ : L2.St} (R : SR K mg F ρ σ H) {n : Nat} (hn : n = ρ.length) : SR K mg F (List.replicate n .no) σ H := by
  have na : ∀ i p, ¬OwA (List.replicate n Sl.no) σ i p := fun i p ⟨⟨s, e, o⟩, _⟩ => by
    rw [List.getElem?_replicate] at e
    split at e
    · cases e
      cases o
    · cases e
  refine ⟨R.same, R.siz, by rw [List.length_replicate, hn]; exact R.len, fun i s e => ?_, fun i j p a => absurd a (na i p)⟩
  rw [List.getElem?_replicate] at e
  split at e
  · cases e
    rename_i hi
    have : i < σ.length := by rw [← R.len, ← hn]; exact hi
    exact ⟨_, List.getElem?_eq_getElem this, trivial⟩
  · cases e
theorem es_duo {x g1 g2 : Nat} {t1 t2 : TE} {f1 f2 : FE} {t : TS} {k : FS} (hx : x ∉ M) (h1M : g1 ∉ M) (h2M : g2 ∉ M) (h1 : EvW K mg t1 f1) (h2 : EvW K mg t2 f2) (hk : EvS K mg M t k) :
    EvS K mg M (tSeq (tAsg (tLst (tCons t1 (tCons t2 tNil))) (gName x)) (tGh g1 g2 t)) (sDuo x g1 g2 f1 f2 k) := fun F ρ σ H R o e Dn gd => by
  unfold sDuo at e
  obtain ⟨⟨s1, ρ1⟩, e1, e⟩ := bind2 (γ := Unit) e
  dsimp only at e
  split at e
  case h_2 => cases e
  rename_i d1
  obtain ⟨⟨s2, ρ2⟩, e2, e⟩ := bind2 (γ := Unit) e
  dsimp only at e
  split at e
  case h_2 => cases e
  rename_i d2
  split at e
  case isFalse => cases e
  rename_i hc
  obtain ⟨⟨l1, l2, l3⟩, hall⟩ := hc
  cases e
  refine h1 F ρ σ H R _ ρ1 e1 _ fun v1 F1 H1 R1 S1 W1 => ?_
  refine h2 F1 ρ1 σ H1 R1 _ ρ2 e2 _ fun v2 F2 H2 R2 S2 W2 => ?_
  obtain ⟨p1, rfl, ⟨f1n, vs1, q1, r1⟩, n1, w1⟩ := W1
  have W2b := W2.back S1
  obtain ⟨p2, rfl, ⟨f2n, vs2, q2, r2⟩, n2, w2⟩ := W2
  obtain ⟨p2', e', _, _, w2b⟩ := W2b
  cases e'
  have q1' : H2 p1 = some (.lst vs1) := S2.fr _ _ q1 n1
  have f1' : F2 p1 = none := S2.un _ _ q1 f1n n1
  have n1' : ¬Ow ρ2 σ p1 := fun w => by
    rcases S2.ow _ w with w | w
    · exact n1 w
    · rw [q1] at w
      cases w
  have hne : p1 ≠ p2 := fun z => by
    rcases w2 with w | w
    · exact n1 (z ▸ w)
    · rw [← z, q1] at w
      cases w
  refine ⟨by rw [sizeLine_eq]; show 2 ≤ 16777216; omega, fun p hp => ?_⟩
  obtain ⟨R3, S3⟩ := R2.alloc (o := .lst [V.ref p1, V.ref p2]) hp (by show 2 ≤ sizeLine; rw [sizeLine_eq]; omega)
  have S12 := S1.trans S2
  have hpp1 : p1 ≠ p := fun z => by rw [z, hp] at q1'; cases q1'
  have hpp2 : p2 ≠ p := fun z => by rw [z, hp] at q2; cases q2
  have o1 : OwR K mg (upd F2 p (.lst [V.ref p1, V.ref p2])) (upd H2 p (.lst [V.ref p1, V.ref p2])) (.ownA p1 d1) p1 := by
    refine ⟨by rw [upd_ne hpp1]; exact f1', rfl, vs1, by rw [upd_ne hpp1]; exact q1', (r1.mono S2.sF).mono (same_new (R2.same.free hp))⟩
  have o2 : OwR K mg (upd F2 p (.lst [V.ref p1, V.ref p2])) (upd H2 p (.lst [V.ref p1, V.ref p2])) (.ownA p2 d2) p2 := by
    refine ⟨by rw [upd_ne hpp2]; exact f2n, rfl, vs2, by rw [upd_ne hpp2]; exact q2, r2.mono (same_new (R2.same.free hp))⟩
  have hrep : Rep K mg (upd F2 p (.lst [V.ref p1, V.ref p2])) (.lst [.adr p1, .adr p2]) (.ref p) := by
    simp only [Rep]
    exact ⟨p, _, rfl, upd_same, V.ref p1, [V.ref p2], rfl, by simp only [Rep], V.ref p2, [], rfl, by simp only [Rep], rfl⟩
  generalize upd F2 p (.lst [V.ref p1, V.ref p2]) = F3 at *
  generalize upd H2 p (.lst [V.ref p1, V.ref p2]) = H3 at *
  have R4 := R3.put (i := x) (s := .val (.lst [.adr p1, .adr p2])) (v := .ref p) ⟨_, rfl, hrep⟩ fun q o => by cases o
  have S4 := (S12.trans S3).put (i := x) (s := .val (.lst [.adr p1, .adr p2])) (v := .ref p) fun q o => by cases o
  have S5 := S4.put (i := g1) (s := .ownA p1 d1) (v := .ref p1) fun q _ e => by
    cases e
    exact w1
  have S6 := S5.put (i := g2) (s := .ownA p2 d2) (v := .ref p2) fun q _ e => by
    cases e
    exact w2b
  have n4 : ∀ q, ¬Ow ρ2 σ q → ¬Ow (ρ2.set x (.val (.lst [.adr p1, .adr p2]))) (σ.set x (some (V.ref p))) q := fun q n w => by
    rcases w.set with w | ⟨o, _⟩
    · exact n w
    · cases o
  have R5 := R4.put (i := g1) (s := .ownA p1 d1) (v := .ref p1) ⟨_, rfl, o1⟩ fun q _ e => by
    cases e
    exact n4 _ n1'
  have n5 : ¬Ow ((ρ2.set x (.val (.lst [.adr p1, .adr p2]))).set g1 (.ownA p1 d1)) ((σ.set x (some (V.ref p))).set g1 (some (V.ref p1))) p2 := fun w => by
    rcases w.set with w | ⟨_, e⟩
    · exact n4 _ n2 w
    · cases e
      exact hne rfl
  have R6 := R5.put (i := g2) (s := .ownA p2 d2) (v := .ref p2) ⟨_, rfl, o2⟩ fun q _ e => by
    cases e
    exact n5
  obtain ⟨ρ', hl, hρ'⟩ := hall p1 p2 hne
  refine ⟨.ref p1, .ref p2, hk F3 _ _ H3 R6 _ hρ' _ ?_⟩
  intro v F' σ' H' R' S' k' w
  have St := S6.trans S'
  refine gd v F' σ' H' (R'.nos hl.symm) ⟨St.sF, St.fr, St.un, fun q ⟨i, ⟨s, e, o⟩, _⟩ => ?_⟩ ((((Kp.set hx).trans (Kp.set h1M)).trans (Kp.set h2M)).trans k') w
  rw [List.getElem?_replicate] at e
  split at e
  · cases e
    cases o
  · cases e
theorem r_duo {x g1 g2 : Nat} {y1 y2 : Str} {tgs : List Expr} {lpos ps : Pos} {sts : List Stmt} {e1 e2 : Expr} {t1 t2 : TE} {f1 f2 : FE} {g0 g : FS} {u : TS} (hx : x ∉ M) (h1M : g1 ∉ M) (h2M : g2 ∉ M) (d : DS K mg M X (.Assign tgs (.List [e1, e2] lpos) ps) (tAsg (tLst (tCons t1 (tCons t2 tNil))) (gName x)) g0)
    (h1 : DE K mg X e1 t1 f1) (h2 : DE K mg X e2 t2 f2) (n1 : X.N[g1]? = some y1) (n2 : X.N[g2]? = some y2) (v1 : X.env.scope.names.lookup y1 = none) (v2 : X.env.scope.names.lookup y2 = none) (r : DSs K mg M X sts u g) :
    DSs K mg M X (.Assign tgs (.List [e1, e2] lpos) ps :: sts) (tSeq (tAsg (tLst (tCons t1 (tCons t2 tNil))) (gName x)) (tGh g1 g2 u)) (sDuo x g1 g2 f1 f2 g) :=
  ⟨pss_cons d.ps (pss_gh r.ps n1 n2 v1 v2), es_duo hx h1M h2M h1.ev h2.ev r.ev⟩
/-! what a run gives -/
theorem wp_duo {x g1 g2 : Nat} {f1 f2 : FE} {k : FS} {ρ : En} {Q : Ou → Prop} (h : Wp (f1 ρ) fun p1 => ∃ d1, p1.1 = .own d1 ∧ Wp (f2 p1.2) fun p2 => ∃ d2, p2.1 = .own d2 ∧ (x < g1 ∧ g1 < g2 ∧ g2 < p2.2.length) ∧ (∀ a b : Addr, a ≠ b → Wp (k (duoAt x g1 g2 a b d1 d2 p2.2)) fun o => ∃ ρ' : En, ρ'.length = p2.2.length ∧ o = .rt (.val (.bl true)) ρ') ∧ Q (.rt (.val (.bl true)) (List.replicate p2.2.length .no))) : Wp (sDuo x g1 g2 f1 f2 k ρ) Q := by
  unfold sDuo
  refine wp_bind (h.imp fun p1 h => ?_)
  obtain ⟨s1, ρ1⟩ := p1
  obtain ⟨d1, rfl, h⟩ := h
  refine wp_bind (h.imp fun p2 h => ?_)
  obtain ⟨s2, ρ2⟩ := p2
  obtain ⟨d2, rfl, hl, hk, hq⟩ := h
  dsimp only at hl hk hq ⊢
  rw [if_pos ⟨hl, fun a b n => by
    obtain ⟨o, e, ρ', h1, h2⟩ := hk a b n
    exact ⟨ρ', h1, by rw [e, h2]⟩⟩]
  exact wp_some hq
theorem wp_useA {den : Den} {gs : List Nat} {f0 : FE} {fA : FAr} {ρ : En} {Q : Sl × En → Prop} (h : Wp (f0 ρ) fun p => ∃ a, p.1 = .val (.adr a) ∧ Wp (fA p.2) fun q => ∃ g ds, gFind q.2 a gs = some (g, ds) ∧ Wp (den (.own ds :: q.1.map Sl.val)) fun r => ∃ ds' us, r.2 = .own ds' :: us ∧ Q (r.1, q.2.set g (.ownA a ds'))) : Wp (fUseA den gs f0 fA ρ) Q := by
  unfold fUseA
  refine wp_bind (h.imp fun p h => ?_)
  obtain ⟨s, ρ1⟩ := p
  obtain ⟨a, rfl, h⟩ := h
  show Wp ((fA ρ1).bind _) Q
  refine wp_bind (h.imp fun q h => ?_)
  obtain ⟨g, ds, e, h⟩ := h
  rw [e]
  show Wp ((den _).bind _) Q
  refine wp_bind (h.imp fun r h => ?_)
  obtain ⟨s', ss⟩ := r
  obtain ⟨ds', us, rfl, h⟩ := h
  exact wp_some h
theorem known_ownA {a : Addr} {ds : List D} : known (.ownA a ds) = true := rfl
theorem isOwn_ownA {a : Addr} {ds : List D} : (Sl.ownA a ds).isOwn = true := rfl
/-! divmod -/
def gDivmod : List Sl → Option Sl
  | [.val (.int i), .val (.int j)] => if 0 < j ∧ fit30 j = true then some (.val (.tup [.int (i / j), .int (i % j)])) else none
  | _ => none
def rDivmod : List V → Hp → VK → Prop := fun xs H Q => ∃ i j, xs = [.int i, .int j] ∧ CDiv i j ∧ ∀ p, H p = none → Q (.ref p) (upd H p (.tup [.int (i / j), .int (i % j)]))
theorem c_divmod : RcW K mg rDivmod gDivmod := fun F ρ σ H R ss vs rs s e Q q => by
  match ss, e with
  | [.val (.int i), .val (.int j)], e =>
    simp only [gDivmod] at e
    split at e
    case isFalse => cases e
    rename_i hc
    cases e
    obtain ⟨hl, hr⟩ := rs
    match vs, hl with
    | [a, b], _ =>
      obtain ⟨a', ea, r1⟩ := hr 0 _ rfl
      obtain ⟨b', eb, r2⟩ := hr 1 _ rfl
      cases ea; cases eb
      rw [val_int r1, val_int r2]
      refine ⟨i, j, rfl, ⟨hc.1, (fit30_ok hc.2).2⟩, fun p hp => ?_⟩
      obtain ⟨R2, S2⟩ := R.alloc (o := .tup [V.int (i / j), V.int (i % j)]) hp trivial
      refine q _ _ _ R2 S2 ?_
      show Rep K mg _ (.tup [.int (i / j), .int (i % j)]) (.ref p)
      simp only [Rep]
      exact ⟨p, _, rfl, by rw [sizeLine_eq]; show 2 ≤ 16777216; omega, upd_same, V.int (i / j), [V.int (i % j)], rfl, by simp only [Rep], V.int (i % j), [], rfl, by simp only [Rep], rfl⟩
theorem r_divmod {p : Pos} {ks : List (Option Nat)} (x : XI P w K mg base k X) (hg : Gl X "divmod") (hm : mg "divmod" = none) (ha : DB K mg X (a :: es) A ks fA) (he : starEach (a :: es) X.env = (false, eval a X.env) :: starEach es X.env := by rfl) (hpl : (backTo pos (starEach es X.env)).any (·.1) = false := by rfl) :
    DE K mg X (.Call (.Name "divmod" p) (a :: es) [] pos) (tCB rDivmod A) (fCall gDivmod ks fA) := r_callB call_divmod c_divmod x hg hm (by decide +kernel) ha (by decide) (by decide) he hpl
end
end
end DL
namespace DL
open PySem PySem.Spec PyProof.Rows L2
noncomputable section
/-! ### == of plain data -/
/-- ints, texts, None, lists and tuples of such, n deep -/
def Qn : Nat → D → Prop
  | _, .non => True
  | _, .int _ => True
  | _, .str x => okE (.str x) = true
  | n + 1, .tup ds => ∀ d ∈ ds, Qn n d
  | n + 1, .lst ds => ∀ d ∈ ds, Qn n d
  | _, _ => False
theorem okE_parts {d : D} : okE d = true ↔ okP d = true ∧ PyData.canLay0 (toP d) = true ∧ PyData.depth (toP d) ≤ 64 := by
  show (okP d && (PyData.canLay0 (toP d) && decide (PyData.depth (toP d) ≤ 64))) = true ↔ _
  rw [Bool.and_eq_true, Bool.and_eq_true, decide_eq_true_eq]
theorem Qn.lays {n : Nat} (ih : ∀ d, Qn n d → okP d = true ∧ PyData.canLay0 (toP d) = true ∧ PyData.depth (toP d) ≤ n) : ∀ ds : List D, (∀ d ∈ ds, Qn n d) → okPs ds = true ∧ PyData.canLayAll0 (toPs ds) = true ∧ PyData.depthAll (toPs ds) ≤ n
  | [], _ => ⟨rfl, rfl, Nat.zero_le _⟩
  | d :: ds, h => by
    obtain ⟨a, b, c⟩ := ih d (h d List.mem_cons_self)
    obtain ⟨a2, b2, c2⟩ := Qn.lays ih ds fun x hx => h x (List.mem_cons_of_mem _ hx)
    refine ⟨?_, ?_, ?_⟩
    · show (okP d && okPs ds) = true
      rw [a, a2]; rfl
    · show (PyData.canLay0 (toP d) && PyData.canLayAll0 (toPs ds)) = true
      rw [b, b2]; rfl
    · show max (PyData.depth (toP d)) (PyData.depthAll (toPs ds)) ≤ n
      exact Nat.max_le.mpr ⟨c, c2⟩
theorem Qn.lay : ∀ {n : Nat} {d : D}, Qn n d → okP d = true ∧ PyData.canLay0 (toP d) = true ∧ (PyData.depth (toP d) ≤ n)
  | n, .non, _ => ⟨rfl, rfl, Nat.zero_le _⟩
  | n, .int _, _ => ⟨rfl, rfl, Nat.zero_le _⟩
  | 0, .str x, h => ⟨rfl, (okE_parts.mp h).2.1, Nat.zero_le _⟩
  | n + 1, .str x, h => ⟨rfl, (okE_parts.mp h).2.1, Nat.zero_le _⟩
  | n + 1, .tup ds, h => by
    obtain ⟨a, b, c⟩ := Qn.lays (fun d hd => Qn.lay hd) ds h
    exact ⟨a, b, Nat.succ_le_succ c⟩
  | n + 1, .lst ds, h => by
    obtain ⟨a, b, c⟩ := Qn.lays (fun d hd => Qn.lay hd) ds h
    exact ⟨a, b, Nat.succ_le_succ c⟩
  | 0, .tup _, h => h.elim
  | 0, .lst _, h => h.elim
  | 0, .bl _, h => h.elim
  | n + 1, .bl _, h => h.elim
  | 0, .obj _ _, h => h.elim
  | n + 1, .obj _ _, h => h.elim
  | 0, .adr _, h => h.elim
  | n + 1, .adr _, h => h.elim
  | 0, .scr _, h => h.elim
  | n + 1, .scr _, h => h.elim
  | 0, .dK _, h => h.elim
  | n + 1, .dK _, h => h.elim
  | 0, .dT _, h => h.elim
  | n + 1, .dT _, h => h.elim
theorem Qn.ok {n : Nat} {d : D} (h : Qn n d) (hn : n ≤ 64) : okE d = true := by
  obtain ⟨a, b, c⟩ := h.lay
  exact okE_parts.mpr ⟨a, b, Nat.le_trans c hn⟩
theorem Qn.eqs {n : Nat} (ih : ∀ x y, Qn n x → Qn n y → (PyData.eqv (toP x) (toP y) = true ↔ x = y)) : ∀ xs ys : List D, (∀ d ∈ xs, Qn n d) → (∀ d ∈ ys, Qn n d) → (PyData.eqvAll (toPs xs) (toPs ys) = true ↔ xs = ys)
  | [], [], _, _ => ⟨fun _ => rfl, fun _ => by simp only [toPs, PyData.eqvAll]⟩
  | [], y :: ys, _, _ => ⟨fun h => (by simp only [toPs, PyData.eqvAll] at h; cases h), fun h => (by cases h)⟩
  | x :: xs, [], _, _ => ⟨fun h => (by simp only [toPs, PyData.eqvAll] at h; cases h), fun h => (by cases h)⟩
  | x :: xs, y :: ys, hx, hy => by
    have a := ih x y (hx x List.mem_cons_self) (hy y List.mem_cons_self)
    have b := Qn.eqs ih xs ys (fun d hd => hx d (List.mem_cons_of_mem _ hd)) fun d hd => hy d (List.mem_cons_of_mem _ hd)
    show PyData.eqvAll (toP x :: toPs xs) (toP y :: toPs ys) = true ↔ _
    rw [PyData.eqvAll, Bool.and_eq_true, a, b, List.cons.injEq]
theorem Qn.eq : ∀ {n : Nat} {x y : D}, Qn n x → Qn n y → (PyData.eqv (toP x) (toP y) = true ↔ x = y) := by
  intro n
  induction n with
  | zero =>
    intro x y hx hy
    cases x <;> first | exact hx.elim | skip
    all_goals
      cases y <;> first | exact hy.elim | skip
    all_goals
      first
        | (simp only [toP, PyData.eqv, D.int.injEq, D.str.injEq, reduceCtorEq, Bool.false_eq_true, beq_iff_eq, decide_eq_true_eq, iff_self]; done)
        | (simp [toP, PyData.eqv]; done)
  | succ n ih =>
    intro x y hx hy
    cases x <;> first | exact hx.elim | skip
    all_goals
      cases y <;> first | exact hy.elim | skip
    case tup.tup xs ys =>
      show PyData.eqv (.tuple (toPs xs)) (.tuple (toPs ys)) = true ↔ _
      rw [PyData.eqv, Qn.eqs (fun x y hx hy => ih hx hy) xs ys hx hy, D.tup.injEq]
    case lst.lst xs ys =>
      show PyData.eqv (.list (toPs xs)) (.list (toPs ys)) = true ↔ _
      rw [PyData.eqv, Qn.eqs (fun x y hx hy => ih hx hy) xs ys hx hy, D.lst.injEq]
    all_goals
      first
        | (simp only [toP, PyData.eqv, D.int.injEq, D.str.injEq, reduceCtorEq, Bool.false_eq_true, beq_iff_eq, decide_eq_true_eq, iff_self]; done)
        | (simp [toP, PyData.eqv]; done)
theorem eqD_iff {n : Nat} {x y : D} (hx : Qn n x) (hy : Qn n y) : eqD x y = true ↔ x = y := Qn.eq hx hy
theorem gEq_same {n : Nat} {x : D} (hx : Qn n x) (hn : n ≤ 64) : gEq x x = some (.val (.bl true)) := by
  unfold gEq
  rw [if_pos ⟨hx.ok hn, hx.ok hn⟩, (eqD_iff hx hx).mpr rfl]
theorem gNe_same {n : Nat} {x : D} (hx : Qn n x) (hn : n ≤ 64) : gNe x x = some (.val (.bl false)) := by
  unfold gNe
  rw [if_pos ⟨hx.ok hn, hx.ok hn⟩, (eqD_iff hx hx).mpr rfl]
  rfl
theorem gEq_off {n : Nat} {x y : D} (hx : Qn n x) (hy : Qn n y) (hn : n ≤ 64) (h : x ≠ y) : gEq x y = some (.val (.bl false)) := by
  unfold gEq
  rw [if_pos ⟨hx.ok hn, hy.ok hn⟩, Bool.eq_false_iff.mpr fun e => h ((eqD_iff hx hy).mp e)]
theorem gNe_off {n : Nat} {x y : D} (hx : Qn n x) (hy : Qn n y) (hn : n ≤ 64) (h : x ≠ y) : gNe x y = some (.val (.bl true)) := by
  unfold gNe
  rw [if_pos ⟨hx.ok hn, hy.ok hn⟩, Bool.eq_false_iff.mpr fun e => h ((eqD_iff hx hy).mp e)]
  rfl
theorem Qn_int {i : Int} : ∀ {n : Nat}, Qn n (.int i)
  | 0 => trivial
  | _ + 1 => trivial
theorem Qn_ints {us : List Int} {n : Nat} : Qn (n + 1) (.lst (us.map D.int)) := fun d hd => by
  obtain ⟨i, _, rfl⟩ := List.mem_map.mp hd
  exact Qn_int
theorem Qn_pair {p : Int × Int} {n : Nat} : Qn (n + 1) (pairD p) := fun d hd => by
  simp only [List.mem_cons, List.not_mem_nil, or_false] at hd
  rcases hd with rfl | rfl <;> exact Qn_int
theorem Qn_lst {α : Type} {f : α → D} {xs : List α} {n : Nat} (h : ∀ x ∈ xs, Qn n (f x)) : Qn (n + 1) (.lst (xs.map f)) := fun d hd => by
  obtain ⟨x, hx, rfl⟩ := List.mem_map.mp hd
  exact h x hx
theorem Qn_pairs {us : List (Int × Int)} {n : Nat} : Qn (n + 2) (.lst (us.map pairD)) := Qn_lst fun _ _ => Qn_pair
/-! ### more of what a run gives -/
/-- keeps a fact out of sight -/
structure Bx (p : Prop) : Prop where
  out : p
theorem wp_lend {xs : List Nat} {f : FT} {ρ : En} {Q : Bool × En → Prop} (h : Wp (f (lend xs ρ)) fun p => Q (p.1, ρ)) : Wp (tLend xs f ρ) Q := wp_map h
theorem wp_lend' {xs : List Nat} {f : FT} {ρ ρ' : En} {Q : Bool × En → Prop} (e : lend xs ρ = ρ') (h : Wp (f ρ') fun p => Q (p.1, ρ)) : Wp (tLend xs f ρ) Q := by
  subst e
  exact wp_lend h
/-- a comprehension without a test whose slots move within an invariant -/
theorem wp_lcSt {α β : Type} {fg : FG} {fe : FE} {vs : List Nat} (mk : α → En) (I : α → Prop) (enc : β → D) (y : β → D) : ∀ (xs : List β) (a0 : α) {ds : List D} {ρ : En} {Q : List D × En → Prop}, ds = xs.map enc → ρ = mk a0 → I a0 →
    (∀ x ∈ xs, ∀ a, I a → ∃ ρ1, fg (enc x) (mk a) = some ρ1 ∧ Wp (vl fe ρ1) fun q => ∃ a', I a' ∧ q.1 = y x ∧ hide vs q.2 = mk a') →
    (∀ a', I a' → Q (xs.map y, mk a')) → Wp (lcD fg fYes fe vs ds ρ) Q
  | [], a0, _, _, _, hd, hρ, h0, _, hk => by
    subst hd hρ
    exact ⟨_, rfl, hk a0 h0⟩
  | x :: xs, a0, _, _, Q, hd, hρ, h0, h, hk => by
    subst hd hρ
    obtain ⟨ρ1, e1, ⟨d, ρ3⟩, e2, a', hI, e3, e4⟩ := h x List.mem_cons_self a0 h0
    dsimp only at e3 e4
    subst e3
    have ih := wp_lcSt mk I enc y xs a' (Q := fun q => Q (y x :: q.1, q.2)) rfl rfl hI (fun z hz => h z (List.mem_cons_of_mem _ hz)) fun a2 h2 => hk a2 h2
    obtain ⟨q, e5, hq⟩ := ih
    refine ⟨(y x :: q.1, q.2), ?_, hq⟩
    simp only [List.map_cons, lcD, e1, fYes, Option.bind_some, if_true, e2, e4, e5, Option.map_some]
theorem wp_dPutK {k : Str} {i : Nat} {fv : FE} {ρ : En} {Q : Ou → Prop} {kvs : List (Key × D)} (h : Wp (vl fv ρ) fun p => p.2[i]? = some (.odK kvs) ∧ kvs.length + 1 ≤ 1000000 ∧ Q (.nx (p.2.set i (.odK (putKD kvs (Sum.inr k) p.1))))) : Wp (sDPutK k i fv ρ) Q := by
  unfold sDPutK
  refine wp_bind (h.imp fun p h => ?_)
  rw [h.1]
  show Wp (if fitL (kvs.length + 1) = true then _ else _) Q
  rw [if_pos (fitL_small h.2.1)]
  exact wp_some h.2.2
theorem gPlus_lst {xs ys : List D} (h : xs.length + ys.length ≤ 1000000) : gPlus (.lst xs) (.lst ys) = some (.own (xs ++ ys)) := by
  simp only [gPlus, gAdd, i2, gCat, if_pos (fitL_small h), Option.none_or, Option.some_or]
theorem dr_pick (p : Pur) (xs : List Int) (h : 0 < xs.length) (h1 : xs.length < 1000) : ∃ c ∈ xs, atI (xs.map D.int) (dr p xs.length) = some (.int c) := by
  have q0 := dr_lo (p := p) (m := xs.length) (by omega) (by omega)
  have q1 := dr_hi (p := p) (m := xs.length) (by omega) (by omega)
  have hi : (dr p xs.length).toNat < xs.length := by omega
  exact ⟨xs[(dr p xs.length).toNat], List.getElem_mem hi, atI_pos q0 (by rw [List.getElem?_map, List.getElem?_eq_getElem hi]; rfl)⟩
theorem Fl_ints {us : List Int} {n : Nat} (h : us.length ≤ 1000000) : Fl (n + 1) (.lst (us.map D.int)) := ⟨by rw [List.length_map]; exact h, fun d hd => by
  obtain ⟨i, _, rfl⟩ := List.mem_map.mp hd
  cases n <;> trivial⟩
end
end DL
namespace k48
open PySem PySem.Spec PyProof.Rows L2 DL
noncomputable section
def tab_LIMITS : List (Str × Int) := [("sights", 8), ("day", 30), ("cycle", 12), ("daily", 9), ("endless", 400)]
def top (i : Nat) : Stmt := PySem.Challenge.pw_clearonce_k48_whole_waits_of_endless_win.main.body.getD i (.Pass ⟨0, 0, 0, 0⟩)
abbrev s_check : Stmt := top 8
abbrev s_check_calendar : Stmt := top 10
abbrev s_end_of_start : Stmt := top 11
abbrev s_distinct_spans : Stmt := top 12
abbrev s_Calendar_init : Stmt := inClass (top 14) 0
abbrev s_Calendar_day : Stmt := inClass (top 14) 1
abbrev s_Calendar_next_end : Stmt := inClass (top 14) 3
abbrev s_check_endless : Stmt := top 20
abbrev s_Endless_init : Stmt := inClass (top 22) 0
abbrev s_Endless_coming_of : Stmt := inClass (top 22) 4
abbrev s_Endless_next_row : Stmt := inClass (top 22) 5
abbrev s_Endless_times : Stmt := inClass (top 22) 6
abbrev s_Endless_waits : Stmt := inClass (top 22) 7
abbrev s_law_purse : Stmt := top 24
abbrev s_law_draw : Stmt := top 25
abbrev s_law_mix : Stmt := top 26
abbrev s_law_matches : Stmt := top 27
abbrev s_law_calendar_world : Stmt := top 28
abbrev s_law_endless : Stmt := top 29
abbrev s_law_waits : Stmt := top 30
abbrev s_law : Stmt := top 31

/-! Calendar.next_end (level 1) -/
def f_Calendar_next_end : FS :=
  (sSeq (sAsgG (tgTup 2 (tgCons (tgName 2) (tgCons (tgName 3) tgNil))) (fCall gDivmod [none, none] (fACons (fOp2 DL.gSub (fName 1) (fC (.int 1))) (fACons (fFldN "Calendar" "day_number" 0) fANil))))
    (sRet (fOp2 gPlus (fOp2 gIxD (fFldN "Calendar" "end_list" 0) (fName 3)) (fOp2 gTimes (fName 2) (fFldN "Calendar" "day_number" 0)))))
def den_Calendar_next_end : Den := denOf 4 [] f_Calendar_next_end

/-! Endless.coming_of (level 1) -/
def f_Endless_coming_of : FS :=
  (sSeq (sAsgG (tgTup 2 (tgCons (tgName 2) (tgCons (tgName 3) tgNil))) (fCall gDivmod [none, none] (fACons (fOp2 DL.gSub (fName 1) (fC (.int 1))) (fACons (fCall gLen [none] (fACons (fFldN "Endless" "coming_list" 0) fANil)) fANil))))
    (sRet (fOp2 gPlus (fOp2 gTimes (fName 2) (fFldN "Endless" "day_number" 0)) (fOp2 gIxD (fFldN "Endless" "coming_list" 0) (fName 3)))))
def den_Endless_coming_of : Den := denOf 4 [] f_Endless_coming_of

/-! Endless.next_row (level 2) -/
def f_Endless_next_row : FS :=
  (sSeq (sSet 3 (fLst (fACons (fMeth "Endless" "coming_of" den_Endless_coming_of [none] (fName 0) (fACons (fName 1) fANil)) fANil)))
    (sSeq (sFgtThen [4, 5] (sFor (rRng2 (fACons (fC (.int 1)) (fACons (fOp2 gPlus (fCall gLen [none] (fACons (fFldN "Endless" "calendar_list" 0) fANil)) (fC (.int 1))) fANil))) (tgName 4) (sThenFgt (sSeq (sSet 5 (fOp2 gPlus (fOpN gIx 3 (fOp2 DL.gSub (fName 4) (fC (.int 1)))) (fC (.int 1))))
    (sSeq (sIf (fB (fOp2 gGt (fCall gLen [some 2] (fBSlot 2 fANil)) (fC (.int 0)))) (sSet 5 (fCall gMax [some 5, none] (fBSlot 5 (fACons (fOp2 gPlus (fOpN gIx 2 (fName 4)) (fC (.int 1))) fANil)))) sNop)
    (sDrop (fMtL gAppend 3 (fACons (fMeth "Calendar" "next_end" den_Calendar_next_end [none] (fOp2 gIxD (fFldN "Endless" "calendar_list" 0) (fOp2 DL.gSub (fName 4) (fC (.int 1)))) (fACons (fName 5) fANil)) fANil))))) [4, 5])))
    (sRet (fMove 3))))
def den_Endless_next_row : Den := denOf 6 [] f_Endless_next_row

/-! check (level 1) -/
def f_check : FS :=
  (sIf (fB (fOp2 gGt (fName 1) (fIxK tab_LIMITS (fName 0)))) sNever sNop)
def den_check : Den := denOf 2 [] f_check

/-! Endless.times (level 3) -/
def f_Endless_times : FS :=
  (sSeq (sDrop (fUse den_check [none, none] (fACons (fC (.str "endless")) (fACons (fName 1) fANil))))
    (sSeq (sSet 2 (fLst fANil))
    (sSeq (sSet 3 (fLst fANil))
    (sSeq (sFgtThen [4] (sFor (rRng2 (fACons (fC (.int 1)) (fACons (fOp2 gPlus (fName 1) (fC (.int 1))) fANil))) (tgName 4) (sThenFgt (sSeq (sSet 3 (fMeth "Endless" "next_row" den_Endless_next_row [none, none] (fName 0) (fACons (fName 4) (fACons (fName 3) fANil))))
    (sDrop (fMtL gAppend 2 (fACons (fCall gTuple [some 3] (fBSlot 3 fANil)) fANil)))) [4])))
    (sRet (fMove 2))))))
def den_Endless_times : Den := denOf 5 [] f_Endless_times

/-! Endless.waits (level 4) -/
def f_Endless_waits : FS :=
  (sRet (fLc (rLst (fMeth "Endless" "times" den_Endless_times [none] (fName 0) (fACons (fName 1) fANil))) (tgName 2) fYes (fOp2 DL.gSub (fOpN gIx 2 (fOp1 gNeg (fC (.int 1)))) (fOpN gIx 2 (fC (.int 0)))) [2]))
def den_Endless_waits : Den := denOf 3 [] f_Endless_waits

/-! _law_calendar_world (level 2) -/
def f_law_calendar_world : FS :=
  (sSeq (sSet 1 (fOp2 gPlus (fC (.int 2)) (fUse den_law_draw [some 0, none] (fBSlot 0 (fACons (fC (.int 11)) fANil)))))
    (sSeq (sSet 2 (fLc (rRng (fACons (fOp2 gPlus (fC (.int 1)) (fUse den_law_draw [some 0, none] (fBSlot 0 (fACons (fC (.int 4)) fANil)))) fANil)) (tgName 4) fYes (fOp2 gPlus (fC (.int 1)) (fUse den_law_draw [some 0, none] (fBSlot 0 (fACons (fCall gMin [some 1, none] (fBSlot 1 (fACons (fC (.int 5)) fANil))) fANil)))) [4]))
    (sSeq (sSet 3 (fCall gSorted [none] (fACons (fLc (rRng (fACons (fOp2 gPlus (fC (.int 1)) (fUse den_law_draw [some 0, none] (fBSlot 0 (fACons (fC (.int 4)) fANil)))) fANil)) (tgName 5) fYes (fUse den_law_draw [some 0, none] (fBSlot 0 (fACons (fName 1) fANil))) [5]) fANil)))
    (sRet (fTup (fACons (fName 1) (fACons (fName 2) (fACons (fName 3) fANil))))))))
def den_law_calendar_world : Den := denOf 6 [0] f_law_calendar_world

/-! check_calendar (level 2) -/
def f_check_calendar : FS :=
  (sSeq (sDrop (fUse den_check [none, none] (fACons (fC (.str "day")) (fACons (fName 0) fANil))))
    (sSeq (sDrop (fUse den_check [none, none] (fACons (fC (.str "cycle")) (fACons (fCall gLen [some 1] (fBSlot 1 fANil)) fANil))))
    (sSeq (sIf (fOrT (fB (fOp2 gLt (fName 0) (fC (.int 1)))) (fB (fOp2 gEq (fCall gLen [some 1] (fBSlot 1 fANil)) (fC (.int 0))))) sNever sNop)
    (sSeq (sSet 2 (fC (.int 0)))
    (sFgtThen [3, 4] (sFor (rLst (fName 1)) (tgTup 2 (tgCons (tgName 3) (tgCons (tgName 4) tgNil))) (sThenFgt (sSeq (sAug (fun i j => i + j) 2 (fC (.int 1)))
    (sIf (fOrT (fNotT (fB (fChain gLe gLe (fC (.int 1)) (fName 3) (fName 0)))) (fNotT (fB (fChain gLe gLe (fName 3) (fName 4) (fOp2 DL.gSub (fOp2 gPlus (fName 3) (fName 0)) (fC (.int 1))))))) sNever sNop)) [3, 4])))))))
def den_check_calendar : Den := denOf 5 [] f_check_calendar

/-! distinct_spans (level 1) -/
def f_distinct_spans : FS :=
  (sSeq (sSet 1 (fLst fANil))
    (sSeq (sFgtThen [2] (sFor (rLst (fCall gSorted [none] (fACons (fLc (rLst (fName 0)) (tgTup 2 (tgCons (tgName 3) (tgCons (tgName 4) tgNil))) fYes (fTup (fACons (fName 3) (fACons (fName 4) fANil))) [3, 4]) fANil))) (tgName 2) (sThenFgt (sIf (fB (fInN true (fName 2) 1)) (sDrop (fMtL gAppend 1 (fACons (fName 2) fANil))) sNop) [2])))
    (sRet (fMove 1))))
def den_distinct_spans : Den := denOf 5 [] f_distinct_spans

/-! end_of_start (level 1) -/
def f_end_of_start : FS :=
  (sSeq (sSet 3 (fLc (rLst (fName 1)) (tgTup 2 (tgCons (tgName 4) (tgCons (tgName 5) tgNil))) fYes (fIfE (fB (fOp2 gGe (fName 4) (fName 2))) (fName 5) (fOp2 gPlus (fName 5) (fName 0))) [4, 5]))
    (sRet (fCall gMin [some 3] (fBSlot 3 fANil))))
def den_end_of_start : Den := denOf 6 [] f_end_of_start

/-! Calendar.__init__ (level 3) -/
def f_Calendar_init : FS :=
  (sSeq (sDrop (fUse den_check_calendar [none, none] (fACons (fName 1) (fACons (fName 2) fANil))))
    (sSeq (sPutF "Calendar" "day_number" 0 (fName 1))
    (sSeq (sPutF "Calendar" "span_list" 0 (fUse den_distinct_spans [none] (fACons (fName 2) fANil)))
    (sPutF "Calendar" "end_list" 0 (fLc (rRng2 (fACons (fC (.int 1)) (fACons (fOp2 gPlus (fName 1) (fC (.int 1))) fANil))) (tgName 3) fYes (fUse den_end_of_start [none, none, none] (fACons (fName 1) (fACons (fFldN "Calendar" "span_list" 0) (fACons (fName 3) fANil)))) [3])))))
def den_Calendar_init : Den := denOf 4 [0] f_Calendar_init

/-! Calendar.day (level 1) -/
def f_Calendar_day : FS :=
  (sRet (fFldN "Calendar" "day_number" 0))
def den_Calendar_day : Den := denOf 1 [] f_Calendar_day

/-! check_endless (level 2) -/
def f_check_endless : FS :=
  (sSeq (sDrop (fUse den_check [none, none] (fACons (fC (.str "sights")) (fACons (fCall gLen [some 0] (fBSlot 0 fANil)) fANil))))
    (sSeq (sDrop (fUse den_check [none, none] (fACons (fC (.str "daily")) (fACons (fCall gLen [some 1] (fBSlot 1 fANil)) fANil))))
    (sSeq (sIf (fB (fOp2 gEq (fCall gLen [some 0] (fBSlot 0 fANil)) (fC (.int 0)))) sNever sNop)
    (sSeq (sFgtThen [2] (sFor (rLst (fName 0)) (tgName 2) (sThenFgt (sIf (fB (fOp2 gNe (fMeth "Calendar" "day" den_Calendar_day [] (fName 2) fANil) (fMeth "Calendar" "day" den_Calendar_day [] (fOpN gIx 0 (fC (.int 0))) fANil))) sNever sNop) [2])))
    (sSeq (sIf (fB (fOp2 gEq (fCall gLen [some 1] (fBSlot 1 fANil)) (fC (.int 0)))) sNever sNop)
    (sSeq (sSet 3 (fC (.int 0)))
    (sFgtThen [4] (sFor (rLst (fName 1)) (tgName 4) (sThenFgt (sSeq (sIf (fNotT (fB (fChain gLe gLe (fName 3) (fName 4) (fOp2 DL.gSub (fMeth "Calendar" "day" den_Calendar_day [] (fOpN gIx 0 (fC (.int 0))) fANil) (fC (.int 1)))))) sNever sNop)
    (sSet 3 (fName 4))) [4])))))))))
def den_check_endless : Den := denOf 5 [] f_check_endless

/-! Endless.__init__ (level 3) -/
def f_Endless_init : FS :=
  (sSeq (sDrop (fUse den_check_endless [none, none] (fACons (fName 1) (fACons (fName 2) fANil))))
    (sSeq (sPutF "Endless" "calendar_list" 0 (fCall gList [some 1] (fBSlot 1 fANil)))
    (sSeq (sPutF "Endless" "coming_list" 0 (fCall gList [some 2] (fBSlot 2 fANil)))
    (sPutF "Endless" "day_number" 0 (fMeth "Calendar" "day" den_Calendar_day [] (fOpN gIx 1 (fC (.int 0))) fANil)))))
def den_Endless_init : Den := denOf 3 [0] f_Endless_init

/-! _law_endless (level 5) -/
def f_law_endless : FS :=
  (sSeq (sSet 2 (fLst fANil))
    (sSeq (sFgtThen [3] (sFor (rLst (fName 1)) (tgName 3) (sThenFgt (sDrop (fMtL gAppend 2 (fACons (fMake "Calendar" den_Calendar_init [none, none] (fACons (fOpN gIx 0 (fC (.int 0))) (fACons (fLc (rRng2 (fACons (fC (.int 1)) (fACons (fOp2 gPlus (fOpN gIx 0 (fC (.int 0))) (fC (.int 1))) fANil))) (tgName 4) fYes (fTup (fACons (fName 4) (fACons (fOp2 DL.gSub (fOp2 gPlus (fName 4) (fName 3)) (fC (.int 1))) fANil))) [4]) fANil))) fANil))) [3])))
    (sRet (fMake "Endless" den_Endless_init [none, none] (fACons (fName 2) (fACons (fCall gList [none] (fACons (fOpN gIx 0 (fC (.int 2))) fANil)) fANil))))))
def den_law_endless : Den := denOf 5 [] f_law_endless

/-! _law_waits (level 1) -/
def f_law_waits : FS :=
  (sSeq (sAsgG (tgTup 3 (tgCons (tgName 2) (tgCons (tgName 3) (tgCons (tgName 4) tgNil)))) (fName 0))
    (sSeq (sSet 5 (fLc (rRng (fACons (fName 1) fANil)) (tgName 9) fYes (fOp2 gPlus (fOpN gIx 4 (fOp2 gMod (fCall gInt [some 9] (fBSlot 9 fANil)) (fCall gLen [some 4] (fBSlot 4 fANil)))) (fOp2 gTimes (fName 2) (fOp2 gDiv (fName 9) (fCall gLen [some 4] (fBSlot 4 fANil))))) [9]))
    (sSeq (sSet 6 (fCall gMax [some 3] (fBSlot 3 fANil)))
    (sSeq (sSet 7 (fLst fANil))
    (sSeq (sSet 8 (fC (.int 0)))
    (sSeq (sFgtThen [9] (sFor (rRng (fACons (fName 1) fANil)) (tgName 9) (sThenFgt (sSeq (sSet 8 (fIfE (fB (fOp2 gGt (fName 9) (fC (.int 0)))) (fCall gMax [none, none] (fACons (fOp2 gPlus (fName 8) (fName 6)) (fACons (fOp2 gPlus (fOpN gIx 5 (fName 9)) (fCall gSum [some 3] (fBSlot 3 fANil))) fANil))) (fOp2 gPlus (fOpN gIx 5 (fC (.int 0))) (fCall gSum [some 3] (fBSlot 3 fANil)))))
    (sDrop (fMtL gAppend 7 (fACons (fOp2 DL.gSub (fName 8) (fOpN gIx 5 (fName 9))) fANil)))) [9])))
    (sRet (fMove 7))))))))
def den_law_waits : Den := denOf 10 [] f_law_waits

/-! law (level 13) -/
def f_law : FS :=
  (sDuo 1 12 13 (fUse den_law_purse [none, none] (fACons (fName 0) (fACons (fC (.int 0)) fANil))) (fUse den_law_purse [none, none] (fACons (fName 0) (fACons (fC (.int 1)) fANil)))
    (sSeq (sSet 2 (fLc (rLst (fName 1)) (tgName 10) fYes (fUseA den_law_calendar_world [12, 13] (fName 10) fANil) [10]))
    (sSeq (sSet 3 (fLc (rLst (fName 2)) (tgName 11) fYes (fUse den_law_waits [none, none] (fACons (fName 11) (fACons (fC (.int 30)) fANil))) [11]))
    (sSeq (sSet 4 (fLc (rLst (fName 2)) (tgName 11) fYes (fUse den_law_endless [none, none] (fACons (fName 11) (fACons (fOpN gIx 11 (fC (.int 1))) fANil))) [11]))
    (sSeq (sSet 5 (fLc (rRng (fACons (fC (.int 2)) fANil)) (tgName 7) fYes (fUse den_law_endless [none, none] (fACons (fOpN gIx 2 (fName 7)) (fACons (fUseA den_law_mix [12, 13] (fOpN gIx 1 (fName 7)) (fACons (fOp2 gIxD (fOpN gIx 2 (fName 7)) (fC (.int 1))) fANil)) fANil))) [7]))
    (sSeq (sFgtThen [6, 7, 8, 9] (sFor (rRng (fACons (fC (.int 2)) fANil)) (tgName 6) (sThenFgt (sFgtThen [7, 8, 9] (sFor (rRng (fACons (fC (.int 2)) fANil)) (tgName 7) (sThenFgt (sSeq (sSet 8 (fMeth "Endless" "waits" den_Endless_waits [none] (fOpN gIx 4 (fName 7)) (fACons (fC (.int 30)) fANil)))
    (sSeq (sIf (tLend [3, 7, 8] (fNotT (fTru (fUse den_law_matches [none, none] (fACons (fName 8) (fACons (fOpN gIx 3 (fName 7)) fANil)))))) (sRet (fC (.bl false))) sNop)
    (sSeq (sPutIx 8 (fC (.int 0)) (fC (.int 0)))
    (sSeq (sSet 9 (fOp2 gPlus (fC (.int 1)) (fUseA den_law_draw [12, 13] (fOpN gIx 1 (fName 7)) (fACons (fC (.int 29)) fANil))))
    (sIf (fNotT (fTru (fUse den_law_matches [none, none] (fACons (fMeth "Endless" "waits" den_Endless_waits [none] (fOpN gIx 5 (fOp2 DL.gSub (fC (.int 1)) (fName 7))) (fACons (fName 9) fANil)) (fACons (fSl (fOpN gIx 3 (fOp2 DL.gSub (fC (.int 1)) (fName 7))) fNoPart (fPart (fName 9))) fANil))))) (sRet (fC (.bl false))) sNop))))) [7, 8, 9]))) [6, 7, 8, 9])))
    (sRet (fAndV (fUse den_law_matches [none, none] (fACons (fMeth "Endless" "waits" den_Endless_waits [none] (fOpN gIx 5 (fC (.int 0))) (fACons (fC (.int 30)) fANil)) (fACons (fOpN gIx 3 (fC (.int 0))) fANil))) (fUse den_law_matches [none, none] (fACons (fMeth "Endless" "waits" den_Endless_waits [none] (fOpN gIx 4 (fC (.int 1))) (fACons (fC (.int 30)) fANil)) (fACons (fOpN gIx 3 (fC (.int 1))) fANil)))))))))))
def den_law : Den := denOf 14 [] f_law
end
end k48
namespace k48
open PySem PySem.Spec PyProof.Rows L2 DL
noncomputable section
local macro_rules | `(tactic| walk_at "dl") => `(tactic| simp (config := { maxSteps := 1000000, failIfUnchanged := false }) (disch := omega) only [frz, vl, fC, fName, fMove, fOp2, fOp1, known_val, known_own, known_oob, known_odK, known_odT, known_ownA, known_no, knownAt, fOpN, i2, gAdd, DL.gSub, gMul, gMod, gDiv, gPow, gShl, gShr, gAnd, gLt, gLe, gGt, gGe, gNeg, gCat, gCatT, gRep, gPlus, gTimes, gEq_int, gEq_bl, gNe_int, DL.isNon, gIs, gIsNot, gIn_int, gNotIn_int, fInN, seqOf, gIx, gIxD, fNoPart, fPart, gSl, fSl, fANil, fACons, fLst, fTup, fRev, fB, fAndT, fOrT, fNotT, fAndV, fOrV, fNotV, fIfE, gTru, fTru, fTruN, fBSlot, res, fCall, gLen, lstOf, gSum, gMax1, gMin1, gMax2, gMin2, gMax, gMin, gAbs, gInt, gList, gTuple, gSorted_int, gSorted_own, gSorted_mapf, gSorted_ownf, gSorted_pair, gSorted_ownP, lnK_n, lnK_s, lnK_p, lnK_c, lnK_z, fKGet, fKGetN, fDisp, fDIn, fDIx, sDPutT, fNewT, keyT, keysOf, sNop, sBrk, sCont, sSeq, sIf, sRet, sRetN, sDrop, sNever, sSet, fgt, sThenFgt, sFgtThen, fMt, isLst, lstAt, fMtL, gAppend, gPopAt, sPutIx, tgName, tgNil, tgCons, tgTup, sAsgG, rLst, rTup, rRng, rRng2, rEnum, rZip, sFor, sWhile, hide, back1, backS, fYes, fLc, still, fin, keptBy, denOf, give, fUse,  fMeth, fMake, fFld, objOf, fFldN, sPutF, sAug, sAugIx, fChain, fIxK, fIsi, fUseT, gDivmod, isOwn_val, isOwn_own, isOwn_oob, isOwn_odK, isOwn_odT, isOwn_ownA, isOwn_no, Option.bind_some, Option.bind_none, Option.map_some, Option.map_none, Option.or_some, Option.or_none, Option.none_or, Option.or, List.getElem?_cons_zero, List.getElem?_cons_succ, List.set_cons_zero, List.set_cons_succ, List.length_cons, List.length_nil, List.all_cons, List.all_nil, List.isEmpty_cons, List.isEmpty_nil, List.cons_append, List.nil_append, List.append_nil, List.flatten_nil, List.flatten_cons, List.replicate_succ, List.replicate_zero, List.map_cons, List.map_nil, List.contains_cons, List.contains_nil, Nat.reduceAdd, Nat.reduceSub, Nat.reduceLeDiff, Nat.reduceBEq, Bool.true_and, Bool.and_true, Bool.false_and, Bool.and_false, Bool.or_true, Bool.true_or, Bool.or_false, Bool.false_or, Bool.not_true, Bool.not_false, beq_self_eq_true, decide_true, decide_false, if_true, if_false, reduceIte, Bool.false_eq_true, Bool.true_eq_false, ite_true, ite_false, reduceCtorEq, ne_eq, not_true_eq_false, not_false_eq_true, and_self, and_true, true_and, and_false, false_and, or_true, true_or, or_false, false_or, Int.cast_ofNat_Int, Int.reduceLT, Int.reduceLE, Int.reduceNeg, Int.reducePow, Int.reduceEq, Int.reduceNe, Int.reduceToNat, Int.reduceMul, Int.reduceAdd, Int.reduceSub, Nat.reduceLT, Nat.reducePow, atI_0, atI_1, atI_2, atI_3, ixN_0, ixN_1, ixN_2, List.length_map, List.length_append, decide_eq_true_eq, isi_bool_non, isi_bool_bl, isi_bool_int, isi_bool_str, isi_bool_tup, isi_bool_lst, isi_int_non, isi_int_bl, isi_int_int, isi_int_str, isi_int_tup, isi_int_lst, isi_str_non, isi_str_bl, isi_str_int, isi_str_str, isi_str_tup, isi_str_lst, isi_tuple_non, isi_tuple_bl, isi_tuple_int, isi_tuple_str, isi_tuple_tup, isi_tuple_lst, isi_list_non, isi_list_bl, isi_list_int, isi_list_str, isi_list_tup, isi_list_lst, prs_own, prs_known, den_draw, eq_self, Option.isNone_none, Option.isNone_some, intsOf_map, intsOf_mapf, fitL_small, fit62_small, fit63_small, fit64_small, fit30_small, fitP_small, if_pos, if_neg, *])
local macro_rules | `(tactic| walk_at "ev") => `(tactic| (refine wp_of (by walk_at "dl"; with_reducible exact rfl) (wp_some ?_)))
local macro_rules | `(tactic| walk_at "cl") => `(tactic| simp (config := { failIfUnchanged := false }) only [Nx, Fg, Fi, fgt, hide, backS, back1, List.set_cons_zero, List.set_cons_succ, List.getElem?_cons_zero, List.getElem?_cons_succ, List.length_cons, List.length_nil, Nat.reduceAdd, Nat.reduceSub, List.replicate_succ, List.replicate_zero, List.cons_append, List.nil_append, still, fin, isOwn_val, isOwn_own, isOwn_oob, isOwn_odK, isOwn_odT, isOwn_ownA, isOwn_no, prs_own, Bool.not_true, Bool.not_false, Bool.true_or, Bool.false_or, Bool.true_and, Bool.and_true, Bool.or_true, if_true, if_false, Bool.false_eq_true, reduceIte, true_and, and_true])
local macro_rules | `(tactic| walk_at "go") => `(tactic| (repeat (first
  | with_reducible refine wp_seq ?_
  | (with_reducible refine wp_fgtThen ?_; walk_at "cl")
  | with_reducible refine wp_thenFgt ?_
  | (with_reducible refine wp_set ?_; walk_at "ev"; walk_at "cl")
  | (with_reducible refine wp_drop ?_; walk_at "ev"; walk_at "cl")
  | (with_reducible refine wp_ret ?_; walk_at "ev"; walk_at "cl")
  | (with_reducible refine wp_nop ?_; walk_at "cl")
  | (with_reducible refine wp_src ?_; walk_at "ev"; walk_at "cl")
  | (walk_at "ev"; walk_at "cl"))))
local macro_rules | `(tactic| walk_at "in") => `(tactic| (first
  | with_reducible refine wp_set ?_
  | with_reducible refine wp_drop ?_
  | with_reducible refine wp_ret ?_
  | with_reducible refine wp_if ?_
  | with_reducible refine wp_src ?_
  | (with_reducible refine wp_aug rfl ?_)
  | with_reducible refine wp_putIx ?_
  | with_reducible refine wp_vl ?_
  | with_reducible refine wp_lc ?_
  | with_reducible refine wp_call ?_
  | with_reducible refine wp_acons ?_
  | with_reducible refine wp_op2 ?_
  | with_reducible refine wp_opN ?_
  | with_reducible refine wp_tup ?_
  | with_reducible refine wp_lst ?_
  | with_reducible refine wp_useC ?_
  | with_reducible refine wp_mtL ?_
  | with_reducible refine wp_ife ?_
  | with_reducible refine wp_andV ?_
  | with_reducible refine wp_b ?_
  | with_reducible refine wp_tru ?_
  | with_reducible refine wp_notT ?_
  | with_reducible refine wp_orT ?_
  | with_reducible refine wp_andT ?_
  | with_reducible refine wp_srcLst ?_
  | with_reducible refine wp_srcRng ?_
  | with_reducible refine wp_putF ?_
  | with_reducible refine wp_make ?_
  | with_reducible refine wp_meth ?_
  | with_reducible refine wp_asgG ?_
  | with_reducible refine wp_useA ?_
  | with_reducible refine wp_orV ?_))
local macro_rules | `(tactic| walk_at "all") => `(tactic| (walk_at "go"; repeat (walk_at "in"; walk_at "go")))
/-! the plain law of the waits -/
def bestB (C : Nat → Int) (S M : Int) : Nat → Int
  | 0 => C 0 + S
  | j + 1 => max (bestB C S M j + M) (C (j + 1) + S)
theorem best_le {C : Nat → Int} {S M a : Int} : ∀ j, bestB C S M j + a ≤ bestB C (S + a) (max M a) j
  | 0 => by
    show C 0 + S + a ≤ C 0 + (S + a)
    omega
  | j + 1 => by
    have := best_le (C := C) (S := S) (M := M) (a := a) j
    show max (bestB C S M j + M) (C (j + 1) + S) + a ≤ max (bestB C (S + a) (max M a) j + max M a) (C (j + 1) + (S + a))
    omega
theorem best_eq {C : Nat → Int} {S M a : Int} : ∀ j, bestB C (S + a) M j = bestB C S M j + a
  | 0 => by
    show C 0 + (S + a) = C 0 + S + a
    omega
  | j + 1 => by
    have := best_eq (C := C) (S := S) (M := M) (a := a) j
    show max (bestB C (S + a) M j + M) (C (j + 1) + (S + a)) = max (bestB C S M j + M) (C (j + 1) + S) + a
    omega
theorem best_step {C : Nat → Int} {S M a : Int} (j : Nat) : max (bestB C S M (j + 1)) (bestB C (S + a) (max M a) j) + a = bestB C (S + a) (max M a) (j + 1) := by
  have h1 := best_le (C := C) (S := S) (M := M) (a := a) j
  by_cases h : a ≤ M
  · have hm : max M a = M := by omega
    rw [hm] at h1 ⊢
    have h2 := best_eq (C := C) (S := S) (M := M) (a := a) j
    show max (max (bestB C S M j + M) (C (j + 1) + S)) (bestB C (S + a) M j) + a = max (bestB C (S + a) M j + M) (C (j + 1) + (S + a))
    omega
  · have hm : max M a = a := by omega
    rw [hm] at h1 ⊢
    show max (max (bestB C S M j + M) (C (j + 1) + S)) (bestB C (S + a) a j) + a = max (bestB C (S + a) a j + a) (C (j + 1) + (S + a))
    omega
/-- the times of one sign, behind another one's, or of the first -/
def rowF (c : Int) (pv : Option (Nat → Int)) (A : Nat → Int) : Nat → Int
  | 0 => c
  | i + 1 => (match pv with | some f => max (rowF c pv A i) (f (i + 1)) | none => rowF c pv A i) + A i
def T (C A : Nat → Int) : Nat → Nat → Int
  | 0 => rowF (C 0) none A
  | j + 1 => rowF (C (j + 1)) (some (T C A j)) A
def Sm (A : Nat → Int) : Nat → Int
  | 0 => 0
  | i + 1 => Sm A i + A i
def Mx (A : Nat → Int) : Nat → Int
  | 0 => 0
  | i + 1 => max (Mx A i) (A i)
theorem T_best {C A : Nat → Int} (hC : ∀ j, C j ≤ C (j + 1)) : ∀ i j, T C A j i = bestB C (Sm A i) (Mx A i) j := by
  intro i
  induction i with
  | zero =>
    intro j
    have h0 : ∀ j, bestB C 0 0 j = C j := by
      intro j
      induction j with
      | zero =>
        show C 0 + 0 = C 0
        omega
      | succ j ih =>
        show max (bestB C 0 0 j + 0) (C (j + 1) + 0) = C (j + 1)
        have := hC j
        omega
    show T C A j 0 = bestB C 0 0 j
    rw [h0]
    cases j <;> rfl
  | succ i ih =>
    intro j
    induction j with
    | zero =>
      show T C A 0 i + A i = C 0 + (Sm A i + A i)
      rw [ih 0]
      show C 0 + Sm A i + A i = _
      omega
    | succ j ihj =>
      show max (T C A (j + 1) i) (T C A j (i + 1)) + A i = _
      rw [ih (j + 1), ihj]
      exact best_step j
/-- bounds -/
theorem T_bd {C A : Nat → Int} {c : Int} (hC : ∀ j, 0 ≤ C j ∧ C j ≤ c * (j + 1)) (hc : 0 ≤ c) (hA : ∀ i, 0 ≤ A i ∧ A i ≤ 5) : ∀ j i, 0 ≤ T C A j i ∧ T C A j i ≤ c * (j + 1) + 5 * (i + j) := by
  intro j
  induction j with
  | zero =>
    intro i
    induction i with
    | zero =>
      have := hC 0
      show 0 ≤ C 0 ∧ C 0 ≤ _
      simp at this ⊢
      omega
    | succ i ih =>
      have := hA i
      show 0 ≤ T C A 0 i + A i ∧ T C A 0 i + A i ≤ _
      simp at ih ⊢
      omega
  | succ j ihj =>
    intro i
    induction i with
    | zero =>
      have := hC (j + 1)
      show 0 ≤ C (j + 1) ∧ C (j + 1) ≤ _
      simp only [Int.natCast_add, Int.natCast_one] at this ⊢
      omega
    | succ i ih =>
      have h1 := hA i
      have h2 := ihj (i + 1)
      show 0 ≤ max (T C A (j + 1) i) (T C A j (i + 1)) + A i ∧ max (T C A (j + 1) i) (T C A j (i + 1)) + A i ≤ _
      simp only [Int.natCast_add, Int.natCast_one, Int.mul_add, Int.mul_one] at ih h2 ⊢
      generalize c * (j : Int) = u at *
      omega
/-! a world -/
def gI (us : List Int) (i : Nat) : Int := (us[i]?).getD 0
theorem gI_get {us : List Int} {i : Nat} (h : i < us.length) : us[i]? = some (gI us i) := by
  unfold gI
  rw [List.getElem?_eq_getElem h]
  rfl
theorem gI_at {us : List Int} {i : Nat} (h : i < us.length) : atI (us.map D.int) (i : Int) = some (.int (gI us i)) := atI_nat (by rw [List.getElem?_map, gI_get h]; rfl)
theorem gI_mem {us : List Int} {i : Nat} (h : i < us.length) : gI us i ∈ us := List.mem_of_getElem? (gI_get h)
structure Wd where
  p : Nat
  ws : List Int
  cm : List Int
  p2 : 2 ≤ p
  p12 : p ≤ 12
  w1 : 1 ≤ ws.length
  w4 : ws.length ≤ 4
  wb : ∀ a ∈ ws, 1 ≤ a ∧ a ≤ 5 ∧ a ≤ p
  c1 : 1 ≤ cm.length
  c4 : cm.length ≤ 4
  cb : ∀ c ∈ cm, 0 ≤ c ∧ c ≤ (p : Int) - 1
  ca : cm.Pairwise (· ≤ ·)
def Wd.C (w : Wd) (j : Nat) : Int := gI w.cm (j % w.cm.length) + w.p * ((j / w.cm.length : Nat) : Int)
theorem Wd.C_at (w : Wd) {q r : Nat} (h : r < w.cm.length) : w.C (w.cm.length * q + r) = gI w.cm r + w.p * (q : Int) := by
  unfold Wd.C
  rw [Nat.mul_add_mod, Nat.mod_eq_of_lt h, Nat.mul_add_div (by omega), Nat.div_eq_of_lt h, Nat.add_zero]
theorem Wd.C_asc (w : Wd) (j : Nat) : w.C j ≤ w.C (j + 1) := by
  have hm : 0 < w.cm.length := w.c1
  have hr := Nat.mod_lt j hm
  have hj := Nat.div_add_mod j w.cm.length
  generalize hq : j / w.cm.length = q at *
  generalize hrr : j % w.cm.length = r at *
  subst hj
  rw [w.C_at hr]
  by_cases h : r + 1 < w.cm.length
  · rw [Nat.add_assoc, w.C_at h]
    have := List.pairwise_iff_getElem.mp w.ca r (r + 1) hr h (by omega)
    have e1 := gI_get hr
    have e2 := gI_get h
    rw [List.getElem?_eq_getElem hr] at e1
    rw [List.getElem?_eq_getElem h] at e2
    have e1 := Option.some.inj e1
    have e2 := Option.some.inj e2
    omega
  · have e : w.cm.length * q + r + 1 = w.cm.length * (q + 1) + 0 := by
      rw [Nat.mul_add]
      omega
    rw [e, w.C_at (q := q + 1) (r := 0) hm]
    have h1 := w.cb _ (gI_mem hr)
    have h2 := w.cb _ (gI_mem hm)
    have h3 : (w.p : Int) * ((q + 1 : Nat) : Int) = w.p * (q : Int) + w.p := by
      rw [Int.natCast_add, Int.mul_add]
      simp
    omega
theorem Wd.C_bd (w : Wd) (j : Nat) : 0 ≤ w.C j ∧ w.C j ≤ 12 * (j + 1) := by
  have hm : 0 < w.cm.length := w.c1
  have hr := Nat.mod_lt j hm
  have h1 := w.cb _ (gI_mem hr)
  have h2 : j / w.cm.length ≤ j := Nat.div_le_self _ _
  have h3 : (w.p : Int) * ((j / w.cm.length : Nat) : Int) ≤ 12 * (j : Int) := by
    have : w.p * (j / w.cm.length) ≤ 12 * j := Nat.mul_le_mul w.p12 h2
    have : ((w.p * (j / w.cm.length) : Nat) : Int) ≤ ((12 * j : Nat) : Int) := by omega
    simpa using this
  have h4 : 0 ≤ (w.p : Int) * ((j / w.cm.length : Nat) : Int) := Int.mul_nonneg (by omega) (Int.natCast_nonneg _)
  have := w.p12
  unfold Wd.C
  omega
end
end k48
namespace k48
open PySem PySem.Spec PyProof.Rows L2 DL
noncomputable section
local macro_rules | `(tactic| walk_at "dl") => `(tactic| simp (config := { maxSteps := 1000000, failIfUnchanged := false }) (disch := omega) only [frz, vl, fC, fName, fMove, fOp2, fOp1, known_val, known_own, known_oob, known_odK, known_odT, known_ownA, known_no, knownAt, fOpN, i2, gAdd, DL.gSub, gMul, gMod, gDiv, gPow, gShl, gShr, gAnd, gLt, gLe, gGt, gGe, gNeg, gCat, gCatT, gRep, gPlus, gTimes, gEq_int, gEq_bl, gNe_int, DL.isNon, gIs, gIsNot, gIn_int, gNotIn_int, fInN, seqOf, gIx, gIxD, fNoPart, fPart, gSl, fSl, fANil, fACons, fLst, fTup, fRev, fB, fAndT, fOrT, fNotT, fAndV, fOrV, fNotV, fIfE, gTru, fTru, fTruN, fBSlot, res, fCall, gLen, lstOf, gSum, gMax1, gMin1, gMax2, gMin2, gMax, gMin, gAbs, gInt, gList, gTuple, gSorted_int, gSorted_own, gSorted_mapf, gSorted_ownf, gSorted_pair, gSorted_ownP, lnK_n, lnK_s, lnK_p, lnK_c, lnK_z, fKGet, fKGetN, fDisp, fDIn, fDIx, sDPutT, fNewT, keyT, keysOf, sNop, sBrk, sCont, sSeq, sIf, sRet, sRetN, sDrop, sNever, sSet, fgt, sThenFgt, sFgtThen, fMt, isLst, lstAt, fMtL, gAppend, gPopAt, sPutIx, tgName, tgNil, tgCons, tgTup, sAsgG, rLst, rTup, rRng, rRng2, rEnum, rZip, sFor, sWhile, hide, back1, backS, fYes, fLc, still, fin, keptBy, denOf, give, fUse,  fMeth, fMake, fFld, objOf, fFldN, sPutF, sAug, sAugIx, fChain, fIxK, fIsi, fUseT, gDivmod, isOwn_val, isOwn_own, isOwn_oob, isOwn_odK, isOwn_odT, isOwn_ownA, isOwn_no, Option.bind_some, Option.bind_none, Option.map_some, Option.map_none, Option.or_some, Option.or_none, Option.none_or, Option.or, List.getElem?_cons_zero, List.getElem?_cons_succ, List.set_cons_zero, List.set_cons_succ, List.length_cons, List.length_nil, List.all_cons, List.all_nil, List.isEmpty_cons, List.isEmpty_nil, List.cons_append, List.nil_append, List.append_nil, List.flatten_nil, List.flatten_cons, List.replicate_succ, List.replicate_zero, List.map_cons, List.map_nil, List.contains_cons, List.contains_nil, Nat.reduceAdd, Nat.reduceSub, Nat.reduceLeDiff, Nat.reduceBEq, Bool.true_and, Bool.and_true, Bool.false_and, Bool.and_false, Bool.or_true, Bool.true_or, Bool.or_false, Bool.false_or, Bool.not_true, Bool.not_false, beq_self_eq_true, decide_true, decide_false, if_true, if_false, reduceIte, Bool.false_eq_true, Bool.true_eq_false, ite_true, ite_false, reduceCtorEq, ne_eq, not_true_eq_false, not_false_eq_true, and_self, and_true, true_and, and_false, false_and, or_true, true_or, or_false, false_or, Int.cast_ofNat_Int, Int.reduceLT, Int.reduceLE, Int.reduceNeg, Int.reducePow, Int.reduceEq, Int.reduceNe, Int.reduceToNat, Int.reduceMul, Int.reduceAdd, Int.reduceSub, Nat.reduceLT, Nat.reducePow, atI_0, atI_1, atI_2, atI_3, ixN_0, ixN_1, ixN_2, List.length_map, List.length_append, decide_eq_true_eq, isi_bool_non, isi_bool_bl, isi_bool_int, isi_bool_str, isi_bool_tup, isi_bool_lst, isi_int_non, isi_int_bl, isi_int_int, isi_int_str, isi_int_tup, isi_int_lst, isi_str_non, isi_str_bl, isi_str_int, isi_str_str, isi_str_tup, isi_str_lst, isi_tuple_non, isi_tuple_bl, isi_tuple_int, isi_tuple_str, isi_tuple_tup, isi_tuple_lst, isi_list_non, isi_list_bl, isi_list_int, isi_list_str, isi_list_tup, isi_list_lst, prs_own, prs_known, den_draw, eq_self, Option.isNone_none, Option.isNone_some, intsOf_map, intsOf_mapf, fitL_small, fit62_small, fit63_small, fit64_small, fit30_small, fitP_small, if_pos, if_neg, *])
local macro_rules | `(tactic| walk_at "ev") => `(tactic| (refine wp_of (by walk_at "dl"; with_reducible exact rfl) (wp_some ?_)))
local macro_rules | `(tactic| walk_at "cl") => `(tactic| simp (config := { failIfUnchanged := false }) only [Nx, Fg, Fi, fgt, hide, backS, back1, List.set_cons_zero, List.set_cons_succ, List.getElem?_cons_zero, List.getElem?_cons_succ, List.length_cons, List.length_nil, Nat.reduceAdd, Nat.reduceSub, List.replicate_succ, List.replicate_zero, List.cons_append, List.nil_append, still, fin, isOwn_val, isOwn_own, isOwn_oob, isOwn_odK, isOwn_odT, isOwn_ownA, isOwn_no, prs_own, Bool.not_true, Bool.not_false, Bool.true_or, Bool.false_or, Bool.true_and, Bool.and_true, Bool.or_true, if_true, if_false, Bool.false_eq_true, reduceIte, true_and, and_true])
local macro_rules | `(tactic| walk_at "go") => `(tactic| (repeat (first
  | with_reducible refine wp_seq ?_
  | (with_reducible refine wp_fgtThen ?_; walk_at "cl")
  | with_reducible refine wp_thenFgt ?_
  | (with_reducible refine wp_set ?_; walk_at "ev"; walk_at "cl")
  | (with_reducible refine wp_drop ?_; walk_at "ev"; walk_at "cl")
  | (with_reducible refine wp_ret ?_; walk_at "ev"; walk_at "cl")
  | (with_reducible refine wp_nop ?_; walk_at "cl")
  | (with_reducible refine wp_src ?_; walk_at "ev"; walk_at "cl")
  | (walk_at "ev"; walk_at "cl"))))
local macro_rules | `(tactic| walk_at "in") => `(tactic| (first
  | with_reducible refine wp_set ?_
  | with_reducible refine wp_drop ?_
  | with_reducible refine wp_ret ?_
  | with_reducible refine wp_if ?_
  | with_reducible refine wp_src ?_
  | (with_reducible refine wp_aug rfl ?_)
  | with_reducible refine wp_putIx ?_
  | with_reducible refine wp_vl ?_
  | with_reducible refine wp_lc ?_
  | with_reducible refine wp_call ?_
  | with_reducible refine wp_acons ?_
  | with_reducible refine wp_op2 ?_
  | with_reducible refine wp_opN ?_
  | with_reducible refine wp_tup ?_
  | with_reducible refine wp_lst ?_
  | with_reducible refine wp_useC ?_
  | with_reducible refine wp_mtL ?_
  | with_reducible refine wp_ife ?_
  | with_reducible refine wp_andV ?_
  | with_reducible refine wp_b ?_
  | with_reducible refine wp_tru ?_
  | with_reducible refine wp_notT ?_
  | with_reducible refine wp_orT ?_
  | with_reducible refine wp_andT ?_
  | with_reducible refine wp_srcLst ?_
  | with_reducible refine wp_srcRng ?_
  | with_reducible refine wp_putF ?_
  | with_reducible refine wp_make ?_
  | with_reducible refine wp_meth ?_
  | with_reducible refine wp_asgG ?_
  | with_reducible refine wp_useA ?_
  | with_reducible refine wp_orV ?_))
local macro_rules | `(tactic| walk_at "all") => `(tactic| (walk_at "go"; repeat (walk_at "in"; walk_at "go")))
theorem inD_pair {q : Int × Int} {l : List (Int × Int)} : inD (DL.pairD q) (l.map DL.pairD) = decide (q ∈ l) := by
  unfold inD
  rw [List.any_map]
  by_cases g : q ∈ l
  · rw [decide_eq_true g, List.any_eq_true]
    exact ⟨q, g, (eqD_iff (n := 1) Qn_pair Qn_pair).mpr rfl⟩
  · rw [decide_eq_false g, List.any_eq_false]
    intro x hx e
    have := (eqD_iff (n := 1) Qn_pair Qn_pair).mp e
    unfold DL.pairD at this
    injection this with this
    simp only [List.cons.injEq, D.int.injEq, and_true] at this
    exact g (by
      have e : q = x := Prod.ext (by first | exact this.1 | exact this.1.symm) (by first | exact this.2 | exact this.2.symm)
      rw [e]
      exact hx)
theorem okE_pairs {l : List (Int × Int)} : okE (.lst (l.map DL.pairD)) = true := Qn.ok (n := 2) Qn_pairs (by omega)
theorem okE_pair {q : Int × Int} : okE (DL.pairD q) = true := Qn.ok (n := 1) Qn_pair (by omega)
/-- a spans list in order -/
theorem distinct_spans {us : List (Int × Int)} (hs : us = sortP us) (hd : us.Nodup) (hl : us.length < 1000) : den_distinct_spans [.val (.lst (us.map DL.pairD))] = some (.own (us.map DL.pairD), [.no]) := by
  refine wp_to (wp_den rfl ?_)
  unfold f_distinct_spans
  have hsr : gSorted [.val (.lst (us.map DL.pairD))] = some (.own (us.map DL.pairD)) := by
    have := gSorted_pair (xs := us) (f := Prod.fst) (g := Prod.snd)
    have e : (us.map fun x => (x.1, x.2)) = us := List.map_id' us
    rw [e, ← hs] at this
    exact this
  clear hs
  walk_at "all"
  refine wp_lcPure DL.pairD (fun _ => true) DL.pairD us rfl ?_ ?_
  · intro x hx
    refine ⟨_, rfl, wp_to ?_, fun _ => wp_to ?_, rfl⟩
    · unfold DL.pairD
      walk_at "cl"
      walk_at "all"
    · unfold DL.pairD
      walk_at "cl"
      walk_at "all"
  have hf : us.filter (fun _ => true) = us := List.filter_eq_self.mpr fun _ _ => rfl
  rw [hf]
  walk_at "cl"
  walk_at "all"
  refine wp_for (α := List (Int × Int)) (fun a => [.val (.lst (us.map DL.pairD)), .own (a.map DL.pairD), .no, .no, .no]) (fun i a => a = us.take i) [] rfl rfl ?_ ?_
  · rintro i d a hd2 rfl
    obtain ⟨q, hq, rfl⟩ := Option.map_eq_some_iff.mp (List.getElem?_map ▸ hd2)
    have hi := (List.getElem?_eq_some_iff.mp hq).1
    have hn : q ∉ us.take i := by
      intro hm
      obtain ⟨j, hj, e⟩ := List.getElem_of_mem hm
      rw [List.length_take] at hj
      have e2 : us[i] = q := by
        have := List.getElem?_eq_getElem hi
        rw [hq] at this
        exact (Option.some.inj this).symm
      rw [List.getElem_take, ← e2] at e
      exact (List.pairwise_iff_getElem.mp hd) j i (by omega) hi (by omega) e
    have i1 := inD_pair (q := q) (l := us.take i)
    have gb := decide_eq_false hn
    rw [gb] at i1
    have o1 := okE_pairs (l := us.take i)
    have o2 := okE_pair (q := q)
    have hll : (us.take i).length < 1000 := by rw [List.length_take]; omega
    have hfin : us.take (i + 1) = us.take i ++ [q] := by rw [List.take_succ, hq]; rfl
    have hk : ∃ a' : List (Int × Int), (Ou.nx [Sl.val (.lst (us.map DL.pairD)), .own ((us.take i).map DL.pairD ++ [DL.pairD q]), .no, .no, .no] = .nx [.val (.lst (us.map DL.pairD)), .own (a'.map DL.pairD), .no, .no, .no] ∨ Ou.nx [Sl.val (.lst (us.map DL.pairD)), .own ((us.take i).map DL.pairD ++ [DL.pairD q]), .no, .no, .no] = .ct [.val (.lst (us.map DL.pairD)), .own (a'.map DL.pairD), .no, .no, .no]) ∧ a' = us.take (i + 1) := ⟨_, .inl (by rw [hfin, List.map_append]; rfl), rfl⟩
    generalize us.take i = a at *
    clear hd2 hq hi hn hfin hf hsr hd
    refine ⟨_, rfl, ?_⟩
    walk_at "cl"
    walk_at "all"
    exact hk
  · rintro a rfl
    rw [List.length_map, List.take_length]
    walk_at "cl"
    walk_at "all"
def wsp (p : Nat) (a : Int) : List (Int × Int) := (List.range p).map fun (i : Nat) => (1 + (i : Int), 1 + (i : Int) + a - 1)
theorem wsp_len (p : Nat) (a : Int) : (wsp p a).length = p := by unfold wsp; rw [List.length_map, List.length_range]
theorem wsp_get {p : Nat} {a : Int} {i : Nat} {q : Int × Int} (h : (wsp p a)[i]? = some q) : i < p ∧ q = (1 + (i : Int), 1 + (i : Int) + a - 1) := by
  unfold wsp at h
  rw [List.getElem?_map] at h
  obtain ⟨j, hj, rfl⟩ := Option.map_eq_some_iff.mp h
  obtain ⟨h1, h2⟩ := List.getElem?_eq_some_iff.mp hj
  rw [List.length_range] at h1
  rw [List.getElem_range] at h2
  subst h2
  exact ⟨h1, rfl⟩
theorem wsp_lt (p : Nat) (a : Int) : (wsp p a).Pairwise fun x y => x.1 < y.1 := by
  unfold wsp
  rw [List.pairwise_map]
  exact (List.pairwise_lt_range).imp fun h => by omega
theorem wsp_sort (p : Nat) (a : Int) : wsp p a = sortP (wsp p a) := sortP_of (List.Perm.refl _) ((wsp_lt p a).imp fun h => by
  unfold lexLe
  exact decide_eq_true (.inl h))
theorem wsp_nd (p : Nat) (a : Int) : (wsp p a).Nodup := (wsp_lt p a).imp fun h e => by
  rw [e] at h
  omega
theorem check_calendar {p : Nat} {a : Int} (h1 : 1 ≤ p) (h12 : p ≤ 12) (ha : 1 ≤ a) (hap : a ≤ p) : den_check_calendar [.val (.int p), .val (.lst ((wsp p a).map DL.pairD))] = some (.val .non, [.no, .no]) := by
  have c1 : den_check [.val (.str "day"), .val (.int p)] = some (.val .non, [.no, .no]) := by
    refine wp_to (wp_den rfl ?_)
    unfold f_check
    have e : tab_LIMITS.lookup ("day" : Str) = some 30 := by decide +kernel
    walk_at "all"
  have c2 : den_check [.val (.str "cycle"), .val (.int p)] = some (.val .non, [.no, .no]) := by
    refine wp_to (wp_den rfl ?_)
    unfold f_check
    have e : tab_LIMITS.lookup ("cycle" : Str) = some 12 := by decide +kernel
    walk_at "all"
  refine wp_to (wp_den rfl ?_)
  unfold f_check_calendar
  have hl := wsp_len p a
  walk_at "all"
  refine wp_for (α := Nat) (fun n => [.val (.int p), .val (.lst ((wsp p a).map DL.pairD)), .val (.int n), .no, .no]) (fun i n => n = i) 0 rfl rfl ?_ ?_
  · rintro i d n hd rfl
    obtain ⟨q, hq, rfl⟩ := Option.map_eq_some_iff.mp (List.getElem?_map ▸ hd)
    obtain ⟨hi, rfl⟩ := wsp_get hq
    clear hd hq
    have e1 : 1 ≤ 1 + (n : Int) := by omega
    have e2 : 1 + (n : Int) ≤ p := by omega
    have e3 : 1 + (n : Int) ≤ 1 + (n : Int) + a - 1 := by omega
    have e4 : 1 + (n : Int) + a - 1 ≤ 1 + (n : Int) + p - 1 := by omega
    refine ⟨_, rfl, ?_⟩
    walk_at "cl"
    walk_at "all"
    exact ⟨n + 1, .inl rfl, rfl⟩
  · rintro n _
    walk_at "cl"
    walk_at "all"
end
end k48
namespace k48
open PySem PySem.Spec PyProof.Rows L2 DL
noncomputable section
local macro_rules | `(tactic| walk_at "dl") => `(tactic| simp (config := { maxSteps := 1000000, failIfUnchanged := false }) (disch := omega) only [frz, vl, fC, fName, fMove, fOp2, fOp1, known_val, known_own, known_oob, known_odK, known_odT, known_ownA, known_no, knownAt, fOpN, i2, gAdd, DL.gSub, gMul, gMod, gDiv, gPow, gShl, gShr, gAnd, gLt, gLe, gGt, gGe, gNeg, gCat, gCatT, gRep, gPlus, gTimes, gEq_int, gEq_bl, gNe_int, DL.isNon, gIs, gIsNot, gIn_int, gNotIn_int, fInN, seqOf, gIx, gIxD, fNoPart, fPart, gSl, fSl, fANil, fACons, fLst, fTup, fRev, fB, fAndT, fOrT, fNotT, fAndV, fOrV, fNotV, fIfE, gTru, fTru, fTruN, fBSlot, res, fCall, gLen, lstOf, gSum, gMax1, gMin1, gMax2, gMin2, gMax, gMin, gAbs, gInt, gList, gTuple, gSorted_int, gSorted_own, gSorted_mapf, gSorted_ownf, gSorted_pair, gSorted_ownP, lnK_n, lnK_s, lnK_p, lnK_c, lnK_z, fKGet, fKGetN, fDisp, fDIn, fDIx, sDPutT, fNewT, keyT, keysOf, sNop, sBrk, sCont, sSeq, sIf, sRet, sRetN, sDrop, sNever, sSet, fgt, sThenFgt, sFgtThen, fMt, isLst, lstAt, fMtL, gAppend, gPopAt, sPutIx, tgName, tgNil, tgCons, tgTup, sAsgG, rLst, rTup, rRng, rRng2, rEnum, rZip, sFor, sWhile, hide, back1, backS, fYes, fLc, still, fin, keptBy, denOf, give, fUse,  fMeth, fMake, fFld, objOf, fFldN, sPutF, sAug, sAugIx, fChain, fIxK, fIsi, fUseT, gDivmod, isOwn_val, isOwn_own, isOwn_oob, isOwn_odK, isOwn_odT, isOwn_ownA, isOwn_no, Option.bind_some, Option.bind_none, Option.map_some, Option.map_none, Option.or_some, Option.or_none, Option.none_or, Option.or, List.getElem?_cons_zero, List.getElem?_cons_succ, List.set_cons_zero, List.set_cons_succ, List.length_cons, List.length_nil, List.all_cons, List.all_nil, List.isEmpty_cons, List.isEmpty_nil, List.cons_append, List.nil_append, List.append_nil, List.flatten_nil, List.flatten_cons, List.replicate_succ, List.replicate_zero, List.map_cons, List.map_nil, List.contains_cons, List.contains_nil, Nat.reduceAdd, Nat.reduceSub, Nat.reduceLeDiff, Nat.reduceBEq, Bool.true_and, Bool.and_true, Bool.false_and, Bool.and_false, Bool.or_true, Bool.true_or, Bool.or_false, Bool.false_or, Bool.not_true, Bool.not_false, beq_self_eq_true, decide_true, decide_false, if_true, if_false, reduceIte, Bool.false_eq_true, Bool.true_eq_false, ite_true, ite_false, reduceCtorEq, ne_eq, not_true_eq_false, not_false_eq_true, and_self, and_true, true_and, and_false, false_and, or_true, true_or, or_false, false_or, Int.cast_ofNat_Int, Int.reduceLT, Int.reduceLE, Int.reduceNeg, Int.reducePow, Int.reduceEq, Int.reduceNe, Int.reduceToNat, Int.reduceMul, Int.reduceAdd, Int.reduceSub, Nat.reduceLT, Nat.reducePow, atI_0, atI_1, atI_2, atI_3, ixN_0, ixN_1, ixN_2, List.length_map, List.length_append, decide_eq_true_eq, isi_bool_non, isi_bool_bl, isi_bool_int, isi_bool_str, isi_bool_tup, isi_bool_lst, isi_int_non, isi_int_bl, isi_int_int, isi_int_str, isi_int_tup, isi_int_lst, isi_str_non, isi_str_bl, isi_str_int, isi_str_str, isi_str_tup, isi_str_lst, isi_tuple_non, isi_tuple_bl, isi_tuple_int, isi_tuple_str, isi_tuple_tup, isi_tuple_lst, isi_list_non, isi_list_bl, isi_list_int, isi_list_str, isi_list_tup, isi_list_lst, prs_own, prs_known, den_draw, eq_self, Option.isNone_none, Option.isNone_some, intsOf_map, intsOf_mapf, fitL_small, fit62_small, fit63_small, fit64_small, fit30_small, fitP_small, if_pos, if_neg, *])
local macro_rules | `(tactic| walk_at "ev") => `(tactic| (refine wp_of (by walk_at "dl"; with_reducible exact rfl) (wp_some ?_)))
local macro_rules | `(tactic| walk_at "cl") => `(tactic| simp (config := { failIfUnchanged := false }) only [Nx, Fg, Fi, fgt, hide, backS, back1, List.set_cons_zero, List.set_cons_succ, List.getElem?_cons_zero, List.getElem?_cons_succ, List.length_cons, List.length_nil, Nat.reduceAdd, Nat.reduceSub, List.replicate_succ, List.replicate_zero, List.cons_append, List.nil_append, still, fin, isOwn_val, isOwn_own, isOwn_oob, isOwn_odK, isOwn_odT, isOwn_ownA, isOwn_no, prs_own, Bool.not_true, Bool.not_false, Bool.true_or, Bool.false_or, Bool.true_and, Bool.and_true, Bool.or_true, if_true, if_false, Bool.false_eq_true, reduceIte, true_and, and_true])
local macro_rules | `(tactic| walk_at "go") => `(tactic| (repeat (first
  | with_reducible refine wp_seq ?_
  | (with_reducible refine wp_fgtThen ?_; walk_at "cl")
  | with_reducible refine wp_thenFgt ?_
  | (with_reducible refine wp_set ?_; walk_at "ev"; walk_at "cl")
  | (with_reducible refine wp_drop ?_; walk_at "ev"; walk_at "cl")
  | (with_reducible refine wp_ret ?_; walk_at "ev"; walk_at "cl")
  | (with_reducible refine wp_nop ?_; walk_at "cl")
  | (with_reducible refine wp_src ?_; walk_at "ev"; walk_at "cl")
  | (walk_at "ev"; walk_at "cl"))))
local macro_rules | `(tactic| walk_at "in") => `(tactic| (first
  | with_reducible refine wp_set ?_
  | with_reducible refine wp_drop ?_
  | with_reducible refine wp_ret ?_
  | with_reducible refine wp_if ?_
  | with_reducible refine wp_src ?_
  | (with_reducible refine wp_aug rfl ?_)
  | with_reducible refine wp_putIx ?_
  | with_reducible refine wp_vl ?_
  | with_reducible refine wp_lc ?_
  | with_reducible refine wp_call ?_
  | with_reducible refine wp_acons ?_
  | with_reducible refine wp_op2 ?_
  | with_reducible refine wp_opN ?_
  | with_reducible refine wp_tup ?_
  | with_reducible refine wp_lst ?_
  | with_reducible refine wp_useC ?_
  | with_reducible refine wp_mtL ?_
  | with_reducible refine wp_ife ?_
  | with_reducible refine wp_andV ?_
  | with_reducible refine wp_b ?_
  | with_reducible refine wp_tru ?_
  | with_reducible refine wp_notT ?_
  | with_reducible refine wp_orT ?_
  | with_reducible refine wp_andT ?_
  | with_reducible refine wp_srcLst ?_
  | with_reducible refine wp_srcRng ?_
  | with_reducible refine wp_putF ?_
  | with_reducible refine wp_make ?_
  | with_reducible refine wp_meth ?_
  | with_reducible refine wp_asgG ?_
  | with_reducible refine wp_useA ?_
  | with_reducible refine wp_orV ?_))
local macro_rules | `(tactic| walk_at "all") => `(tactic| (walk_at "go"; repeat (walk_at "in"; walk_at "go")))
theorem min_is {us : List Int} {m : Int} (h : m ∈ us) (h2 : ∀ u ∈ us, m ≤ u) : us.min? = some m := List.min?_eq_some_iff.mpr ⟨h, h2⟩
theorem end_of_start {p i : Nat} {a : Int} (hi : i < p) (h12 : p ≤ 12) (ha : 1 ≤ a) (hap : a ≤ p) : den_end_of_start [.val (.int p), .val (.lst ((wsp p a).map DL.pairD)), .val (.int (1 + (i : Int)))] = some (.val (.int (a + (i : Int))), [.no, .no, .no]) := by
  refine wp_to (wp_den rfl ?_)
  unfold f_end_of_start
  walk_at "all"
  refine wp_lcPure DL.pairD (fun _ => true) (fun q => D.int (if q.1 ≥ 1 + (i : Int) then q.2 else q.2 + p)) (wsp p a) rfl ?_ ?_
  · intro q hq
    by_cases g : q.1 ≥ 1 + (i : Int)
    · have gd := decide_eq_true g
      simp only [if_pos g]
      refine ⟨_, rfl, wp_to ?_, fun _ => wp_to ?_, rfl⟩
      · unfold DL.pairD
        walk_at "cl"
        walk_at "all"
      · unfold DL.pairD
        walk_at "cl"
        walk_at "all"
    · have gd := decide_eq_false g
      simp only [if_neg g]
      refine ⟨_, rfl, wp_to ?_, fun _ => wp_to ?_, rfl⟩
      · unfold DL.pairD
        walk_at "cl"
        walk_at "all"
      · unfold DL.pairD
        walk_at "cl"
        walk_at "all"
  have hf : (wsp p a).filter (fun _ => true) = wsp p a := List.filter_eq_self.mpr fun _ _ => rfl
  rw [hf]
  have hm : ((wsp p a).map fun q => if q.1 ≥ 1 + (i : Int) then q.2 else q.2 + (p : Int)).min? = some (a + (i : Int)) := by
    refine min_is (List.mem_map.mpr ⟨(1 + (i : Int), 1 + (i : Int) + a - 1), ?_, ?_⟩) fun u hu => ?_
    · unfold wsp
      exact List.mem_map.mpr ⟨i, List.mem_range.mpr hi, rfl⟩
    · dsimp only
      rw [if_pos (by omega)]
      omega
    · obtain ⟨q, hq, rfl⟩ := List.mem_map.mp hu
      unfold wsp at hq
      obtain ⟨j, hj, rfl⟩ := List.mem_map.mp hq
      have hj := List.mem_range.mp hj
      dsimp only
      split <;> omega
  have hg : gMin [.own ((wsp p a).map fun q => D.int (if q.1 ≥ 1 + (i : Int) then q.2 else q.2 + p))] = some (.val (.int (a + (i : Int)))) := by
    have e : ((wsp p a).map fun q => D.int (if q.1 ≥ 1 + (i : Int) then q.2 else q.2 + p)) = ((wsp p a).map fun q => if q.1 ≥ 1 + (i : Int) then q.2 else q.2 + (p : Int)).map D.int := by rw [List.map_map]; rfl
    rw [e]
    simp only [gMin, gMin1, lstOf, Option.bind_some, intsOf_map, hm, Option.map_some, Option.some_or]
  generalize ((wsp p a).map fun q => D.int (if q.1 ≥ 1 + (i : Int) then q.2 else q.2 + p)) = us at *
  clear hm hf
  walk_at "cl"
  walk_at "all"
  exact ⟨_, hg, rfl⟩
def calF (p : Nat) (a : Int) : List (Str × D) := [("day_number", .int p), ("span_list", .lst ((wsp p a).map DL.pairD)), ("end_list", .lst ((List.range p).map fun (i : Nat) => D.int (a + (i : Int))))]
def cal (p : Nat) (a : Int) : D := .obj "Calendar" (calF p a)
theorem upto1' (k : Nat) : upto 1 ((k : Int) + 1) = (List.range k).map fun (i : Nat) => D.int (1 + (i : Int)) := by
  have := upto_map 1 k
  rw [show (k : Int) + 1 = 1 + (k : Int) by omega]
  exact this
theorem Calendar_init {p : Nat} {a : Int} (h1 : 2 ≤ p) (h12 : p ≤ 12) (ha : 1 ≤ a) (hap : a ≤ p) : den_Calendar_init [.oob "Calendar" [], .val (.int p), .val (.lst ((wsp p a).map DL.pairD))] = some (.val .non, [.oob "Calendar" (calF p a), .no, .no]) := by
  have c1 := check_calendar (p := p) (a := a) (by omega) h12 ha hap
  have c2 := distinct_spans (us := wsp p a) (wsp_sort p a) (wsp_nd p a) (by rw [wsp_len]; omega)
  have c3 : Bx (∀ i, i < p → _) := ⟨fun i (hi : i < p) => end_of_start hi h12 ha hap⟩
  unfold calF
  generalize (wsp p a).map DL.pairD = us at *
  have p1 : ∀ d, putD ("day_number" : Str) d [] = [(("day_number" : Str), d)] := fun _ => rfl
  have p2 : ∀ d e, putD ("span_list" : Str) d [(("day_number" : Str), e)] = [(("day_number" : Str), e), (("span_list" : Str), d)] := fun _ _ => rfl
  have p3 : ∀ d e f, putD ("end_list" : Str) d [(("day_number" : Str), e), (("span_list" : Str), f)] = [(("day_number" : Str), e), (("span_list" : Str), f), (("end_list" : Str), d)] := fun _ _ _ => rfl
  have l1 : ∀ d e, ([(("day_number" : Str), e), (("span_list" : Str), d)] : List (Str × D)).lookup ("span_list" : Str) = some d := fun _ _ => rfl
  refine wp_to (wp_den rfl ?_)
  unfold f_Calendar_init
  walk_at "all"
  rw [upto1']
  refine wp_lcMap (fun (i : Nat) => D.int (1 + (i : Int))) (fun (i : Nat) => D.int (a + (i : Int))) (List.range p) rfl ?_ ?_
  · intro i hi
    have c4 := c3.out i (List.mem_range.mp hi)
    clear c3 hi c1 c2
    refine ⟨_, rfl, rfl, wp_to ?_, rfl⟩
    walk_at "cl"
    walk_at "all"
  clear c3 c1 c2
  walk_at "cl"
  walk_at "all"
theorem cal_day {p : Nat} {a : Int} : den_Calendar_day [.val (cal p a)] = some (.val (.int p), [.no]) := by
  have l1 : (calF p a).lookup ("day_number" : Str) = some (.int p) := rfl
  refine wp_to (wp_den rfl ?_)
  unfold f_Calendar_day cal
  walk_at "all"
theorem ediv_mod (s p : Nat) : ((s : Int) / (p : Int)) = ((s / p : Nat) : Int) ∧ ((s : Int) % (p : Int)) = ((s % p : Nat) : Int) := ⟨by simp, by simp⟩
theorem next_end {p : Nat} {a : Int} {s : Nat} (h1 : 2 ≤ p) (h12 : p ≤ 12) (ha : 1 ≤ a ∧ a ≤ 5) (hs : s ≤ 100000) : den_Calendar_next_end [.val (cal p a), .val (.int (1 + (s : Int)))] = some (.val (.int (a + (s : Int))), [.no, .no]) := by
  have l1 : (calF p a).lookup ("day_number" : Str) = some (.int p) := rfl
  have l2 : (calF p a).lookup ("end_list" : Str) = some (.lst ((List.range p).map fun (i : Nat) => D.int (a + (i : Int)))) := rfl
  refine wp_to (wp_den rfl ?_)
  have hm : s % p < p := Nat.mod_lt _ (by omega)
  have hdm := Nat.div_add_mod s p
  have g1 : atI ((List.range p).map fun (i : Nat) => D.int (a + (i : Int))) ((s % p : Nat) : Int) = some (.int (a + ((s % p : Nat) : Int))) := atI_nat (by rw [List.getElem?_map, List.getElem?_range hm]; rfl)
  have hd : s / p ≤ s := Nat.div_le_self _ _
  have e0 : 1 + (s : Int) - 1 = (s : Int) := by omega
  have hfin : a + ((s % p : Nat) : Int) + ((s / p : Nat) : Int) * (p : Int) = a + (s : Int) := by
    have : ((s / p : Nat) : Int) * (p : Int) + ((s % p : Nat) : Int) = (s : Int) := by
      rw [← Int.natCast_mul, ← Int.natCast_add, Nat.mul_comm, hdm]
    omega
  obtain ⟨k1, k2⟩ := ediv_mod s p
  unfold f_Calendar_next_end cal
  walk_at "all"
theorem next_end' {p : Nat} {a X : Int} (h1 : 2 ≤ p) (h12 : p ≤ 12) (ha : 1 ≤ a ∧ a ≤ 5) (hX : 1 ≤ X ∧ X ≤ 100000) : den_Calendar_next_end [.val (cal p a), .val (.int X)] = some (.val (.int (X + a - 1)), [.no, .no]) := by
  obtain ⟨s, hs⟩ : ∃ s : Nat, X = 1 + (s : Int) := ⟨(X - 1).toNat, by omega⟩
  rw [hs, next_end h1 h12 ha (by omega)]
  rw [show a + (s : Int) = 1 + (s : Int) + a - 1 by omega]
end
end k48
namespace k48
open PySem PySem.Spec PyProof.Rows L2 DL
noncomputable section
local macro_rules | `(tactic| walk_at "dl") => `(tactic| simp (config := { maxSteps := 1000000, failIfUnchanged := false }) (disch := omega) only [frz, vl, fC, fName, fMove, fOp2, fOp1, known_val, known_own, known_oob, known_odK, known_odT, known_ownA, known_no, knownAt, fOpN, i2, gAdd, DL.gSub, gMul, gMod, gDiv, gPow, gShl, gShr, gAnd, gLt, gLe, gGt, gGe, gNeg, gCat, gCatT, gRep, gPlus, gTimes, gEq_int, gEq_bl, gNe_int, DL.isNon, gIs, gIsNot, gIn_int, gNotIn_int, fInN, seqOf, gIx, gIxD, fNoPart, fPart, gSl, fSl, fANil, fACons, fLst, fTup, fRev, fB, fAndT, fOrT, fNotT, fAndV, fOrV, fNotV, fIfE, gTru, fTru, fTruN, fBSlot, res, fCall, gLen, lstOf, gSum, gMax1, gMin1, gMax2, gMin2, gMax, gMin, gAbs, gInt, gList, gTuple, gSorted_int, gSorted_own, gSorted_mapf, gSorted_ownf, gSorted_pair, gSorted_ownP, lnK_n, lnK_s, lnK_p, lnK_c, lnK_z, fKGet, fKGetN, fDisp, fDIn, fDIx, sDPutT, fNewT, keyT, keysOf, sNop, sBrk, sCont, sSeq, sIf, sRet, sRetN, sDrop, sNever, sSet, fgt, sThenFgt, sFgtThen, fMt, isLst, lstAt, fMtL, gAppend, gPopAt, sPutIx, tgName, tgNil, tgCons, tgTup, sAsgG, rLst, rTup, rRng, rRng2, rEnum, rZip, sFor, sWhile, hide, back1, backS, fYes, fLc, still, fin, keptBy, denOf, give, fUse,  fMeth, fMake, fFld, objOf, fFldN, sPutF, sAug, sAugIx, fChain, fIxK, fIsi, fUseT, gDivmod, isOwn_val, isOwn_own, isOwn_oob, isOwn_odK, isOwn_odT, isOwn_ownA, isOwn_no, Option.bind_some, Option.bind_none, Option.map_some, Option.map_none, Option.or_some, Option.or_none, Option.none_or, Option.or, List.getElem?_cons_zero, List.getElem?_cons_succ, List.set_cons_zero, List.set_cons_succ, List.length_cons, List.length_nil, List.all_cons, List.all_nil, List.isEmpty_cons, List.isEmpty_nil, List.cons_append, List.nil_append, List.append_nil, List.flatten_nil, List.flatten_cons, List.replicate_succ, List.replicate_zero, List.map_cons, List.map_nil, List.contains_cons, List.contains_nil, Nat.reduceAdd, Nat.reduceSub, Nat.reduceLeDiff, Nat.reduceBEq, Bool.true_and, Bool.and_true, Bool.false_and, Bool.and_false, Bool.or_true, Bool.true_or, Bool.or_false, Bool.false_or, Bool.not_true, Bool.not_false, beq_self_eq_true, decide_true, decide_false, if_true, if_false, reduceIte, Bool.false_eq_true, Bool.true_eq_false, ite_true, ite_false, reduceCtorEq, ne_eq, not_true_eq_false, not_false_eq_true, and_self, and_true, true_and, and_false, false_and, or_true, true_or, or_false, false_or, Int.cast_ofNat_Int, Int.reduceLT, Int.reduceLE, Int.reduceNeg, Int.reducePow, Int.reduceEq, Int.reduceNe, Int.reduceToNat, Int.reduceMul, Int.reduceAdd, Int.reduceSub, Nat.reduceLT, Nat.reducePow, atI_0, atI_1, atI_2, atI_3, ixN_0, ixN_1, ixN_2, List.length_map, List.length_append, decide_eq_true_eq, isi_bool_non, isi_bool_bl, isi_bool_int, isi_bool_str, isi_bool_tup, isi_bool_lst, isi_int_non, isi_int_bl, isi_int_int, isi_int_str, isi_int_tup, isi_int_lst, isi_str_non, isi_str_bl, isi_str_int, isi_str_str, isi_str_tup, isi_str_lst, isi_tuple_non, isi_tuple_bl, isi_tuple_int, isi_tuple_str, isi_tuple_tup, isi_tuple_lst, isi_list_non, isi_list_bl, isi_list_int, isi_list_str, isi_list_tup, isi_list_lst, prs_own, prs_known, den_draw, eq_self, Option.isNone_none, Option.isNone_some, intsOf_map, intsOf_mapf, fitL_small, fit62_small, fit63_small, fit64_small, fit30_small, fitP_small, if_pos, if_neg, *])
local macro_rules | `(tactic| walk_at "ev") => `(tactic| (refine wp_of (by walk_at "dl"; with_reducible exact rfl) (wp_some ?_)))
local macro_rules | `(tactic| walk_at "cl") => `(tactic| simp (config := { failIfUnchanged := false }) only [Nx, Fg, Fi, fgt, hide, backS, back1, List.set_cons_zero, List.set_cons_succ, List.getElem?_cons_zero, List.getElem?_cons_succ, List.length_cons, List.length_nil, Nat.reduceAdd, Nat.reduceSub, List.replicate_succ, List.replicate_zero, List.cons_append, List.nil_append, still, fin, isOwn_val, isOwn_own, isOwn_oob, isOwn_odK, isOwn_odT, isOwn_ownA, isOwn_no, prs_own, Bool.not_true, Bool.not_false, Bool.true_or, Bool.false_or, Bool.true_and, Bool.and_true, Bool.or_true, if_true, if_false, Bool.false_eq_true, reduceIte, true_and, and_true])
local macro_rules | `(tactic| walk_at "go") => `(tactic| (repeat (first
  | with_reducible refine wp_seq ?_
  | (with_reducible refine wp_fgtThen ?_; walk_at "cl")
  | with_reducible refine wp_thenFgt ?_
  | (with_reducible refine wp_set ?_; walk_at "ev"; walk_at "cl")
  | (with_reducible refine wp_drop ?_; walk_at "ev"; walk_at "cl")
  | (with_reducible refine wp_ret ?_; walk_at "ev"; walk_at "cl")
  | (with_reducible refine wp_nop ?_; walk_at "cl")
  | (with_reducible refine wp_src ?_; walk_at "ev"; walk_at "cl")
  | (walk_at "ev"; walk_at "cl"))))
local macro_rules | `(tactic| walk_at "in") => `(tactic| (first
  | with_reducible refine wp_set ?_
  | with_reducible refine wp_drop ?_
  | with_reducible refine wp_ret ?_
  | with_reducible refine wp_if ?_
  | with_reducible refine wp_src ?_
  | (with_reducible refine wp_aug rfl ?_)
  | with_reducible refine wp_putIx ?_
  | with_reducible refine wp_vl ?_
  | with_reducible refine wp_lc ?_
  | with_reducible refine wp_call ?_
  | with_reducible refine wp_acons ?_
  | with_reducible refine wp_op2 ?_
  | with_reducible refine wp_opN ?_
  | with_reducible refine wp_tup ?_
  | with_reducible refine wp_lst ?_
  | with_reducible refine wp_useC ?_
  | with_reducible refine wp_mtL ?_
  | with_reducible refine wp_ife ?_
  | with_reducible refine wp_andV ?_
  | with_reducible refine wp_b ?_
  | with_reducible refine wp_tru ?_
  | with_reducible refine wp_notT ?_
  | with_reducible refine wp_orT ?_
  | with_reducible refine wp_andT ?_
  | with_reducible refine wp_srcLst ?_
  | with_reducible refine wp_srcRng ?_
  | with_reducible refine wp_putF ?_
  | with_reducible refine wp_make ?_
  | with_reducible refine wp_meth ?_
  | with_reducible refine wp_asgG ?_
  | with_reducible refine wp_useA ?_
  | with_reducible refine wp_orV ?_))
local macro_rules | `(tactic| walk_at "all") => `(tactic| (walk_at "go"; repeat (walk_at "in"; walk_at "go")))
def endF (w : Wd) : List (Str × D) := [("calendar_list", .lst (w.ws.map (cal w.p))), ("coming_list", .lst (w.cm.map D.int)), ("day_number", .int w.p)]
def eO (w : Wd) : D := .obj "Endless" (endF w)
def Wd.A (w : Wd) (i : Nat) : Int := gI w.ws i
theorem Wd.A_bd (w : Wd) (i : Nat) : 0 ≤ w.A i ∧ w.A i ≤ 5 := by
  unfold Wd.A
  by_cases h : i < w.ws.length
  · have := w.wb _ (gI_mem h)
    omega
  · unfold gI
    rw [List.getElem?_eq_none (by omega)]
    show 0 ≤ (0 : Int) ∧ (0 : Int) ≤ 5
    omega
def Wd.T (w : Wd) : Nat → Nat → Int := k48.T w.C w.A
theorem Wd.T_le (w : Wd) {j i : Nat} (hj : j ≤ 40) (hi : i ≤ 4) : 0 ≤ w.T j i ∧ w.T j i ≤ 1000 := by
  have := T_bd (C := w.C) (A := w.A) (c := 12) w.C_bd (by omega) w.A_bd j i
  unfold Wd.T
  omega
theorem T_row0 (w : Wd) (i : Nat) : w.T 0 (i + 1) = w.T 0 i + w.A i := rfl
theorem T_rowS (w : Wd) (j i : Nat) : w.T (j + 1) (i + 1) = max (w.T (j + 1) i) (w.T j (i + 1)) + w.A i := rfl
theorem T_zero (w : Wd) (j : Nat) : w.T j 0 = w.C j := by cases j <;> rfl
theorem coming_of {w : Wd} {j : Nat} (hj : j ≤ 1000) : den_Endless_coming_of [.val (eO w), .val (.int (1 + (j : Int)))] = some (.val (.int (w.C j)), [.no, .no]) := by
  have l1 : (endF w).lookup ("coming_list" : Str) = some (.lst (w.cm.map D.int)) := rfl
  have l2 : (endF w).lookup ("day_number" : Str) = some (.int w.p) := rfl
  refine wp_to (wp_den rfl ?_)
  have hc1 := w.c1
  have hc4 := w.c4
  have hp := w.p12
  have hm : j % w.cm.length < w.cm.length := Nat.mod_lt _ (by omega)
  have g1 := gI_at hm
  have hd : j / w.cm.length ≤ j := Nat.div_le_self _ _
  have e0 : 1 + (j : Int) - 1 = (j : Int) := by omega
  have hfin : ((j / w.cm.length : Nat) : Int) * (w.p : Int) + gI w.cm (j % w.cm.length) = w.C j := by
    unfold Wd.C
    rw [Int.mul_comm, Int.add_comm]
  have hcl : (0 : Int) < (w.cm.length : Int) := by omega
  obtain ⟨k1, k2⟩ := ediv_mod j w.cm.length
  generalize hq : j / w.cm.length = q at *
  generalize hr : j % w.cm.length = r at *
  unfold f_Endless_coming_of eO
  walk_at "all"
def rl (f : Nat → Int) (n : Nat) : List Int := (List.range n).map f
theorem rl_len (f : Nat → Int) (n : Nat) : (rl f n).length = n := by unfold rl; rw [List.length_map, List.length_range]
theorem rl_succ (f : Nat → Int) (n : Nat) : rl f (n + 1) = rl f n ++ [f n] := by unfold rl; rw [List.range_succ, List.map_append]; rfl
theorem rl_at {f : Nat → Int} {n i : Nat} (h : i < n) : atI ((rl f n).map D.int) (i : Int) = some (.int (f i)) := atI_nat (by unfold rl; rw [List.getElem?_map, List.getElem?_map, List.getElem?_range h]; rfl)
theorem cals_at {w : Wd} {i : Nat} (h : i < w.ws.length) : atI (w.ws.map (cal w.p)) (i : Int) = some (cal w.p (w.A i)) := atI_nat (by rw [List.getElem?_map, gI_get h]; rfl)
theorem next_row {w : Wd} {j : Nat} {us : List Int} (hj : j ≤ 40) (hu : (us.length = 0 ∧ ∀ i, w.T j (i + 1) = w.T j i + w.A i) ∨ (us.length = w.ws.length + 1 ∧ ∀ i, i < w.ws.length → w.T j (i + 1) = max (w.T j i) (gI us (i + 1)) + w.A i ∧ 0 ≤ gI us (i + 1) ∧ gI us (i + 1) ≤ 1000)) : den_Endless_next_row [.val (eO w), .val (.int (1 + (j : Int))), .val (.lst (us.map D.int))] = some (.own ((rl (w.T j) (w.ws.length + 1)).map D.int), [.no, .no, .no]) := by
  have l1 : (endF w).lookup ("calendar_list" : Str) = some (.lst (w.ws.map (cal w.p))) := rfl
  have c1 := coming_of (w := w) (j := j) (by omega)
  rw [← T_zero w j] at c1
  have ob1 : isObj "Endless" "coming_of" (eO w) = true := rfl
  refine wp_to (wp_den rfl ?_)
  have hw4 := w.w4
  unfold eO at *
  unfold f_Endless_next_row
  walk_at "all"
  rw [upto1']
  refine wp_for (α := List Int) (fun a => [.val (.obj "Endless" (endF w)), .val (.int (1 + (j : Int))), .val (.lst (us.map D.int)), .own (a.map D.int), .no, .no]) (fun i a => a = rl (w.T j) (i + 1)) (rl (w.T j) 1) rfl rfl ?_ ?_
  · rintro i d a hd rfl
    obtain ⟨i', hi', rfl⟩ := Option.map_eq_some_iff.mp (List.getElem?_map ▸ hd)
    obtain ⟨hi, e⟩ := List.getElem?_eq_some_iff.mp hi'
    rw [List.length_range] at hi
    rw [List.getElem_range] at e
    subst e
    clear hd hi'
    have g1 := rl_at (f := w.T j) (n := i + 1) (i := i) (by omega)
    rw [show (i : Int) = 1 + (i : Int) - 1 by omega] at g1
    have g2 := cals_at hi
    rw [show (i : Int) = 1 + (i : Int) - 1 by omega] at g2
    have b1 := w.T_le hj (i := i) (by omega)
    have ba := w.wb _ (gI_mem hi)
    have ob2 : isObj "Calendar" "next_end" (cal w.p (w.A i)) = true := rfl
    have hl : ((rl (w.T j) (i + 1)).map D.int).length < 100 := by rw [List.length_map, rl_len]; omega
    rcases hu with ⟨u0, u1⟩ | ⟨u0, u1⟩
    · have hus : us = [] := List.length_eq_zero_iff.mp u0
      subst hus
      have c2 := next_end' (X := w.T j i + 1) w.p2 w.p12 (a := w.A i) ⟨ba.1, ba.2.1⟩ (by omega)
      have hk : ∃ a' : List Int, (Ou.nx [Sl.val (.obj "Endless" (endF w)), .val (.int (1 + (j : Int))), .val (.lst []), .own ((rl (w.T j) (i + 1)).map D.int ++ [.int (w.T j i + 1 + w.A i - 1)]), .no, .no] = .nx [.val (.obj "Endless" (endF w)), .val (.int (1 + (j : Int))), .val (.lst []), .own (a'.map D.int), .no, .no] ∨ Ou.nx [Sl.val (.obj "Endless" (endF w)), .val (.int (1 + (j : Int))), .val (.lst []), .own ((rl (w.T j) (i + 1)).map D.int ++ [.int (w.T j i + 1 + w.A i - 1)]), .no, .no] = .ct [.val (.obj "Endless" (endF w)), .val (.int (1 + (j : Int))), .val (.lst []), .own (a'.map D.int), .no, .no]) ∧ a' = rl (w.T j) (i + 1 + 1) := ⟨_, .inl (by rw [rl_succ _ (i + 1), List.map_append, u1 i, show w.T j i + 1 + w.A i - 1 = w.T j i + w.A i by omega]; rfl), rfl⟩
      generalize (rl (w.T j) (i + 1)).map D.int = R at *
      generalize cal w.p (w.A i) = CC at *
      refine ⟨_, rfl, ?_⟩
      walk_at "cl"
      walk_at "all"
      exact hk
    · obtain ⟨v1, v2, v3⟩ := u1 i hi
      have e1 : (us.length : Int) > 0 := by omega
      have g3 := gI_at (us := us) (i := i + 1) (by omega)
      rw [show ((i + 1 : Nat) : Int) = 1 + (i : Int) by omega] at g3
      clear u0 u1
      obtain ⟨X, hX, hX2⟩ : ∃ X, X = (if gI us (i + 1) + 1 > w.T j i + 1 then gI us (i + 1) + 1 else w.T j i + 1) ∧ w.T j (i + 1) = X + w.A i - 1 := ⟨_, rfl, by rw [v1]; split <;> omega⟩
      have c2 := next_end' (X := X) w.p2 w.p12 (a := w.A i) ⟨ba.1, ba.2.1⟩ (by rw [hX]; split <;> omega)
      have hk : ∃ a' : List Int, (Ou.nx [Sl.val (.obj "Endless" (endF w)), .val (.int (1 + (j : Int))), .val (.lst (us.map D.int)), .own ((rl (w.T j) (i + 1)).map D.int ++ [.int (X + w.A i - 1)]), .no, .no] = .nx [.val (.obj "Endless" (endF w)), .val (.int (1 + (j : Int))), .val (.lst (us.map D.int)), .own (a'.map D.int), .no, .no] ∨ Ou.nx [Sl.val (.obj "Endless" (endF w)), .val (.int (1 + (j : Int))), .val (.lst (us.map D.int)), .own ((rl (w.T j) (i + 1)).map D.int ++ [.int (X + w.A i - 1)]), .no, .no] = .ct [.val (.obj "Endless" (endF w)), .val (.int (1 + (j : Int))), .val (.lst (us.map D.int)), .own (a'.map D.int), .no, .no]) ∧ a' = rl (w.T j) (i + 1 + 1) := ⟨_, .inl (by rw [rl_succ _ (i + 1), List.map_append, hX2]; rfl), rfl⟩
      clear hX2 v1
      subst hX
      generalize (rl (w.T j) (i + 1)).map D.int = R at *
      generalize cal w.p (w.A i) = CC at *
      refine ⟨_, rfl, ?_⟩
      walk_at "cl"
      walk_at "all"
      exact hk
  · rintro a rfl
    rw [List.length_map, List.length_range]
    walk_at "cl"
    walk_at "all"
end
end k48
namespace k48
open PySem PySem.Spec PyProof.Rows L2 DL
noncomputable section
local macro_rules | `(tactic| walk_at "dl") => `(tactic| simp (config := { maxSteps := 1000000, failIfUnchanged := false }) (disch := omega) only [frz, vl, fC, fName, fMove, fOp2, fOp1, known_val, known_own, known_oob, known_odK, known_odT, known_ownA, known_no, knownAt, fOpN, i2, gAdd, DL.gSub, gMul, gMod, gDiv, gPow, gShl, gShr, gAnd, gLt, gLe, gGt, gGe, gNeg, gCat, gCatT, gRep, gPlus, gTimes, gEq_int, gEq_bl, gNe_int, DL.isNon, gIs, gIsNot, gIn_int, gNotIn_int, fInN, seqOf, gIx, gIxD, fNoPart, fPart, gSl, fSl, fANil, fACons, fLst, fTup, fRev, fB, fAndT, fOrT, fNotT, fAndV, fOrV, fNotV, fIfE, gTru, fTru, fTruN, fBSlot, res, fCall, gLen, lstOf, gSum, gMax1, gMin1, gMax2, gMin2, gMax, gMin, gAbs, gInt, gList, gTuple, gSorted_int, gSorted_own, gSorted_mapf, gSorted_ownf, gSorted_pair, gSorted_ownP, lnK_n, lnK_s, lnK_p, lnK_c, lnK_z, fKGet, fKGetN, fDisp, fDIn, fDIx, sDPutT, fNewT, keyT, keysOf, sNop, sBrk, sCont, sSeq, sIf, sRet, sRetN, sDrop, sNever, sSet, fgt, sThenFgt, sFgtThen, fMt, isLst, lstAt, fMtL, gAppend, gPopAt, sPutIx, tgName, tgNil, tgCons, tgTup, sAsgG, rLst, rTup, rRng, rRng2, rEnum, rZip, sFor, sWhile, hide, back1, backS, fYes, fLc, still, fin, keptBy, denOf, give, fUse,  fMeth, fMake, fFld, objOf, fFldN, sPutF, sAug, sAugIx, fChain, fIxK, fIsi, fUseT, gDivmod, isOwn_val, isOwn_own, isOwn_oob, isOwn_odK, isOwn_odT, isOwn_ownA, isOwn_no, Option.bind_some, Option.bind_none, Option.map_some, Option.map_none, Option.or_some, Option.or_none, Option.none_or, Option.or, List.getElem?_cons_zero, List.getElem?_cons_succ, List.set_cons_zero, List.set_cons_succ, List.length_cons, List.length_nil, List.all_cons, List.all_nil, List.isEmpty_cons, List.isEmpty_nil, List.cons_append, List.nil_append, List.append_nil, List.flatten_nil, List.flatten_cons, List.replicate_succ, List.replicate_zero, List.map_cons, List.map_nil, List.contains_cons, List.contains_nil, Nat.reduceAdd, Nat.reduceSub, Nat.reduceLeDiff, Nat.reduceBEq, Bool.true_and, Bool.and_true, Bool.false_and, Bool.and_false, Bool.or_true, Bool.true_or, Bool.or_false, Bool.false_or, Bool.not_true, Bool.not_false, beq_self_eq_true, decide_true, decide_false, if_true, if_false, reduceIte, Bool.false_eq_true, Bool.true_eq_false, ite_true, ite_false, reduceCtorEq, ne_eq, not_true_eq_false, not_false_eq_true, and_self, and_true, true_and, and_false, false_and, or_true, true_or, or_false, false_or, Int.cast_ofNat_Int, Int.reduceLT, Int.reduceLE, Int.reduceNeg, Int.reducePow, Int.reduceEq, Int.reduceNe, Int.reduceToNat, Int.reduceMul, Int.reduceAdd, Int.reduceSub, Nat.reduceLT, Nat.reducePow, atI_0, atI_1, atI_2, atI_3, ixN_0, ixN_1, ixN_2, List.length_map, List.length_append, decide_eq_true_eq, isi_bool_non, isi_bool_bl, isi_bool_int, isi_bool_str, isi_bool_tup, isi_bool_lst, isi_int_non, isi_int_bl, isi_int_int, isi_int_str, isi_int_tup, isi_int_lst, isi_str_non, isi_str_bl, isi_str_int, isi_str_str, isi_str_tup, isi_str_lst, isi_tuple_non, isi_tuple_bl, isi_tuple_int, isi_tuple_str, isi_tuple_tup, isi_tuple_lst, isi_list_non, isi_list_bl, isi_list_int, isi_list_str, isi_list_tup, isi_list_lst, prs_own, prs_known, den_draw, eq_self, Option.isNone_none, Option.isNone_some, intsOf_map, intsOf_mapf, fitL_small, fit62_small, fit63_small, fit64_small, fit30_small, fitP_small, if_pos, if_neg, *])
local macro_rules | `(tactic| walk_at "ev") => `(tactic| (refine wp_of (by walk_at "dl"; with_reducible exact rfl) (wp_some ?_)))
local macro_rules | `(tactic| walk_at "cl") => `(tactic| simp (config := { failIfUnchanged := false }) only [Nx, Fg, Fi, fgt, hide, backS, back1, List.set_cons_zero, List.set_cons_succ, List.getElem?_cons_zero, List.getElem?_cons_succ, List.length_cons, List.length_nil, Nat.reduceAdd, Nat.reduceSub, List.replicate_succ, List.replicate_zero, List.cons_append, List.nil_append, still, fin, isOwn_val, isOwn_own, isOwn_oob, isOwn_odK, isOwn_odT, isOwn_ownA, isOwn_no, prs_own, Bool.not_true, Bool.not_false, Bool.true_or, Bool.false_or, Bool.true_and, Bool.and_true, Bool.or_true, if_true, if_false, Bool.false_eq_true, reduceIte, true_and, and_true])
local macro_rules | `(tactic| walk_at "go") => `(tactic| (repeat (first
  | with_reducible refine wp_seq ?_
  | (with_reducible refine wp_fgtThen ?_; walk_at "cl")
  | with_reducible refine wp_thenFgt ?_
  | (with_reducible refine wp_set ?_; walk_at "ev"; walk_at "cl")
  | (with_reducible refine wp_drop ?_; walk_at "ev"; walk_at "cl")
  | (with_reducible refine wp_ret ?_; walk_at "ev"; walk_at "cl")
  | (with_reducible refine wp_nop ?_; walk_at "cl")
  | (with_reducible refine wp_src ?_; walk_at "ev"; walk_at "cl")
  | (walk_at "ev"; walk_at "cl"))))
local macro_rules | `(tactic| walk_at "in") => `(tactic| (first
  | with_reducible refine wp_set ?_
  | with_reducible refine wp_drop ?_
  | with_reducible refine wp_ret ?_
  | with_reducible refine wp_if ?_
  | with_reducible refine wp_src ?_
  | (with_reducible refine wp_aug rfl ?_)
  | with_reducible refine wp_putIx ?_
  | with_reducible refine wp_vl ?_
  | with_reducible refine wp_lc ?_
  | with_reducible refine wp_call ?_
  | with_reducible refine wp_acons ?_
  | with_reducible refine wp_op2 ?_
  | with_reducible refine wp_opN ?_
  | with_reducible refine wp_tup ?_
  | with_reducible refine wp_lst ?_
  | with_reducible refine wp_useC ?_
  | with_reducible refine wp_mtL ?_
  | with_reducible refine wp_ife ?_
  | with_reducible refine wp_andV ?_
  | with_reducible refine wp_b ?_
  | with_reducible refine wp_tru ?_
  | with_reducible refine wp_notT ?_
  | with_reducible refine wp_orT ?_
  | with_reducible refine wp_andT ?_
  | with_reducible refine wp_srcLst ?_
  | with_reducible refine wp_srcRng ?_
  | with_reducible refine wp_putF ?_
  | with_reducible refine wp_make ?_
  | with_reducible refine wp_meth ?_
  | with_reducible refine wp_asgG ?_
  | with_reducible refine wp_useA ?_
  | with_reducible refine wp_orV ?_))
local macro_rules | `(tactic| walk_at "all") => `(tactic| (walk_at "go"; repeat (walk_at "in"; walk_at "go")))
def prevR (w : Wd) : Nat → List Int
  | 0 => []
  | j + 1 => rl (w.T j) (w.ws.length + 1)
theorem rl_gI {f : Nat → Int} {n i : Nat} (h : i < n) : gI (rl f n) i = f i := by
  unfold gI rl
  rw [List.getElem?_map, List.getElem?_range h]
  rfl
theorem next_rowP {w : Wd} {j : Nat} (hj : j ≤ 40) : den_Endless_next_row [.val (.obj "Endless" (endF w)), .val (.int (1 + (j : Int))), .val (.lst ((prevR w j).map D.int))] = some (.own ((prevR w (j + 1)).map D.int), [.no, .no, .no]) := by
  refine next_row (us := prevR w j) hj ?_
  cases j with
  | zero => exact .inl ⟨rfl, fun i => T_row0 w i⟩
  | succ j =>
    refine .inr ⟨rl_len _ _, fun i hi => ?_⟩
    have e : gI (prevR w (j + 1)) (i + 1) = w.T j (i + 1) := rl_gI (by omega)
    rw [e]
    have := w.w4
    exact ⟨T_rowS w j i, w.T_le (by omega) (by omega)⟩
def rowT (w : Wd) (j : Nat) : D := .tup ((prevR w (j + 1)).map D.int)
theorem times {w : Wd} {x : Nat} (hx : x ≤ 30) : den_Endless_times [.val (.obj "Endless" (endF w)), .val (.int x)] = some (.own ((List.range x).map (rowT w)), [.no, .no]) := by
  have c1 : den_check [.val (.str "endless"), .val (.int x)] = some (.val .non, [.no, .no]) := by
    refine wp_to (wp_den rfl ?_)
    unfold f_check
    have e : tab_LIMITS.lookup ("endless" : Str) = some 400 := by decide +kernel
    walk_at "all"
  have hw4 := w.w4
  refine wp_to (wp_den rfl ?_)
  unfold f_Endless_times
  walk_at "all"
  rw [upto1']
  refine wp_for (α := List D × List Int) (fun a => [.val (.obj "Endless" (endF w)), .val (.int x), .own a.1, .own (a.2.map D.int), .no]) (fun i a => a = ((List.range i).map (rowT w), prevR w i)) ([], []) rfl rfl ?_ ?_
  · rintro i d a hd rfl
    obtain ⟨i', hi', rfl⟩ := Option.map_eq_some_iff.mp (List.getElem?_map ▸ hd)
    obtain ⟨hi, e⟩ := List.getElem?_eq_some_iff.mp hi'
    rw [List.length_range] at hi
    rw [List.getElem_range] at e
    subst e
    clear hd hi'
    have c2 := next_rowP (w := w) (j := i) (by omega)
    have ob : isObj "Endless" "next_row" (.obj "Endless" (endF w)) = true := rfl
    have hl : ((List.range i).map (rowT w)).length < 100 := by rw [List.length_map, List.length_range]; omega
    have hk : ∃ a' : List D × List Int, (Ou.nx [.val (.obj "Endless" (endF w)), .val (.int x), .own ((List.range i).map (rowT w) ++ [rowT w i]), .own ((prevR w (i + 1)).map D.int), .no] = .nx [.val (.obj "Endless" (endF w)), .val (.int x), .own a'.1, .own (a'.2.map D.int), .no] ∨ Ou.nx [.val (.obj "Endless" (endF w)), .val (.int x), .own ((List.range i).map (rowT w) ++ [rowT w i]), .own ((prevR w (i + 1)).map D.int), .no] = .ct [.val (.obj "Endless" (endF w)), .val (.int x), .own a'.1, .own (a'.2.map D.int), .no]) ∧ a' = ((List.range (i + 1)).map (rowT w), prevR w (i + 1)) := ⟨_, .inl (by rw [List.range_succ, List.map_append]; rfl), rfl⟩
    dsimp only at hk ⊢
    generalize (List.range i).map (rowT w) = R at *
    unfold rowT at hk
    generalize (prevR w i).map D.int = A1 at *
    generalize (prevR w (i + 1)).map D.int = A2 at *
    refine ⟨_, rfl, ?_⟩
    walk_at "cl"
    walk_at "all"
    exact hk
  · rintro a rfl
    rw [List.length_map, List.length_range]
    walk_at "cl"
    walk_at "all"
def wt (w : Wd) (j : Nat) : Int := w.T j w.ws.length - w.T j 0
theorem waits {w : Wd} {x : Nat} (hx : x ≤ 30) : den_Endless_waits [.val (.obj "Endless" (endF w)), .val (.int x)] = some (.own ((List.range x).map fun j => D.int (wt w j)), [.no, .no]) := by
  have c1 := times (w := w) hx
  have ob : isObj "Endless" "times" (.obj "Endless" (endF w)) = true := rfl
  refine wp_to (wp_den rfl ?_)
  unfold f_Endless_waits
  walk_at "all"
  refine wp_lcMap (rowT w) (fun j => D.int (wt w j)) (List.range x) rfl ?_ ?_
  · intro j hj
    have g0 : atI ((prevR w (j + 1)).map D.int) 0 = some (.int (w.T j 0)) := by
      have := rl_at (f := w.T j) (n := w.ws.length + 1) (i := 0) (by omega)
      exact this
    have g1 : atI ((prevR w (j + 1)).map D.int) (-1) = some (.int (w.T j w.ws.length)) := by
      show atI ((rl (w.T j) (w.ws.length + 1)).map D.int) (-1) = _
      rw [rl_succ, List.map_append]
      exact atI_last _ _
    unfold rowT wt
    generalize (prevR w (j + 1)).map D.int = R at *
    clear c1
    refine ⟨_, rfl, rfl, wp_to ?_, rfl⟩
    walk_at "cl"
    walk_at "all"
  walk_at "cl"
  walk_at "all"
end
end k48
namespace k48
open PySem PySem.Spec PyProof.Rows L2 DL
noncomputable section
local macro_rules | `(tactic| walk_at "dl") => `(tactic| simp (config := { maxSteps := 1000000, failIfUnchanged := false }) (disch := omega) only [frz, vl, fC, fName, fMove, fOp2, fOp1, known_val, known_own, known_oob, known_odK, known_odT, known_ownA, known_no, knownAt, fOpN, i2, gAdd, DL.gSub, gMul, gMod, gDiv, gPow, gShl, gShr, gAnd, gLt, gLe, gGt, gGe, gNeg, gCat, gCatT, gRep, gPlus, gTimes, gEq_int, gEq_bl, gNe_int, DL.isNon, gIs, gIsNot, gIn_int, gNotIn_int, fInN, seqOf, gIx, gIxD, fNoPart, fPart, gSl, fSl, fANil, fACons, fLst, fTup, fRev, fB, fAndT, fOrT, fNotT, fAndV, fOrV, fNotV, fIfE, gTru, fTru, fTruN, fBSlot, res, fCall, gLen, lstOf, gSum, gMax1, gMin1, gMax2, gMin2, gMax, gMin, gAbs, gInt, gList, gTuple, gSorted_int, gSorted_own, gSorted_mapf, gSorted_ownf, gSorted_pair, gSorted_ownP, lnK_n, lnK_s, lnK_p, lnK_c, lnK_z, fKGet, fKGetN, fDisp, fDIn, fDIx, sDPutT, fNewT, keyT, keysOf, sNop, sBrk, sCont, sSeq, sIf, sRet, sRetN, sDrop, sNever, sSet, fgt, sThenFgt, sFgtThen, fMt, isLst, lstAt, fMtL, gAppend, gPopAt, sPutIx, tgName, tgNil, tgCons, tgTup, sAsgG, rLst, rTup, rRng, rRng2, rEnum, rZip, sFor, sWhile, hide, back1, backS, fYes, fLc, still, fin, keptBy, denOf, give, fUse,  fMeth, fMake, fFld, objOf, fFldN, sPutF, sAug, sAugIx, fChain, fIxK, fIsi, fUseT, gDivmod, isOwn_val, isOwn_own, isOwn_oob, isOwn_odK, isOwn_odT, isOwn_ownA, isOwn_no, Option.bind_some, Option.bind_none, Option.map_some, Option.map_none, Option.or_some, Option.or_none, Option.none_or, Option.or, List.getElem?_cons_zero, List.getElem?_cons_succ, List.set_cons_zero, List.set_cons_succ, List.length_cons, List.length_nil, List.all_cons, List.all_nil, List.isEmpty_cons, List.isEmpty_nil, List.cons_append, List.nil_append, List.append_nil, List.flatten_nil, List.flatten_cons, List.replicate_succ, List.replicate_zero, List.map_cons, List.map_nil, List.contains_cons, List.contains_nil, Nat.reduceAdd, Nat.reduceSub, Nat.reduceLeDiff, Nat.reduceBEq, Bool.true_and, Bool.and_true, Bool.false_and, Bool.and_false, Bool.or_true, Bool.true_or, Bool.or_false, Bool.false_or, Bool.not_true, Bool.not_false, beq_self_eq_true, decide_true, decide_false, if_true, if_false, reduceIte, Bool.false_eq_true, Bool.true_eq_false, ite_true, ite_false, reduceCtorEq, ne_eq, not_true_eq_false, not_false_eq_true, and_self, and_true, true_and, and_false, false_and, or_true, true_or, or_false, false_or, Int.cast_ofNat_Int, Int.reduceLT, Int.reduceLE, Int.reduceNeg, Int.reducePow, Int.reduceEq, Int.reduceNe, Int.reduceToNat, Int.reduceMul, Int.reduceAdd, Int.reduceSub, Nat.reduceLT, Nat.reducePow, atI_0, atI_1, atI_2, atI_3, ixN_0, ixN_1, ixN_2, List.length_map, List.length_append, decide_eq_true_eq, isi_bool_non, isi_bool_bl, isi_bool_int, isi_bool_str, isi_bool_tup, isi_bool_lst, isi_int_non, isi_int_bl, isi_int_int, isi_int_str, isi_int_tup, isi_int_lst, isi_str_non, isi_str_bl, isi_str_int, isi_str_str, isi_str_tup, isi_str_lst, isi_tuple_non, isi_tuple_bl, isi_tuple_int, isi_tuple_str, isi_tuple_tup, isi_tuple_lst, isi_list_non, isi_list_bl, isi_list_int, isi_list_str, isi_list_tup, isi_list_lst, prs_own, prs_known, den_draw, eq_self, Option.isNone_none, Option.isNone_some, intsOf_map, intsOf_mapf, fitL_small, fit62_small, fit63_small, fit64_small, fit30_small, fitP_small, if_pos, if_neg, *])
local macro_rules | `(tactic| walk_at "ev") => `(tactic| (refine wp_of (by walk_at "dl"; with_reducible exact rfl) (wp_some ?_)))
local macro_rules | `(tactic| walk_at "cl") => `(tactic| simp (config := { failIfUnchanged := false }) only [Nx, Fg, Fi, fgt, hide, backS, back1, List.set_cons_zero, List.set_cons_succ, List.getElem?_cons_zero, List.getElem?_cons_succ, List.length_cons, List.length_nil, Nat.reduceAdd, Nat.reduceSub, List.replicate_succ, List.replicate_zero, List.cons_append, List.nil_append, still, fin, isOwn_val, isOwn_own, isOwn_oob, isOwn_odK, isOwn_odT, isOwn_ownA, isOwn_no, prs_own, Bool.not_true, Bool.not_false, Bool.true_or, Bool.false_or, Bool.true_and, Bool.and_true, Bool.or_true, if_true, if_false, Bool.false_eq_true, reduceIte, true_and, and_true])
local macro_rules | `(tactic| walk_at "go") => `(tactic| (repeat (first
  | with_reducible refine wp_seq ?_
  | (with_reducible refine wp_fgtThen ?_; walk_at "cl")
  | with_reducible refine wp_thenFgt ?_
  | (with_reducible refine wp_set ?_; walk_at "ev"; walk_at "cl")
  | (with_reducible refine wp_drop ?_; walk_at "ev"; walk_at "cl")
  | (with_reducible refine wp_ret ?_; walk_at "ev"; walk_at "cl")
  | (with_reducible refine wp_nop ?_; walk_at "cl")
  | (with_reducible refine wp_src ?_; walk_at "ev"; walk_at "cl")
  | (walk_at "ev"; walk_at "cl"))))
local macro_rules | `(tactic| walk_at "in") => `(tactic| (first
  | with_reducible refine wp_set ?_
  | with_reducible refine wp_drop ?_
  | with_reducible refine wp_ret ?_
  | with_reducible refine wp_if ?_
  | with_reducible refine wp_src ?_
  | (with_reducible refine wp_aug rfl ?_)
  | with_reducible refine wp_putIx ?_
  | with_reducible refine wp_vl ?_
  | with_reducible refine wp_lc ?_
  | with_reducible refine wp_call ?_
  | with_reducible refine wp_acons ?_
  | with_reducible refine wp_op2 ?_
  | with_reducible refine wp_opN ?_
  | with_reducible refine wp_tup ?_
  | with_reducible refine wp_lst ?_
  | with_reducible refine wp_useC ?_
  | with_reducible refine wp_mtL ?_
  | with_reducible refine wp_ife ?_
  | with_reducible refine wp_andV ?_
  | with_reducible refine wp_b ?_
  | with_reducible refine wp_tru ?_
  | with_reducible refine wp_notT ?_
  | with_reducible refine wp_orT ?_
  | with_reducible refine wp_andT ?_
  | with_reducible refine wp_srcLst ?_
  | with_reducible refine wp_srcRng ?_
  | with_reducible refine wp_putF ?_
  | with_reducible refine wp_make ?_
  | with_reducible refine wp_meth ?_
  | with_reducible refine wp_asgG ?_
  | with_reducible refine wp_useA ?_
  | with_reducible refine wp_orV ?_))
local macro_rules | `(tactic| walk_at "all") => `(tactic| (walk_at "go"; repeat (walk_at "in"; walk_at "go")))
/-! what the law makes -/
def dW (w : Wd) (us : List Int) : D := .tup [.int w.p, .lst (us.map D.int), .lst (w.cm.map D.int)]
theorem calendar_world {p : Pur} : ∃ (w : Wd) (p' : Pur), den_law_calendar_world [prs p] = some (.val (dW w w.ws), [prs p']) := by
  suffices hW : Wp (den_law_calendar_world [prs p]) fun q => ∃ (w : Wd) (p' : Pur), q = (.val (dW w w.ws), [prs p']) by
    obtain ⟨q, e, w, p', rfl⟩ := hW
    exact ⟨w, p', e⟩
  refine wp_den rfl ?_
  unfold f_law_calendar_world
  have d1 := dr_lo (p := p) (m := 11) (by omega) (by omega)
  have d2 := dr_hi (p := p) (m := 11) (by omega) (by omega)
  obtain ⟨n, hn⟩ : ∃ n : Nat, 2 + dr p 11 = (n : Int) := ⟨(2 + dr p 11).toNat, by omega⟩
  have d3 := dr_lo (p := dp p 11) (m := 4) (by omega) (by omega)
  have d4 := dr_hi (p := dp p 11) (m := 4) (by omega) (by omega)
  obtain ⟨k, hk⟩ : ∃ k : Nat, 1 + dr (dp p 11) 4 = ((k + 1 : Nat) : Int) := ⟨(dr (dp p 11) 4).toNat, by omega⟩
  have hk4 : k ≤ 3 := by omega
  have hn2 : 2 ≤ n := by omega
  have hn12 : n ≤ 12 := by omega
  clear d1 d2 d3 d4
  walk_at "all"
  rw [upto0]
  refine wp_lcAll (fun (a : Pur) => [prs a, .val (.int n), .no, .no, .no, .no]) (fun (j : Nat) => D.int (j : Int)) D.int (fun _ c => 1 ≤ c ∧ c ≤ 5 ∧ c ≤ (n : Int)) (List.range (k + 1)) _ rfl rfl ?_ ?_
  · intro j hj a
    by_cases g : (5 : Int) < n
    · have d1 := dr_lo (p := a) (m := 5) (by omega) (by omega)
      have d2 := dr_hi (p := a) (m := 5) (by omega) (by omega)
      refine ⟨_, rfl, ?_⟩
      walk_at "cl"
      walk_at "all"
      exact ⟨_, _, ⟨by omega, by omega, by omega⟩, rfl, rfl⟩
    · have d1 := dr_lo (p := a) (m := n) (by omega) (by omega)
      have d2 := dr_hi (p := a) (m := n) (by omega) (by omega)
      refine ⟨_, rfl, ?_⟩
      walk_at "cl"
      walk_at "all"
      exact ⟨_, _, ⟨by omega, by omega, by omega⟩, rfl, rfl⟩
  intro ws a1 hl1 hR1
  rw [List.length_range] at hl1
  have all_of : ∀ {R : Int → Prop} {zs : List Int} {k : Nat}, zs.length = k → (∀ (i : Nat) (x : Nat) (z : Int), (List.range k)[i]? = some x → zs[i]? = some z → R z) → ∀ z ∈ zs, R z := fun hl hR z hz => by
    obtain ⟨i, hi, e⟩ := List.getElem_of_mem hz
    exact hR i i z (by rw [List.getElem?_range (by omega)]) (by rw [List.getElem?_eq_getElem hi, e])
  have hws := all_of (R := fun c => 1 ≤ c ∧ c ≤ 5 ∧ c ≤ (n : Int)) hl1 hR1
  clear hR1
  have d3 := dr_lo (p := a1) (m := 4) (by omega) (by omega)
  have d4 := dr_hi (p := a1) (m := 4) (by omega) (by omega)
  obtain ⟨m, hm⟩ : ∃ m : Nat, 1 + dr a1 4 = ((m + 1 : Nat) : Int) := ⟨(dr a1 4).toNat, by omega⟩
  have hm4 : m ≤ 3 := by omega
  clear d3 d4
  have hz : Bx (∀ zs : List Int, zs.length = m + 1 → (∀ z ∈ zs, 0 ≤ z ∧ z ≤ (n : Int) - 1) → ∃ w : Wd, w.p = n ∧ w.ws = ws ∧ w.cm = sortI zs) := ⟨fun zs h1 h2 => by
    have hlen := (sortI_perm zs).length_eq
    exact ⟨⟨n, ws, sortI zs, hn2, hn12, by omega, by omega, hws, by omega, by omega, fun c hc => h2 c ((sortI_perm zs).mem_iff.mp hc), sortI_le zs⟩, rfl, rfl, rfl⟩⟩
  clear hws hl1
  walk_at "cl"
  walk_at "all"
  rw [upto0]
  refine wp_lcAll (fun (a : Pur) => [prs a, .val (.int n), .own (ws.map D.int), .no, .no, .no]) (fun (j : Nat) => D.int (j : Int)) D.int (fun _ c => 0 ≤ c ∧ c ≤ (n : Int) - 1) (List.range (m + 1)) _ rfl rfl ?_ ?_
  · intro j hj a
    have d1 := dr_lo (p := a) (m := n) (by omega) (by omega)
    have d2 := dr_hi (p := a) (m := n) (by omega) (by omega)
    refine ⟨_, rfl, ?_⟩
    walk_at "cl"
    walk_at "all"
    exact ⟨_, _, ⟨by omega, by omega⟩, rfl, rfl⟩
  intro zs a2 hl2 hR2
  rw [List.length_range] at hl2
  have hzs := all_of (R := fun c => 0 ≤ c ∧ c ≤ (n : Int) - 1) hl2 hR2
  obtain ⟨w, w1, w2, w3⟩ := hz.out zs hl2 hzs
  clear hR2 hzs hz all_of
  unfold dW
  subst w1 w2
  have w3 : Bx (w.cm = sortI zs) := ⟨w3⟩
  walk_at "cl"
  walk_at "all"
  exact ⟨w, a2, by rw [w3.out]⟩
end
end k48
namespace k48
open PySem PySem.Spec PyProof.Rows L2 DL
noncomputable section
local macro_rules | `(tactic| walk_at "dl") => `(tactic| simp (config := { maxSteps := 1000000, failIfUnchanged := false }) (disch := omega) only [frz, vl, fC, fName, fMove, fOp2, fOp1, known_val, known_own, known_oob, known_odK, known_odT, known_ownA, known_no, knownAt, fOpN, i2, gAdd, DL.gSub, gMul, gMod, gDiv, gPow, gShl, gShr, gAnd, gLt, gLe, gGt, gGe, gNeg, gCat, gCatT, gRep, gPlus, gTimes, gEq_int, gEq_bl, gNe_int, DL.isNon, gIs, gIsNot, gIn_int, gNotIn_int, fInN, seqOf, gIx, gIxD, fNoPart, fPart, gSl, fSl, fANil, fACons, fLst, fTup, fRev, fB, fAndT, fOrT, fNotT, fAndV, fOrV, fNotV, fIfE, gTru, fTru, fTruN, fBSlot, res, fCall, gLen, lstOf, gSum, gMax1, gMin1, gMax2, gMin2, gMax, gMin, gAbs, gInt, gList, gTuple, gSorted_int, gSorted_own, gSorted_mapf, gSorted_ownf, gSorted_pair, gSorted_ownP, lnK_n, lnK_s, lnK_p, lnK_c, lnK_z, fKGet, fKGetN, fDisp, fDIn, fDIx, sDPutT, fNewT, keyT, keysOf, sNop, sBrk, sCont, sSeq, sIf, sRet, sRetN, sDrop, sNever, sSet, fgt, sThenFgt, sFgtThen, fMt, isLst, lstAt, fMtL, gAppend, gPopAt, sPutIx, tgName, tgNil, tgCons, tgTup, sAsgG, rLst, rTup, rRng, rRng2, rEnum, rZip, sFor, sWhile, hide, back1, backS, fYes, fLc, still, fin, keptBy, denOf, give, fUse,  fMeth, fMake, fFld, objOf, fFldN, sPutF, sAug, sAugIx, fChain, fIxK, fIsi, fUseT, gDivmod, isOwn_val, isOwn_own, isOwn_oob, isOwn_odK, isOwn_odT, isOwn_ownA, isOwn_no, Option.bind_some, Option.bind_none, Option.map_some, Option.map_none, Option.or_some, Option.or_none, Option.none_or, Option.or, List.getElem?_cons_zero, List.getElem?_cons_succ, List.set_cons_zero, List.set_cons_succ, List.length_cons, List.length_nil, List.all_cons, List.all_nil, List.isEmpty_cons, List.isEmpty_nil, List.cons_append, List.nil_append, List.append_nil, List.flatten_nil, List.flatten_cons, List.replicate_succ, List.replicate_zero, List.map_cons, List.map_nil, List.contains_cons, List.contains_nil, Nat.reduceAdd, Nat.reduceSub, Nat.reduceLeDiff, Nat.reduceBEq, Bool.true_and, Bool.and_true, Bool.false_and, Bool.and_false, Bool.or_true, Bool.true_or, Bool.or_false, Bool.false_or, Bool.not_true, Bool.not_false, beq_self_eq_true, decide_true, decide_false, if_true, if_false, reduceIte, Bool.false_eq_true, Bool.true_eq_false, ite_true, ite_false, reduceCtorEq, ne_eq, not_true_eq_false, not_false_eq_true, and_self, and_true, true_and, and_false, false_and, or_true, true_or, or_false, false_or, Int.cast_ofNat_Int, Int.reduceLT, Int.reduceLE, Int.reduceNeg, Int.reducePow, Int.reduceEq, Int.reduceNe, Int.reduceToNat, Int.reduceMul, Int.reduceAdd, Int.reduceSub, Nat.reduceLT, Nat.reducePow, atI_0, atI_1, atI_2, atI_3, ixN_0, ixN_1, ixN_2, List.length_map, List.length_append, decide_eq_true_eq, isi_bool_non, isi_bool_bl, isi_bool_int, isi_bool_str, isi_bool_tup, isi_bool_lst, isi_int_non, isi_int_bl, isi_int_int, isi_int_str, isi_int_tup, isi_int_lst, isi_str_non, isi_str_bl, isi_str_int, isi_str_str, isi_str_tup, isi_str_lst, isi_tuple_non, isi_tuple_bl, isi_tuple_int, isi_tuple_str, isi_tuple_tup, isi_tuple_lst, isi_list_non, isi_list_bl, isi_list_int, isi_list_str, isi_list_tup, isi_list_lst, prs_own, prs_known, den_draw, eq_self, Option.isNone_none, Option.isNone_some, intsOf_map, intsOf_mapf, fitL_small, fit62_small, fit63_small, fit64_small, fit30_small, fitP_small, if_pos, if_neg, *])
local macro_rules | `(tactic| walk_at "ev") => `(tactic| (refine wp_of (by walk_at "dl"; with_reducible exact rfl) (wp_some ?_)))
local macro_rules | `(tactic| walk_at "cl") => `(tactic| simp (config := { failIfUnchanged := false }) only [Nx, Fg, Fi, fgt, hide, backS, back1, List.set_cons_zero, List.set_cons_succ, List.getElem?_cons_zero, List.getElem?_cons_succ, List.length_cons, List.length_nil, Nat.reduceAdd, Nat.reduceSub, List.replicate_succ, List.replicate_zero, List.cons_append, List.nil_append, still, fin, isOwn_val, isOwn_own, isOwn_oob, isOwn_odK, isOwn_odT, isOwn_ownA, isOwn_no, prs_own, Bool.not_true, Bool.not_false, Bool.true_or, Bool.false_or, Bool.true_and, Bool.and_true, Bool.or_true, if_true, if_false, Bool.false_eq_true, reduceIte, true_and, and_true])
local macro_rules | `(tactic| walk_at "go") => `(tactic| (repeat (first
  | with_reducible refine wp_seq ?_
  | (with_reducible refine wp_fgtThen ?_; walk_at "cl")
  | with_reducible refine wp_thenFgt ?_
  | (with_reducible refine wp_set ?_; walk_at "ev"; walk_at "cl")
  | (with_reducible refine wp_drop ?_; walk_at "ev"; walk_at "cl")
  | (with_reducible refine wp_ret ?_; walk_at "ev"; walk_at "cl")
  | (with_reducible refine wp_nop ?_; walk_at "cl")
  | (with_reducible refine wp_src ?_; walk_at "ev"; walk_at "cl")
  | (walk_at "ev"; walk_at "cl"))))
local macro_rules | `(tactic| walk_at "in") => `(tactic| (first
  | with_reducible refine wp_set ?_
  | with_reducible refine wp_drop ?_
  | with_reducible refine wp_ret ?_
  | with_reducible refine wp_if ?_
  | with_reducible refine wp_src ?_
  | (with_reducible refine wp_aug rfl ?_)
  | with_reducible refine wp_putIx ?_
  | with_reducible refine wp_vl ?_
  | with_reducible refine wp_lc ?_
  | with_reducible refine wp_call ?_
  | with_reducible refine wp_acons ?_
  | with_reducible refine wp_op2 ?_
  | with_reducible refine wp_opN ?_
  | with_reducible refine wp_tup ?_
  | with_reducible refine wp_lst ?_
  | with_reducible refine wp_useC ?_
  | with_reducible refine wp_mtL ?_
  | with_reducible refine wp_ife ?_
  | with_reducible refine wp_andV ?_
  | with_reducible refine wp_b ?_
  | with_reducible refine wp_tru ?_
  | with_reducible refine wp_notT ?_
  | with_reducible refine wp_orT ?_
  | with_reducible refine wp_andT ?_
  | with_reducible refine wp_srcLst ?_
  | with_reducible refine wp_srcRng ?_
  | with_reducible refine wp_putF ?_
  | with_reducible refine wp_make ?_
  | with_reducible refine wp_meth ?_
  | with_reducible refine wp_asgG ?_
  | with_reducible refine wp_useA ?_
  | with_reducible refine wp_orV ?_))
local macro_rules | `(tactic| walk_at "all") => `(tactic| (walk_at "go"; repeat (walk_at "in"; walk_at "go")))
theorem check_le {x : Str} {n m : Int} (e : tab_LIMITS.lookup x = some m) (h : n ≤ m) : den_check [.val (.str x), .val (.int n)] = some (.val .non, [.no, .no]) := by
  have hb : ¬(n > m) := by omega
  refine wp_to (wp_den rfl ?_)
  unfold f_check
  walk_at "all"
theorem check_endless {w : Wd} : den_check_endless [.val (.lst (w.ws.map (cal w.p))), .val (.lst (w.cm.map D.int))] = some (.val .non, [.no, .no]) := by
  have h1 := w.w1
  have h4 := w.w4
  have g1 := w.c1
  have g4 := w.c4
  have c1 := check_le (x := "sights") (n := w.ws.length) (m := 8) (by decide +kernel) (by omega)
  have c2 := check_le (x := "daily") (n := w.cm.length) (m := 9) (by decide +kernel) (by omega)
  have e1 : ¬((w.ws.length : Int) = 0) := by omega
  have e2 : ¬((w.cm.length : Int) = 0) := by omega
  have a0 := cals_at (w := w) (i := 0) (by omega)
  have a0 : atI (w.ws.map (cal w.p)) 0 = some (cal w.p (w.A 0)) := a0
  have d0 : den_Calendar_day [.val (cal w.p (w.A 0))] = some (.val (.int w.p), [.no]) := cal_day
  have ob0 : isObj "Calendar" "day" (cal w.p (w.A 0)) = true := rfl
  generalize cal w.p (w.A 0) = K0 at *
  refine wp_to (wp_den rfl ?_)
  unfold f_check_endless
  walk_at "all"
  refine ⟨_, forD_all (fun (a : Int) => cal w.p a) w.ws ?_, ?_⟩
  · intro a ha
    have d1 : den_Calendar_day [.val (cal w.p a)] = some (.val (.int w.p), [.no]) := cal_day
    have ob1 : isObj "Calendar" "day" (cal w.p a) = true := rfl
    generalize cal w.p a = K1 at *
    refine ⟨_, rfl, wp_to ?_⟩
    walk_at "cl"
    walk_at "all"
  walk_at "cl"
  walk_at "all"
  refine wp_for (α := Int) (fun a => [.val (.lst (w.ws.map (cal w.p))), .val (.lst (w.cm.map D.int)), .no, .val (.int a), .no]) (fun i a => 0 ≤ a ∧ ∀ j, i ≤ j → j < w.cm.length → a ≤ gI w.cm j) 0 rfl ⟨Int.le_refl _, fun j _ hj => (w.cb _ (gI_mem hj)).1⟩ ?_ ?_
  · rintro i d a hd ⟨k1, k2⟩
    obtain ⟨c, hc, rfl⟩ := Option.map_eq_some_iff.mp (List.getElem?_map ▸ hd)
    have hi := (List.getElem?_eq_some_iff.mp hc).1
    have hg : gI w.cm i = c := by
      have := gI_get hi
      rw [hc] at this
      exact (Option.some.inj this).symm
    have b1 := k2 i (Nat.le_refl _) hi
    rw [hg] at b1
    have b2 := (w.cb _ (gI_mem hi)).2
    rw [hg] at b2
    have hk : Bx (0 ≤ c ∧ ∀ j, i + 1 ≤ j → j < w.cm.length → c ≤ gI w.cm j) := ⟨by omega, fun j h1 h2 => by
      have := List.pairwise_iff_getElem.mp w.ca i j hi h2 (by omega)
      have e1 := gI_get hi
      have e2 := gI_get h2
      rw [List.getElem?_eq_getElem hi] at e1
      rw [List.getElem?_eq_getElem h2] at e2
      have e1 := Option.some.inj e1
      have e2 := Option.some.inj e2
      omega⟩
    clear hd hc hi hg k2
    refine ⟨_, rfl, ?_⟩
    walk_at "cl"
    walk_at "all"
    exact ⟨c, .inl rfl, hk.out⟩
  · rintro a _
    walk_at "cl"
    walk_at "all"
theorem Endless_init {w : Wd} : den_Endless_init [.oob "Endless" [], .val (.lst (w.ws.map (cal w.p))), .val (.lst (w.cm.map D.int))] = some (.val .non, [.oob "Endless" (endF w), .no, .no]) := by
  have c1 := check_endless (w := w)
  have h1 := w.w1
  have a0 := cals_at (w := w) (i := 0) (by omega)
  have a0 : atI (w.ws.map (cal w.p)) 0 = some (cal w.p (w.A 0)) := a0
  have d0 : den_Calendar_day [.val (cal w.p (w.A 0))] = some (.val (.int w.p), [.no]) := cal_day
  have ob0 : isObj "Calendar" "day" (cal w.p (w.A 0)) = true := rfl
  unfold endF
  generalize cal w.p (w.A 0) = K0 at *
  generalize w.ws.map (cal w.p) = KS at *
  generalize w.cm.map D.int = CS at *
  have p1 : ∀ d, putD ("calendar_list" : Str) d [] = [(("calendar_list" : Str), d)] := fun _ => rfl
  have p2 : ∀ d e, putD ("coming_list" : Str) d [(("calendar_list" : Str), e)] = [(("calendar_list" : Str), e), (("coming_list" : Str), d)] := fun _ _ => rfl
  have p3 : ∀ d e f, putD ("day_number" : Str) d [(("calendar_list" : Str), e), (("coming_list" : Str), f)] = [(("calendar_list" : Str), e), (("coming_list" : Str), f), (("day_number" : Str), d)] := fun _ _ _ => rfl
  refine wp_to (wp_den rfl ?_)
  unfold f_Endless_init
  walk_at "all"
theorem law_endless {w : Wd} {vs : List Int} : den_law_endless [.val (dW w vs), .val (.lst (w.ws.map D.int))] = some (.val (eO w), [.no, .no]) := by
  have c1 := Endless_init (w := w)
  have h4 := w.w4
  have g4 := w.c4
  refine wp_to (wp_den rfl ?_)
  unfold f_law_endless dW
  walk_at "all"
  refine wp_for (α := List D) (fun a => [.val (.tup [.int w.p, .lst (vs.map D.int), .lst (w.cm.map D.int)]), .val (.lst (w.ws.map D.int)), .own a, .no, .no]) (fun i a => a = (w.ws.take i).map (cal w.p)) [] rfl rfl ?_ ?_
  · rintro i d a hd rfl
    obtain ⟨c, hc, rfl⟩ := Option.map_eq_some_iff.mp (List.getElem?_map ▸ hd)
    have hcm : c ∈ w.ws := List.mem_of_getElem? hc
    have hb := w.wb c hcm
    have c2 := Calendar_init (p := w.p) (a := c) w.p2 w.p12 hb.1 hb.2.2
    have hl : ((w.ws.take i).map (cal w.p)).length < 100 := by rw [List.length_map, List.length_take]; omega
    have hk : ∃ a', a' = (w.ws.take (i + 1)).map (cal w.p) ∧ a' = (w.ws.take i).map (cal w.p) ++ [.obj "Calendar" (calF w.p c)] := ⟨_, rfl, by rw [List.take_succ, hc, List.map_append]; rfl⟩
    obtain ⟨a', k1, k2⟩ := hk
    rw [← k1]
    generalize (w.ws.take i).map (cal w.p) = R at *
    have hp := w.p12
    clear hd hc hcm k1 c1
    refine ⟨_, rfl, ?_⟩
    walk_at "cl"
    walk_at "all"
    rw [if_pos ⟨rfl, rfl⟩]
    walk_at "all"
    rw [upto1']
    refine wp_lcMap (fun (i : Nat) => D.int (1 + (i : Int))) (fun (i : Nat) => D.tup [.int (1 + (i : Int)), .int (1 + (i : Int) + c - 1)]) (List.range w.p) rfl ?_ ?_
    · intro j hj
      refine ⟨_, rfl, rfl, wp_to ?_, rfl⟩
      walk_at "cl"
      walk_at "all"
    have e : ((List.range w.p).map fun (i : Nat) => D.tup [.int (1 + (i : Int)), .int (1 + (i : Int) + c - 1)]) = (wsp w.p c).map DL.pairD := by unfold wsp; rw [List.map_map]; rfl
    rw [e]
    walk_at "cl"
    walk_at "all"
    exact ⟨a', .inl (by rw [k2]), rfl⟩
  · rintro a rfl
    rw [List.length_map, List.take_length]
    walk_at "cl"
    walk_at "all"
    rfl
end
end k48
namespace k48
open PySem PySem.Spec PyProof.Rows L2 DL
noncomputable section
local macro_rules | `(tactic| walk_at "dl") => `(tactic| simp (config := { maxSteps := 1000000, failIfUnchanged := false }) (disch := omega) only [frz, vl, fC, fName, fMove, fOp2, fOp1, known_val, known_own, known_oob, known_odK, known_odT, known_ownA, known_no, knownAt, fOpN, i2, gAdd, DL.gSub, gMul, gMod, gDiv, gPow, gShl, gShr, gAnd, gLt, gLe, gGt, gGe, gNeg, gCat, gCatT, gRep, gPlus, gTimes, gEq_int, gEq_bl, gNe_int, DL.isNon, gIs, gIsNot, gIn_int, gNotIn_int, fInN, seqOf, gIx, gIxD, fNoPart, fPart, gSl, fSl, fANil, fACons, fLst, fTup, fRev, fB, fAndT, fOrT, fNotT, fAndV, fOrV, fNotV, fIfE, gTru, fTru, fTruN, fBSlot, res, fCall, gLen, lstOf, gSum, gMax1, gMin1, gMax2, gMin2, gMax, gMin, gAbs, gInt, gList, gTuple, gSorted_int, gSorted_own, gSorted_mapf, gSorted_ownf, gSorted_pair, gSorted_ownP, lnK_n, lnK_s, lnK_p, lnK_c, lnK_z, fKGet, fKGetN, fDisp, fDIn, fDIx, sDPutT, fNewT, keyT, keysOf, sNop, sBrk, sCont, sSeq, sIf, sRet, sRetN, sDrop, sNever, sSet, fgt, sThenFgt, sFgtThen, fMt, isLst, lstAt, fMtL, gAppend, gPopAt, sPutIx, tgName, tgNil, tgCons, tgTup, sAsgG, rLst, rTup, rRng, rRng2, rEnum, rZip, sFor, sWhile, hide, back1, backS, fYes, fLc, still, fin, keptBy, denOf, give, fUse,  fMeth, fMake, fFld, objOf, fFldN, sPutF, sAug, sAugIx, fChain, fIxK, fIsi, fUseT, gDivmod, isOwn_val, isOwn_own, isOwn_oob, isOwn_odK, isOwn_odT, isOwn_ownA, isOwn_no, Option.bind_some, Option.bind_none, Option.map_some, Option.map_none, Option.or_some, Option.or_none, Option.none_or, Option.or, List.getElem?_cons_zero, List.getElem?_cons_succ, List.set_cons_zero, List.set_cons_succ, List.length_cons, List.length_nil, List.all_cons, List.all_nil, List.isEmpty_cons, List.isEmpty_nil, List.cons_append, List.nil_append, List.append_nil, List.flatten_nil, List.flatten_cons, List.replicate_succ, List.replicate_zero, List.map_cons, List.map_nil, List.contains_cons, List.contains_nil, Nat.reduceAdd, Nat.reduceSub, Nat.reduceLeDiff, Nat.reduceBEq, Bool.true_and, Bool.and_true, Bool.false_and, Bool.and_false, Bool.or_true, Bool.true_or, Bool.or_false, Bool.false_or, Bool.not_true, Bool.not_false, beq_self_eq_true, decide_true, decide_false, if_true, if_false, reduceIte, Bool.false_eq_true, Bool.true_eq_false, ite_true, ite_false, reduceCtorEq, ne_eq, not_true_eq_false, not_false_eq_true, and_self, and_true, true_and, and_false, false_and, or_true, true_or, or_false, false_or, Int.cast_ofNat_Int, Int.reduceLT, Int.reduceLE, Int.reduceNeg, Int.reducePow, Int.reduceEq, Int.reduceNe, Int.reduceToNat, Int.reduceMul, Int.reduceAdd, Int.reduceSub, Nat.reduceLT, Nat.reducePow, atI_0, atI_1, atI_2, atI_3, ixN_0, ixN_1, ixN_2, List.length_map, List.length_append, decide_eq_true_eq, isi_bool_non, isi_bool_bl, isi_bool_int, isi_bool_str, isi_bool_tup, isi_bool_lst, isi_int_non, isi_int_bl, isi_int_int, isi_int_str, isi_int_tup, isi_int_lst, isi_str_non, isi_str_bl, isi_str_int, isi_str_str, isi_str_tup, isi_str_lst, isi_tuple_non, isi_tuple_bl, isi_tuple_int, isi_tuple_str, isi_tuple_tup, isi_tuple_lst, isi_list_non, isi_list_bl, isi_list_int, isi_list_str, isi_list_tup, isi_list_lst, prs_own, prs_known, den_draw, eq_self, Option.isNone_none, Option.isNone_some, intsOf_map, intsOf_mapf, fitL_small, fit62_small, fit63_small, fit64_small, fit30_small, fitP_small, if_pos, if_neg, *])
local macro_rules | `(tactic| walk_at "ev") => `(tactic| (refine wp_of (by walk_at "dl"; with_reducible exact rfl) (wp_some ?_)))
local macro_rules | `(tactic| walk_at "cl") => `(tactic| simp (config := { failIfUnchanged := false }) only [Nx, Fg, Fi, fgt, hide, backS, back1, List.set_cons_zero, List.set_cons_succ, List.getElem?_cons_zero, List.getElem?_cons_succ, List.length_cons, List.length_nil, Nat.reduceAdd, Nat.reduceSub, List.replicate_succ, List.replicate_zero, List.cons_append, List.nil_append, still, fin, isOwn_val, isOwn_own, isOwn_oob, isOwn_odK, isOwn_odT, isOwn_ownA, isOwn_no, prs_own, Bool.not_true, Bool.not_false, Bool.true_or, Bool.false_or, Bool.true_and, Bool.and_true, Bool.or_true, if_true, if_false, Bool.false_eq_true, reduceIte, true_and, and_true])
local macro_rules | `(tactic| walk_at "go") => `(tactic| (repeat (first
  | with_reducible refine wp_seq ?_
  | (with_reducible refine wp_fgtThen ?_; walk_at "cl")
  | with_reducible refine wp_thenFgt ?_
  | (with_reducible refine wp_set ?_; walk_at "ev"; walk_at "cl")
  | (with_reducible refine wp_drop ?_; walk_at "ev"; walk_at "cl")
  | (with_reducible refine wp_ret ?_; walk_at "ev"; walk_at "cl")
  | (with_reducible refine wp_nop ?_; walk_at "cl")
  | (with_reducible refine wp_src ?_; walk_at "ev"; walk_at "cl")
  | (walk_at "ev"; walk_at "cl"))))
local macro_rules | `(tactic| walk_at "in") => `(tactic| (first
  | with_reducible refine wp_set ?_
  | with_reducible refine wp_drop ?_
  | with_reducible refine wp_ret ?_
  | with_reducible refine wp_if ?_
  | with_reducible refine wp_src ?_
  | (with_reducible refine wp_aug rfl ?_)
  | with_reducible refine wp_putIx ?_
  | with_reducible refine wp_vl ?_
  | with_reducible refine wp_lc ?_
  | with_reducible refine wp_call ?_
  | with_reducible refine wp_acons ?_
  | with_reducible refine wp_op2 ?_
  | with_reducible refine wp_opN ?_
  | with_reducible refine wp_tup ?_
  | with_reducible refine wp_lst ?_
  | with_reducible refine wp_useC ?_
  | with_reducible refine wp_mtL ?_
  | with_reducible refine wp_ife ?_
  | with_reducible refine wp_andV ?_
  | with_reducible refine wp_b ?_
  | with_reducible refine wp_tru ?_
  | with_reducible refine wp_notT ?_
  | with_reducible refine wp_orT ?_
  | with_reducible refine wp_andT ?_
  | with_reducible refine wp_srcLst ?_
  | with_reducible refine wp_srcRng ?_
  | with_reducible refine wp_putF ?_
  | with_reducible refine wp_make ?_
  | with_reducible refine wp_meth ?_
  | with_reducible refine wp_asgG ?_
  | with_reducible refine wp_useA ?_
  | with_reducible refine wp_orV ?_))
local macro_rules | `(tactic| walk_at "all") => `(tactic| (walk_at "go"; repeat (walk_at "in"; walk_at "go")))
theorem perm_sum {us vs : List Int} (h : us.Perm vs) : us.sum = vs.sum := by
  induction h with
  | nil => rfl
  | cons x _ ih => rw [List.sum_cons, List.sum_cons, ih]
  | swap x y _ =>
    rw [List.sum_cons, List.sum_cons, List.sum_cons, List.sum_cons]
    omega
  | trans _ _ a b => exact a.trans b
theorem Sm_take {us : List Int} : ∀ {n : Nat}, n ≤ us.length → Sm (gI us) n = (us.take n).sum
  | 0, _ => rfl
  | n + 1, h => by
    show Sm (gI us) n + gI us n = _
    rw [Sm_take (by omega), List.take_succ, gI_get (by omega), List.sum_append]
    simp
theorem Mx_le {us : List Int} {m : Int} (h0 : 0 ≤ m) (h : ∀ u ∈ us, u ≤ m) : ∀ {n : Nat}, n ≤ us.length → Mx (gI us) n ≤ m
  | 0, _ => h0
  | n + 1, hn => by
    have a := Mx_le h0 h (n := n) (by omega)
    have b := h _ (gI_mem (us := us) (i := n) (by omega))
    show max (Mx (gI us) n) (gI us n) ≤ m
    omega
theorem Mx_ge {us : List Int} : ∀ {n i : Nat}, i < n → gI us i ≤ Mx (gI us) n
  | n + 1, i, h => by
    show _ ≤ max (Mx (gI us) n) (gI us n)
    by_cases e : i = n
    · subst e
      omega
    · have := Mx_ge (us := us) (n := n) (i := i) (by omega)
      omega
/-- the greatest window -/
def Wd.M (w : Wd) : Int := Mx w.A w.ws.length
def Wd.S (w : Wd) : Int := w.ws.sum
theorem Wd.S_eq (w : Wd) : Sm w.A w.ws.length = w.S := by
  have := Sm_take (us := w.ws) (n := w.ws.length) (Nat.le_refl _)
  rw [List.take_length] at this
  exact this
theorem Wd.M_mem (w : Wd) : w.M ∈ w.ws ∧ ∀ u ∈ w.ws, u ≤ w.M := by
  have hge : ∀ u ∈ w.ws, u ≤ w.M := fun u hu => by
    obtain ⟨i, hi, e⟩ := List.getElem_of_mem hu
    have := Mx_ge (us := w.ws) (n := w.ws.length) (i := i) hi
    have g := gI_get hi
    rw [List.getElem?_eq_getElem hi, e] at g
    rw [Option.some.inj g]
    exact this
  refine ⟨?_, hge⟩
  have hex : ∃ m ∈ w.ws, ∀ u ∈ w.ws, u ≤ m := by
    have hne : w.ws ≠ [] := fun e => by
      have := w.w1
      rw [e] at this
      simp at this
    obtain ⟨m, hm⟩ : ∃ m, w.ws.max? = some m := by
      cases h : w.ws.max? with
      | none => exact absurd (List.max?_eq_none_iff.mp h) hne
      | some m => exact ⟨m, rfl⟩
    obtain ⟨a, b⟩ := List.max?_eq_some_iff.mp hm
    exact ⟨m, a, b⟩
  obtain ⟨m, h1, h2⟩ := hex
  have h3 := Mx_le (us := w.ws) (m := m) (by have := w.wb _ h1; omega) h2 (n := w.ws.length) (Nat.le_refl _)
  have h4 := hge m h1
  have : w.M = m := by
    show Mx (gI w.ws) w.ws.length = m
    have h4 : m ≤ Mx (gI w.ws) w.ws.length := h4
    omega
  rw [this]
  exact h1
theorem Wd.M_max (w : Wd) : w.ws.max? = some w.M := List.max?_eq_some_iff.mpr w.M_mem
theorem wt_best (w : Wd) (j : Nat) : wt w j = bestB w.C w.S w.M j - w.C j := by
  unfold wt
  rw [T_zero]
  have := T_best (C := w.C) (A := w.A) w.C_asc w.ws.length j
  show k48.T w.C w.A j w.ws.length - _ = _
  rw [this, w.S_eq]
  rfl
/-- the windows in another order -/
theorem wt_perm {w : Wd} {vs : List Int} (h : vs.Perm w.ws) : ∃ v : Wd, v.p = w.p ∧ v.cm = w.cm ∧ v.ws = vs ∧ ∀ j, wt v j = wt w j := by
  have hl := h.length_eq
  refine ⟨⟨w.p, vs, w.cm, w.p2, w.p12, by have := w.w1; omega, by have := w.w4; omega, fun a ha => w.wb a (h.mem_iff.mp ha), w.c1, w.c4, w.cb, w.ca⟩, rfl, rfl, rfl, fun j => ?_⟩
  generalize hv : (⟨w.p, vs, w.cm, _, _, _, _, _, _, _, _, _⟩ : Wd) = v
  have e1 : v.ws = vs := by rw [← hv]
  have eC : v.C = w.C := by rw [← hv]; rfl
  have eS : v.S = w.S := by
    unfold Wd.S
    rw [e1]
    exact perm_sum h
  have eM : v.M = w.M := by
    have a := v.M_mem
    have b := w.M_mem
    rw [e1] at a
    have h1 := a.2 _ (h.mem_iff.mpr b.1)
    have h2 := b.2 _ (h.mem_iff.mp a.1)
    omega
  rw [wt_best, wt_best, eC, eS, eM]
def bb (w : Wd) : Nat → Int
  | 0 => 0
  | i + 1 => bestB w.C w.S w.M i
theorem fmods (j m : Nat) : Int.fmod (j : Int) (m : Int) = ((j % m : Nat) : Int) := by
  rw [Int.fmod_eq_emod_of_nonneg _ (by omega)]
  rfl
theorem fdivs (j m : Nat) : Int.fdiv (j : Int) (m : Int) = ((j / m : Nat) : Int) := by
  rw [Int.fdiv_eq_ediv_of_nonneg _ (by omega)]
  rfl
theorem bb_bd {w : Wd} {j : Nat} (hj : j ≤ 31) : 0 ≤ bb w j ∧ bb w j ≤ 2000 := by
  cases j with
  | zero => exact ⟨by show 0 ≤ (0 : Int); omega, by show (0 : Int) ≤ 2000; omega⟩
  | succ j =>
    have h1 := w.T_le (j := j) (i := w.ws.length) (by omega) w.w4
    have := T_best (C := w.C) (A := w.A) w.C_asc w.ws.length j
    rw [w.S_eq] at this
    have e : bb w (j + 1) = w.T j w.ws.length := this.symm
    rw [e]
    omega
theorem law_waits {w : Wd} : den_law_waits [.val (dW w w.ws), .val (.int 30)] = some (.own ((List.range 30).map fun (j : Nat) => D.int (wt w j)), [.no, .no]) := by
  have g1 := w.c1
  have g4 := w.c4
  have h4 := w.w4
  have hmx := w.M_max
  have hp := w.p12
  have hcm : ((w.cm.length : Nat) : Int) ≠ 0 := by omega
  refine wp_to (wp_den rfl ?_)
  unfold f_law_waits dW
  walk_at "all"
  rw [show upto 0 30 = (List.range 30).map fun (i : Nat) => D.int (i : Int) from upto0 30]
  refine wp_lcMap (fun (i : Nat) => D.int (i : Int)) (fun (i : Nat) => D.int (w.C i)) (List.range 30) rfl ?_ ?_
  · intro j hj
    have hj := List.mem_range.mp hj
    have hm : j % w.cm.length < w.cm.length := Nat.mod_lt _ (by omega)
    have k0 := gI_at hm
    have k1 := fmods j w.cm.length
    have k2 := fdivs j w.cm.length
    have hq : j / w.cm.length ≤ j := Nat.div_le_self _ _
    have hfin : gI w.cm (j % w.cm.length) + (w.p : Int) * ((j / w.cm.length : Nat) : Int) = w.C j := rfl
    generalize w.C j = Cj at *
    generalize j % w.cm.length = r at *
    generalize j / w.cm.length = q at *
    refine ⟨_, rfl, rfl, wp_to ?_, rfl⟩
    walk_at "cl"
    walk_at "all"
  walk_at "cl"
  walk_at "all"
  rw [show upto 0 30 = (List.range 30).map fun (i : Nat) => D.int (i : Int) from upto0 30]
  refine wp_for (α := Nat) (fun a => [.val (.tup [.int w.p, .lst (w.ws.map D.int), .lst (w.cm.map D.int)]), .val (.int 30), .val (.int w.p), .val (.lst (w.ws.map D.int)), .val (.lst (w.cm.map D.int)), .own ((List.range 30).map fun (i : Nat) => D.int (w.C i)), .val (.int w.M), .own ((List.range a).map fun (j : Nat) => D.int (wt w j)), .val (.int (bb w a)), .no]) (fun i a => a = i) 0 rfl rfl ?_ ?_
  · rintro a d i hd rfl
    obtain ⟨i', hi', rfl⟩ := Option.map_eq_some_iff.mp (List.getElem?_map ▸ hd)
    obtain ⟨hi, e⟩ := List.getElem?_eq_some_iff.mp hi'
    rw [List.length_range] at hi
    rw [List.getElem_range] at e
    subst e
    clear hd hi'
    have g0 : atI ((List.range 30).map fun (i : Nat) => D.int (w.C i)) (i : Int) = some (.int (w.C i)) := atI_nat (by rw [List.getElem?_map, List.getElem?_range hi]; rfl)
    have hll : ((List.range i).map fun (j : Nat) => D.int (wt w j)).length < 100 := by rw [List.length_map, List.length_range]; omega
    have key : ∀ X : Int, X = bb w (i + 1) → ∃ a' : Nat, (Ou.nx [.val (.tup [.int w.p, .lst (w.ws.map D.int), .lst (w.cm.map D.int)]), .val (.int 30), .val (.int w.p), .val (.lst (w.ws.map D.int)), .val (.lst (w.cm.map D.int)), .own ((List.range 30).map fun (i : Nat) => D.int (w.C i)), .val (.int w.M), .own ((List.range i).map (fun (j : Nat) => D.int (wt w j)) ++ [.int (X - w.C i)]), .val (.int (X)), .no] = .nx [.val (.tup [.int w.p, .lst (w.ws.map D.int), .lst (w.cm.map D.int)]), .val (.int 30), .val (.int w.p), .val (.lst (w.ws.map D.int)), .val (.lst (w.cm.map D.int)), .own ((List.range 30).map fun (i : Nat) => D.int (w.C i)), .val (.int w.M), .own ((List.range a').map fun (j : Nat) => D.int (wt w j)), .val (.int (bb w a')), .no] ∨ Ou.nx [.val (.tup [.int w.p, .lst (w.ws.map D.int), .lst (w.cm.map D.int)]), .val (.int 30), .val (.int w.p), .val (.lst (w.ws.map D.int)), .val (.lst (w.cm.map D.int)), .own ((List.range 30).map fun (i : Nat) => D.int (w.C i)), .val (.int w.M), .own ((List.range i).map (fun (j : Nat) => D.int (wt w j)) ++ [.int (X - w.C i)]), .val (.int (X)), .no] = .ct [.val (.tup [.int w.p, .lst (w.ws.map D.int), .lst (w.cm.map D.int)]), .val (.int 30), .val (.int w.p), .val (.lst (w.ws.map D.int)), .val (.lst (w.cm.map D.int)), .own ((List.range 30).map fun (i : Nat) => D.int (w.C i)), .val (.int w.M), .own ((List.range a').map fun (j : Nat) => D.int (wt w j)), .val (.int (bb w a')), .no]) ∧ a' = i + 1 := fun X hX => ⟨i + 1, .inl (by
      rw [List.range_succ (n := i), List.map_append, hX]
      have : bb w (i + 1) - w.C i = wt w i := (wt_best w i).symm
      rw [this]
      rfl), rfl⟩
    have hb := bb_bd (w := w) (j := i) (by omega)
    by_cases h0 : i = 0
    · have k := key (w.C i + w.ws.sum) (by rw [h0]; rfl)
      have gz : atI ((List.range 30).map fun (i : Nat) => D.int (w.C i)) 0 = some (.int (w.C i)) := by rw [h0] at g0 ⊢; exact g0
      have hn : ¬((i : Int) > 0) := by omega
      have hn := decide_eq_false hn
      clear key h0 hi hb
      generalize w.C i = Ci at *
      generalize (i : Int) = z at *
      generalize (List.range 30).map (fun (i : Nat) => D.int (w.C i)) = L at *
      generalize (List.range i).map (fun (j : Nat) => D.int (wt w j)) = R at *
      refine ⟨_, rfl, ?_⟩
      walk_at "cl"
      walk_at "all"
      exact k
    · have k := key (if w.C i + w.ws.sum > bb w i + w.M then w.C i + w.ws.sum else bb w i + w.M) (by
        obtain ⟨n, rfl⟩ : ∃ n, i = n + 1 := ⟨i - 1, by omega⟩
        show _ = max (bestB w.C w.S w.M n + w.M) (w.C (n + 1) + w.S)
        have : bb w (n + 1) = bestB w.C w.S w.M n := rfl
        have e2 : w.S = w.ws.sum := rfl
        rw [this, e2]
        split <;> omega)
      have hn : (i : Int) > 0 := by omega
      have hn := decide_eq_true hn
      clear key h0 hi hb
      generalize w.C i = Ci at *
      generalize (i : Int) = z at *
      generalize (List.range 30).map (fun (i : Nat) => D.int (w.C i)) = L at *
      generalize (List.range i).map (fun (j : Nat) => D.int (wt w j)) = R at *
      generalize bb w i = B at *
      refine ⟨_, rfl, ?_⟩
      walk_at "cl"
      walk_at "all"
      exact k
  · rintro a rfl
    rw [List.length_map, List.length_range]
    walk_at "cl"
    walk_at "all"
end
end k48
namespace k48
open PySem PySem.Spec PyProof.Rows L2 DL
noncomputable section
local macro_rules | `(tactic| walk_at "dl") => `(tactic| simp (config := { maxSteps := 1000000, failIfUnchanged := false }) (disch := omega) only [frz, vl, fC, fName, fMove, fOp2, fOp1, known_val, known_own, known_oob, known_odK, known_odT, known_ownA, known_no, knownAt, fOpN, i2, gAdd, DL.gSub, gMul, gMod, gDiv, gPow, gShl, gShr, gAnd, gLt, gLe, gGt, gGe, gNeg, gCat, gCatT, gRep, gPlus, gTimes, gEq_int, gEq_bl, gNe_int, DL.isNon, gIs, gIsNot, gIn_int, gNotIn_int, fInN, seqOf, gIx, gIxD, fNoPart, fPart, gSl, fSl, fANil, fACons, fLst, fTup, fRev, fB, fAndT, fOrT, fNotT, fAndV, fOrV, fNotV, fIfE, gTru, fTru, fTruN, fBSlot, res, fCall, gLen, lstOf, gSum, gMax1, gMin1, gMax2, gMin2, gMax, gMin, gAbs, gInt, gList, gTuple, gSorted_int, gSorted_own, gSorted_mapf, gSorted_ownf, gSorted_pair, gSorted_ownP, lnK_n, lnK_s, lnK_p, lnK_c, lnK_z, fKGet, fKGetN, fDisp, fDIn, fDIx, sDPutT, fNewT, keyT, keysOf, sNop, sBrk, sCont, sSeq, sIf, sRet, sRetN, sDrop, sNever, sSet, fgt, sThenFgt, sFgtThen, fMt, isLst, lstAt, fMtL, gAppend, gPopAt, sPutIx, tgName, tgNil, tgCons, tgTup, sAsgG, rLst, rTup, rRng, rRng2, rEnum, rZip, sFor, sWhile, hide, back1, backS, fYes, fLc, still, fin, keptBy, denOf, give, fUse,  fMeth, fMake, fFld, objOf, fFldN, sPutF, sAug, sAugIx, fChain, fIxK, fIsi, fUseT, gDivmod, isOwn_val, isOwn_own, isOwn_oob, isOwn_odK, isOwn_odT, isOwn_ownA, isOwn_no, Option.bind_some, Option.bind_none, Option.map_some, Option.map_none, Option.or_some, Option.or_none, Option.none_or, Option.or, List.getElem?_cons_zero, List.getElem?_cons_succ, List.set_cons_zero, List.set_cons_succ, List.length_cons, List.length_nil, List.all_cons, List.all_nil, List.isEmpty_cons, List.isEmpty_nil, List.cons_append, List.nil_append, List.append_nil, List.flatten_nil, List.flatten_cons, List.replicate_succ, List.replicate_zero, List.map_cons, List.map_nil, List.contains_cons, List.contains_nil, Nat.reduceAdd, Nat.reduceSub, Nat.reduceLeDiff, Nat.reduceBEq, Bool.true_and, Bool.and_true, Bool.false_and, Bool.and_false, Bool.or_true, Bool.true_or, Bool.or_false, Bool.false_or, Bool.not_true, Bool.not_false, beq_self_eq_true, decide_true, decide_false, if_true, if_false, reduceIte, Bool.false_eq_true, Bool.true_eq_false, ite_true, ite_false, reduceCtorEq, ne_eq, not_true_eq_false, not_false_eq_true, and_self, and_true, true_and, and_false, false_and, or_true, true_or, or_false, false_or, Int.cast_ofNat_Int, Int.reduceLT, Int.reduceLE, Int.reduceNeg, Int.reducePow, Int.reduceEq, Int.reduceNe, Int.reduceToNat, Int.reduceMul, Int.reduceAdd, Int.reduceSub, Nat.reduceLT, Nat.reducePow, atI_0, atI_1, atI_2, atI_3, ixN_0, ixN_1, ixN_2, List.length_map, List.length_append, decide_eq_true_eq, isi_bool_non, isi_bool_bl, isi_bool_int, isi_bool_str, isi_bool_tup, isi_bool_lst, isi_int_non, isi_int_bl, isi_int_int, isi_int_str, isi_int_tup, isi_int_lst, isi_str_non, isi_str_bl, isi_str_int, isi_str_str, isi_str_tup, isi_str_lst, isi_tuple_non, isi_tuple_bl, isi_tuple_int, isi_tuple_str, isi_tuple_tup, isi_tuple_lst, isi_list_non, isi_list_bl, isi_list_int, isi_list_str, isi_list_tup, isi_list_lst, prs_own, prs_known, den_draw, eq_self, Option.isNone_none, Option.isNone_some, intsOf_map, intsOf_mapf, fitL_small, fit62_small, fit63_small, fit64_small, fit30_small, fitP_small, if_pos, if_neg, *])
local macro_rules | `(tactic| walk_at "ev") => `(tactic| (refine wp_of (by walk_at "dl"; with_reducible exact rfl) (wp_some ?_)))
local macro_rules | `(tactic| walk_at "cl") => `(tactic| simp (config := { failIfUnchanged := false }) only [Nx, Fg, Fi, fgt, hide, backS, back1, List.set_cons_zero, List.set_cons_succ, List.getElem?_cons_zero, List.getElem?_cons_succ, List.length_cons, List.length_nil, Nat.reduceAdd, Nat.reduceSub, List.replicate_succ, List.replicate_zero, List.cons_append, List.nil_append, still, fin, isOwn_val, isOwn_own, isOwn_oob, isOwn_odK, isOwn_odT, isOwn_ownA, isOwn_no, prs_own, Bool.not_true, Bool.not_false, Bool.true_or, Bool.false_or, Bool.true_and, Bool.and_true, Bool.or_true, if_true, if_false, Bool.false_eq_true, reduceIte, true_and, and_true])
local macro_rules | `(tactic| walk_at "go") => `(tactic| (repeat (first
  | with_reducible refine wp_seq ?_
  | (with_reducible refine wp_fgtThen ?_; walk_at "cl")
  | with_reducible refine wp_thenFgt ?_
  | (with_reducible refine wp_set ?_; walk_at "ev"; walk_at "cl")
  | (with_reducible refine wp_drop ?_; walk_at "ev"; walk_at "cl")
  | (with_reducible refine wp_ret ?_; walk_at "ev"; walk_at "cl")
  | (with_reducible refine wp_nop ?_; walk_at "cl")
  | (with_reducible refine wp_src ?_; walk_at "ev"; walk_at "cl")
  | (walk_at "ev"; walk_at "cl"))))
local macro_rules | `(tactic| walk_at "in") => `(tactic| (first
  | with_reducible refine wp_set ?_
  | with_reducible refine wp_drop ?_
  | with_reducible refine wp_ret ?_
  | with_reducible refine wp_if ?_
  | with_reducible refine wp_src ?_
  | (with_reducible refine wp_aug rfl ?_)
  | with_reducible refine wp_putIx ?_
  | with_reducible refine wp_vl ?_
  | with_reducible refine wp_lc ?_
  | with_reducible refine wp_call ?_
  | with_reducible refine wp_acons ?_
  | with_reducible refine wp_op2 ?_
  | with_reducible refine wp_opN ?_
  | with_reducible refine wp_tup ?_
  | with_reducible refine wp_lst ?_
  | with_reducible refine wp_useC ?_
  | with_reducible refine wp_mtL ?_
  | with_reducible refine wp_ife ?_
  | with_reducible refine wp_andV ?_
  | with_reducible refine wp_b ?_
  | with_reducible refine wp_tru ?_
  | with_reducible refine wp_notT ?_
  | with_reducible refine wp_orT ?_
  | with_reducible refine wp_andT ?_
  | with_reducible refine wp_srcLst ?_
  | with_reducible refine wp_srcRng ?_
  | with_reducible refine wp_putF ?_
  | with_reducible refine wp_make ?_
  | with_reducible refine wp_meth ?_
  | with_reducible refine wp_asgG ?_
  | with_reducible refine wp_useA ?_
  | with_reducible refine wp_orV ?_))
local macro_rules | `(tactic| walk_at "all") => `(tactic| (walk_at "go"; repeat (walk_at "in"; walk_at "go")))
def pL (p : Pur) : List D := [.int p.1, .int p.2.1, .int p.2.2]
theorem prs_pL (p : Pur) : prs p = .own (pL p) := rfl
theorem draw_pL {p : Pur} {m : Int} (h : 0 < m) (h1 : m < 1048576) : den_law_draw [.own (pL p), .val (.int m)] = some (.val (.int (dr p m)), [.own (pL (dp p m)), .no]) := den_draw h h1
theorem world_pL (p : Pur) : ∃ (w : Wd) (p' : Pur), den_law_calendar_world [.own (pL p)] = some (.val (dW w w.ws), [.own (pL p')]) := calendar_world
def nI : D → Int
  | .int i => i
  | _ => 0
theorem mix_w {w : Wd} {q : Pur} : ∃ (v : Wd) (q' : Pur), (∀ j, wt v j = wt w j) ∧ den_law_mix [.own (pL q), .val (.lst (w.ws.map D.int))] = some (.own (v.ws.map D.int), [.own (pL q'), .no]) ∧ den_law_endless [.val (dW w w.ws), .val (.lst (v.ws.map D.int))] = some (.val (eO v), [.no, .no]) := by
  obtain ⟨ys, q', hp, he⟩ := mix_ok q (w.ws.map D.int) (by rw [List.length_map]; have := w.w4; omega)
  have hy : ys = (ys.map nI).map D.int := by
    rw [List.map_map]
    have : ∀ y ∈ ys, (D.int ∘ nI) y = y := fun y hy => by
      obtain ⟨i, _, rfl⟩ := List.mem_map.mp (hp.mem_iff.mp hy)
      rfl
    have e : ys.map (D.int ∘ nI) = ys.map id := List.map_congr_left this
    rw [e, List.map_id]
  have hz : (ys.map nI).Perm w.ws := by
    have := hp.map nI
    rw [List.map_map] at this
    have e : (w.ws.map (nI ∘ D.int)) = w.ws := List.map_id w.ws
    rw [e] at this
    exact this
  obtain ⟨v, v1, v2, v3, v4⟩ := wt_perm hz
  refine ⟨v, q', v4, ?_, ?_⟩
  · rw [v3, ← hy]
    exact he
  · have := law_endless (w := v) (vs := w.ws)
    unfold dW at this ⊢
    rw [v1, v2] at this
    exact this
def wl (w : Wd) (x : Nat) : List D := (List.range x).map fun (j : Nat) => D.int (wt w j)
theorem waits' {w : Wd} {x : Nat} (hx : x ≤ 30) : den_Endless_waits [.val (eO w), .val (.int x)] = some (.own (wl w x), [.no, .no]) := waits hx
theorem waits_law {w : Wd} : den_law_waits [.val (dW w w.ws), .val (.int 30)] = some (.own (wl w 30), [.no, .no]) := law_waits
theorem wl_take {w : Wd} {x : Nat} (hx : x ≤ 30) : (wl w 30).take x = wl w x := by
  unfold wl
  rw [← List.map_take, List.take_range]
  rw [show min x 30 = x by omega]
theorem wl_len (w : Wd) (x : Nat) : (wl w x).length = x := by unfold wl; rw [List.length_map, List.length_range]
theorem wl_cut {w : Wd} {x : Nat} (hx : x ≤ 30) : cutL (wl w 30) none (some (x : Int)) = wl w x := by
  unfold cutL
  rw [HT.sIx_none, HT.sIx_nat, List.drop_zero, Nat.sub_zero, wl_len, Nat.min_eq_left hx, wl_take hx]
theorem wl_eq {v w : Wd} (h : ∀ j, wt v j = wt w j) (x : Nat) : wl v x = wl w x := by
  unfold wl
  simp only [h]
theorem wl_mat {w : Wd} {x : Nat} (hx : x ≤ 30) : den_law_matches [.val (.lst (wl w x)), .val (.lst (wl w x))] = some (.val (.bl true), [.no, .no]) := by
  refine mat_refl 11 _ ?_
  refine ⟨by rw [wl_len]; omega, fun d hd => ?_⟩
  obtain ⟨j, _, rfl⟩ := List.mem_map.mp hd
  trivial
theorem eO_obj (w : Wd) : isObj "Endless" "waits" (eO w) = true := rfl
theorem wp_lcNil {fg : FG} {fe : FE} {vs : List Nat} {ρ : En} {Q : List D × En → Prop} (h : Q ([], ρ)) : Wp (lcD fg fYes fe vs [] ρ) Q := ⟨_, rfl, h⟩
theorem wp_lcCons {fg : FG} {fe : FE} {vs : List Nat} {d : D} {ds : List D} {ρ ρ1 : En} {Q : List D × En → Prop} (e : fg d ρ = some ρ1) (h : Wp (vl fe ρ1) fun q => Wp (lcD fg fYes fe vs ds (hide vs q.2)) fun r => Q (q.1 :: r.1, r.2)) : Wp (lcD fg fYes fe vs (d :: ds) ρ) Q := by
  obtain ⟨q, e1, r, e2, h⟩ := h
  refine ⟨_, ?_, h⟩
  unfold lcD
  rw [e]
  show ((vl fe ρ1).bind _) = _
  rw [e1]
  show (lcD fg fYes fe vs ds (hide vs q.2)).map _ = _
  rw [e2]
  rfl
theorem wp_useA1 {den : Den} {gs : List Nat} {f0 : FE} {fA : FAr} {ρ : En} {Q : Sl × En → Prop} {a : Addr} {g : Nat} {ds ds' as : List D} {s : Sl} {us : List Sl} {ρ1 ρ2 : En} (e0 : f0 ρ = some (.val (.adr a), ρ1)) (e1 : fA ρ1 = some (as, ρ2)) (e2 : gFind ρ2 a gs = some (g, ds)) (e3 : den (.own ds :: as.map Sl.val) = some (s, .own ds' :: us)) (h : Q (s, ρ2.set g (.ownA a ds'))) : Wp (fUseA den gs f0 fA ρ) Q :=
  wp_useA ⟨_, e0, a, rfl, _, e1, g, ds, e2, _, e3, ds', us, rfl, h⟩
def dueD (w : Wd) : D := .lst (wl w 30)
theorem law_true : ∀ ns : List Int, ns.length ≤ 63 → ∃ r, den_law [.val (.scr ns)] = some (.val (.bl true), r) := by
  intro ns hns
  suffices hW : Wp (den_law [.val (.scr ns)]) fun q => q.1 = .val (.bl true) by
    obtain ⟨q, e, h⟩ := hW
    exact ⟨q.2, by rw [e, ← h]⟩
  refine wp_den rfl ?_
  obtain ⟨p0, c0⟩ := purse_ok ns 0 (by omega) (by omega)
  obtain ⟨p1, c1⟩ := purse_ok ns 1 (by omega) (by omega)
  unfold f_law
  refine wp_duo ?_
  walk_at "all"
  refine ⟨pL p0, prs_pL p0, ?_⟩
  walk_at "all"
  refine ⟨pL p1, prs_pL p1, ⟨by omega, by omega, by omega⟩, fun a b hab => ?_⟩
  · have hba : b ≠ a := fun e => hab e.symm
    obtain ⟨A, q0, k0⟩ := world_pL p0
    obtain ⟨B, q1, k1⟩ := world_pL p1
    obtain ⟨v0, q2, m1, m2, m3⟩ := mix_w (w := A) (q := q0)
    obtain ⟨v1, q3, n1, n2, n3⟩ := mix_w (w := B) (q := q1)
    clear c0 c1
    unfold duoAt
    walk_at "cl"
    walk_at "all"
    refine wp_lcCons rfl ?_
    walk_at "cl"
    refine wp_vl ?_
    refine wp_useA1 (g := 12) rfl rfl (by simp [gFind]) k0 ?_
    walk_at "cl"
    walk_at "all"
    refine wp_lcCons rfl ?_
    walk_at "cl"
    refine wp_vl ?_
    refine wp_useA1 (g := 13) rfl rfl (by simp [gFind, hab]) k1 ?_
    walk_at "cl"
    walk_at "all"
    refine wp_lcNil ?_
    clear k0 k1
    walk_at "cl"
    walk_at "all"
    refine wp_lcMap (fun w : Wd => dW w w.ws) dueD [A, B] rfl ?_ ?_
    · intro w hw
      have a1 := waits_law (w := w)
      clear hw m1 m2 m3 n1 n2 n3
      unfold dueD
      refine ⟨_, rfl, rfl, wp_to ?_, rfl⟩
      walk_at "cl"
      walk_at "all"
    walk_at "cl"
    walk_at "all"
    refine wp_lcMap (fun w : Wd => dW w w.ws) eO [A, B] rfl ?_ ?_
    · intro w hw
      have a1 := law_endless (w := w) (vs := w.ws)
      clear hw m1 m2 m3 n1 n2 n3
      generalize eO w = E at *
      refine ⟨_, rfl, rfl, wp_to ?_, rfl⟩
      unfold dW at *
      walk_at "cl"
      walk_at "all"
    walk_at "cl"
    walk_at "all"
    rw [show upto 0 2 = [D.int 0, D.int 1] from rfl]
    refine wp_lcCons rfl ?_
    walk_at "cl"
    walk_at "all"
    have hA1 : ∀ w : Wd, DL.gIxD (dW w w.ws) (.int 1) = some (.val (.lst (w.ws.map D.int))) := fun _ => rfl
    refine ⟨a, rfl, ?_⟩
    walk_at "all"
    refine ⟨_, hA1 A, ?_⟩
    walk_at "all"
    refine ⟨12, pL q0, by simp [gFind], ?_⟩
    walk_at "all"
    refine ⟨pL q2, _, rfl, ?_⟩
    walk_at "cl"
    walk_at "all"
    refine wp_lcCons rfl ?_
    walk_at "cl"
    walk_at "all"
    refine ⟨b, rfl, ?_⟩
    walk_at "all"
    refine ⟨_, hA1 B, ?_⟩
    walk_at "all"
    refine ⟨13, pL q1, by simp [gFind, hab], ?_⟩
    walk_at "all"
    refine ⟨pL q3, _, rfl, ?_⟩
    walk_at "cl"
    walk_at "all"
    refine wp_lcNil ?_
    clear m2 m3 n2 n3 hA1
    walk_at "cl"
    walk_at "all"
    have hw : Bx (∀ (w : Wd) (x : Nat), x ≤ 30 → den_Endless_waits [.val (eO w), .val (.int x)] = some (.own (wl w x), [.no, .no])) := ⟨fun w x hx => waits' hx⟩
    have ho : Bx (∀ w : Wd, isObj "Endless" "waits" (eO w) = true) := ⟨eO_obj⟩
    have hm0 : Bx (∀ x, wl v0 x = wl A x) := ⟨wl_eq m1⟩
    have hm1 : Bx (∀ x, wl v1 x = wl B x) := ⟨wl_eq n1⟩
    clear m1 n1
    rw [show upto 0 2 = (List.range 2).map fun (i : Nat) => D.int (i : Int) from upto0 2]
    refine wp_for (α := Pur × Pur) (fun s => [.val (.scr ns), .val (.lst [.adr a, .adr b]), .val (.lst [dW A A.ws, dW B B.ws]), .own [dueD A, dueD B], .own [eO A, eO B], .own [eO v0, eO v1], .no, .no, .no, .no, .no, .no, .ownA a (pL s.1), .ownA b (pL s.2)]) (fun _ _ => True) (q2, q3) rfl trivial ?_ ?_
    · rintro i d ⟨x, y⟩ hd _
      obtain ⟨i', hi', rfl⟩ := Option.map_eq_some_iff.mp (List.getElem?_map ▸ hd)
      clear hd hi'
      refine ⟨_, rfl, ?_⟩
      walk_at "cl"
      walk_at "all"
      rw [show upto 0 2 = (List.range 2).map fun (i : Nat) => D.int (i : Int) from upto0 2]
      refine wp_for (α := Pur × Pur) (fun s => [.val (.scr ns), .val (.lst [.adr a, .adr b]), .val (.lst [dW A A.ws, dW B B.ws]), .own [dueD A, dueD B], .own [eO A, eO B], .own [eO v0, eO v1], .val (.int i'), .no, .no, .no, .no, .no, .ownA a (pL s.1), .ownA b (pL s.2)]) (fun _ _ => True) (x, y) rfl trivial ?_ ?_
      · rintro k d ⟨x, y⟩ hd _
        obtain ⟨k', hk', rfl⟩ := Option.map_eq_some_iff.mp (List.getElem?_map ▸ hd)
        obtain ⟨hk, e⟩ := List.getElem?_eq_some_iff.mp hk'
        rw [List.length_range] at hk
        rw [List.getElem_range] at e
        subst e
        clear hd hk'
        have hk2 : k = 0 ∨ k = 1 := by omega
        rcases hk2 with rfl | rfl
        · have a1 := hw.out A 30 (by omega)
          have b1 := ho.out A
          have a1 : den_Endless_waits [.val (eO A), .val (.int 30)] = some (.own (wl A 30), [.no, .no]) := a1
          have e1 := wl_mat (w := A) (x := 30) (by omega)
          have l1 := wl_len A 30
          have d1 := dr_lo (p := x) (m := 29) (by omega) (by omega)
          have d2 := dr_hi (p := x) (m := 29) (by omega) (by omega)
          obtain ⟨f, hf⟩ : ∃ f : Nat, 1 + dr x 29 = (f : Int) := ⟨(1 + dr x 29).toNat, by omega⟩
          have hf30 : f ≤ 30 := by omega
          have a2 := hw.out v1 f hf30
          rw [hm1.out] at a2
          have b2 := ho.out v1
          have e2 := wl_mat (w := B) (x := f) hf30
          have c2 := wl_cut (w := B) hf30
          have k2 := draw_pL (p := x) (m := 29) (by omega) (by omega)
          unfold dueD
          generalize eO A = EA at *
          generalize eO B = EB at *
          generalize eO v0 = E0 at *
          generalize eO v1 = E1 at *
          refine ⟨_, rfl, ?_⟩
          walk_at "cl"
          walk_at "all"
          refine wp_lend' (ρ' := [.val (.scr ns), .val (.lst [.adr a, .adr b]), .val (.lst [dW A A.ws, dW B B.ws]), .val (.lst [.lst (wl A 30), .lst (wl B 30)]), .no, .no, .val (.int i'), .val (.int 0), .val (.lst (wl A 30)), .no, .no, .no, .no, .no]) rfl ?_
          walk_at "all"
          refine ⟨a, rfl, ?_⟩
          walk_at "all"
          refine ⟨12, pL x, by simp [gFind], ?_⟩
          walk_at "all"
          refine ⟨pL (dp x 29), _, rfl, ?_⟩
          walk_at "cl"
          walk_at "all"
          exact ⟨(dp x 29, y), .inl rfl⟩
        · have a1 := hw.out B 30 (by omega)
          have b1 := ho.out B
          have a1 : den_Endless_waits [.val (eO B), .val (.int 30)] = some (.own (wl B 30), [.no, .no]) := a1
          have e1 := wl_mat (w := B) (x := 30) (by omega)
          have l1 := wl_len B 30
          have d1 := dr_lo (p := y) (m := 29) (by omega) (by omega)
          have d2 := dr_hi (p := y) (m := 29) (by omega) (by omega)
          obtain ⟨f, hf⟩ : ∃ f : Nat, 1 + dr y 29 = (f : Int) := ⟨(1 + dr y 29).toNat, by omega⟩
          have hf30 : f ≤ 30 := by omega
          have a2 := hw.out v0 f hf30
          rw [hm0.out] at a2
          have b2 := ho.out v0
          have e2 := wl_mat (w := A) (x := f) hf30
          have c2 := wl_cut (w := A) hf30
          have k2 := draw_pL (p := y) (m := 29) (by omega) (by omega)
          unfold dueD
          generalize eO A = EA at *
          generalize eO B = EB at *
          generalize eO v0 = E0 at *
          generalize eO v1 = E1 at *
          refine ⟨_, rfl, ?_⟩
          walk_at "cl"
          walk_at "all"
          refine wp_lend' (ρ' := [.val (.scr ns), .val (.lst [.adr a, .adr b]), .val (.lst [dW A A.ws, dW B B.ws]), .val (.lst [.lst (wl A 30), .lst (wl B 30)]), .no, .no, .val (.int i'), .val (.int 1), .val (.lst (wl B 30)), .no, .no, .no, .no, .no]) rfl ?_
          walk_at "all"
          refine ⟨b, rfl, ?_⟩
          walk_at "all"
          refine ⟨13, pL y, by simp [gFind, hab], ?_⟩
          walk_at "all"
          refine ⟨pL (dp y 29), _, rfl, ?_⟩
          walk_at "cl"
          walk_at "all"
          exact ⟨(x, dp y 29), .inl rfl⟩
      · rintro ⟨x, y⟩ _
        walk_at "cl"
        walk_at "all"
        exact ⟨(x, y), .inl rfl⟩
    · rintro ⟨x, y⟩ _
      have a1 := hw.out v0 30 (by omega)
      have a1 : den_Endless_waits [.val (eO v0), .val (.int 30)] = some (.own (wl v0 30), [.no, .no]) := a1
      rw [hm0.out] at a1
      have a2 := hw.out B 30 (by omega)
      have a2 : den_Endless_waits [.val (eO B), .val (.int 30)] = some (.own (wl B 30), [.no, .no]) := a2
      have b1 := ho.out v0
      have b2 := ho.out B
      have e1 := wl_mat (w := A) (x := 30) (by omega)
      have e2 := wl_mat (w := B) (x := 30) (by omega)
      unfold dueD
      generalize eO A = EA at *
      generalize eO B = EB at *
      generalize eO v0 = E0 at *
      generalize eO v1 = E1 at *
      walk_at "cl"
      walk_at "all"
      exact ⟨_, rfl, rfl⟩
end
end k48
namespace k48
open PySem PySem.Spec PyProof.Rows L2 DL
noncomputable section
section
variable {P : Program} {w : World} {K : PySem.W.Frag} {mg : Str → Option Value} {base : Heap}
theorem sc_Calendar_next_end : FnScope ["self", "start", "days", "place"] ["self", "start"] (defScope s_Calendar_next_end) := ⟨rfl, rfl, rfl, by decide +kernel, rfl, by decide +kernel, by decide +kernel⟩
theorem w_Calendar_next_end (z_divmod : mg "divmod" = none) {C_Calendar : Addr} (gc_Calendar : GCl K mg "Calendar" C_Calendar) (na_Calendar_day_number : NoAttr K C_Calendar "day_number") (na_Calendar_end_list : NoAttr K C_Calendar "end_list") {f : Addr} {fd : FuncData} (Fu : Fun K "next_end" "Calendar.next_end" s_Calendar_next_end f fd) (bd : Binds K fd ["self", "start"] []) (hm : Meth K C_Calendar "next_end" f) : GMt P w K mg base C_Calendar "next_end" 2 1 den_Calendar_next_end :=
  GMt.mk' Fu hm bd sc_Calendar_next_end rfl rfl fun cdv A outer s H E hr => by
    have x := XI.of (P := P) (w := w) (K := K) (mg := mg) (base := base) (k := 0) (N := ["self", "start", "days", "place"]) (outer := outer) (H := H) (E := E) hr
    have nd := sc_Calendar_next_end.nd
    exact ⟨_, DSs.pair (f := f_Calendar_next_end)
      (r_cons (r_asgG (by decide) (r_divmod x (by rfl) z_divmod (r_bval (r_sub (r_var 1) r_int) (r_bval (r_fldN x 0 gc_Calendar na_Calendar_day_number (r_var 0)) r_bnil))) (r_gtup x (r_gcons (r_gname 2 nd) (r_gcons (r_gname 3 nd) r_gnil))))
      (r_last (r_ret (r_plus x (r_ix x (r_fldN x 0 gc_Calendar na_Calendar_end_list (r_var 0)) (r_var 3)) (r_times (r_var 2) (r_fldN x 0 gc_Calendar na_Calendar_day_number (r_var 0)))))))⟩
theorem sc_Endless_coming_of : FnScope ["self", "sign", "days", "place"] ["self", "sign"] (defScope s_Endless_coming_of) := ⟨rfl, rfl, rfl, by decide +kernel, rfl, by decide +kernel, by decide +kernel⟩
theorem w_Endless_coming_of (z_divmod : mg "divmod" = none) (z_len : mg "len" = none) {C_Endless : Addr} (gc_Endless : GCl K mg "Endless" C_Endless) (na_Endless_coming_list : NoAttr K C_Endless "coming_list") (na_Endless_day_number : NoAttr K C_Endless "day_number") {f : Addr} {fd : FuncData} (Fu : Fun K "coming_of" "Endless.coming_of" s_Endless_coming_of f fd) (bd : Binds K fd ["self", "sign"] []) (hm : Meth K C_Endless "coming_of" f) : GMt P w K mg base C_Endless "coming_of" 2 1 den_Endless_coming_of :=
  GMt.mk' Fu hm bd sc_Endless_coming_of rfl rfl fun cdv A outer s H E hr => by
    have x := XI.of (P := P) (w := w) (K := K) (mg := mg) (base := base) (k := 0) (N := ["self", "sign", "days", "place"]) (outer := outer) (H := H) (E := E) hr
    have nd := sc_Endless_coming_of.nd
    exact ⟨_, DSs.pair (f := f_Endless_coming_of)
      (r_cons (r_asgG (by decide) (r_divmod x (by rfl) z_divmod (r_bval (r_sub (r_var 1) r_int) (r_bval (r_len x (by rfl) z_len (r_bval (r_fldN x 0 gc_Endless na_Endless_coming_list (r_var 0)) r_bnil)) r_bnil))) (r_gtup x (r_gcons (r_gname 2 nd) (r_gcons (r_gname 3 nd) r_gnil))))
      (r_last (r_ret (r_plus x (r_times (r_var 2) (r_fldN x 0 gc_Endless na_Endless_day_number (r_var 0))) (r_ix x (r_fldN x 0 gc_Endless na_Endless_coming_list (r_var 0)) (r_var 3))))))⟩
theorem sc_Endless_next_row : FnScope ["self", "sign", "ahead", "row", "hill", "start"] ["self", "sign", "ahead"] (defScope s_Endless_next_row) := ⟨rfl, rfl, rfl, by decide +kernel, rfl, by decide +kernel, by decide +kernel⟩
theorem w_Endless_next_row (z_len : mg "len" = none) (z_max : mg "max" = none) (z_range : mg "range" = none) {C_Calendar : Addr} (gc_Calendar : GCl K mg "Calendar" C_Calendar) {C_Endless : Addr} (gc_Endless : GCl K mg "Endless" C_Endless) (na_Endless_calendar_list : NoAttr K C_Endless "calendar_list") (G_Calendar_next_end : GMt P w K mg base C_Calendar "next_end" 2 1 den_Calendar_next_end) (G_Endless_coming_of : GMt P w K mg base C_Endless "coming_of" 2 1 den_Endless_coming_of) {f : Addr} {fd : FuncData} (Fu : Fun K "next_row" "Endless.next_row" s_Endless_next_row f fd) (bd : Binds K fd ["self", "sign", "ahead"] []) (hm : Meth K C_Endless "next_row" f) : GMt P w K mg base C_Endless "next_row" 3 2 den_Endless_next_row :=
  GMt.mk' Fu hm bd sc_Endless_next_row rfl rfl fun cdv A outer s H E hr => by
    have x := XI.of (P := P) (w := w) (K := K) (mg := mg) (base := base) (k := 1) (N := ["self", "sign", "ahead", "row", "hill", "start"]) (outer := outer) (H := H) (E := E) hr
    have nd := sc_Endless_next_row.nd
    exact ⟨_, DSs.pair (f := f_Endless_next_row)
      (r_cons (r_set 3 (by decide) nd (r_lst (r_acons (r_meth x gc_Endless G_Endless_coming_of (by decide) (by decide) (by decide) (r_var 0) (r_bval (r_var 1) r_bnil)) r_anil)))
      (r_cons (r_pre [4, 5] (r_for x (by decide) (r_irng2 x (by rfl) z_range (r_acons r_int (r_acons (r_plus x (r_len x (by rfl) z_len (r_bval (r_fldN x 0 gc_Endless na_Endless_calendar_list (r_var 0)) r_bnil)) r_int) r_anil))) (r_gname 4 nd) (r_fgtB [4, 5] (r_cons (r_set 5 (by decide) nd (r_plus x (r_ixN x 3 (r_var 3) (r_sub (r_var 4) r_int)) r_int))
      (r_cons (r_if (r_ct (r_gt (r_len x (by rfl) z_len (r_bslot 2 (r_var 2) r_bnil)) r_int)) (r_last (r_set 5 (by decide) nd (r_max x (by rfl) z_max (r_bslot 5 (r_var 5) (r_bval (r_plus x (r_ixN x 2 (r_var 2) (r_var 4)) r_int) r_bnil))))) r_nil)
      (r_last (r_expr (r_append x 3 (r_var 3) (r_acons (r_meth x gc_Calendar G_Calendar_next_end (by decide) (by decide) (by decide) (r_ix x (r_fldN x 0 gc_Endless na_Endless_calendar_list (r_var 0)) (r_sub (r_var 4) r_int)) (r_bval (r_var 5) r_bnil)) r_anil)))))))))
      (r_last (r_ret (r_mv 3)))))⟩
theorem sc_check : FnScope ["what", "number"] ["what", "number"] (defScope s_check) := ⟨rfl, rfl, rfl, by decide +kernel, rfl, by decide +kernel, by decide +kernel⟩
theorem w_check {A_LIMITS : Addr} (T_LIMITS : KTab K w mg "LIMITS" A_LIMITS tab_LIMITS) {f : Addr} {fd : FuncData} (Fu : Fun K "check" "check" s_check f fd) (bd : Binds K fd ["what", "number"] []) (hm : mg "check" = some (.ref f)) : GFn P w K mg base "check" 2 1 den_check :=
  GFn.mk' Fu hm bd sc_check rfl rfl fun cdv A outer s H E hr => by
    have x := XI.of (P := P) (w := w) (K := K) (mg := mg) (base := base) (k := 0) (N := ["what", "number"]) (outer := outer) (H := H) (E := E) hr
    have nd := sc_check.nd
    exact ⟨_, DSs.pair (f := f_check)
      (r_last (r_if (r_ct (r_gt (r_var 1) (r_ixK x T_LIMITS (r_var 0)))) (r_last r_never) r_nil))⟩
theorem sc_Endless_times : FnScope ["self", "x", "rows", "ahead", "sign"] ["self", "x"] (defScope s_Endless_times) := ⟨rfl, rfl, rfl, by decide +kernel, rfl, by decide +kernel, by decide +kernel⟩
theorem w_Endless_times (z_range : mg "range" = none) (z_tuple : mg "tuple" = none) {C_Endless : Addr} (gc_Endless : GCl K mg "Endless" C_Endless) (G_Endless_next_row : GMt P w K mg base C_Endless "next_row" 3 2 den_Endless_next_row) (G_check : GFn P w K mg base "check" 2 1 den_check) {f : Addr} {fd : FuncData} (Fu : Fun K "times" "Endless.times" s_Endless_times f fd) (bd : Binds K fd ["self", "x"] []) (hm : Meth K C_Endless "times" f) : GMt P w K mg base C_Endless "times" 2 3 den_Endless_times :=
  GMt.mk' Fu hm bd sc_Endless_times rfl rfl fun cdv A outer s H E hr => by
    have x := XI.of (P := P) (w := w) (K := K) (mg := mg) (base := base) (k := 2) (N := ["self", "x", "rows", "ahead", "sign"]) (outer := outer) (H := H) (E := E) hr
    have nd := sc_Endless_times.nd
    exact ⟨_, DSs.pair (f := f_Endless_times)
      (r_cons (r_expr (r_use x G_check (by decide) (by rfl) (by decide) (by decide) (r_bval r_str (r_bval (r_var 1) r_bnil))))
      (r_cons (r_set 2 (by decide) nd (r_lst r_anil))
      (r_cons (r_set 3 (by decide) nd (r_lst r_anil))
      (r_cons (r_pre [4] (r_for x (by decide) (r_irng2 x (by rfl) z_range (r_acons r_int (r_acons (r_plus x (r_var 1) r_int) r_anil))) (r_gname 4 nd) (r_fgtB [4] (r_cons (r_set 3 (by decide) nd (r_meth x gc_Endless G_Endless_next_row (by decide) (by decide) (by decide) (r_var 0) (r_bval (r_var 4) (r_bval (r_var 3) r_bnil))))
      (r_last (r_expr (r_append x 2 (r_var 2) (r_acons (r_tuplec x (by rfl) z_tuple (r_bslot 3 (r_var 3) r_bnil)) r_anil))))))))
      (r_last (r_ret (r_mv 2)))))))⟩
theorem sc_Endless_waits : FnScope ["self", "x", "row"] ["self", "x"] (defScope s_Endless_waits) := ⟨rfl, rfl, rfl, by decide +kernel, rfl, by decide +kernel, by decide +kernel⟩
theorem w_Endless_waits {C_Endless : Addr} (gc_Endless : GCl K mg "Endless" C_Endless) (G_Endless_times : GMt P w K mg base C_Endless "times" 2 3 den_Endless_times) {f : Addr} {fd : FuncData} (Fu : Fun K "waits" "Endless.waits" s_Endless_waits f fd) (bd : Binds K fd ["self", "x"] []) (hm : Meth K C_Endless "waits" f) : GMt P w K mg base C_Endless "waits" 2 4 den_Endless_waits :=
  GMt.mk' Fu hm bd sc_Endless_waits rfl rfl fun cdv A outer s H E hr => by
    have x := XI.of (P := P) (w := w) (K := K) (mg := mg) (base := base) (k := 3) (N := ["self", "x", "row"]) (outer := outer) (H := H) (E := E) hr
    have nd := sc_Endless_waits.nd
    exact ⟨_, DSs.pair (f := f_Endless_waits)
      (r_last (r_ret (r_lc x nd [("row", 2)] (r_ilist x (r_meth x gc_Endless G_Endless_times (by decide) (by decide) (by decide) (r_var 0) (r_bval (r_var 1) r_bnil))) (by kernel_rfl) (by decide) (fun _ _ _ _ _ => (r_gname 2 nd)) (fun _ _ _ _ _ => r_ts0) (fun _ _ _ _ _ => (r_sub (r_ixN (x.blk _ _ _ _ _) 2 (r_var 2) (r_neg r_int)) (r_ixN (x.blk _ _ _ _ _) 2 (r_var 2) r_int))))))⟩
theorem sc_law_draw : FnScope ["purse", "many", "found"] ["purse", "many"] (defScope s_law_draw) := ⟨rfl, rfl, rfl, by decide +kernel, rfl, by decide +kernel, by decide +kernel⟩
theorem w_law_draw (z_int : mg "int" = none) {f : Addr} {fd : FuncData} (Fu : Fun K "_law_draw" "_law_draw" s_law_draw f fd) (bd : Binds K fd ["purse", "many"] []) (hm : mg "_law_draw" = some (.ref f)) : GFn P w K mg base "_law_draw" 2 1 den_law_draw :=
  GFn.mk' Fu hm bd sc_law_draw rfl rfl fun cdv A outer s H E hr => by
    have x := XI.of (P := P) (w := w) (K := K) (mg := mg) (base := base) (k := 0) (N := ["purse", "many", "found"]) (outer := outer) (H := H) (E := E) hr
    have nd := sc_law_draw.nd
    exact ⟨_, DSs.pair (f := f_law_draw)
      (r_cons (r_fgt [2] (r_if (r_ct (r_gt (r_ixN x 0 (r_var 0) r_int) r_int)) (r_cons (r_set 2 (by decide) nd (r_mod (r_intc x (by rfl) z_int (r_bval (r_ixN x 0 (r_var 0) r_int) r_bnil)) (r_var 1)))
      (r_cons (r_putIx 0 r_int (r_div (r_ixN x 0 (r_var 0) r_int) (r_var 1)) (r_var 0))
      (r_last (r_ret (r_mv 2))))) r_nil))
      (r_cons (r_augIx x 0 ip_add (r_var 0) r_int r_int)
      (r_cons (r_putIx 0 r_int (r_mod (r_intc x (by rfl) z_int (r_bval (r_plus x (r_times (r_ixN x 0 (r_var 0) r_int) r_int) (r_times (r_ixN x 0 (r_var 0) r_int) r_int)) r_bnil)) r_int) (r_var 0))
      (r_last (r_ret (r_mod (r_div (r_mod (r_intc x (by rfl) z_int (r_bval (r_plus x (r_times (r_ixN x 0 (r_var 0) r_int) r_int) (r_times (r_ixN x 0 (r_var 0) r_int) r_int)) r_bnil)) r_int) r_int) (r_var 1)))))))⟩
theorem sc_law_calendar_world : FnScope ["purse", "p", "windows", "comings", "sight", "sign"] ["purse"] (defScope s_law_calendar_world) := ⟨rfl, rfl, rfl, by decide +kernel, rfl, by decide +kernel, by decide +kernel⟩
theorem w_law_calendar_world (z_min : mg "min" = none) (z_range : mg "range" = none) (z_sorted : mg "sorted" = none) (G_law_draw : GFn P w K mg base "_law_draw" 2 1 den_law_draw) {f : Addr} {fd : FuncData} (Fu : Fun K "_law_calendar_world" "_law_calendar_world" s_law_calendar_world f fd) (bd : Binds K fd ["purse"] []) (hm : mg "_law_calendar_world" = some (.ref f)) : GFn P w K mg base "_law_calendar_world" 1 2 den_law_calendar_world :=
  GFn.mk' Fu hm bd sc_law_calendar_world rfl rfl fun cdv A outer s H E hr => by
    have x := XI.of (P := P) (w := w) (K := K) (mg := mg) (base := base) (k := 1) (N := ["purse", "p", "windows", "comings", "sight", "sign"]) (outer := outer) (H := H) (E := E) hr
    have nd := sc_law_calendar_world.nd
    exact ⟨_, DSs.pair (f := f_law_calendar_world)
      (r_cons (r_set 1 (by decide) nd (r_plus x r_int (r_use x G_law_draw (by decide) (by rfl) (by decide) (by decide) (r_bslot 0 (r_var 0) (r_bval r_int r_bnil)))))
      (r_cons (r_setLc x 2 (by decide) nd [("sight", 4)] (r_irng1 x (by rfl) z_range (r_acons (r_plus x r_int (r_use x G_law_draw (by decide) (by rfl) (by decide) (by decide) (r_bslot 0 (r_var 0) (r_bval r_int r_bnil)))) r_anil)) (by kernel_rfl) (by decide) (fun _ _ _ _ _ => (r_gname 4 nd)) (fun _ _ _ _ _ => r_ts0) (fun _ _ _ _ _ => (r_plus (x.blk _ _ _ _ _) r_int (r_use (x.blk _ _ _ _ _) G_law_draw (by decide) (by rfl) (by decide) (by decide) (r_bslot 0 (r_var 0) (r_bval (r_min (x.blk _ _ _ _ _) (by rfl) z_min (r_bslot 1 (r_var 1) (r_bval r_int r_bnil))) r_bnil))))))
      (r_cons (r_set 3 (by decide) nd (r_sorted x (by rfl) z_sorted (r_bval (r_lc x nd [("sign", 5)] (r_irng1 x (by rfl) z_range (r_acons (r_plus x r_int (r_use x G_law_draw (by decide) (by rfl) (by decide) (by decide) (r_bslot 0 (r_var 0) (r_bval r_int r_bnil)))) r_anil)) (by kernel_rfl) (by decide) (fun _ _ _ _ _ => (r_gname 5 nd)) (fun _ _ _ _ _ => r_ts0) (fun _ _ _ _ _ => (r_use (x.blk _ _ _ _ _) G_law_draw (by decide) (by rfl) (by decide) (by decide) (r_bslot 0 (r_var 0) (r_bval (r_var 1) r_bnil))))) r_bnil)))
      (r_last (r_ret (r_tup (r_acons (r_var 1) (r_acons (r_var 2) (r_acons (r_var 3) r_anil)))))))))⟩
theorem sc_check_calendar : FnScope ["p", "spans", "place", "first", "last"] ["p", "spans"] (defScope s_check_calendar) := ⟨rfl, rfl, rfl, by decide +kernel, rfl, by decide +kernel, by decide +kernel⟩
theorem w_check_calendar (z_len : mg "len" = none) (G_check : GFn P w K mg base "check" 2 1 den_check) {f : Addr} {fd : FuncData} (Fu : Fun K "check_calendar" "check_calendar" s_check_calendar f fd) (bd : Binds K fd ["p", "spans"] []) (hm : mg "check_calendar" = some (.ref f)) : GFn P w K mg base "check_calendar" 2 2 den_check_calendar :=
  GFn.mk' Fu hm bd sc_check_calendar rfl rfl fun cdv A outer s H E hr => by
    have x := XI.of (P := P) (w := w) (K := K) (mg := mg) (base := base) (k := 1) (N := ["p", "spans", "place", "first", "last"]) (outer := outer) (H := H) (E := E) hr
    have nd := sc_check_calendar.nd
    exact ⟨_, DSs.pair (f := f_check_calendar)
      (r_cons (r_expr (r_use x G_check (by decide) (by rfl) (by decide) (by decide) (r_bval r_str (r_bval (r_var 0) r_bnil))))
      (r_cons (r_expr (r_use x G_check (by decide) (by rfl) (by decide) (by decide) (r_bval r_str (r_bval (r_len x (by rfl) z_len (r_bslot 1 (r_var 1) r_bnil)) r_bnil))))
      (r_cons (r_if (r_w (r_orT (r_ct (r_lt (r_var 0) r_int)) (r_or1 (r_ct (r_eq x (r_len x (by rfl) z_len (r_bslot 1 (r_var 1) r_bnil)) r_int))))) (r_last r_never) r_nil)
      (r_cons (r_set 2 (by decide) nd r_int)
      (r_last (r_pre [3, 4] (r_for x (by decide) (r_ilist x (r_var 1)) (r_gtup x (r_gcons (r_gname 3 nd) (r_gcons (r_gname 4 nd) r_gnil))) (r_fgtB [3, 4] (r_cons (r_aug 2 (by decide) nd ip_add r_int)
      (r_last (r_if (r_w (r_orT (r_notT (r_chainT .le .le r_int (r_var 3) (r_var 0))) (r_or1 (r_notT (r_chainT .le .le (r_var 3) (r_var 4) (r_sub (r_plus x (r_var 3) (r_var 0)) r_int)))))) (r_last r_never) r_nil)))))))))))⟩
theorem sc_distinct_spans : FnScope ["spans", "found", "span", "first", "last"] ["spans"] (defScope s_distinct_spans) := ⟨rfl, rfl, rfl, by decide +kernel, rfl, by decide +kernel, by decide +kernel⟩
theorem w_distinct_spans (z_sorted : mg "sorted" = none) {f : Addr} {fd : FuncData} (Fu : Fun K "distinct_spans" "distinct_spans" s_distinct_spans f fd) (bd : Binds K fd ["spans"] []) (hm : mg "distinct_spans" = some (.ref f)) : GFn P w K mg base "distinct_spans" 1 1 den_distinct_spans :=
  GFn.mk' Fu hm bd sc_distinct_spans rfl rfl fun cdv A outer s H E hr => by
    have x := XI.of (P := P) (w := w) (K := K) (mg := mg) (base := base) (k := 0) (N := ["spans", "found", "span", "first", "last"]) (outer := outer) (H := H) (E := E) hr
    have nd := sc_distinct_spans.nd
    exact ⟨_, DSs.pair (f := f_distinct_spans)
      (r_cons (r_set 1 (by decide) nd (r_lst r_anil))
      (r_cons (r_pre [2] (r_for x (by decide) (r_ilist x (r_sorted x (by rfl) z_sorted (r_bval (r_lc x nd [("first", 3), ("last", 4)] (r_ilist x (r_var 0)) (by kernel_rfl) (by decide) (fun _ _ _ _ _ => (r_gtup (x.blk _ _ _ _ _) (r_gcons (r_gname 3 nd) (r_gcons (r_gname 4 nd) r_gnil)))) (fun _ _ _ _ _ => r_ts0) (fun _ _ _ _ _ => (r_tup (r_acons (r_var 3) (r_acons (r_var 4) r_anil))))) r_bnil))) (r_gname 2 nd) (r_fgtB [2] (r_last (r_if (r_ct (r_notinN x 1 (r_var 2) (r_var 1))) (r_last (r_expr (r_append x 1 (r_var 1) (r_acons (r_var 2) r_anil)))) r_nil)))))
      (r_last (r_ret (r_mv 1)))))⟩
theorem sc_end_of_start : FnScope ["p", "spans", "start", "ends", "first", "last"] ["p", "spans", "start"] (defScope s_end_of_start) := ⟨rfl, rfl, rfl, by decide +kernel, rfl, by decide +kernel, by decide +kernel⟩
theorem w_end_of_start (z_min : mg "min" = none) {f : Addr} {fd : FuncData} (Fu : Fun K "end_of_start" "end_of_start" s_end_of_start f fd) (bd : Binds K fd ["p", "spans", "start"] []) (hm : mg "end_of_start" = some (.ref f)) : GFn P w K mg base "end_of_start" 3 1 den_end_of_start :=
  GFn.mk' Fu hm bd sc_end_of_start rfl rfl fun cdv A outer s H E hr => by
    have x := XI.of (P := P) (w := w) (K := K) (mg := mg) (base := base) (k := 0) (N := ["p", "spans", "start", "ends", "first", "last"]) (outer := outer) (H := H) (E := E) hr
    have nd := sc_end_of_start.nd
    exact ⟨_, DSs.pair (f := f_end_of_start)
      (r_cons (r_setLc x 3 (by decide) nd [("first", 4), ("last", 5)] (r_ilist x (r_var 1)) (by kernel_rfl) (by decide) (fun _ _ _ _ _ => (r_gtup (x.blk _ _ _ _ _) (r_gcons (r_gname 4 nd) (r_gcons (r_gname 5 nd) r_gnil)))) (fun _ _ _ _ _ => r_ts0) (fun _ _ _ _ _ => (r_ifE (r_ct (r_ge (r_var 4) (r_var 2))) (r_var 5) (r_plus (x.blk _ _ _ _ _) (r_var 5) (r_var 0)))))
      (r_last (r_ret (r_min x (by rfl) z_min (r_bslot 3 (r_var 3) r_bnil)))))⟩
theorem sc_Calendar_init : FnScope ["self", "p", "spans", "start"] ["self", "p", "spans"] (defScope s_Calendar_init) := ⟨rfl, rfl, rfl, by decide +kernel, rfl, by decide +kernel, by decide +kernel⟩
theorem w_Calendar_init (z_range : mg "range" = none) {C_Calendar : Addr} (gc_Calendar : GCl K mg "Calendar" C_Calendar) (na_Calendar_day_number : NoAttr K C_Calendar "day_number") (na_Calendar_end_list : NoAttr K C_Calendar "end_list") (na_Calendar_span_list : NoAttr K C_Calendar "span_list") (G_check_calendar : GFn P w K mg base "check_calendar" 2 2 den_check_calendar) (G_distinct_spans : GFn P w K mg base "distinct_spans" 1 1 den_distinct_spans) (G_end_of_start : GFn P w K mg base "end_of_start" 3 1 den_end_of_start) {f : Addr} {fd : FuncData} (Fu : Fun K "__init__" "Calendar.__init__" s_Calendar_init f fd) (bd : Binds K fd ["self", "p", "spans"] []) (hm : Mk K C_Calendar f) : GMk P w K mg base C_Calendar 3 3 den_Calendar_init :=
  GMk.mk' Fu hm bd sc_Calendar_init rfl rfl fun cdv A outer s H E hr => by
    have x := XI.of (P := P) (w := w) (K := K) (mg := mg) (base := base) (k := 2) (N := ["self", "p", "spans", "start"]) (outer := outer) (H := H) (E := E) hr
    have nd := sc_Calendar_init.nd
    exact ⟨_, DSs.pair (f := f_Calendar_init)
      (r_cons (r_expr (r_use x G_check_calendar (by decide) (by rfl) (by decide) (by decide) (r_bval (r_var 1) (r_bval (r_var 2) r_bnil))))
      (r_cons (r_putF x 0 gc_Calendar na_Calendar_day_number (r_var 0) (r_var 1))
      (r_cons (r_putF x 0 gc_Calendar na_Calendar_span_list (r_var 0) (r_use x G_distinct_spans (by decide) (by rfl) (by decide) (by decide) (r_bval (r_var 2) r_bnil)))
      (r_last (r_putF x 0 gc_Calendar na_Calendar_end_list (r_var 0) (r_lc x nd [("start", 3)] (r_irng2 x (by rfl) z_range (r_acons r_int (r_acons (r_plus x (r_var 1) r_int) r_anil))) (by kernel_rfl) (by decide) (fun _ _ _ _ _ => (r_gname 3 nd)) (fun _ _ _ _ _ => r_ts0) (fun _ _ _ _ _ => (r_use (x.blk _ _ _ _ _) G_end_of_start (by decide) (by rfl) (by decide) (by decide) (r_bval (r_var 1) (r_bval (r_fldN (x.blk _ _ _ _ _) 0 gc_Calendar na_Calendar_span_list (r_var 0)) (r_bval (r_var 3) r_bnil)))))))))))⟩
theorem sc_Calendar_day : FnScope ["self"] ["self"] (defScope s_Calendar_day) := ⟨rfl, rfl, rfl, by decide +kernel, rfl, by decide +kernel, by decide +kernel⟩
theorem w_Calendar_day {C_Calendar : Addr} (gc_Calendar : GCl K mg "Calendar" C_Calendar) (na_Calendar_day_number : NoAttr K C_Calendar "day_number") {f : Addr} {fd : FuncData} (Fu : Fun K "day" "Calendar.day" s_Calendar_day f fd) (bd : Binds K fd ["self"] []) (hm : Meth K C_Calendar "day" f) : GMt P w K mg base C_Calendar "day" 1 1 den_Calendar_day :=
  GMt.mk' Fu hm bd sc_Calendar_day rfl rfl fun cdv A outer s H E hr => by
    have x := XI.of (P := P) (w := w) (K := K) (mg := mg) (base := base) (k := 0) (N := ["self"]) (outer := outer) (H := H) (E := E) hr
    have nd := sc_Calendar_day.nd
    exact ⟨_, DSs.pair (f := f_Calendar_day)
      (r_last (r_ret (r_fldN x 0 gc_Calendar na_Calendar_day_number (r_var 0))))⟩
theorem sc_check_endless : FnScope ["calendars", "comings", "calendar", "ahead", "moment"] ["calendars", "comings"] (defScope s_check_endless) := ⟨rfl, rfl, rfl, by decide +kernel, rfl, by decide +kernel, by decide +kernel⟩
theorem w_check_endless (z_len : mg "len" = none) {C_Calendar : Addr} (gc_Calendar : GCl K mg "Calendar" C_Calendar) (G_Calendar_day : GMt P w K mg base C_Calendar "day" 1 1 den_Calendar_day) (G_check : GFn P w K mg base "check" 2 1 den_check) {f : Addr} {fd : FuncData} (Fu : Fun K "check_endless" "check_endless" s_check_endless f fd) (bd : Binds K fd ["calendars", "comings"] []) (hm : mg "check_endless" = some (.ref f)) : GFn P w K mg base "check_endless" 2 2 den_check_endless :=
  GFn.mk' Fu hm bd sc_check_endless rfl rfl fun cdv A outer s H E hr => by
    have x := XI.of (P := P) (w := w) (K := K) (mg := mg) (base := base) (k := 1) (N := ["calendars", "comings", "calendar", "ahead", "moment"]) (outer := outer) (H := H) (E := E) hr
    have nd := sc_check_endless.nd
    exact ⟨_, DSs.pair (f := f_check_endless)
      (r_cons (r_expr (r_use x G_check (by decide) (by rfl) (by decide) (by decide) (r_bval r_str (r_bval (r_len x (by rfl) z_len (r_bslot 0 (r_var 0) r_bnil)) r_bnil))))
      (r_cons (r_expr (r_use x G_check (by decide) (by rfl) (by decide) (by decide) (r_bval r_str (r_bval (r_len x (by rfl) z_len (r_bslot 1 (r_var 1) r_bnil)) r_bnil))))
      (r_cons (r_if (r_ct (r_eq x (r_len x (by rfl) z_len (r_bslot 0 (r_var 0) r_bnil)) r_int)) (r_last r_never) r_nil)
      (r_cons (r_pre [2] (r_for x (by decide) (r_ilist x (r_var 0)) (r_gname 2 nd) (r_fgtB [2] (r_last (r_if (r_ct (r_ne x (r_meth0 x gc_Calendar G_Calendar_day (by decide) (r_var 2)) (r_meth0 x gc_Calendar G_Calendar_day (by decide) (r_ixN x 0 (r_var 0) r_int)))) (r_last r_never) r_nil)))))
      (r_cons (r_if (r_ct (r_eq x (r_len x (by rfl) z_len (r_bslot 1 (r_var 1) r_bnil)) r_int)) (r_last r_never) r_nil)
      (r_cons (r_set 3 (by decide) nd r_int)
      (r_last (r_pre [4] (r_for x (by decide) (r_ilist x (r_var 1)) (r_gname 4 nd) (r_fgtB [4] (r_cons (r_if (r_notT (r_chainT .le .le (r_var 3) (r_var 4) (r_sub (r_meth0 x gc_Calendar G_Calendar_day (by decide) (r_ixN x 0 (r_var 0) r_int)) r_int))) (r_last r_never) r_nil)
      (r_last (r_set 3 (by decide) nd (r_var 4))))))))))))))⟩
theorem sc_Endless_init : FnScope ["self", "calendars", "comings"] ["self", "calendars", "comings"] (defScope s_Endless_init) := ⟨rfl, rfl, rfl, by decide +kernel, rfl, by decide +kernel, by decide +kernel⟩
theorem w_Endless_init (z_list : mg "list" = none) {C_Calendar : Addr} (gc_Calendar : GCl K mg "Calendar" C_Calendar) {C_Endless : Addr} (gc_Endless : GCl K mg "Endless" C_Endless) (na_Endless_calendar_list : NoAttr K C_Endless "calendar_list") (na_Endless_coming_list : NoAttr K C_Endless "coming_list") (na_Endless_day_number : NoAttr K C_Endless "day_number") (G_Calendar_day : GMt P w K mg base C_Calendar "day" 1 1 den_Calendar_day) (G_check_endless : GFn P w K mg base "check_endless" 2 2 den_check_endless) {f : Addr} {fd : FuncData} (Fu : Fun K "__init__" "Endless.__init__" s_Endless_init f fd) (bd : Binds K fd ["self", "calendars", "comings"] []) (hm : Mk K C_Endless f) : GMk P w K mg base C_Endless 3 3 den_Endless_init :=
  GMk.mk' Fu hm bd sc_Endless_init rfl rfl fun cdv A outer s H E hr => by
    have x := XI.of (P := P) (w := w) (K := K) (mg := mg) (base := base) (k := 2) (N := ["self", "calendars", "comings"]) (outer := outer) (H := H) (E := E) hr
    have nd := sc_Endless_init.nd
    exact ⟨_, DSs.pair (f := f_Endless_init)
      (r_cons (r_expr (r_use x G_check_endless (by decide) (by rfl) (by decide) (by decide) (r_bval (r_var 1) (r_bval (r_var 2) r_bnil))))
      (r_cons (r_putF x 0 gc_Endless na_Endless_calendar_list (r_var 0) (r_listc x (by rfl) z_list (r_bslot 1 (r_var 1) r_bnil)))
      (r_cons (r_putF x 0 gc_Endless na_Endless_coming_list (r_var 0) (r_listc x (by rfl) z_list (r_bslot 2 (r_var 2) r_bnil)))
      (r_last (r_putF x 0 gc_Endless na_Endless_day_number (r_var 0) (r_meth0 x gc_Calendar G_Calendar_day (by decide) (r_ixN x 1 (r_var 1) r_int)))))))⟩
theorem sc_law_endless : FnScope ["world", "windows", "calendars", "a", "b"] ["world", "windows"] (defScope s_law_endless) := ⟨rfl, rfl, rfl, by decide +kernel, rfl, by decide +kernel, by decide +kernel⟩
theorem w_law_endless (z_list : mg "list" = none) (z_range : mg "range" = none) {C_Calendar : Addr} (gc_Calendar : GCl K mg "Calendar" C_Calendar) {C_Endless : Addr} (gc_Endless : GCl K mg "Endless" C_Endless) (G_Calendar_init : GMk P w K mg base C_Calendar 3 3 den_Calendar_init) (G_Endless_init : GMk P w K mg base C_Endless 3 3 den_Endless_init) {f : Addr} {fd : FuncData} (Fu : Fun K "_law_endless" "_law_endless" s_law_endless f fd) (bd : Binds K fd ["world", "windows"] []) (hm : mg "_law_endless" = some (.ref f)) : GFn P w K mg base "_law_endless" 2 5 den_law_endless :=
  GFn.mk' Fu hm bd sc_law_endless rfl rfl fun cdv A outer s H E hr => by
    have x := XI.of (P := P) (w := w) (K := K) (mg := mg) (base := base) (k := 4) (N := ["world", "windows", "calendars", "a", "b"]) (outer := outer) (H := H) (E := E) hr
    have nd := sc_law_endless.nd
    exact ⟨_, DSs.pair (f := f_law_endless)
      (r_cons (r_set 2 (by decide) nd (r_lst r_anil))
      (r_cons (r_pre [3] (r_for x (by decide) (r_ilist x (r_var 1)) (r_gname 3 nd) (r_fgtB [3] (r_last (r_expr (r_append x 2 (r_var 2) (r_acons (r_make x gc_Calendar G_Calendar_init (by decide) (by rfl) (by decide) (by decide) (r_bval (r_ixN x 0 (r_var 0) r_int) (r_bval (r_lc x nd [("b", 4)] (r_irng2 x (by rfl) z_range (r_acons r_int (r_acons (r_plus x (r_ixN x 0 (r_var 0) r_int) r_int) r_anil))) (by kernel_rfl) (by decide) (fun _ _ _ _ _ => (r_gname 4 nd)) (fun _ _ _ _ _ => r_ts0) (fun _ _ _ _ _ => (r_tup (r_acons (r_var 4) (r_acons (r_sub (r_plus (x.blk _ _ _ _ _) (r_var 4) (r_var 3)) r_int) r_anil))))) r_bnil))) r_anil)))))))
      (r_last (r_ret (r_make x gc_Endless G_Endless_init (by decide) (by rfl) (by decide) (by decide) (r_bval (r_var 2) (r_bval (r_listc x (by rfl) z_list (r_bval (r_ixN x 0 (r_var 0) r_int) r_bnil)) r_bnil)))))))⟩
theorem sc_law_matches : FnScope ["answer", "due", "at"] ["answer", "due"] (defScope s_law_matches) := ⟨rfl, rfl, rfl, by decide +kernel, rfl, by decide +kernel, by decide +kernel⟩
theorem ws_law_matches {k : Nat} {den : Den} (z_bool : mg "bool" = none) (z_int : mg "int" = none) (z_isinstance : mg "isinstance" = none) (z_len : mg "len" = none) (z_list : mg "list" = none) (z_range : mg "range" = none) (z_str : mg "str" = none) (z_tuple : mg "tuple" = none) (G_law_matches : GFn P w K mg base "_law_matches" 2 k den) {f : Addr} {fd : FuncData} (Fu : Fun K "_law_matches" "_law_matches" s_law_matches f fd) (bd : Binds K fd ["answer", "due"] []) (hm : mg "_law_matches" = some (.ref f)) : GFn P w K mg base "_law_matches" 2 (k + 1) (denOf 3 [] (f_law_matches den)) :=
  GFn.mk' Fu hm bd sc_law_matches rfl rfl fun cdv A outer s H E hr => by
    have x := XI.of (P := P) (w := w) (K := K) (mg := mg) (base := base) (k := k) (N := ["answer", "due", "at"]) (outer := outer) (H := H) (E := E) hr
    have nd := sc_law_matches.nd
    exact ⟨_, DSs.pair (f := f_law_matches den)
      (r_cons (r_if (r_w (r_orT (r_ct (r_is (r_var 1) r_non)) (r_or1 (r_ct (r_is (r_var 0) r_non))))) (r_last (r_ret (r_andV (r_cv (r_is (r_var 1) r_non)) (r_one (r_cv (r_is (r_var 0) r_non)))))) r_nil)
      (r_cons (r_if (r_w (r_orT (r_b (r_isi_bool x (by rfl) z_isinstance (by rfl) z_bool (r_var 1))) (r_or1 (r_b (r_isi_bool x (by rfl) z_isinstance (by rfl) z_bool (r_var 0)))))) (r_last (r_ret (r_andV (r_isi_bool x (by rfl) z_isinstance (by rfl) z_bool (r_var 1)) (r_andV (r_isi_bool x (by rfl) z_isinstance (by rfl) z_bool (r_var 0)) (r_one (r_cv (r_eq x (r_var 0) (r_var 1)))))))) r_nil)
      (r_cons (r_if (r_b (r_isi_int x (by rfl) z_isinstance (by rfl) z_int (r_var 1))) (r_last (r_ret (r_andV (r_isi_int x (by rfl) z_isinstance (by rfl) z_int (r_var 0)) (r_one (r_cv (r_eq x (r_var 0) (r_var 1))))))) r_nil)
      (r_cons (r_if (r_b (r_isi_str x (by rfl) z_isinstance (by rfl) z_str (r_var 1))) (r_last (r_ret (r_andV (r_isi_str x (by rfl) z_isinstance (by rfl) z_str (r_var 0)) (r_one (r_cv (r_eq x (r_var 0) (r_var 1))))))) r_nil)
      (r_cons (r_if (r_w (r_andT (r_b (r_isi_tuple x (by rfl) z_isinstance (by rfl) z_tuple (r_var 1))) (r_and1 (r_notT (r_b (r_isi_tuple x (by rfl) z_isinstance (by rfl) z_tuple (r_var 0))))))) (r_last (r_ret r_bl)) r_nil)
      (r_cons (r_if (r_w (r_andT (r_b (r_isi_list x (by rfl) z_isinstance (by rfl) z_list (r_var 1))) (r_and1 (r_notT (r_b (r_isi_list x (by rfl) z_isinstance (by rfl) z_list (r_var 0))))))) (r_last (r_ret r_bl)) r_nil)
      (r_cons (r_if (r_ct (r_ne x (r_len x (by rfl) z_len (r_bslot 0 (r_var 0) r_bnil)) (r_len x (by rfl) z_len (r_bslot 1 (r_var 1) r_bnil)))) (r_last (r_ret r_bl)) r_nil)
      (r_cons (r_pre [2] (r_for x (by decide) (r_irng1 x (by rfl) z_range (r_acons (r_len x (by rfl) z_len (r_bslot 1 (r_var 1) r_bnil)) r_anil)) (r_gname 2 nd) (r_fgtB [2] (r_last (r_if (r_notT (r_tru x (r_use x G_law_matches (Nat.le_refl _) (by rfl) (by decide) (by decide) (r_bval (r_ixN x 0 (r_var 0) (r_var 2)) (r_bval (r_ixN x 1 (r_var 1) (r_var 2)) r_bnil))))) (r_last (r_ret r_bl)) r_nil)))))
      (r_last (r_ret r_bl))))))))))⟩
theorem w_law_matches (z_bool : mg "bool" = none) (z_int : mg "int" = none) (z_isinstance : mg "isinstance" = none) (z_len : mg "len" = none) (z_list : mg "list" = none) (z_range : mg "range" = none) (z_str : mg "str" = none) (z_tuple : mg "tuple" = none) {f : Addr} {fd : FuncData} (Fu : Fun K "_law_matches" "_law_matches" s_law_matches f fd) (bd : Binds K fd ["answer", "due"] []) (hm : mg "_law_matches" = some (.ref f)) : ∀ n, GFn P w K mg base "_law_matches" 2 n (denr_law_matches n)
  | 0 => GFn.no Fu hm bd
  | n + 1 => ws_law_matches z_bool z_int z_isinstance z_len z_list z_range z_str z_tuple (w_law_matches z_bool z_int z_isinstance z_len z_list z_range z_str z_tuple Fu bd hm n) Fu bd hm
theorem sc_law_mix : FnScope ["purse", "things", "left", "mixed", "turn"] ["purse", "things"] (defScope s_law_mix) := ⟨rfl, rfl, rfl, by decide +kernel, rfl, by decide +kernel, by decide +kernel⟩
theorem w_law_mix (z_len : mg "len" = none) (z_list : mg "list" = none) (z_range : mg "range" = none) (G_law_draw : GFn P w K mg base "_law_draw" 2 1 den_law_draw) {f : Addr} {fd : FuncData} (Fu : Fun K "_law_mix" "_law_mix" s_law_mix f fd) (bd : Binds K fd ["purse", "things"] []) (hm : mg "_law_mix" = some (.ref f)) : GFn P w K mg base "_law_mix" 2 2 den_law_mix :=
  GFn.mk' Fu hm bd sc_law_mix rfl rfl fun cdv A outer s H E hr => by
    have x := XI.of (P := P) (w := w) (K := K) (mg := mg) (base := base) (k := 1) (N := ["purse", "things", "left", "mixed", "turn"]) (outer := outer) (H := H) (E := E) hr
    have nd := sc_law_mix.nd
    exact ⟨_, DSs.pair (f := f_law_mix)
      (r_cons (r_set 2 (by decide) nd (r_listc x (by rfl) z_list (r_bslot 1 (r_var 1) r_bnil)))
      (r_cons (r_set 3 (by decide) nd (r_lst r_anil))
      (r_cons (r_pre [4] (r_for x (by decide) (r_irng1 x (by rfl) z_range (r_acons (r_len x (by rfl) z_len (r_bslot 1 (r_var 1) r_bnil)) r_anil)) (r_gname 4 nd) (r_fgtB [4] (r_last (r_expr (r_append x 3 (r_var 3) (r_acons (r_popAt x 2 (r_var 2) (r_acons (r_use x G_law_draw (by decide) (by rfl) (by decide) (by decide) (r_bslot 0 (r_var 0) (r_bval (r_len x (by rfl) z_len (r_bslot 2 (r_var 2) r_bnil)) r_bnil))) r_anil)) r_anil)))))))
      (r_last (r_ret (r_mv 3))))))⟩
theorem sc_law_purse : FnScope ["script", "at", "cell", "size", "one"] ["script", "at"] (defScope s_law_purse) := ⟨rfl, rfl, rfl, by decide +kernel, rfl, by decide +kernel, by decide +kernel⟩
theorem w_law_purse (z_abs : mg "abs" = none) (z_int : mg "int" = none) (z_len : mg "len" = none) (z_sum : mg "sum" = none) {f : Addr} {fd : FuncData} (Fu : Fun K "_law_purse" "_law_purse" s_law_purse f fd) (bd : Binds K fd ["script", "at"] []) (hm : mg "_law_purse" = some (.ref f)) : GFn P w K mg base "_law_purse" 2 1 den_law_purse :=
  GFn.mk' Fu hm bd sc_law_purse rfl rfl fun cdv A outer s H E hr => by
    have x := XI.of (P := P) (w := w) (K := K) (mg := mg) (base := base) (k := 0) (N := ["script", "at", "cell", "size", "one"]) (outer := outer) (H := H) (E := E) hr
    have nd := sc_law_purse.nd
    exact ⟨_, DSs.pair (f := f_law_purse)
      (r_cons (r_set 2 (by decide) nd (r_ifE (r_ct (r_lt (r_var 1) (r_len x (by rfl) z_len (r_bslot 0 (r_var 0) r_bnil)))) (r_intc x (by rfl) z_int (r_bval (r_ixN x 0 (r_var 0) (r_var 1)) r_bnil)) (r_times r_int (r_sum x (by rfl) z_sum (r_bval (r_lc x nd [("one", 4)] (r_ilist x (r_sl x (r_var 0) r_onone (r_osome r_int))) (by kernel_rfl) (by decide) (fun _ _ _ _ _ => (r_gname 4 nd)) (fun _ _ _ _ _ => r_ts0) (fun _ _ _ _ _ => (r_intc (x.blk _ _ _ _ _) (by rfl) z_int (r_bslot 4 (r_var 4) r_bnil)))) r_bnil)))))
      (r_cons (r_set 3 (by decide) nd (r_plus x (r_times r_int (r_abs x (by rfl) z_abs (r_bslot 2 (r_var 2) r_bnil))) (r_ifE (r_ct (r_lt (r_var 2) r_int)) r_int r_int)))
      (r_last (r_ret (r_lst (r_acons (r_ifE (r_ct (r_ge (r_var 3) (r_pow r_int r_int))) (r_var 3) r_int) (r_acons (r_mod (r_intc x (by rfl) z_int (r_bval (r_plus x (r_plus x (r_var 3) (r_times (r_var 1) r_int)) r_int) r_bnil)) r_int) (r_acons (r_var 1) r_anil))))))))⟩
theorem sc_law_waits : FnScope ["world", "many", "p", "windows", "comings", "moments", "pace", "due", "best", "j"] ["world", "many"] (defScope s_law_waits) := ⟨rfl, rfl, rfl, by decide +kernel, rfl, by decide +kernel, by decide +kernel⟩
theorem w_law_waits (z_int : mg "int" = none) (z_len : mg "len" = none) (z_max : mg "max" = none) (z_range : mg "range" = none) (z_sum : mg "sum" = none) {f : Addr} {fd : FuncData} (Fu : Fun K "_law_waits" "_law_waits" s_law_waits f fd) (bd : Binds K fd ["world", "many"] []) (hm : mg "_law_waits" = some (.ref f)) : GFn P w K mg base "_law_waits" 2 1 den_law_waits :=
  GFn.mk' Fu hm bd sc_law_waits rfl rfl fun cdv A outer s H E hr => by
    have x := XI.of (P := P) (w := w) (K := K) (mg := mg) (base := base) (k := 0) (N := ["world", "many", "p", "windows", "comings", "moments", "pace", "due", "best", "j"]) (outer := outer) (H := H) (E := E) hr
    have nd := sc_law_waits.nd
    exact ⟨_, DSs.pair (f := f_law_waits)
      (r_cons (r_asgG (by decide) (r_var 0) (r_gtup x (r_gcons (r_gname 2 nd) (r_gcons (r_gname 3 nd) (r_gcons (r_gname 4 nd) r_gnil)))))
      (r_cons (r_setLc x 5 (by decide) nd [("j", 9)] (r_irng1 x (by rfl) z_range (r_acons (r_var 1) r_anil)) (by kernel_rfl) (by decide) (fun _ _ _ _ _ => (r_gname 9 nd)) (fun _ _ _ _ _ => r_ts0) (fun _ _ _ _ _ => (r_plus (x.blk _ _ _ _ _) (r_ixN (x.blk _ _ _ _ _) 4 (r_var 4) (r_mod (r_intc (x.blk _ _ _ _ _) (by rfl) z_int (r_bslot 9 (r_var 9) r_bnil)) (r_len (x.blk _ _ _ _ _) (by rfl) z_len (r_bslot 4 (r_var 4) r_bnil)))) (r_times (r_var 2) (r_div (r_var 9) (r_len (x.blk _ _ _ _ _) (by rfl) z_len (r_bslot 4 (r_var 4) r_bnil)))))))
      (r_cons (r_set 6 (by decide) nd (r_max x (by rfl) z_max (r_bslot 3 (r_var 3) r_bnil)))
      (r_cons (r_set 7 (by decide) nd (r_lst r_anil))
      (r_cons (r_set 8 (by decide) nd r_int)
      (r_cons (r_pre [9] (r_for x (by decide) (r_irng1 x (by rfl) z_range (r_acons (r_var 1) r_anil)) (r_gname 9 nd) (r_fgtB [9] (r_cons (r_set 8 (by decide) nd (r_ifE (r_ct (r_gt (r_var 9) r_int)) (r_max x (by rfl) z_max (r_bval (r_plus x (r_var 8) (r_var 6)) (r_bval (r_plus x (r_ixN x 5 (r_var 5) (r_var 9)) (r_sum x (by rfl) z_sum (r_bslot 3 (r_var 3) r_bnil))) r_bnil))) (r_plus x (r_ixN x 5 (r_var 5) r_int) (r_sum x (by rfl) z_sum (r_bslot 3 (r_var 3) r_bnil)))))
      (r_last (r_expr (r_append x 7 (r_var 7) (r_acons (r_sub (r_var 8) (r_ixN x 5 (r_var 5) (r_var 9))) r_anil))))))))
      (r_last (r_ret (r_mv 7)))))))))⟩
theorem sc_law : FnScope ["script", "purses", "worlds", "dues", "made", "turned", "turn", "k", "told", "few", "purse", "world", "?p", "?q"] ["script"] (defScope s_law) := ⟨rfl, rfl, rfl, by decide +kernel, rfl, by decide +kernel, by decide +kernel⟩
theorem w_law (z_range : mg "range" = none) {C_Endless : Addr} (gc_Endless : GCl K mg "Endless" C_Endless) (G_Endless_waits : GMt P w K mg base C_Endless "waits" 2 4 den_Endless_waits) (G_law_calendar_world : GFn P w K mg base "_law_calendar_world" 1 2 den_law_calendar_world) (G_law_draw : GFn P w K mg base "_law_draw" 2 1 den_law_draw) (G_law_endless : GFn P w K mg base "_law_endless" 2 5 den_law_endless) (G_law_matches : GFn P w K mg base "_law_matches" 2 12 den_law_matches) (G_law_mix : GFn P w K mg base "_law_mix" 2 2 den_law_mix) (G_law_purse : GFn P w K mg base "_law_purse" 2 1 den_law_purse) (G_law_waits : GFn P w K mg base "_law_waits" 2 1 den_law_waits) {f : Addr} {fd : FuncData} (Fu : Fun K "law" "law" s_law f fd) (bd : Binds K fd ["script"] [])  : FnOk P w K mg base CX0 13 f fd ["script"] (spD K mg 1 den_law) :=
  def_ok Fu sc_law rfl fun cdv A outer s H E hr => by
    have x := XI.of (P := P) (w := w) (K := K) (mg := mg) (base := base) (k := 12) (N := ["script", "purses", "worlds", "dues", "made", "turned", "turn", "k", "told", "few", "purse", "world", "?p", "?q"]) (outer := outer) (H := H) (E := E) hr
    have nd := sc_law.nd
    exact ⟨_, DSs.pair (f := f_law)
      (r_duo (x := 1) (g1 := 12) (g2 := 13) (by decide) (by decide) (by decide) (r_set 1 (by decide) nd (r_lst (r_acons (r_use x G_law_purse (by decide) (by rfl) (by decide) (by decide) (r_bval (r_var 0) (r_bval r_int r_bnil))) (r_acons (r_use x G_law_purse (by decide) (by rfl) (by decide) (by decide) (r_bval (r_var 0) (r_bval r_int r_bnil))) r_anil)))) (r_use x G_law_purse (by decide) (by rfl) (by decide) (by decide) (r_bval (r_var 0) (r_bval r_int r_bnil))) (r_use x G_law_purse (by decide) (by rfl) (by decide) (by decide) (r_bval (r_var 0) (r_bval r_int r_bnil))) rfl rfl rfl rfl
      (r_cons (r_set 2 (by decide) nd (r_lc x nd [("purse", 10)] (r_ilist x (r_var 1)) (by kernel_rfl) (by decide) (fun _ _ _ _ _ => (r_gname 10 nd)) (fun _ _ _ _ _ => r_ts0) (fun _ _ _ _ _ => (r_useA (x.blk _ _ _ _ _) [12, 13] G_law_calendar_world (by decide) (by rfl) (by decide) (r_var 10) r_anil))))
      (r_cons (r_setLc x 3 (by decide) nd [("world", 11)] (r_ilist x (r_var 2)) (by kernel_rfl) (by decide) (fun _ _ _ _ _ => (r_gname 11 nd)) (fun _ _ _ _ _ => r_ts0) (fun _ _ _ _ _ => (r_use (x.blk _ _ _ _ _) G_law_waits (by decide) (by rfl) (by decide) (by decide) (r_bval (r_var 11) (r_bval r_int r_bnil)))))
      (r_cons (r_setLc x 4 (by decide) nd [("world", 11)] (r_ilist x (r_var 2)) (by kernel_rfl) (by decide) (fun _ _ _ _ _ => (r_gname 11 nd)) (fun _ _ _ _ _ => r_ts0) (fun _ _ _ _ _ => (r_use (x.blk _ _ _ _ _) G_law_endless (by decide) (by rfl) (by decide) (by decide) (r_bval (r_var 11) (r_bval (r_ixN (x.blk _ _ _ _ _) 11 (r_var 11) r_int) r_bnil)))))
      (r_cons (r_setLc x 5 (by decide) nd [("k", 7)] (r_irng1 x (by rfl) z_range (r_acons r_int r_anil)) (by kernel_rfl) (by decide) (fun _ _ _ _ _ => (r_gname 7 nd)) (fun _ _ _ _ _ => r_ts0) (fun _ _ _ _ _ => (r_use (x.blk _ _ _ _ _) G_law_endless (by decide) (by rfl) (by decide) (by decide) (r_bval (r_ixN (x.blk _ _ _ _ _) 2 (r_var 2) (r_var 7)) (r_bval (r_useA (x.blk _ _ _ _ _) [12, 13] G_law_mix (by decide) (by rfl) (by decide) (r_ixN (x.blk _ _ _ _ _) 1 (r_var 1) (r_var 7)) (r_acons (r_ix (x.blk _ _ _ _ _) (r_ixN (x.blk _ _ _ _ _) 2 (r_var 2) (r_var 7)) r_int) r_anil)) r_bnil)))))
      (r_cons (r_pre [6, 7, 8, 9] (r_for x (by decide) (r_irng1 x (by rfl) z_range (r_acons r_int r_anil)) (r_gname 6 nd) (r_fgtB [6, 7, 8, 9] (r_last (r_pre [7, 8, 9] (r_for x (by decide) (r_irng1 x (by rfl) z_range (r_acons r_int r_anil)) (r_gname 7 nd) (r_fgtB [7, 8, 9] (r_cons (r_set 8 (by decide) nd (r_meth x gc_Endless G_Endless_waits (by decide) (by decide) (by decide) (r_ixN x 4 (r_var 4) (r_var 7)) (r_bval r_int r_bnil)))
      (r_cons (r_if (r_lendT [3, 7, 8] (r_notT (r_tru x (r_use x G_law_matches (by decide) (by rfl) (by decide) (by decide) (r_bval (r_var 8) (r_bval (r_ixN x 3 (r_var 3) (r_var 7)) r_bnil)))))) (r_last (r_ret r_bl)) r_nil)
      (r_cons (r_putIx 8 r_int r_int (r_var 8))
      (r_cons (r_set 9 (by decide) nd (r_plus x r_int (r_useA x [12, 13] G_law_draw (by decide) (by rfl) (by decide) (r_ixN x 1 (r_var 1) (r_var 7)) (r_acons r_int r_anil))))
      (r_last (r_if (r_notT (r_tru x (r_use x G_law_matches (by decide) (by rfl) (by decide) (by decide) (r_bval (r_meth x gc_Endless G_Endless_waits (by decide) (by decide) (by decide) (r_ixN x 5 (r_var 5) (r_sub r_int (r_var 7))) (r_bval (r_var 9) r_bnil)) (r_bval (r_sl x (r_ixN x 3 (r_var 3) (r_sub r_int (r_var 7))) r_onone (r_osome (r_var 9))) r_bnil))))) (r_last (r_ret r_bl)) r_nil)))))))))))))
      (r_last (r_ret (r_andV (r_use x G_law_matches (by decide) (by rfl) (by decide) (by decide) (r_bval (r_meth x gc_Endless G_Endless_waits (by decide) (by decide) (by decide) (r_ixN x 5 (r_var 5) r_int) (r_bval r_int r_bnil)) (r_bval (r_ixN x 3 (r_var 3) r_int) r_bnil))) (r_one (r_use x G_law_matches (by decide) (by rfl) (by decide) (by decide) (r_bval (r_meth x gc_Endless G_Endless_waits (by decide) (by decide) (by decide) (r_ixN x 4 (r_var 4) r_int) (r_bval r_int r_bnil)) (r_bval (r_ixN x 3 (r_var 3) r_int) r_bnil)))))))))))))⟩
end

theorem tab_LIMITS_ok {z : Str} {i : Int} (h : tab_LIMITS.lookup z = some i) {Q : Str → Int → Prop} (h1 : Q "sights" 8) (h2 : Q "day" 30) (h3 : Q "cycle" 12) (h4 : Q "daily" 9) (h5 : Q "endless" 400) : Q z i := by
  unfold tab_LIMITS at h
  simp only [List.lookup_cons, List.lookup_nil] at h
  split at h
  · rename_i e; rw [beq_iff_eq.mp e]; cases h; exact h1
  split at h
  · rename_i e; rw [beq_iff_eq.mp e]; cases h; exact h2
  split at h
  · rename_i e; rw [beq_iff_eq.mp e]; cases h; exact h3
  split at h
  · rename_i e; rw [beq_iff_eq.mp e]; cases h; exact h4
  split at h
  · rename_i e; rw [beq_iff_eq.mp e]; cases h; exact h5
  · cases h

theorem all_mk {l : PySem.W.OpenLaw} {w : World} {K : PySem.W.Frag} {h : Heap} {mg : Str → Option Value} {fa : Addr} (X : K.In h) (G : h.Ns mainGlobals mg) (hfa : mg "law" = some (.ref fa))
    {f0 : Addr} {oc0 kV0 dc0 pm0 cd0 ct0 : Value} {od0 an0 : Option Addr} {sl0 : Array (Option Value)}
    {f1 : Addr} {oc1 kV1 dc1 pm1 cd1 ct1 : Value} {od1 an1 : Option Addr} {sl1 : Array (Option Value)}
    {f2 : Addr} {oc2 kV2 dc2 pm2 cd2 ct2 : Value} {od2 an2 : Option Addr} {sl2 : Array (Option Value)}
    {f3 : Addr} {oc3 kV3 dc3 pm3 cd3 ct3 : Value} {od3 an3 : Option Addr} {sl3 : Array (Option Value)}
    {f4 : Addr} {oc4 kV4 dc4 pm4 cd4 ct4 : Value} {od4 an4 : Option Addr} {sl4 : Array (Option Value)}
    {f5 : Addr} {oc5 kV5 dc5 pm5 cd5 ct5 : Value} {od5 an5 : Option Addr} {sl5 : Array (Option Value)}
    {f6 : Addr} {oc6 kV6 dc6 pm6 cd6 ct6 : Value} {od6 an6 : Option Addr} {sl6 : Array (Option Value)}
    {f7 : Addr} {oc7 kV7 dc7 pm7 cd7 ct7 : Value} {od7 an7 : Option Addr} {sl7 : Array (Option Value)}
    {f8 : Addr} {oc8 kV8 dc8 pm8 cd8 ct8 : Value} {od8 an8 : Option Addr} {sl8 : Array (Option Value)}
    {f9 : Addr} {oc9 kV9 dc9 pm9 cd9 ct9 : Value} {od9 an9 : Option Addr} {sl9 : Array (Option Value)}
    {f10 : Addr} {oc10 kV10 dc10 pm10 cd10 ct10 : Value} {od10 an10 : Option Addr} {sl10 : Array (Option Value)}
    {f11 : Addr} {oc11 kV11 dc11 pm11 cd11 ct11 : Value} {od11 an11 : Option Addr} {sl11 : Array (Option Value)}
    {f12 : Addr} {oc12 kV12 dc12 pm12 cd12 ct12 : Value} {od12 an12 : Option Addr} {sl12 : Array (Option Value)}
    {f13 : Addr} {oc13 kV13 dc13 pm13 cd13 ct13 : Value} {od13 an13 : Option Addr} {sl13 : Array (Option Value)}
    {f14 : Addr} {oc14 kV14 dc14 pm14 cd14 ct14 : Value} {od14 an14 : Option Addr} {sl14 : Array (Option Value)}
    {f15 : Addr} {oc15 kV15 dc15 pm15 cd15 ct15 : Value} {od15 an15 : Option Addr} {sl15 : Array (Option Value)}
    {f16 : Addr} {oc16 kV16 dc16 pm16 cd16 ct16 : Value} {od16 an16 : Option Addr} {sl16 : Array (Option Value)}
    {f17 : Addr} {oc17 kV17 dc17 pm17 cd17 ct17 : Value} {od17 an17 : Option Addr} {sl17 : Array (Option Value)}
    {f18 : Addr} {oc18 kV18 dc18 pm18 cd18 ct18 : Value} {od18 an18 : Option Addr} {sl18 : Array (Option Value)}
    {f19 : Addr} {oc19 kV19 dc19 pm19 cd19 ct19 : Value} {od19 an19 : Option Addr} {sl19 : Array (Option Value)}
    {f20 : Addr} {oc20 kV20 dc20 pm20 cd20 ct20 : Value} {od20 an20 : Option Addr} {sl20 : Array (Option Value)}
    {C_Calendar : Addr}
    {C_Endless : Addr}
    {L_LIMITS : Addr} {es_LIMITS : Array DictEntry} {n_LIMITS : Nat}
    {t_LIMITS_sights : Tok}
    {t_LIMITS_day : Tok}
    {t_LIMITS_cycle : Tok}
    {t_LIMITS_daily : Tok}
    {t_LIMITS_endless : Tok}
    (aC_Calendar : PySem.W.nsIn K mainGlobals "Calendar" = some (some (.ref C_Calendar)))
    (aC_Endless : PySem.W.nsIn K mainGlobals "Endless" = some (some (.ref C_Endless)))
    (a0 : PySem.W.findIn K (.ref C_Calendar) "next_end" = some (some (.ref f0)))
    (i0 : PySem.W.isFn K (.ref f0) = true)
    (l0 : K.lookup f0 = some ⟨oc0, od0, .func (PySem.W.fnOf "next_end" "Calendar.next_end" (defArgs s_Calendar_next_end) (defBody s_Calendar_next_end) (defScope s_Calendar_next_end) .none kV0 dc0 pm0 an0 cd0 ct0), sl0⟩)
    (c0 : PySem.W.codeIn K cd0 "Calendar.next_end" = true)
    (k0 : PySem.W.keepIn K (.ref f0) = true)
    (a1 : PySem.W.findIn K (.ref C_Endless) "coming_of" = some (some (.ref f1)))
    (i1 : PySem.W.isFn K (.ref f1) = true)
    (l1 : K.lookup f1 = some ⟨oc1, od1, .func (PySem.W.fnOf "coming_of" "Endless.coming_of" (defArgs s_Endless_coming_of) (defBody s_Endless_coming_of) (defScope s_Endless_coming_of) .none kV1 dc1 pm1 an1 cd1 ct1), sl1⟩)
    (c1 : PySem.W.codeIn K cd1 "Endless.coming_of" = true)
    (k1 : PySem.W.keepIn K (.ref f1) = true)
    (a2 : PySem.W.findIn K (.ref C_Endless) "next_row" = some (some (.ref f2)))
    (i2 : PySem.W.isFn K (.ref f2) = true)
    (l2 : K.lookup f2 = some ⟨oc2, od2, .func (PySem.W.fnOf "next_row" "Endless.next_row" (defArgs s_Endless_next_row) (defBody s_Endless_next_row) (defScope s_Endless_next_row) .none kV2 dc2 pm2 an2 cd2 ct2), sl2⟩)
    (c2 : PySem.W.codeIn K cd2 "Endless.next_row" = true)
    (k2 : PySem.W.keepIn K (.ref f2) = true)
    (a3 : PySem.W.nsIn K mainGlobals "check" = some (some (.ref f3)))
    (l3 : K.lookup f3 = some ⟨oc3, od3, .func (PySem.W.fnOf "check" "check" (defArgs s_check) (defBody s_check) (defScope s_check) .none kV3 dc3 pm3 an3 cd3 ct3), sl3⟩)
    (c3 : PySem.W.codeIn K cd3 "check" = true)
    (k3 : PySem.W.keepIn K (.ref f3) = true)
    (a4 : PySem.W.findIn K (.ref C_Endless) "times" = some (some (.ref f4)))
    (i4 : PySem.W.isFn K (.ref f4) = true)
    (l4 : K.lookup f4 = some ⟨oc4, od4, .func (PySem.W.fnOf "times" "Endless.times" (defArgs s_Endless_times) (defBody s_Endless_times) (defScope s_Endless_times) .none kV4 dc4 pm4 an4 cd4 ct4), sl4⟩)
    (c4 : PySem.W.codeIn K cd4 "Endless.times" = true)
    (k4 : PySem.W.keepIn K (.ref f4) = true)
    (a5 : PySem.W.findIn K (.ref C_Endless) "waits" = some (some (.ref f5)))
    (i5 : PySem.W.isFn K (.ref f5) = true)
    (l5 : K.lookup f5 = some ⟨oc5, od5, .func (PySem.W.fnOf "waits" "Endless.waits" (defArgs s_Endless_waits) (defBody s_Endless_waits) (defScope s_Endless_waits) .none kV5 dc5 pm5 an5 cd5 ct5), sl5⟩)
    (c5 : PySem.W.codeIn K cd5 "Endless.waits" = true)
    (k5 : PySem.W.keepIn K (.ref f5) = true)
    (a6 : PySem.W.nsIn K mainGlobals "_law_draw" = some (some (.ref f6)))
    (l6 : K.lookup f6 = some ⟨oc6, od6, .func (PySem.W.fnOf "_law_draw" "_law_draw" (defArgs s_law_draw) (defBody s_law_draw) (defScope s_law_draw) .none kV6 dc6 pm6 an6 cd6 ct6), sl6⟩)
    (c6 : PySem.W.codeIn K cd6 "_law_draw" = true)
    (k6 : PySem.W.keepIn K (.ref f6) = true)
    (a7 : PySem.W.nsIn K mainGlobals "_law_calendar_world" = some (some (.ref f7)))
    (l7 : K.lookup f7 = some ⟨oc7, od7, .func (PySem.W.fnOf "_law_calendar_world" "_law_calendar_world" (defArgs s_law_calendar_world) (defBody s_law_calendar_world) (defScope s_law_calendar_world) .none kV7 dc7 pm7 an7 cd7 ct7), sl7⟩)
    (c7 : PySem.W.codeIn K cd7 "_law_calendar_world" = true)
    (k7 : PySem.W.keepIn K (.ref f7) = true)
    (a8 : PySem.W.nsIn K mainGlobals "check_calendar" = some (some (.ref f8)))
    (l8 : K.lookup f8 = some ⟨oc8, od8, .func (PySem.W.fnOf "check_calendar" "check_calendar" (defArgs s_check_calendar) (defBody s_check_calendar) (defScope s_check_calendar) .none kV8 dc8 pm8 an8 cd8 ct8), sl8⟩)
    (c8 : PySem.W.codeIn K cd8 "check_calendar" = true)
    (k8 : PySem.W.keepIn K (.ref f8) = true)
    (a9 : PySem.W.nsIn K mainGlobals "distinct_spans" = some (some (.ref f9)))
    (l9 : K.lookup f9 = some ⟨oc9, od9, .func (PySem.W.fnOf "distinct_spans" "distinct_spans" (defArgs s_distinct_spans) (defBody s_distinct_spans) (defScope s_distinct_spans) .none kV9 dc9 pm9 an9 cd9 ct9), sl9⟩)
    (c9 : PySem.W.codeIn K cd9 "distinct_spans" = true)
    (k9 : PySem.W.keepIn K (.ref f9) = true)
    (a10 : PySem.W.nsIn K mainGlobals "end_of_start" = some (some (.ref f10)))
    (l10 : K.lookup f10 = some ⟨oc10, od10, .func (PySem.W.fnOf "end_of_start" "end_of_start" (defArgs s_end_of_start) (defBody s_end_of_start) (defScope s_end_of_start) .none kV10 dc10 pm10 an10 cd10 ct10), sl10⟩)
    (c10 : PySem.W.codeIn K cd10 "end_of_start" = true)
    (k10 : PySem.W.keepIn K (.ref f10) = true)
    (a11 : PySem.W.findIn K (.ref C_Calendar) "__init__" = some (some (.ref f11)))
    (i11 : PySem.W.isFn K (.ref f11) = true)
    (l11 : K.lookup f11 = some ⟨oc11, od11, .func (PySem.W.fnOf "__init__" "Calendar.__init__" (defArgs s_Calendar_init) (defBody s_Calendar_init) (defScope s_Calendar_init) .none kV11 dc11 pm11 an11 cd11 ct11), sl11⟩)
    (c11 : PySem.W.codeIn K cd11 "Calendar.__init__" = true)
    (k11 : PySem.W.keepIn K (.ref f11) = true)
    (a12 : PySem.W.findIn K (.ref C_Calendar) "day" = some (some (.ref f12)))
    (i12 : PySem.W.isFn K (.ref f12) = true)
    (l12 : K.lookup f12 = some ⟨oc12, od12, .func (PySem.W.fnOf "day" "Calendar.day" (defArgs s_Calendar_day) (defBody s_Calendar_day) (defScope s_Calendar_day) .none kV12 dc12 pm12 an12 cd12 ct12), sl12⟩)
    (c12 : PySem.W.codeIn K cd12 "Calendar.day" = true)
    (k12 : PySem.W.keepIn K (.ref f12) = true)
    (a13 : PySem.W.nsIn K mainGlobals "check_endless" = some (some (.ref f13)))
    (l13 : K.lookup f13 = some ⟨oc13, od13, .func (PySem.W.fnOf "check_endless" "check_endless" (defArgs s_check_endless) (defBody s_check_endless) (defScope s_check_endless) .none kV13 dc13 pm13 an13 cd13 ct13), sl13⟩)
    (c13 : PySem.W.codeIn K cd13 "check_endless" = true)
    (k13 : PySem.W.keepIn K (.ref f13) = true)
    (a14 : PySem.W.findIn K (.ref C_Endless) "__init__" = some (some (.ref f14)))
    (i14 : PySem.W.isFn K (.ref f14) = true)
    (l14 : K.lookup f14 = some ⟨oc14, od14, .func (PySem.W.fnOf "__init__" "Endless.__init__" (defArgs s_Endless_init) (defBody s_Endless_init) (defScope s_Endless_init) .none kV14 dc14 pm14 an14 cd14 ct14), sl14⟩)
    (c14 : PySem.W.codeIn K cd14 "Endless.__init__" = true)
    (k14 : PySem.W.keepIn K (.ref f14) = true)
    (a15 : PySem.W.nsIn K mainGlobals "_law_endless" = some (some (.ref f15)))
    (l15 : K.lookup f15 = some ⟨oc15, od15, .func (PySem.W.fnOf "_law_endless" "_law_endless" (defArgs s_law_endless) (defBody s_law_endless) (defScope s_law_endless) .none kV15 dc15 pm15 an15 cd15 ct15), sl15⟩)
    (c15 : PySem.W.codeIn K cd15 "_law_endless" = true)
    (k15 : PySem.W.keepIn K (.ref f15) = true)
    (a16 : PySem.W.nsIn K mainGlobals "_law_matches" = some (some (.ref f16)))
    (l16 : K.lookup f16 = some ⟨oc16, od16, .func (PySem.W.fnOf "_law_matches" "_law_matches" (defArgs s_law_matches) (defBody s_law_matches) (defScope s_law_matches) .none kV16 dc16 pm16 an16 cd16 ct16), sl16⟩)
    (c16 : PySem.W.codeIn K cd16 "_law_matches" = true)
    (k16 : PySem.W.keepIn K (.ref f16) = true)
    (a17 : PySem.W.nsIn K mainGlobals "_law_mix" = some (some (.ref f17)))
    (l17 : K.lookup f17 = some ⟨oc17, od17, .func (PySem.W.fnOf "_law_mix" "_law_mix" (defArgs s_law_mix) (defBody s_law_mix) (defScope s_law_mix) .none kV17 dc17 pm17 an17 cd17 ct17), sl17⟩)
    (c17 : PySem.W.codeIn K cd17 "_law_mix" = true)
    (k17 : PySem.W.keepIn K (.ref f17) = true)
    (a18 : PySem.W.nsIn K mainGlobals "_law_purse" = some (some (.ref f18)))
    (l18 : K.lookup f18 = some ⟨oc18, od18, .func (PySem.W.fnOf "_law_purse" "_law_purse" (defArgs s_law_purse) (defBody s_law_purse) (defScope s_law_purse) .none kV18 dc18 pm18 an18 cd18 ct18), sl18⟩)
    (c18 : PySem.W.codeIn K cd18 "_law_purse" = true)
    (k18 : PySem.W.keepIn K (.ref f18) = true)
    (a19 : PySem.W.nsIn K mainGlobals "_law_waits" = some (some (.ref f19)))
    (l19 : K.lookup f19 = some ⟨oc19, od19, .func (PySem.W.fnOf "_law_waits" "_law_waits" (defArgs s_law_waits) (defBody s_law_waits) (defScope s_law_waits) .none kV19 dc19 pm19 an19 cd19 ct19), sl19⟩)
    (c19 : PySem.W.codeIn K cd19 "_law_waits" = true)
    (k19 : PySem.W.keepIn K (.ref f19) = true)
    (a20 : PySem.W.nsIn K mainGlobals "law" = some (some (.ref f20)))
    (l20 : K.lookup f20 = some ⟨oc20, od20, .func (PySem.W.fnOf "law" "law" (defArgs s_law) (defBody s_law) (defScope s_law) .none kV20 dc20 pm20 an20 cd20 ct20), sl20⟩)
    (c20 : PySem.W.codeIn K cd20 "law" = true)
    (k20 : PySem.W.keepIn K (.ref f20) = true)
    (pg_Calendar : PySem.W.plainGet K C_Calendar Str.empty = true)
    (hd_Calendar : PySem.W.hasDictIn K C_Calendar = true)
    (po_Calendar : PySem.W.plainOver K C_Calendar = true)
    (sa_Calendar : PySem.W.findIn K (.ref C_Calendar) "__setattr__" = some (some (.builtin "object.__setattr__")))
    (mk_Calendar : PySem.W.makesIn K C_Calendar = true)
    (kc_Calendar : PySem.W.keepIn K (.ref C_Calendar) = true)
    (na_Calendar_day_number : PySem.W.findIn K (.ref C_Calendar) "day_number" = some none)
    (na_Calendar_end_list : PySem.W.findIn K (.ref C_Calendar) "end_list" = some none)
    (na_Calendar_span_list : PySem.W.findIn K (.ref C_Calendar) "span_list" = some none)
    (pg_Endless : PySem.W.plainGet K C_Endless Str.empty = true)
    (hd_Endless : PySem.W.hasDictIn K C_Endless = true)
    (po_Endless : PySem.W.plainOver K C_Endless = true)
    (sa_Endless : PySem.W.findIn K (.ref C_Endless) "__setattr__" = some (some (.builtin "object.__setattr__")))
    (mk_Endless : PySem.W.makesIn K C_Endless = true)
    (kc_Endless : PySem.W.keepIn K (.ref C_Endless) = true)
    (na_Endless_calendar_list : PySem.W.findIn K (.ref C_Endless) "calendar_list" = some none)
    (na_Endless_coming_list : PySem.W.findIn K (.ref C_Endless) "coming_list" = some none)
    (na_Endless_day_number : PySem.W.findIn K (.ref C_Endless) "day_number" = some none)
    (z_abs : PySem.W.nsIn K mainGlobals "abs" = some none)
    (z_bool : PySem.W.nsIn K mainGlobals "bool" = some none)
    (z_divmod : PySem.W.nsIn K mainGlobals "divmod" = some none)
    (z_int : PySem.W.nsIn K mainGlobals "int" = some none)
    (z_isinstance : PySem.W.nsIn K mainGlobals "isinstance" = some none)
    (z_len : PySem.W.nsIn K mainGlobals "len" = some none)
    (z_list : PySem.W.nsIn K mainGlobals "list" = some none)
    (z_max : PySem.W.nsIn K mainGlobals "max" = some none)
    (z_min : PySem.W.nsIn K mainGlobals "min" = some none)
    (z_range : PySem.W.nsIn K mainGlobals "range" = some none)
    (z_sorted : PySem.W.nsIn K mainGlobals "sorted" = some none)
    (z_str : PySem.W.nsIn K mainGlobals "str" = some none)
    (z_sum : PySem.W.nsIn K mainGlobals "sum" = some none)
    (z_tuple : PySem.W.nsIn K mainGlobals "tuple" = some none)
    (aL_LIMITS : PySem.W.nsIn K mainGlobals "LIMITS" = some (some (.ref L_LIMITS)))
    (lL_LIMITS : K.lookup L_LIMITS = some ⟨.type "dict", none, .dict es_LIMITS n_LIMITS, #[]⟩)
    (kL_LIMITS : PySem.W.KeysLit w.params es_LIMITS.toList)
    (v_LIMITS_sights : PySem.W.nsIn K L_LIMITS "sights" = some (some (.int 8 t_LIMITS_sights)))
    (v_LIMITS_day : PySem.W.nsIn K L_LIMITS "day" = some (some (.int 30 t_LIMITS_day)))
    (v_LIMITS_cycle : PySem.W.nsIn K L_LIMITS "cycle" = some (some (.int 12 t_LIMITS_cycle)))
    (v_LIMITS_daily : PySem.W.nsIn K L_LIMITS "daily" = some (some (.int 9 t_LIMITS_daily)))
    (v_LIMITS_endless : PySem.W.nsIn K L_LIMITS "endless" = some (some (.int 400 t_LIMITS_endless)))
    : ∃ fd : FuncData, (∀ (s : Shared) (v : Value), BindsTo s fd ⟨[v], []⟩ [("script", v)]) ∧ ∀ base : Heap, K.In base → base.Ns mainGlobals mg → FnOk l.prog w K mg base CX0 13 fa fd ["script"] (spLaw K) := by
  have e := hfa.symm.trans (PySem.W.mg_of X G a20)
  cases e
  have gc_Calendar : GCl K mg "Calendar" C_Calendar := ⟨PySem.W.mg_of X G aC_Calendar, ⟨pg_Calendar, hd_Calendar, po_Calendar, sa_Calendar⟩⟩
  have gc_Endless : GCl K mg "Endless" C_Endless := ⟨PySem.W.mg_of X G aC_Endless, ⟨pg_Endless, hd_Endless, po_Endless, sa_Endless⟩⟩
  have y_abs := PySem.W.mg_none_of X G z_abs
  have y_bool := PySem.W.mg_none_of X G z_bool
  have y_divmod := PySem.W.mg_none_of X G z_divmod
  have y_int := PySem.W.mg_none_of X G z_int
  have y_isinstance := PySem.W.mg_none_of X G z_isinstance
  have y_len := PySem.W.mg_none_of X G z_len
  have y_list := PySem.W.mg_none_of X G z_list
  have y_max := PySem.W.mg_none_of X G z_max
  have y_min := PySem.W.mg_none_of X G z_min
  have y_range := PySem.W.mg_none_of X G z_range
  have y_sorted := PySem.W.mg_none_of X G z_sorted
  have y_str := PySem.W.mg_none_of X G z_str
  have y_sum := PySem.W.mg_none_of X G z_sum
  have y_tuple := PySem.W.mg_none_of X G z_tuple
  have T_LIMITS : KTab K w mg "LIMITS" L_LIMITS tab_LIMITS := ⟨PySem.W.mg_of X G aL_LIMITS, fun z i hz => tab_LIMITS_ok (Q := fun z i => KDct K w L_LIMITS z (.int i)) hz ⟨_, _, _, lL_LIMITS, kL_LIMITS, v_LIMITS_sights, ⟨_, rfl⟩⟩ ⟨_, _, _, lL_LIMITS, kL_LIMITS, v_LIMITS_day, ⟨_, rfl⟩⟩ ⟨_, _, _, lL_LIMITS, kL_LIMITS, v_LIMITS_cycle, ⟨_, rfl⟩⟩ ⟨_, _, _, lL_LIMITS, kL_LIMITS, v_LIMITS_daily, ⟨_, rfl⟩⟩ ⟨_, _, _, lL_LIMITS, kL_LIMITS, v_LIMITS_endless, ⟨_, rfl⟩⟩⟩
  have F0 := fun_mk (st := s_Calendar_next_end) l0 c0 k0
  have b0 := F0.binds (ps := ["self", "start"]) fun _ _ _ _ _ _ us hl => match us, hl with | [_, _], _ => rfl
  have F1 := fun_mk (st := s_Endless_coming_of) l1 c1 k1
  have b1 := F1.binds (ps := ["self", "sign"]) fun _ _ _ _ _ _ us hl => match us, hl with | [_, _], _ => rfl
  have F2 := fun_mk (st := s_Endless_next_row) l2 c2 k2
  have b2 := F2.binds (ps := ["self", "sign", "ahead"]) fun _ _ _ _ _ _ us hl => match us, hl with | [_, _, _], _ => rfl
  have F3 := fun_mk (st := s_check) l3 c3 k3
  have b3 := F3.binds (ps := ["what", "number"]) fun _ _ _ _ _ _ us hl => match us, hl with | [_, _], _ => rfl
  have F4 := fun_mk (st := s_Endless_times) l4 c4 k4
  have b4 := F4.binds (ps := ["self", "x"]) fun _ _ _ _ _ _ us hl => match us, hl with | [_, _], _ => rfl
  have F5 := fun_mk (st := s_Endless_waits) l5 c5 k5
  have b5 := F5.binds (ps := ["self", "x"]) fun _ _ _ _ _ _ us hl => match us, hl with | [_, _], _ => rfl
  have F6 := fun_mk (st := s_law_draw) l6 c6 k6
  have b6 := F6.binds (ps := ["purse", "many"]) fun _ _ _ _ _ _ us hl => match us, hl with | [_, _], _ => rfl
  have F7 := fun_mk (st := s_law_calendar_world) l7 c7 k7
  have b7 := F7.binds (ps := ["purse"]) fun _ _ _ _ _ _ us hl => match us, hl with | [_], _ => rfl
  have F8 := fun_mk (st := s_check_calendar) l8 c8 k8
  have b8 := F8.binds (ps := ["p", "spans"]) fun _ _ _ _ _ _ us hl => match us, hl with | [_, _], _ => rfl
  have F9 := fun_mk (st := s_distinct_spans) l9 c9 k9
  have b9 := F9.binds (ps := ["spans"]) fun _ _ _ _ _ _ us hl => match us, hl with | [_], _ => rfl
  have F10 := fun_mk (st := s_end_of_start) l10 c10 k10
  have b10 := F10.binds (ps := ["p", "spans", "start"]) fun _ _ _ _ _ _ us hl => match us, hl with | [_, _, _], _ => rfl
  have F11 := fun_mk (st := s_Calendar_init) l11 c11 k11
  have b11 := F11.binds (ps := ["self", "p", "spans"]) fun _ _ _ _ _ _ us hl => match us, hl with | [_, _, _], _ => rfl
  have F12 := fun_mk (st := s_Calendar_day) l12 c12 k12
  have b12 := F12.binds (ps := ["self"]) fun _ _ _ _ _ _ us hl => match us, hl with | [_], _ => rfl
  have F13 := fun_mk (st := s_check_endless) l13 c13 k13
  have b13 := F13.binds (ps := ["calendars", "comings"]) fun _ _ _ _ _ _ us hl => match us, hl with | [_, _], _ => rfl
  have F14 := fun_mk (st := s_Endless_init) l14 c14 k14
  have b14 := F14.binds (ps := ["self", "calendars", "comings"]) fun _ _ _ _ _ _ us hl => match us, hl with | [_, _, _], _ => rfl
  have F15 := fun_mk (st := s_law_endless) l15 c15 k15
  have b15 := F15.binds (ps := ["world", "windows"]) fun _ _ _ _ _ _ us hl => match us, hl with | [_, _], _ => rfl
  have F16 := fun_mk (st := s_law_matches) l16 c16 k16
  have b16 := F16.binds (ps := ["answer", "due"]) fun _ _ _ _ _ _ us hl => match us, hl with | [_, _], _ => rfl
  have F17 := fun_mk (st := s_law_mix) l17 c17 k17
  have b17 := F17.binds (ps := ["purse", "things"]) fun _ _ _ _ _ _ us hl => match us, hl with | [_, _], _ => rfl
  have F18 := fun_mk (st := s_law_purse) l18 c18 k18
  have b18 := F18.binds (ps := ["script", "at"]) fun _ _ _ _ _ _ us hl => match us, hl with | [_, _], _ => rfl
  have F19 := fun_mk (st := s_law_waits) l19 c19 k19
  have b19 := F19.binds (ps := ["world", "many"]) fun _ _ _ _ _ _ us hl => match us, hl with | [_, _], _ => rfl
  have F20 := fun_mk (st := s_law) l20 c20 k20
  have b20 := F20.binds (ps := ["script"]) fun _ _ _ _ _ _ us hl => match us, hl with | [_], _ => rfl
  refine ⟨PySem.W.fnOf "law" "law" (defArgs s_law) (defBody s_law) (defScope s_law) .none kV20 dc20 pm20 an20 cd20 ct20, fun s v => .of_eq rfl, fun base _ _ => ?_⟩
  have G_Calendar_next_end := w_Calendar_next_end (P := l.prog) (w := w) (base := base) y_divmod gc_Calendar na_Calendar_day_number na_Calendar_end_list F0 b0 ⟨a0, i0, k0⟩
  have G_Endless_coming_of := w_Endless_coming_of (P := l.prog) (w := w) (base := base) y_divmod y_len gc_Endless na_Endless_coming_list na_Endless_day_number F1 b1 ⟨a1, i1, k1⟩
  have G_Endless_next_row := w_Endless_next_row (P := l.prog) (w := w) (base := base) y_len y_max y_range gc_Calendar gc_Endless na_Endless_calendar_list G_Calendar_next_end G_Endless_coming_of F2 b2 ⟨a2, i2, k2⟩
  have G_check := w_check (P := l.prog) (w := w) (base := base) T_LIMITS F3 b3 (PySem.W.mg_of X G a3)
  have G_Endless_times := w_Endless_times (P := l.prog) (w := w) (base := base) y_range y_tuple gc_Endless G_Endless_next_row G_check F4 b4 ⟨a4, i4, k4⟩
  have G_Endless_waits := w_Endless_waits (P := l.prog) (w := w) (base := base) gc_Endless G_Endless_times F5 b5 ⟨a5, i5, k5⟩
  have G_law_draw := w_law_draw (P := l.prog) (w := w) (base := base) y_int F6 b6 (PySem.W.mg_of X G a6)
  have G_law_calendar_world := w_law_calendar_world (P := l.prog) (w := w) (base := base) y_min y_range y_sorted G_law_draw F7 b7 (PySem.W.mg_of X G a7)
  have G_check_calendar := w_check_calendar (P := l.prog) (w := w) (base := base) y_len G_check F8 b8 (PySem.W.mg_of X G a8)
  have G_distinct_spans := w_distinct_spans (P := l.prog) (w := w) (base := base) y_sorted F9 b9 (PySem.W.mg_of X G a9)
  have G_end_of_start := w_end_of_start (P := l.prog) (w := w) (base := base) y_min F10 b10 (PySem.W.mg_of X G a10)
  have G_Calendar_init := w_Calendar_init (P := l.prog) (w := w) (base := base) y_range gc_Calendar na_Calendar_day_number na_Calendar_end_list na_Calendar_span_list G_check_calendar G_distinct_spans G_end_of_start F11 b11 ⟨mk_Calendar, a11, i11, kc_Calendar⟩
  have G_Calendar_day := w_Calendar_day (P := l.prog) (w := w) (base := base) gc_Calendar na_Calendar_day_number F12 b12 ⟨a12, i12, k12⟩
  have G_check_endless := w_check_endless (P := l.prog) (w := w) (base := base) y_len gc_Calendar G_Calendar_day G_check F13 b13 (PySem.W.mg_of X G a13)
  have G_Endless_init := w_Endless_init (P := l.prog) (w := w) (base := base) y_list gc_Calendar gc_Endless na_Endless_calendar_list na_Endless_coming_list na_Endless_day_number G_Calendar_day G_check_endless F14 b14 ⟨mk_Endless, a14, i14, kc_Endless⟩
  have G_law_endless := w_law_endless (P := l.prog) (w := w) (base := base) y_list y_range gc_Calendar gc_Endless G_Calendar_init G_Endless_init F15 b15 (PySem.W.mg_of X G a15)
  have G_law_matches := w_law_matches (P := l.prog) (w := w) (base := base) y_bool y_int y_isinstance y_len y_list y_range y_str y_tuple F16 b16 (PySem.W.mg_of X G a16) 12
  have G_law_mix := w_law_mix (P := l.prog) (w := w) (base := base) y_len y_list y_range G_law_draw F17 b17 (PySem.W.mg_of X G a17)
  have G_law_purse := w_law_purse (P := l.prog) (w := w) (base := base) y_abs y_int y_len y_sum F18 b18 (PySem.W.mg_of X G a18)
  have G_law_waits := w_law_waits (P := l.prog) (w := w) (base := base) y_int y_len y_max y_range y_sum F19 b19 (PySem.W.mg_of X G a19)
  have H_law := w_law (P := l.prog) (w := w) (base := base) y_range gc_Endless G_Endless_waits G_law_calendar_world G_law_draw G_law_endless G_law_matches G_law_mix G_law_purse G_law_waits F20 b20
  exact DL.law_end H_law law_true
end
end k48
open PySem PySem.W PyProof.Rows
set_option maxRecDepth 100000 in
set_option maxHeartbeats 0 in
theorem PySem.Challenge.cw_clearonce_k48_whole_waits_of_endless_win_holds : PySem.Challenge.rw_clearonce_k48_whole_waits_of_endless_win.Holds := by
  w_on; o_law; k_head; (case hw => w_witness2)
  k_fill
  refine L2.walk_of (l := PySem.Challenge.rw_clearonce_k48_whole_waits_of_endless_win) (n := 63) (k := 13) (x := "script") (CX := fun _ => L2.CX0) (sp := fun w => DL.spLaw _) rfl (by decide) rfl ⟨rfl, by decide, by decide⟩ (fun w h Y => PySem.W.kIn_of Y) ?F (DL.law_sp) (fun _ _ _ _ _ h => h)
  case F =>
    intro w mg fa h KX G hmg
    refine' k48.all_mk KX G hmg ?aC_Calendar ?aC_Endless ?a0 ?i0 ?l0 ?c0 ?k0 ?a1 ?i1 ?l1 ?c1 ?k1 ?a2 ?i2 ?l2 ?c2 ?k2 ?a3 ?l3 ?c3 ?k3 ?a4 ?i4 ?l4 ?c4 ?k4 ?a5 ?i5 ?l5 ?c5 ?k5 ?a6 ?l6 ?c6 ?k6 ?a7 ?l7 ?c7 ?k7 ?a8 ?l8 ?c8 ?k8 ?a9 ?l9 ?c9 ?k9 ?a10 ?l10 ?c10 ?k10 ?a11 ?i11 ?l11 ?c11 ?k11 ?a12 ?i12 ?l12 ?c12 ?k12 ?a13 ?l13 ?c13 ?k13 ?a14 ?i14 ?l14 ?c14 ?k14 ?a15 ?l15 ?c15 ?k15 ?a16 ?l16 ?c16 ?k16 ?a17 ?l17 ?c17 ?k17 ?a18 ?l18 ?c18 ?k18 ?a19 ?l19 ?c19 ?k19 ?a20 ?l20 ?c20 ?k20 ?pg_Calendar ?hd_Calendar ?po_Calendar ?sa_Calendar ?mk_Calendar ?kc_Calendar ?na_Calendar_day_number ?na_Calendar_end_list ?na_Calendar_span_list ?pg_Endless ?hd_Endless ?po_Endless ?sa_Endless ?mk_Endless ?kc_Endless ?na_Endless_calendar_list ?na_Endless_coming_list ?na_Endless_day_number ?z_abs ?z_bool ?z_divmod ?z_int ?z_isinstance ?z_len ?z_list ?z_max ?z_min ?z_range ?z_sorted ?z_str ?z_sum ?z_tuple ?aL_LIMITS ?lL_LIMITS ?kL_LIMITS ?v_LIMITS_sights ?v_LIMITS_day ?v_LIMITS_cycle ?v_LIMITS_daily ?v_LIMITS_endless
    (case aC_Calendar => k_is)
    (case aC_Endless => k_is)
    (case a0 => k_is)
    (case i0 => k_is)
    (case l0 => k_is)
    (case c0 => k_is)
    (case k0 => k_is)
    (case a1 => k_is)
    (case i1 => k_is)
    (case l1 => k_is)
    (case c1 => k_is)
    (case k1 => k_is)
    (case a2 => k_is)
    (case i2 => k_is)
    (case l2 => k_is)
    (case c2 => k_is)
    (case k2 => k_is)
    (case a3 => k_is)
    (case l3 => k_is)
    (case c3 => k_is)
    (case k3 => k_is)
    (case a4 => k_is)
    (case i4 => k_is)
    (case l4 => k_is)
    (case c4 => k_is)
    (case k4 => k_is)
    (case a5 => k_is)
    (case i5 => k_is)
    (case l5 => k_is)
    (case c5 => k_is)
    (case k5 => k_is)
    (case a6 => k_is)
    (case l6 => k_is)
    (case c6 => k_is)
    (case k6 => k_is)
    (case a7 => k_is)
    (case l7 => k_is)
    (case c7 => k_is)
    (case k7 => k_is)
    (case a8 => k_is)
    (case l8 => k_is)
    (case c8 => k_is)
    (case k8 => k_is)
    (case a9 => k_is)
    (case l9 => k_is)
    (case c9 => k_is)
    (case k9 => k_is)
    (case a10 => k_is)
    (case l10 => k_is)
    (case c10 => k_is)
    (case k10 => k_is)
    (case a11 => k_is)
    (case i11 => k_is)
    (case l11 => k_is)
    (case c11 => k_is)
    (case k11 => k_is)
    (case a12 => k_is)
    (case i12 => k_is)
    (case l12 => k_is)
    (case c12 => k_is)
    (case k12 => k_is)
    (case a13 => k_is)
    (case l13 => k_is)
    (case c13 => k_is)
    (case k13 => k_is)
    (case a14 => k_is)
    (case i14 => k_is)
    (case l14 => k_is)
    (case c14 => k_is)
    (case k14 => k_is)
    (case a15 => k_is)
    (case l15 => k_is)
    (case c15 => k_is)
    (case k15 => k_is)
    (case a16 => k_is)
    (case l16 => k_is)
    (case c16 => k_is)
    (case k16 => k_is)
    (case a17 => k_is)
    (case l17 => k_is)
    (case c17 => k_is)
    (case k17 => k_is)
    (case a18 => k_is)
    (case l18 => k_is)
    (case c18 => k_is)
    (case k18 => k_is)
    (case a19 => k_is)
    (case l19 => k_is)
    (case c19 => k_is)
    (case k19 => k_is)
    (case a20 => k_is)
    (case l20 => k_is)
    (case c20 => k_is)
    (case k20 => k_is)
    (case pg_Calendar => k_is)
    (case hd_Calendar => k_is)
    (case po_Calendar => k_is)
    (case sa_Calendar => k_is)
    (case mk_Calendar => k_is)
    (case kc_Calendar => k_is)
    (case na_Calendar_day_number => k_is)
    (case na_Calendar_end_list => k_is)
    (case na_Calendar_span_list => k_is)
    (case pg_Endless => k_is)
    (case hd_Endless => k_is)
    (case po_Endless => k_is)
    (case sa_Endless => k_is)
    (case mk_Endless => k_is)
    (case kc_Endless => k_is)
    (case na_Endless_calendar_list => k_is)
    (case na_Endless_coming_list => k_is)
    (case na_Endless_day_number => k_is)
    (case z_abs => k_is)
    (case z_bool => k_is)
    (case z_divmod => k_is)
    (case z_int => k_is)
    (case z_isinstance => k_is)
    (case z_len => k_is)
    (case z_list => k_is)
    (case z_max => k_is)
    (case z_min => k_is)
    (case z_range => k_is)
    (case z_sorted => k_is)
    (case z_str => k_is)
    (case z_sum => k_is)
    (case z_tuple => k_is)
    (case aL_LIMITS => k_is)
    (case lL_LIMITS => k_is)
    (case kL_LIMITS => repeat (first | exact trivial | refine ⟨⟨_, _, rfl, rfl⟩, ?_⟩))
    (case v_LIMITS_sights => k_is)
    (case v_LIMITS_day => k_is)
    (case v_LIMITS_cycle => k_is)
    (case v_LIMITS_daily => k_is)
    (case v_LIMITS_endless => k_is)
